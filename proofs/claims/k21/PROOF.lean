import PyProof.Rows.All
import Wide.All
import OpenK.AllK
import Wide.FinOn
import HandS.ForMost
import HandS.ForExc
import HandS.Wide
import HandS.IsInst
import HandS.Flow
import HandS.Style
import HandS.Strs
import HandS.More
import HandS.TupAny
import HandS.SortInts
import HandS.Evl
import HandS.Zip
import HandS.NoneIn
import HandS.SetKeys
import HandS.DictComp
import HandS.Star
import HandS.Property
import HandS.Defaults
import HandS.Walk
import HandS.Deep
import HandS.DeepEq
import HandS.FStr
import HandS.RaiseMore
import PyProof.DictMoreH
import KE.GoesEnum
import KE.GoesMore
import HandS.OwnEq
import OpenK.KOps
import PyProof.DictUpdate
import PySem.Challenge.RW_nearloops_k21_loops_that_never_fit
set_option Elab.async false
set_option linter.all false
set_option maxRecDepth 100000
set_option maxHeartbeats 4000000
/-! own words and lemmas over the layer: heaps, tests, items -/
namespace NL
open PySem L2
section
variable {H H' : Hp} {a b p q : Addr} {o u : HO}
theorem upd_keep (h : H b = some u) (n : H a = none) : upd H a o b = some u := by
  rw [upd_ne (ne_of_none h n)]; exact h
theorem upd_skip (h : b ≠ a) (hb : H b = some u) : upd H a o b = some u := by
  rw [upd_ne h]; exact hb
theorem ne_new (h : H p = some o) (n : H q = none) : q ≠ p := (ne_of_none h n).symm
theorem same_new (n : H a = none) : Same H (upd H a o) := fun c x e => upd_keep e n
theorem upd_no (h : upd H p o q = none) : H q = none := by
  unfold upd at h; split at h
  · cases h
  · exact h
theorem upd_none_ne (h : upd H p o q = none) : q ≠ p := by
  intro e; subst e; rw [upd_same] at h; cases h
/-- all but p stands -/
def But (p : Addr) (H H' : Hp) : Prop := ∀ c x, c ≠ p → H c = some x → H' c = some x
theorem But.refl : But p H H := fun _ _ _ h => h
theorem But.trans {H1 H2 H3 : Hp} (x : But p H1 H2) (y : But p H2 H3) : But p H1 H3 := fun c z n h => y c z n (x c z n h)
theorem But.upd (x : But p H H') : But p H (upd H' p o) := fun c z n h => upd_skip n (x c z n h)
theorem But.new (x : But p H H') (n : H' a = none) : But p H (L2.upd H' a o) := fun c z m h => upd_keep (x c z m h) n
theorem But.of_same (x : Same H H') : But p H H' := fun c z _ h => x c z h
theorem But.at (x : But p H H') (n : a ≠ p) (h : H a = some o) : H' a = some o := x a o n h
theorem But.same (x : But p H H') (n : H p = none) : Same H H' := fun c z h => x c z (ne_of_none h n) h
end
theorem ifD {c A B : Prop} [Decidable c] (h1 : c → A) (h2 : ¬ c → B) : if decide c = true then A else B := by
  by_cases h : c
  · rw [if_pos (decide_eq_true h)]; exact h1 h
  · rw [if_neg (by rw [decide_eq_false h]; decide)]; exact h2 h
theorem ifN {c A B : Prop} [Decidable c] (h1 : ¬ c → A) (h2 : c → B) : if (!decide c) = true then A else B := by
  by_cases h : c
  · rw [if_neg (by rw [decide_eq_true h]; decide)]; exact h2 h
  · rw [if_pos (by rw [decide_eq_false h]; decide)]; exact h1 h
theorem ifB {A B : Prop} (b : Bool) (h1 : b = true → A) (h2 : b = false → B) : if b = true then A else B := by
  cases b with
  | true => rw [if_pos rfl]; exact h1 rfl
  | false => rw [if_neg (by decide)]; exact h2 rfl
theorem ifT {A B : Prop} {b : Bool} (hb : b = true) (h : A) : if b = true then A else B := by rw [if_pos hb]; exact h
theorem ifF {A B : Prop} {b : Bool} (hb : b = false) (h : B) : if b = true then A else B := by rw [if_neg (by rw [hb]; decide)]; exact h
theorem atI_mem {α : Type} {xs : List α} {i : Int} (h0 : 0 ≤ i) (h1 : i < (xs.length : Int)) : ∃ v, atI xs i = some v ∧ v ∈ xs := by
  have hl : i.toNat < xs.length := by omega
  refine ⟨xs[i.toNat], ?_, List.getElem_mem hl⟩
  have e : ((i.toNat : Nat) : Int) = i := Int.toNat_of_nonneg h0
  have := atI_nat (xs := xs) (j := i.toNat) (v := xs[i.toNat]) (List.getElem?_eq_getElem hl)
  rw [e] at this; exact this
theorem sz1000 {n : Nat} (h : n ≤ 1000) : n ≤ sizeLine := Nat.le_of_lt (small1000 h)
theorem sz100k {n : Nat} (h : n ≤ 100000) : n ≤ sizeLine := Nat.le_trans h (by decide)
theorem sz100k_lt {n : Nat} (h : n < 100000) : n < sizeLine := Nat.lt_of_lt_of_le h (by decide)
/-! comprehensions whose elements are values that do not hang on the heap -/
theorem wipe_set (σ : L2.St) (j : Nat) (x : Option V) : wipe ((wipe σ [j]).set j x) [j] = wipe σ [j] := by
  show (((σ.set j none).set j x).set j none) = σ.set j none
  rw [List.set_set, List.set_set]
theorem take_snoc {α : Type} : ∀ {l : List α} {i : Nat} {x : α}, l[i]? = some x → l.take (i + 1) = l.take i ++ [x]
  | [], i, x, h => by simp at h
  | a :: l, 0, x, h => by
    have e : a = x := Option.some.inj h
    subst e; rfl
  | a :: l, i + 1, x, h => by
    show a :: l.take (i + 1) = a :: l.take i ++ [x]
    rw [take_snoc (l := l) (i := i) h]; rfl
theorem filt_snoc {p : V → Bool} {f : V → V} {xs : List V} {i : Nat} {x : V} (h : xs[i]? = some x) :
    ((xs.take (i + 1)).filter p).map f = if p x = true then ((xs.take i).filter p).map f ++ [f x] else ((xs.take i).filter p).map f := by
  rw [take_snoc h, List.filter_append, List.map_append]
  by_cases hp : p x = true
  · rw [if_pos hp]; simp [List.filter, hp]
  · rw [if_neg hp]
    have hp : p x = false := by simpa using hp
    simp [List.filter, hp]
section
variable {K : PySem.W.Frag} {a : Addr} {xs : List V} {tt : TT} {te : TE} {j : Nat} {σ : L2.St} {H : Hp} {D : Addr} {Qd : Hp → Prop} {p : V → Bool} {f : V → V}
/-- one turn, whatever is walked -/
theorem lc_turn {x : V} {acc : List V} {H' : Hp} {N : Hp → Prop} (nD : H D = none) (sm : Same H H') (hD : H' D = some (.lst acc)) (hb : acc.length ≤ 10000)
    (ht : ∀ (k : Bool → Hp → Prop), (∀ H'', Same H' H'' → k (p x) H'') → tt ((wipe σ [j]).set j (some x)) H' k)
    (he : ∀ (H1 : Hp) (k : VK), Same H' H1 → p x = true → (∀ H'', Same H1 H'' → k (f x) H'') → te ((wipe σ [j]).set j (some x)) H1 k)
    (hN : ∀ H'', Same H H'' → H'' D = some (.lst (if p x = true then acc ++ [f x] else acc)) → N H'') :
    gName j x (wipe σ [j]) H' fun σ2 H2 => wipe σ2 [j] = wipe σ [j] ∧ tt σ2 H2 fun b H3 => if b = true then te σ2 H3 fun y H4 => ∃ acc, H4 D = some (.lst acc) ∧ acc.length < sizeLine ∧ N (upd H4 D (.lst (acc ++ [y]))) else N H3 := by
  refine ⟨wipe_set σ j (some x), ht _ fun H1 s1 => ?_⟩
  refine ifB _ (fun hp => ?_) (fun hp => ?_)
  · refine he H1 _ s1 hp fun H2 s2 => ?_
    refine ⟨acc, s2 _ _ (s1 _ _ hD), Nat.lt_of_le_of_lt hb (by decide), hN _ (fun c o e => ?_) ?_⟩
    · exact upd_skip (ne_of_none e nD) (s2 _ _ (s1 _ _ (sm _ _ e)))
    · rw [if_pos hp]; exact upd_same
  · refine hN _ (sm.trans s1) ?_
    rw [if_neg (by rw [hp]; decide)]; exact s1 _ _ hD
theorem filt_len (n : Nat) : (((xs.take n).filter p).map f).length ≤ xs.length := by
  rw [List.length_map]
  exact Nat.le_trans (List.length_filter_le _ _) (by rw [List.length_take]; omega)
theorem lcL_filt (nD : H D = none) (hl : SqL K H a xs) (hb : xs.length ≤ 10000)
    (ht : ∀ (i : Nat) (x : V) (H' : Hp) (k : Bool → Hp → Prop), xs[i]? = some x → Same H H' → (∀ H'', Same H' H'' → k (p x) H'') → tt ((wipe σ [j]).set j (some x)) H' k)
    (he : ∀ (i : Nat) (x : V) (H' : Hp) (k : VK), xs[i]? = some x → p x = true → Same H H' → (∀ H'', Same H' H'' → k (f x) H'') → te ((wipe σ [j]).set j (some x)) H' k)
    (hd : ∀ H', Same H H' → H' D = some (.lst ((xs.filter p).map f)) → Qd H') :
    ∃ W : Nat → Nat → Hp → Prop, (∃ m, W 0 m (upd H D (.lst []))) ∧ ∀ i m H, W i m H →
      ((Itl K a).stop i H ∧ Qd H) ∨ ((Itl K a).go i H ∧ ∃ Nx : Hp → Prop, (∀ H', Nx H' → ∃ m', m' < m ∧ W (i + 1) m' H') ∧ ∀ x H', (Itl K a).yld i H x H' → gName j x (wipe σ [j]) H' fun σ2 H2 => wipe σ2 [j] = wipe σ [j] ∧ tt σ2 H2 fun b H3 =>
        if b = true then te σ2 H3 fun y H4 => ∃ acc, H4 D = some (.lst acc) ∧ acc.length < sizeLine ∧ Nx (upd H4 D (.lst (acc ++ [y]))) else Nx H3) := by
  refine lc_list (K := K) (a := a) (xs := xs) (fun i H' => Same H H' ∧ H' D = some (.lst (((xs.take i).filter p).map f))) ⟨same_new nD, upd_same⟩ (fun i H' _ h => h.1.seq hl) ?_ ?_
  · rintro i x H' hx ⟨sm, hD⟩
    refine lc_turn nD sm hD (Nat.le_trans (filt_len i) hb) (fun k hk => ht i x H' k hx sm hk) (fun H1 k s1 hp hk => he i x H1 k hx hp (sm.trans s1) hk) fun H'' s2 e => ⟨s2, ?_⟩
    rw [filt_snoc hx]; exact e
  · rintro H' ⟨sm, hD⟩
    rw [List.take_length] at hD
    exact hd H' sm hD
theorem lcT_filt (nD : H D = none) (hl : SqT K H a xs) (hb : xs.length ≤ 10000)
    (ht : ∀ (i : Nat) (x : V) (H' : Hp) (k : Bool → Hp → Prop), xs[i]? = some x → Same H H' → (∀ H'', Same H' H'' → k (p x) H'') → tt ((wipe σ [j]).set j (some x)) H' k)
    (he : ∀ (i : Nat) (x : V) (H' : Hp) (k : VK), xs[i]? = some x → p x = true → Same H H' → (∀ H'', Same H' H'' → k (f x) H'') → te ((wipe σ [j]).set j (some x)) H' k)
    (hd : ∀ H', Same H H' → H' D = some (.lst ((xs.filter p).map f)) → Qd H') :
    ∃ W : Nat → Nat → Hp → Prop, (∃ m, W 0 m (upd H D (.lst []))) ∧ ∀ i m H, W i m H →
      ((Itt K a).stop i H ∧ Qd H) ∨ ((Itt K a).go i H ∧ ∃ Nx : Hp → Prop, (∀ H', Nx H' → ∃ m', m' < m ∧ W (i + 1) m' H') ∧ ∀ x H', (Itt K a).yld i H x H' → gName j x (wipe σ [j]) H' fun σ2 H2 => wipe σ2 [j] = wipe σ [j] ∧ tt σ2 H2 fun b H3 =>
        if b = true then te σ2 H3 fun y H4 => ∃ acc, H4 D = some (.lst acc) ∧ acc.length < sizeLine ∧ Nx (upd H4 D (.lst (acc ++ [y]))) else Nx H3) := by
  have sq : ∀ {H' : Hp}, Same H H' → SqT K H' a xs := fun {H'} sm => by
    rcases hl with (h | ⟨o, h⟩) | h
    · exact .inl (.inl (sm _ _ h))
    · exact .inl (.inr ⟨o, sm _ _ h⟩)
    · exact .inr h
  refine lc_tup (K := K) (a := a) (xs := xs) (fun i H' => Same H H' ∧ H' D = some (.lst (((xs.take i).filter p).map f))) ⟨same_new nD, upd_same⟩ (fun i H' _ h => sq h.1) ?_ ?_
  · rintro i x H' hx ⟨sm, hD⟩
    refine lc_turn nD sm hD (Nat.le_trans (filt_len i) hb) (fun k hk => ht i x H' k hx sm hk) (fun H1 k s1 hp hk => he i x H1 k hx hp (sm.trans s1) hk) fun H'' s2 e => ⟨s2, ?_⟩
    rw [filt_snoc hx]; exact e
  · rintro H' ⟨sm, hD⟩
    rw [List.take_length] at hD
    exact hd H' sm hD
theorem filt_all {xs : List V} {f : V → V} : (xs.filter fun _ => true).map f = xs.map f := by rw [List.filter_eq_self.mpr (fun _ _ => rfl)]
end
theorem SqT_same {K : PySem.W.Frag} {H H' : Hp} {a : Addr} {xs : List V} (sm : Same H H') (hl : SqT K H a xs) : SqT K H' a xs := by
  rcases hl with (h | ⟨o, h⟩) | h
  · exact .inl (.inl (sm _ _ h))
  · exact .inl (.inr ⟨o, sm _ _ h⟩)
  · exact .inr h
/-! data -/
theorem dpAll_str {K : PySem.W.Frag} {H : Hp} : ∀ zs : List Str, DpAll K H (zs.map V.str) (zs.map PyData.str)
  | [] => .nil
  | z :: zs => .cons (.str z) (dpAll_str zs)
theorem dpAll_int {K : PySem.W.Frag} {H : Hp} : ∀ zs : List Int, DpAll K H (zs.map V.int) (zs.map PyData.int)
  | [] => .nil
  | z :: zs => .cons (.int z) (dpAll_int zs)
theorem canLay_strs : ∀ {zs : List Str}, (∀ z ∈ zs, PyData.strOk z = true) → PyData.canLayAll0 (zs.map PyData.str) = true
  | [], _ => rfl
  | z :: zs, h => by
    show (PyData.strOk z && PyData.canLayAll0 (zs.map PyData.str)) = true
    rw [h z List.mem_cons_self, canLay_strs fun y hy => h y (List.mem_cons_of_mem _ hy)]; rfl
theorem depth_strs : ∀ zs : List Str, PyData.depthAll (zs.map PyData.str) = 0
  | [] => rfl
  | z :: zs => by
    show max 0 (PyData.depthAll (zs.map PyData.str)) = 0
    rw [depth_strs zs]; rfl
theorem shaped_of {d : PyData} (h : d.canLay0 = true) (h2 : d.depth ≤ 64) : SeqAt.shaped d = true := by
  unfold SeqAt.shaped; rw [h, decide_eq_true h2]; rfl
theorem shapedL_strs {zs : List Str} (h : ∀ z ∈ zs, PyData.strOk z = true) : SeqAt.shaped (.list (zs.map .str)) = true :=
  shaped_of (canLay_strs h) (by show PyData.depthAll (zs.map PyData.str) + 1 ≤ 64; rw [depth_strs]; decide)
theorem shapedT_strs {zs : List Str} (h : ∀ z ∈ zs, PyData.strOk z = true) : SeqAt.shaped (.tuple (zs.map .str)) = true :=
  shaped_of (canLay_strs h) (by show PyData.depthAll (zs.map PyData.str) + 1 ≤ 64; rw [depth_strs]; decide)
theorem eqv_same {d : PyData} (h : SeqAt.shaped d = true) : PyData.eqv d d = true := SeqAt.eqv_refl d (SeqAt.canLay_of_shaped h)
theorem flats_str (zs : List Str) : (zs.map V.str).all flatV = true := by
  rw [List.all_eq_true]; intro x hx
  obtain ⟨z, _, rfl⟩ := List.mem_map.mp hx; rfl
theorem inV_strs (z : Str) : ∀ zs : List Str, inV (.str z) (zs.map V.str) = decide (z ∈ zs)
  | [] => by simp [inV]
  | y :: zs => by
    show (eqV (.str y) (.str z) || inV (.str z) (zs.map V.str)) = _
    rw [inV_strs z zs]
    have e : eqV (.str y) (.str z) = decide (y = z) := by
      show (y == z) = _
      by_cases h : y = z
      · subst h; simp
      · simp [h]
    rw [e]
    by_cases h : y = z
    · subst h; simp
    · have h2 : ¬ z = y := fun q => h q.symm
      simp [h, h2]
/-! a dict of the module with texts as keys -/
/-- the entries of a written dict, one by one -/
def KPairs (P : Params) : List (Str × V) → List DictEntry → Prop
  | [], [] => True
  | (x, v) :: r, e :: es => (∃ t, e.key = .str x t) ∧ e.hash = PyData.keyHash P x ∧ RelV v e.val ∧ KPairs P r es
  | _, _ => False
theorem KPairs.keys {P : Params} : ∀ {tab : List (Str × V)} {es : List DictEntry}, KPairs P tab es → PySem.W.KeysLit P es
  | [], [], _ => True.intro
  | (x, v) :: r, e :: es, ⟨⟨t, h1⟩, h2, _, h4⟩ => ⟨⟨x, t, h1, h2⟩, KPairs.keys h4⟩
theorem KPairs.find {P : Params} {z : Str} : ∀ {tab : List (Str × V)} {es : List DictEntry}, KPairs P tab es → RelO (tab.lookup z) ((es.find? fun d => Value.isStrOf z d.key).map (·.val))
  | [], [], _ => True.intro
  | (x, v) :: r, e :: es, ⟨⟨t, h1⟩, h2, h3, h4⟩ => by
    rw [List.lookup_cons, List.find?_cons, h1]
    by_cases hz : z = x
    · subst hz
      have e1 : (z == z) = true := by simp
      have e2 : Value.isStrOf z (.str z t) = true := by simp [Value.isStrOf]
      rw [e1, e2]; exact h3
    · have e1 : (z == x) = false := by simpa using hz
      have e2 : Value.isStrOf z (.str x t) = false := by simp [Value.isStrOf, hz]; intro q; exact hz q.symm
      rw [e1, e2]; exact KPairs.find h4
def KDt (w : World) (K : PySem.W.Frag) (a : Addr) (tab : List (Str × V)) : Prop :=
  ∃ es n, K.lookup a = some ⟨.type "dict", none, .dict es n, #[]⟩ ∧ (a == sysModules) = false ∧ KPairs w.params tab es.toList
theorem find_arr {es : Array DictEntry} {z : Str} : PySem.findBy Value.isStrOf es z = (es.toList.find? fun d => Value.isStrOf z d.key).map (·.val) := by
  obtain ⟨l⟩ := es
  unfold PySem.findBy
  rw [List.find?_toArray] <;> rfl
def rInKD (w : World) (K : PySem.W.Frag) : R2 := fun x y H Q => ∃ p z tab, x = .str z ∧ y = .ref p ∧ KDt w K p tab ∧ Q (.bl (tab.lookup z).isSome) H
def rIxKD (w : World) (K : PySem.W.Frag) : R2 := fun x y H Q => ∃ p z tab v, x = .ref p ∧ y = .str z ∧ KDt w K p tab ∧ tab.lookup z = some v ∧ Q v H
theorem op_inKD {X : Cx} : OpR X (compareOp .In) (rInKD X.w X.K) := by
  intro pins s σ H x y v u Q I rx ry h
  obtain ⟨p, z, tab, rfl, rfl, ⟨es, n, hl, lo, kp⟩, q⟩ := h
  obtain ⟨t, rfl⟩ := rx
  obtain rfl : u = Value.ref p := ry
  have hm := PySem.W.mapOf_K (prog := X.prog) (w := X.w) I.kIn hl kp.keys
  refine wpAny_in_of (PySem.strKind_is X.prog X.w z t) lo hm ?_
  have e := kp.find (z := z)
  rw [← find_arr] at e
  refine ⟨.bl (tab.lookup z).isSome, H, I.tok _, ?_, q⟩
  show Value.bool _ = Value.bool _
  generalize PySem.findBy Value.isStrOf es z = o1 at e
  generalize tab.lookup z = o2 at e
  cases o1 <;> cases o2 <;> first | rfl | exact e.elim
theorem ix_KD {X : Cx} : IxR X (rIxKD X.w X.K) := by
  intro value slice pins s σ H x y v u Q I rx ry h hs
  obtain ⟨p, z, tab, r, rfl, rfl, ⟨es, n, hl, lo, kp⟩, hr, q⟩ := h
  obtain rfl : v = Value.ref p := rx
  obtain ⟨t, rfl⟩ := ry
  have hm := PySem.W.mapOf_K (prog := X.prog) (w := X.w) I.kIn hl kp.keys
  have e := kp.find (z := z)
  rw [← find_arr, hr] at e
  cases o1 : PySem.findBy Value.isStrOf es z with
  | none => rw [o1] at e; exact e.elim
  | some u0 =>
    rw [o1] at e
    exact PyProof.Rows.tail_any hm.typeIs slot_dict_getitem.lookup (wpAny_getItem_of (PySem.strKind_is X.prog X.w z t) hm o1 ⟨r, H, I.tok _, e, q⟩) hs
theorem dl0 (more : List (Key × V)) (h : more.length ≤ 50) : (mergeK [] more).length ≤ 50 := by
  have := length_mergeK more []
  simp only [List.length_nil] at this; omega
theorem dl1 {kvs : List (Key × V)} {k : Key} {v : V} {n : Nat} (h : kvs.length ≤ n) : (putK kvs k v).length ≤ n + 1 := Nat.le_trans (length_putK _ _ _) (Nat.succ_le_succ h)
/-! the source -/
/-- at p stands a source that has been drawn from c times -/
def Src (H : Hp) (p : Addr) (c : Int) : Prop := ∃ g s : Int, H p = some (.lst [.int g, .int s, .int c]) ∧ 0 ≤ s ∧ s < 2147483647 ∧ 0 ≤ c
section
variable {H H' : Hp} {p q : Addr} {c : Int} {o : HO}
theorem Src.nn (h : Src H p c) : 0 ≤ c := by obtain ⟨_, _, _, _, _, h⟩ := h; exact h
theorem Src.ne (h : Src H p c) (n : H q = none) : q ≠ p := by obtain ⟨_, _, e, _⟩ := h; exact ne_new e n
theorem Src.keep (h : Src H p c) (n : H q = none) : Src (L2.upd H q o) p c := by
  obtain ⟨g, s, e, r⟩ := h; exact ⟨g, s, upd_keep e n, r⟩
theorem Src.skip (h : Src H p c) (n : p ≠ q) : Src (L2.upd H q o) p c := by
  obtain ⟨g, s, e, r⟩ := h; exact ⟨g, s, upd_skip n e, r⟩
theorem Src.same (h : Src H p c) (s : Same H H') : Src H' p c := by
  obtain ⟨g, z, e, r⟩ := h; exact ⟨g, z, s _ _ e, r⟩
end
/-! places -/
def signS (i j : Int) : Str := if i = j then "=" else if i < j then "<" else ">"
def placeOfS (d : Int) (z : Str) : Str := if d < -1 then "below" else if 1 < d then "above" else (if d = -1 then "-" else if d = 1 then "+" else "") ++ z
def placeS (x k e : Int) : Str := placeOfS (x / e - k / e) (signS (x % e) (k % e))
theorem signS_len (i j : Int) : (signS i j).length ≤ 1000 := by
  unfold signS; split
  · decide
  · split <;> decide
end NL
namespace NL
open PySem L2
/-! ### an expression's value, told by a word of one's own -/
def tCutE (t : TE) : TE := fun σ H Q => ∃ M : V → Hp → Prop, t σ H M ∧ ∀ v H', M v H' → Q v H'
theorem pe_cut {X : Cx} {e : Expr} {t : TE} (h : PE X e t) : PE X e (tCutE t) := by
  refine ⟨fun pins s σ H Q I hw => ?_⟩
  obtain ⟨M, hM, hQ⟩ := hw
  exact thn (h.run pins s σ H M I hM) fun v s1 ⟨x, H1, I1, r, q⟩ => ⟨x, H1, I1, r, hQ x H1 q⟩
/-! ### a list or a tuple -/
def Sq (K : PySem.W.Frag) (H : Hp) (a : Addr) (xs : List V) : Prop := SqL K H a xs ∨ SqT K H a xs
section
variable {K : PySem.W.Frag} {H H' : Hp} {a b : Addr} {xs : List V}
theorem Sq.same (s : Same H H') (h : Sq K H a xs) : Sq K H' a xs := by
  rcases h with h | h
  · exact .inl (s.seq h)
  · exact .inr (SqT_same s h)
theorem Sq.lst (h : H a = some (.lst xs)) : Sq K H a xs := .inl (SqL.of h)
theorem Sq.tup (h : H a = some (.tup xs)) : Sq K H a xs := .inr (SqT.of h)
/-- its type is list or tuple -/
theorem SqL.tyx (h : SqL K H a xs) : TyX K H (.ref a) (.type "list") := by
  rcases h with (h | ⟨o, h⟩) | ⟨o, its, n, h1, h2, _⟩
  · exact .base (.lst h)
  · exact .base (.frz h)
  · exact .kList h1 h2
theorem SqT.tyx (h : SqT K H a xs) : TyX K H (.ref a) (.type "tuple") := by
  rcases h with (h | ⟨o, h⟩) | ⟨o, its, n, h1, h2, _⟩
  · exact .base (.tup h)
  · exact .fTuple h
  · exact .kTuple h1 h2
theorem Sq.len (h : Sq K H a xs) : LenV K (.ref a) H xs.length := by
  rcases h with h | h
  · exact .inl ⟨xs, h, rfl⟩
  · exact .inr ⟨xs, h, rfl⟩
/-- isinstance(x, (list, tuple)): true -/
theorem isLT (h : Sq K H a xs) : ∃ t us, Paired ClsV [.ty "list", .ty "tuple"] us ∧ TyX K H (.ref a) t ∧ PySem.W.kitAny K t us = some true := by
  rcases h with h | h
  · exact ⟨_, [.type "list", .type "tuple"], .cons (.ty _) (.cons (.ty _) .nil), SqL.tyx h, kitAny_cons (b := true) (kit_ty (by decide +kernel)) (fun z => nomatch z) (fun _ => rfl)⟩
  · exact ⟨_, [.type "list", .type "tuple"], .cons (.ty _) (.cons (.ty _) .nil), SqT.tyx h, kitAny_cons (b := false) (kit_ty (by decide +kernel)) (fun _ => kitAny_cons (b := true) (kit_ty (by decide +kernel)) (fun z => nomatch z) (fun _ => rfl)) (fun z => nomatch z)⟩
theorem rIx_seq (h : Sq K H a xs) {i : Int} {v : V} (hv : atI xs i = some v) {Q : VK} (q : Q v H) : rIx K (.ref a) (.int i) H Q := by
  rcases h with h | h
  · exact .inl ⟨_, _, _, _, rfl, rfl, h, hv, q⟩
  · exact .inr (.inl ⟨_, _, _, _, rfl, rfl, h, hv, q⟩)
end
/-- a list or a tuple of xs, locked or not -/
def isSeqO (xs : List V) (o : HO) : Prop := o = .lst xs ∨ o = .tup xs ∨ ∃ ob, o = .frz ob (.lst xs) ∨ o = .frz ob (.tup xs)
theorem seqL_at {K : PySem.W.Frag} {H H' : Hp} {a : Addr} {xs : List V} (e : ∀ o, H a = some o → isSeqO xs o → H' a = some o) (h : SqL K H a xs) : SqL K H' a xs := by
  rcases h with (h | ⟨o, h⟩) | h
  · exact .inl (.inl (e _ h (.inl rfl)))
  · exact .inl (.inr ⟨o, e _ h (.inr (.inr ⟨o, .inl rfl⟩))⟩)
  · exact .inr h
theorem seqT_at {K : PySem.W.Frag} {H H' : Hp} {a : Addr} {xs : List V} (e : ∀ o, H a = some o → isSeqO xs o → H' a = some o) (h : SqT K H a xs) : SqT K H' a xs := by
  rcases h with (h | ⟨o, h⟩) | h
  · exact .inl (.inl (e _ h (.inr (.inl rfl))))
  · exact .inl (.inr ⟨o, e _ h (.inr (.inr ⟨o, .inr rfl⟩))⟩)
  · exact .inr h
theorem isSeqO_dK {xs : List V} {kvs : List (Key × V)} (h : isSeqO xs (.dK kvs)) : False := by
  rcases h with h | h | ⟨o, h | h⟩ <;> cases h
theorem isSeqO_dT {xs : List V} {kvs : List (List Key × V)} (h : isSeqO xs (.dT kvs)) : False := by
  rcases h with h | h | ⟨o, h | h⟩ <;> cases h
/-! ### rules that take either -/
section
variable {X : Cx}
theorem PG.or {tg : Expr} {t u : TG} (h1 : PG X tg t) (h2 : PG X tg u) : PG X tg (fun v σ H Q => t v σ H Q ∨ u v σ H Q) := by
  refine ⟨fun pins s σ H v w Q I r hw => ?_⟩
  rcases hw with hw | hw
  · exact h1.run pins s σ H v w Q I r hw
  · exact h2.run pins s σ H v w Q I r hw
def gSeq (K : PySem.W.Frag) (n : Nat) (t : TGs) : TG := fun v σ H Q => ∃ a xs, v = .ref a ∧ Sq K H a xs ∧ xs.length = n ∧ t xs σ H Q
/-- a, b, .. = a list or a tuple -/
theorem pg_seq {es : List Expr} {k : Nat} {t : TGs} {n : Nat} {pos : Pos} (hc : X.calm = true) (h : PGs X es t)
    (hn : (assignEach es X.env).length = n := by rfl) (hst : (assignEach es X.env).findIdx? (·.1) = none := by rfl) : PG X (.Tuple es k pos) (gSeq X.K n t) := by
  have h1 := pg_tup (k := k) (pos := pos) hc h hn hst
  have h2 := pg_unl (k := k) (pos := pos) hc h hn hst
  refine ⟨fun pins s σ H v u Q I r hw => ?_⟩
  obtain ⟨a, xs, rfl, hq, hl, hw⟩ := hw
  rcases hq with hq | hq
  · exact h2.run pins s σ H _ u Q I r ⟨a, xs, rfl, hq, hl, hw⟩
  · exact h1.run pins s σ H _ u Q I r ⟨a, xs, rfl, hq, hl, hw⟩
/-- what a for or a comprehension over a list or a tuple asks: said for any walk over its items while what stands stands -/
def iSeq (K : PySem.W.Frag) (tl : TE) : TI := fun σ H R => tl σ H fun x H1 => ∃ a xs, x = .ref a ∧ Sq K H1 a xs ∧ ∀ J, Walk J xs.length (fun H => ∀ o, H1 a = some o → isSeqO xs o → H a = some o) (YAt xs) → R J H1
theorem pi_seq {tg l : Expr} {tl : TE} (hl : PE X l tl) : PI X tg l (iSeq X.K tl) := by
  refine ⟨fun pins s σ H R I h => ?_⟩
  refine thn (hl.run pins s σ H _ I h) fun v s1 ⟨x, H1, I1, r1, q1⟩ => ?_
  obtain ⟨a, xs, e, hq, q⟩ := q1
  subst e
  cases r1
  rcases hq with hq | hq
  · obtain ⟨its, rv, p, hz⟩ := I1.list hq
    refine wpAny_pyIter_list p.isList ?_
    refine ⟨s1.heap.objs.size, [s1.heap.objs.size], _, _, H1, rfl, I1.kept (t' := s1.toks) fun b o e => Heap.get?_push_of_some _ e, turn_list a _, ⟨_, Heap.get?_push_size _ rfl, rfl, rfl⟩, fun b hb => ?_, q _ (walk_list.mono (fun H2 sm => seqL_at sm hq) fun _ _ _ _ _ _ y => y)⟩
    have e : b = s1.heap.objs.size := by simpa using hb
    subst e
    exact I1.fpOk (Nat.le_refl _) (I1.hok.fresh (Nat.le_refl _))
  · obtain ⟨its, rv, p, hz⟩ := I1.tuple hq
    refine wpAny_pyIter_tuple (show s1.heap.IsTuple a its.toArray from p) ?_
    refine ⟨s1.heap.objs.size, [s1.heap.objs.size], _, _, H1, rfl, I1.kept (t' := s1.toks) fun b o e => Heap.get?_push_of_some _ e, turn_tuple a _, ⟨_, Heap.get?_push_size _ rfl, rfl, rfl⟩, fun b hb => ?_, q _ (walk_tup.mono (fun H2 sm => seqT_at sm hq) fun _ _ _ _ _ _ y => y)⟩
    have e : b = s1.heap.objs.size := by simpa using hb
    subst e
    exact I1.fpOk (Nat.le_refl _) (I1.hok.fresh (Nat.le_refl _))
end
/-- the signs of a text as texts -/
def signsV (z : Str) : List V := z.cps.toList.map fun c => V.str ⟨#[c]⟩
theorem walk_signs {z : Str} {G : Hp → Prop} : Walk (Its z) (signsV z).length G (YAt (signsV z)) := by
  have el : (signsV z).length = z.cps.size := by unfold signsV; simp
  rw [el]
  refine (walk_str (z := z)).mono (fun _ _ => True.intro) fun i H x H' hi _ h => ?_
  obtain ⟨e, c, hc, hx⟩ := h
  refine ⟨e, ?_⟩
  unfold signsV
  rw [List.getElem?_map]
  have : z.cps.toList[i]? = some c := by simpa using hc
  rw [this, hx]; rfl
/-- a comprehension whose elements are values: over any walk of xs -/
theorem lcW_filt {J : It} {xs : List V} {tt : TT} {te : TE} {j : Nat} {σ : L2.St} {H : Hp} {D : Addr} {Qd : Hp → Prop} {p : V → Bool} {f : V → V}
    {G : Hp → Prop} (w : Walk J xs.length G (YAt xs)) (hG : ∀ H', Same H H' → G H') (nD : H D = none) (hb : xs.length ≤ 10000)
    (ht : ∀ (i : Nat) (x : V) (H' : Hp) (k : Bool → Hp → Prop), xs[i]? = some x → Same H H' → (∀ H'', Same H' H'' → k (p x) H'') → tt ((wipe σ [j]).set j (some x)) H' k)
    (he : ∀ (i : Nat) (x : V) (H' : Hp) (k : VK), xs[i]? = some x → p x = true → Same H H' → (∀ H'', Same H' H'' → k (f x) H'') → te ((wipe σ [j]).set j (some x)) H' k)
    (hd : ∀ H', Same H H' → H' D = some (.lst ((xs.filter p).map f)) → Qd H') :
    ∃ W : Nat → Nat → Hp → Prop, (∃ m, W 0 m (upd H D (.lst []))) ∧ ∀ i m H, W i m H →
      (J.stop i H ∧ Qd H) ∨ (J.go i H ∧ ∃ Nx : Hp → Prop, (∀ H', Nx H' → ∃ m', m' < m ∧ W (i + 1) m' H') ∧ ∀ x H', J.yld i H x H' → gName j x (wipe σ [j]) H' fun σ2 H2 => wipe σ2 [j] = wipe σ [j] ∧ tt σ2 H2 fun b H3 =>
        if b = true then te σ2 H3 fun y H4 => ∃ acc, H4 D = some (.lst acc) ∧ acc.length < sizeLine ∧ Nx (upd H4 D (.lst (acc ++ [y]))) else Nx H3) := by
  refine lc_it w (fun i H' => Same H H' ∧ H' D = some (.lst (((xs.take i).filter p).map f))) ⟨same_new nD, upd_same⟩ (fun i H' _ h => hG H' h.1) ?_ ?_
  · rintro i x H' H'' hi ⟨sm, hD⟩ ⟨rfl, hx⟩
    refine lc_turn nD sm hD (Nat.le_trans (filt_len i) hb) (fun k hk => ht i x _ k hx sm hk) (fun H1 k s1 hp hk => he i x H1 k hx hp (sm.trans s1) hk) fun H3 s2 e => ⟨s2, ?_⟩
    rw [filt_snoc hx]; exact e
  · rintro H' ⟨sm, hD⟩
    rw [List.take_length] at hD
    exact hd H' sm hD
/-! ### d.setdefault((a, b), v): keys that are tuples -/
section
variable {X : Cx} {pins : List (Addr × Obj)} {σ : L2.St} {H : Hp} {s : Shared} {a b : Addr} {r : Value} {d : V} {k : List Key} {A : Around} {E : Value → Shared → Prop}
theorem d_setdT {kvs : List (List Key × V)} {Q : Value → Shared → Prop} (hu : A.units + 1 < cLine) (I : Inv X pins σ H s) (e : H a = some (.dT kvs)) (eb : H b = some (.tup (k.map kV))) (rd : RelV d r) (hl : kvs.length < sizeLine)
    (h1 : ∀ v, valV kvs k = some v → ∀ (w' : Value) (s' : Shared), Inv X pins σ H s' → RelV v w' → Q w' s') (h2 : valV kvs k = none → ∀ (w' : Value) (s' : Shared), Inv X pins σ (upd H a (.dT (putK kvs k d))) s' → RelV d w' → Q w' s') :
    wpAny (model X.prog X.w) A (call (.builtin "dict.setdefault") [.ref a, .ref b, r]) Q E s := by
  obtain ⟨z, hd, xs, rel, dd⟩ := dt_of I.hok e
  have hz : xs.length ≤ sizeLine := by rw [← Paired.length rel]; exact z
  have q := rel.val k
  refine call_setdefault_heap (hsz := hz) (tupleKind_room_in1 hu) (key_of I.hok eb) hd dd (fun p hp => ?_) (fun hn h' dd' hs => ?_)
  · rw [hp] at q
    cases q0 : valV kvs k with
    | none => rw [q0] at q; exact (show False from q).elim
    | some v0 => rw [q0] at q; exact h1 v0 q0 _ _ (I.tok _) q
  · rw [hn] at q
    cases q0 : valV kvs k with
    | some v0 => rw [q0] at q; exact (show False from q).elim
    | none =>
      have hl2 : (putK kvs k d).length ≤ sizeLine := by have := length_putK kvs k d; omega
      obtain ⟨o, es, ep, hq, h2', h3, h4, _, h5⟩ := dd'
      refine h2 q0 _ _ (d_write (t' := _) I (by rw [e]; exact True.intro) hs ⟨o, hq⟩ ⟨hl2, hd, _, (rel.put k eb rd).keeps fun c ys ec => ?_, o, es, ep, hq, h2', h3, h4, h5⟩) rd
      rw [upd_ne (ne_of ec e (fun z => nomatch z))]
      exact ec
end
def tDSetdT (td ty tx : TE) : TE := fun σ H Q => td σ H fun x H1 => ∃ a, x = .ref a ∧ IsD H1 a ∧ ty σ H1 fun y H2 => tx σ H2 fun z H3 => ∃ (kvs : List (List Key × V)) (k : List Key) (b : Addr), H3 a = some (.dT kvs) ∧ y = .ref b ∧ H3 b = some (.tup (k.map kV)) ∧ kvs.length < sizeLine ∧
  (∀ v, valV kvs k = some v → Q v H3) ∧ (valV kvs k = none → Q z (upd H3 a (.dT (putK kvs k z))))
section
variable {X : Cx} {o e f : Expr} {td ty tx : TE} {apos cpos : Pos}
theorem pe_dsetdT (hu : X.A.units + 1 < cLine) (ho : PE X o td) (he : PE X e ty) (hf : PE X f tx) (m : M2 X o "setdefault" apos e f cpos) : PE X (.Call (.Attribute o "setdefault" apos) [e, f] [] cpos) (tDSetdT td ty tx) := by
  refine ⟨fun pins s σ H Q I h => ?_⟩
  refine wpAny_Call_method m.base m.few m.line PySem.F.plainAttrs_dict PySem.F.slot_dict_setdefault PySem.F.type_dict_setdefault (thn (ho.run pins s σ H _ I h) fun u s1 ⟨x, H1, I1, rx, a, ex, d, q1⟩ => ?_)
  subst ex
  obtain rfl : u = Value.ref a := rx
  obtain ⟨t1, t2, _⟩ := isD_at I1 d
  refine ⟨t1, t2, ?_⟩
  rw [m.trees]
  refine Calls.callWith_builtin rfl (Calls.evalArgs_plain (Calls.spliced_cons (thn (he.run pins s1 σ H1 _ I1 q1) fun iv s2 ⟨y, H2, I2, ry, q2⟩ =>
    Calls.spliced_cons (thn (hf.run pins s2 σ H2 _ I2 q2) fun fv s3 ⟨z, H3, I3, rz, kvs, k, b, ea, ey, eb, hl, q3, q4⟩ => Calls.spliced_nil ?_))))
  subst ey
  obtain rfl : iv = Value.ref b := ry
  exact d_setdT hu I3 ea eb rz hl (fun v hv w' s4 I4 rw' => ⟨v, _, I4, rw', q3 v hv⟩) fun hn w' s4 I4 rw' => ⟨z, _, I4, rw', q4 hn⟩
end
/-! ### what stands beside the source -/
def hide (H : Hp) (p : Addr) : Hp := fun c => if c = p then none else H c
section
variable {H H' : Hp} {p q : Addr} {o : HO}
theorem hide_at (h : q ≠ p) : hide H p q = H q := if_neg h
theorem hide_self : hide H p p = none := if_pos rfl
theorem hide_same : Same (hide H p) H := fun c x h => by
  by_cases e : c = p
  · rw [e, hide_self] at h; cases h
  · rw [hide_at e] at h; exact h
theorem But.hide (b : But p H H') : Same (hide H p) (NL.hide H' p) := fun c x h => by
  by_cases e : c = p
  · rw [e, hide_self] at h; cases h
  · rw [hide_at e] at h ⊢; exact b c x e h
theorem hide_none (h : H q = none) : NL.hide H p q = none := by
  by_cases e : q = p
  · rw [e, hide_self]
  · rw [hide_at e]; exact h
theorem hide_put (h : H q = some o) (e : q ≠ p) : NL.hide H p q = some o := by rw [hide_at e]; exact h
end
end NL
/-! for i, x in enumerate(t), t a tuple -/
namespace PySem
namespace NLE
theorem meets_enumerate_one {v : Value} {o : Obj} {H : Heap → Prop} (B : Begins v o H) :
    Meets (Builtin.«enumerate.__new__» ⟨[.type "enumerate", v], []⟩) (fun _ R s => H s.heap ∧
      R (.ok (.ret (.ref (s.heap.push o).objs.size))) { s with heap := (s.heap.push o).push { cls := .type "enumerate", data := .fields #[.none, .bool false, .ref s.heap.objs.size, rawInt 0, .none, .none] } }) :=
  .of_wp fun prog w A R s h => by
    obtain ⟨hp, g, d, tk, os⟩ := s; obtain ⟨h1, h⟩ := h
    have hsub := sub_enumerate
    have q1 : ∀ {A' : Around} {E : Value → Shared → Prop} {Q : Value → Shared → Prop}, Q (.ref hp.objs.size) ⟨hp.push o, g, d, tk, os⟩ → wpAny (model prog w) A' (pyIter v) Q E ⟨hp, g, d, tk, os⟩ :=
      fun q => B.iter prog w _ _ ⟨hp, g, d, tk, os⟩ _ h1 q
    wp_walk using q1
    refine wpAny_stack_any fun st => wpAny_pure ?_
    split
    · rename_i c _ _ _ _ _
      cases (c == Value.type "enumerate")
      · wp_walk using q1
        exact ⟨_, rfl, h⟩
      · wp_walk using q1
        exact ⟨_, rfl, h⟩
    · wp_walk using q1
      exact ⟨_, rfl, h⟩
section
variable {prog : Program} {w : World} {A : Around} {E : Value → Shared → Prop} {s : Shared}
theorem enum_one {v : Value} {o : Obj} {H : Heap → Prop} {Q : Value → Shared → Prop} (B : Begins v o H) (h1 : H s.heap)
    (h : ∀ h', IsEnum h' (s.heap.objs.size + 1) s.heap.objs.size 0 .none → h'.get? s.heap.objs.size = some o → h'.objs.size = s.heap.objs.size + 2 →
      (∀ b o, s.heap.get? b = some o → h'.get? b = some o) → Q (.ref (s.heap.objs.size + 1)) { s with heap := h' }) :
    wpAny (model prog w) A (call (.type "enumerate") [v]) Q E s := by
  refine callType_new F.called_enumerate (by decide) (F.typeCall_enumerate_1 _) (F.newCall_enumerate_1 _) (fun obj => F.args_object_init_2 obj _) F.entry_enumerate_new
    (meets_enumerate_one B) ⟨h1, ?_⟩
  have hz : (s.heap.push o).objs.size = s.heap.objs.size + 1 := Heap.size_push ..
  show _ ∧ _
  rw [hz]
  have he : IsEnum ((s.heap.push o).push { cls := .type "enumerate", data := .fields #[.none, .bool false, .ref s.heap.objs.size, rawInt 0, .none, .none] }) (s.heap.objs.size + 1) s.heap.objs.size 0 .none := by
    have := Heap.get?_push_size (s.heap.push o) (o := { cls := .type "enumerate", data := .fields #[.none, .bool false, .ref s.heap.objs.size, rawInt 0, .none, .none] }) rfl
    rw [hz] at this; exact this
  refine ⟨⟨_, he, rfl⟩, h _ he (Heap.get?_push_of_some _ (Heap.get?_push_size _ B.free)) (by rw [Heap.size_push, hz]) fun b o x => Heap.get?_push_of_some _ (Heap.get?_push_of_some _ x)⟩
theorem enum_endT {e it l : Addr} {i : Nat} {items : Array Value} {old : Value} {Q : Option Value → Shared → Prop} (hh : A.handled = none)
    (he : IsEnum s.heap e it i old) (hit : s.heap.IsTupleIter it l i) (hl : s.heap.IsTuple l items) (hx : items[i]? = none)
    (hQ : ∀ h', Heap.ExtBut it s.heap h' → Q none { s with heap := h' }) : wpAny (model prog w) A (pyNext (.ref e)) Q E s := by
  have hT : s.TypeIs (.ref e) "enumerate" := ⟨_, he, rfl⟩
  unfold pyNext
  refine wpAny_bind (wpAny_attempt (wpAny_callSpecial?_slot (name := Str.ofString "__next__") hT F.slot_enumerate_next
    (wpAny_call_entry F.slot_enumerate_next hT F.entry_enumerate_next ?_ (F.args_enumerate_next_1 _))))
  show wpAny _ _ (field (.ref e) 2 >>= _) _ _ _
  refine wpAny_bind (wpAny_field he rfl (x := .ref it) rfl ?_)
  refine wpAny_bind (wpAny_nextOf_tuple_end hh hit hl hx fun h' x he' hx' => ?_)
  obtain ⟨o, ho, hc⟩ := hx'
  refine wpAny_bind (wpAny_isInstance (T := "StopIteration") (b := true) ⟨o, ho, hc⟩ isSubtype_stop ?_)
  exact wpAny_pure (hQ _ he')
end
end NLE
end PySem
namespace NL
open PySem L2 PySem.Spec PyProof.Rows
/-- the tuple at a, each item in a new pair with its number -/
def IteT (K : PySem.W.Frag) (a : Addr) : It :=
  ⟨fun i H => ∃ (xs : List V) (x : V), SqT K H a xs ∧ xs[i]? = some x, fun i H v H' => ∃ T x, v = .ref T ∧ H T = none ∧ H' = upd H T (.tup [.int (i : Nat), x]) ∧ ∀ xs, SqT K H a xs → xs[i]? = some x, fun i H => ∃ xs : List V, SqT K H a xs ∧ xs.length ≤ i⟩
theorem turn_enumT {P : Program} {w : World} {K : PySem.W.Frag} {elts : List Expr} {kk : Nat} {tpos : Pos} (a e it : Addr) (hai : a ≠ it) (hae : a ≠ e) :
    Turn P w K (.Tuple elts kk tpos) (IteT K a) [e, it] e (fun i h => (∃ old, IsEnum h e it ((i : Nat) : Int) old) ∧ h.IsTupleIter it a i ∧ e ≠ it) where
  mem := by simp
  obj := fun i h st b hb => by
    obtain ⟨⟨old, he⟩, ⟨o, ho, hc, hd⟩, _⟩ := st
    have e' : b = e ∨ b = it := by simpa using hb
    rcases e' with z | z
    · rw [z]; exact ⟨_, he, fun v q => nomatch q⟩
    · rw [z]; exact ⟨o, ho, fun v q => by rw [hd] at q; cases q⟩
  keep := fun i h h' st k => let ⟨⟨old, he⟩, hi, hne⟩ := st; ⟨⟨old, k e (by simp) _ he⟩, hi.at fun o q => k it (by simp) o q, hne⟩
  item := by
    intro X hP hw hK hc i pins s σ H E I hf st hg
    subst hP hw hK
    obtain ⟨⟨old, he⟩, hit, hne⟩ := st
    obtain ⟨xs, x, hq, hx⟩ := hg
    obtain ⟨its, rv, p, hz⟩ := I.tuple hq
    obtain ⟨u, hu, ru⟩ := rv.get hx
    have hel : e < s.heap.objs.size := Heap.lt_size he
    have hil : it < s.heap.objs.size := by obtain ⟨_, q, _⟩ := hit; exact Heap.lt_size q
    have hh : X.A.in1.handled = none := I.ok.hd hc
    have hi : i < its.toArray.size := by
      have := (List.getElem?_eq_some_iff.mp hu).1
      simpa using this
    refine wpAny_pyNext_enum_itemD (Draws.tuple hh it a hai its.toArray) he ⟨hit, (show s.heap.IsTuple a its.toArray from p)⟩ hi hne (by simp [hne, Ne.symm hae]) fun x' h' tk hP ho hit' hT hsz hk => ?_
    have hxu : x' = u := by
      have h1 : its.toArray[i]? = some x' := hP
      have h2 : its.toArray[i]? = some u := by simpa using hu
      rw [h1] at h2; exact Option.some.inj h2
    subst hxu
    refine ⟨_, rfl, wpAny_letOwnedTupleGo_enum (s := { s with heap := h', toks := tk + 1 }) ho fun h'' he' sb => ?_⟩
    have hT2 : h''.get? s.heap.objs.size = some { cls := .type "tuple", data := .seq #[.int i tk, x'] } := (sb.2 _ (Nat.ne_of_gt hel)).trans hT
    have new : ObjOk X.prog X.w (upd H s.heap.objs.size (.tup [.int (i : Nat), x])) h'' s.heap.objs.size (.tup [.int (i : Nat), x]) :=
      ⟨by show 2 ≤ sizeLine; decide, [.int i tk, x'], .cons ⟨_, rfl⟩ (.cons ru .nil), ⟨_, hT2, rfl, _, rfl⟩⟩
    have I1 : Inv X pins σ (upd H s.heap.objs.size (.tup [.int (i : Nat), x])) { s with heap := h'', toks := tk + 1 } :=
      I.turnedNew (ch := [e, it]) (fun b ob hb q => (sb.2 b (fun z => hb (by simp [z]))).trans (hk b ob (fun z => hb (by simp [z])) (fun z => hb (by simp [z])) q)) hf (Nat.le_refl _) new
    refine ⟨.ref s.heap.objs.size, _, I1, rfl, ⟨_, x, rfl, I.hok.fresh (Nat.le_refl _), rfl, fun ys hy => by rw [I.tuple_inj hy hq]; exact hx⟩, ⟨⟨x', ?_⟩, hit'.1.at fun o q => (sb.2 it (Ne.symm hne)).trans q, hne⟩, fun b hb => ?_⟩
    · have e1 : ((i + 1 : Nat) : Int) = (i : Int) + 1 := by omega
      rw [e1]; exact he'
    · have hb' : b < s.heap.objs.size := by
        have e' : b = e ∨ b = it := by simpa using hb
        rcases e' with z | z
        · rw [z]; exact hel
        · rw [z]; exact hil
      rw [upd_ne (Nat.ne_of_lt hb')]
      exact (hf b hb).1
  done := by
    intro X hP hw hK hc i pins s σ H E I hf st hg
    subst hP hw hK
    obtain ⟨⟨old, he⟩, hit, hne⟩ := st
    obtain ⟨xs, hq, hx⟩ := hg
    obtain ⟨its, rv, p, hz⟩ := I.tuple hq
    obtain ⟨f0, f1, f2, f3, f4, f5⟩ := hf it (by simp)
    have hl := rv.length
    have hh : X.A.in1.handled = none := I.ok.hd hc
    exact PySem.NLE.enum_endT (I.ok.hd hc) he hit (show s.heap.IsTuple a its.toArray from p) (by simp; omega) fun h' eb => ⟨rfl, I.turned (t' := s.toks) (fun b o hb q => eb b o hb q) f0 f1 f3 f4 f5⟩
  self := fun A i s Q E st h => let ⟨⟨_, he⟩, _⟩ := st; wpAny_pyIter_enum he h
def iEnumT (K : PySem.W.Frag) (ta : TA) : TI := fun σ H R => ta σ H fun vs H1 => ∃ a xs, vs = [.ref a] ∧ SqT K H1 a xs ∧ R (IteT K a) H1
theorem pi_enumT {X : Cx} {e : Expr} {ta : TA} {p pos tpos : Pos} {elts : List Expr} {kk : Nat} (hg : Gl X "enumerate") (hm : X.mg "enumerate" = none) (ha : PA X [e] ta) (hs : starEach [e] X.env = [(false, eval e X.env)] := by rfl) :
    PI X (.Tuple elts kk tpos) (.Call (.Name "enumerate" p) [e] [] pos) (iEnumT X.K ta) := by
  refine ⟨fun pins s σ H R I h => ?_⟩
  refine Call_ (ld_blt I hg hm boot_enumerate (PyProof.Rows.callWith_type1 (thn (ha.run pos pins s σ H _ I h) fun us s1 ⟨vs, H1, I1, r1, q1⟩ => ?_) hs rfl))
  obtain ⟨a, xs, ex, hq, q⟩ := q1
  subst ex
  cases r1 with
  | cons r rr =>
    cases rr
    cases r
    obtain ⟨its, rv, p', hz⟩ := I1.tuple hq
    have pT : s1.heap.IsTuple a its.toArray := p'
    have hal : a < s1.heap.objs.size := by obtain ⟨_, q, _⟩ := p'; exact Heap.lt_size q
    refine PySem.NLE.enum_one (begins_tuple a its.toArray) pT fun h' he hit hsz hk => wpAny_pyIter_enum he ?_
    have I2 : Inv X pins σ H1 { s1 with heap := h' } := I1.kept (t' := s1.toks) hk
    refine ⟨s1.heap.objs.size + 1, [s1.heap.objs.size + 1, s1.heap.objs.size], _, _, H1, rfl, I2, turn_enumT a (s1.heap.objs.size + 1) s1.heap.objs.size (Nat.ne_of_lt hal) (Nat.ne_of_lt (Nat.lt_succ_of_lt hal)), ⟨⟨.none, he⟩, ⟨_, hit, rfl, rfl⟩, Nat.succ_ne_self _⟩, fun b hb => ?_, q⟩
    have e' : b = s1.heap.objs.size + 1 ∨ b = s1.heap.objs.size := by simpa using hb
    have hle : s1.heap.objs.size ≤ b := by
      rcases e' with z | z
      · rw [z]; exact Nat.le_add_right _ _
      · rw [z]; exact Nat.le_refl _
    exact I1.fpOk hle (I1.hok.fresh hle)
theorem walk_enumT {K : PySem.W.Frag} {a : Addr} {xs : List V} : Walk (IteT K a) xs.length (fun H => SqT K H a xs) (YPair (fun i => some (.int (i : Nat))) (fun i => xs[i]?)) where
  goes := fun i H hi h => ⟨xs, xs[i], h, List.getElem?_eq_getElem hi⟩
  stops := fun H h => ⟨xs, h, Nat.le_refl _⟩
  yields := fun i H x H' hi h ⟨T, y, h1, h2, h3, h4⟩ => ⟨T, .int i, y, h1, h2, h3, rfl, h4 xs h⟩
end NL
namespace NL
open PySem L2
/-! the place hangs on the difference of cells and the order of rests -/
theorem place_shift {x k e m : Int} (he : 0 < e) : placeS (x + m * e) (k + m * e) e = placeS x k e := by
  unfold placeS
  rw [Int.add_mul_ediv_right _ _ (by omega), Int.add_mul_ediv_right _ _ (by omega), Int.add_mul_emod_self_right, Int.add_mul_emod_self_right]
  congr 1; omega
theorem sign_scale {a b t : Int} (ht : 0 < t) : signS (t * a) (t * b) = signS a b := by
  unfold signS
  by_cases h : a = b
  · rw [if_pos h, if_pos (by rw [h])]
  · rw [if_neg h, if_neg (fun z => h (Int.eq_of_mul_eq_mul_left (by omega) z))]
    by_cases h2 : a < b
    · rw [if_pos h2, if_pos (Int.mul_lt_mul_of_pos_left h2 ht)]
    · rw [if_neg h2, if_neg]
      intro z
      exact h2 (Int.lt_of_mul_lt_mul_left z (by omega))
theorem place_scale {x k e t : Int} (ht : 0 < t) : placeS (x * t) (k * t) (e * t) = placeS x k e := by
  unfold placeS
  rw [Int.mul_comm x t, Int.mul_comm k t, Int.mul_comm e t, Int.mul_ediv_mul_of_pos _ _ ht, Int.mul_ediv_mul_of_pos _ _ ht, Int.mul_emod_mul_of_pos _ _ ht, Int.mul_emod_mul_of_pos _ _ ht, sign_scale ht]
theorem div_wide {q r w : Int} (h0 : 0 ≤ r) (h1 : r < w) : (q * w + r) / w = q ∧ (q * w + r) % w = r := by
  have hw : w ≠ 0 := by omega
  constructor
  · rw [Int.add_comm, Int.add_mul_ediv_right _ _ hw, Int.ediv_eq_zero_of_lt h0 h1]; omega
  · rw [Int.add_comm, Int.add_mul_emod_self_right, Int.emod_eq_of_lt h0 h1]
theorem place_wide {x k e w : Int} (he : 0 < e) (hw : e ≤ w) : placeS (x / e * w + x % e) (k / e * w + k % e) w = placeS x k e := by
  have h1 := div_wide (q := x / e) (r := x % e) (w := w) (Int.emod_nonneg _ (by omega)) (by have := Int.emod_lt_of_pos x he; omega)
  have h2 := div_wide (q := k / e) (r := k % e) (w := w) (Int.emod_nonneg _ (by omega)) (by have := Int.emod_lt_of_pos k he; omega)
  unfold placeS
  rw [h1.1, h1.2, h2.1, h2.2]
theorem mul_bd {a b A B : Int} (ha : -A ≤ a) (ha2 : a ≤ A) (hb : 0 ≤ b) (hB : b ≤ B) (hA : 0 ≤ A) : -(A * B) ≤ a * b ∧ a * b ≤ A * B := by
  constructor
  · have h1 : -A * b ≤ a * b := Int.mul_le_mul_of_nonneg_right ha hb
    have h2 : A * b ≤ A * B := Int.mul_le_mul_of_nonneg_left hB hA
    rw [Int.neg_mul] at h1; omega
  · have h1 : a * b ≤ A * b := Int.mul_le_mul_of_nonneg_right ha2 hb
    have h2 : A * b ≤ A * B := Int.mul_le_mul_of_nonneg_left hB hA
    omega
/-! the eleven places in order, by ten bounds -/
def PL : List Str := ["below", "-<", "-=", "->", "<", "=", ">", "+<", "+=", "+>", "above"]
def endsL (k e : Int) : List Int := [k - k % e - e, k - e, k - e + 1, k - k % e, k, k + 1, k - k % e + e, k + e, k + e + 1, k - k % e + 2 * e]
def cnt (x k e : Int) : Nat := ((endsL k e).filter fun z => decide (z ≤ x)).length
theorem filt_cons (a : Int) (l : List Int) (x : Int) : ((a :: l).filter fun z => decide (z ≤ x)).length = (if a ≤ x then 1 else 0) + (l.filter fun z => decide (z ≤ x)).length := by
  by_cases h : a ≤ x
  · rw [List.filter_cons_of_pos (by simpa using h), if_pos h, List.length_cons]; omega
  · rw [List.filter_cons_of_neg (by simpa using h), if_neg h]; omega
theorem cnt_eq (x k e : Int) : cnt x k e = (if k - k % e - e ≤ x then 1 else 0) + ((if k - e ≤ x then 1 else 0) + ((if k - e + 1 ≤ x then 1 else 0) + ((if k - k % e ≤ x then 1 else 0) + ((if k ≤ x then 1 else 0) + ((if k + 1 ≤ x then 1 else 0) + ((if k - k % e + e ≤ x then 1 else 0) + ((if k + e ≤ x then 1 else 0) + ((if k + e + 1 ≤ x then 1 else 0) + ((if k - k % e + 2 * e ≤ x then 1 else 0) + 0))))))))) := by
  unfold cnt endsL
  simp only [filt_cons]; rfl
theorem filt_mono {x y : Int} (h : x ≤ y) : ∀ l : List Int, (l.filter fun z => decide (z ≤ x)).length ≤ (l.filter fun z => decide (z ≤ y)).length
  | [] => Nat.le_refl _
  | a :: l => by
    have ih := filt_mono h l
    rw [filt_cons, filt_cons]
    split <;> split <;> omega
theorem cnt_mono {x y k e : Int} (h : x ≤ y) : cnt x k e ≤ cnt y k e := filt_mono h _
theorem cnt_place {x k e : Int} (he : 0 < e) : PL[cnt x k e]? = some (placeS x k e) := by
  have hx := Int.emod_add_mul_ediv x e
  have hk := Int.emod_add_mul_ediv k e
  have x1 := Int.emod_nonneg x (show e ≠ 0 by omega)
  have x2 := Int.emod_lt_of_pos x he
  have k1 := Int.emod_nonneg k (show e ≠ 0 by omega)
  have k2 := Int.emod_lt_of_pos k he
  rw [cnt_eq]
  unfold placeS placeOfS signS
  generalize x / e = qx at *
  generalize k / e = qk at *
  generalize x % e = rx at *
  generalize k % e = rk at *
  by_cases d1 : qx - qk < -1
  · have m : e * qx ≤ e * (qk - 2) := Int.mul_le_mul_of_nonneg_left (by omega) (by omega)
    rw [Int.mul_sub] at m
    rw [if_pos d1]
    rw [if_neg (by omega), if_neg (by omega), if_neg (by omega), if_neg (by omega), if_neg (by omega), if_neg (by omega), if_neg (by omega), if_neg (by omega), if_neg (by omega), if_neg (by omega)]
    rfl
  rw [if_neg d1]
  by_cases d2 : 1 < qx - qk
  · have m : e * (qk + 2) ≤ e * qx := Int.mul_le_mul_of_nonneg_left (by omega) (by omega)
    rw [Int.mul_add] at m
    rw [if_pos d2]
    rw [if_pos (by omega), if_pos (by omega), if_pos (by omega), if_pos (by omega), if_pos (by omega), if_pos (by omega), if_pos (by omega), if_pos (by omega), if_pos (by omega), if_pos (by omega)]
    rfl
  rw [if_neg d2]
  rcases (show qx = qk - 1 ∨ qx = qk ∨ qx = qk + 1 by omega) with h | h | h
  · subst h
    rw [Int.mul_sub] at hx
    rw [if_pos (show qk - 1 - qk = -1 by omega), if_pos (show k - rk - e ≤ x by omega), if_neg (show ¬ k - rk ≤ x by omega), if_neg (show ¬ k ≤ x by omega), if_neg (show ¬ k + 1 ≤ x by omega), if_neg (show ¬ k - rk + e ≤ x by omega), if_neg (show ¬ k + e ≤ x by omega), if_neg (show ¬ k + e + 1 ≤ x by omega), if_neg (show ¬ k - rk + 2 * e ≤ x by omega)]
    by_cases c1 : rx = rk
    · rw [if_pos c1, if_pos (show k - e ≤ x by omega), if_neg (show ¬ k - e + 1 ≤ x by omega)]; rfl
    · rw [if_neg c1]
      by_cases c2 : rx < rk
      · rw [if_pos c2, if_neg (show ¬ k - e ≤ x by omega), if_neg (show ¬ k - e + 1 ≤ x by omega)]; rfl
      · rw [if_neg c2, if_pos (show k - e ≤ x by omega), if_pos (show k - e + 1 ≤ x by omega)]; rfl
  · subst h
    rw [if_neg (show ¬ qx - qx = -1 by omega), if_neg (show ¬ qx - qx = 1 by omega), if_pos (show k - rk - e ≤ x by omega), if_pos (show k - e ≤ x by omega), if_pos (show k - e + 1 ≤ x by omega), if_pos (show k - rk ≤ x by omega), if_neg (show ¬ k - rk + e ≤ x by omega), if_neg (show ¬ k + e ≤ x by omega), if_neg (show ¬ k + e + 1 ≤ x by omega), if_neg (show ¬ k - rk + 2 * e ≤ x by omega)]
    by_cases c1 : rx = rk
    · rw [if_pos c1, if_pos (show k ≤ x by omega), if_neg (show ¬ k + 1 ≤ x by omega)]; rfl
    · rw [if_neg c1]
      by_cases c2 : rx < rk
      · rw [if_pos c2, if_neg (show ¬ k ≤ x by omega), if_neg (show ¬ k + 1 ≤ x by omega)]; rfl
      · rw [if_neg c2, if_pos (show k ≤ x by omega), if_pos (show k + 1 ≤ x by omega)]; rfl
  · subst h
    rw [Int.mul_add] at hx
    rw [if_neg (show ¬ qk + 1 - qk = -1 by omega), if_pos (show qk + 1 - qk = 1 by omega), if_pos (show k - rk - e ≤ x by omega), if_pos (show k - e ≤ x by omega), if_pos (show k - e + 1 ≤ x by omega), if_pos (show k - rk ≤ x by omega), if_pos (show k ≤ x by omega), if_pos (show k + 1 ≤ x by omega), if_pos (show k - rk + e ≤ x by omega), if_neg (show ¬ k - rk + 2 * e ≤ x by omega)]
    by_cases c1 : rx = rk
    · rw [if_pos c1, if_pos (show k + e ≤ x by omega), if_neg (show ¬ k + e + 1 ≤ x by omega)]; rfl
    · rw [if_neg c1]
      by_cases c2 : rx < rk
      · rw [if_pos c2, if_neg (show ¬ k + e ≤ x by omega), if_neg (show ¬ k + e + 1 ≤ x by omega)]; rfl
      · rw [if_neg c2, if_pos (show k + e ≤ x by omega), if_pos (show k + e + 1 ≤ x by omega)]; rfl
theorem placeS_mem {x k e : Int} (he : 0 < e) : placeS x k e ∈ PL := List.mem_of_getElem? (cnt_place he)
theorem PL_nodup : PL.Nodup := by decide +kernel
theorem first_nd {l : List Str} (hl : l.Nodup) {z : Str} {j : Nat} (h : l[j]? = some z) : ∀ m, m < j → l[m]? ≠ some z := fun m hm e => by
  have := nd_ix hl e h
  omega
theorem PL_first {z : Str} {j : Nat} (h : PL[j]? = some z) : ∀ m, m < j → PL[m]? ≠ some z := first_nd PL_nodup h
theorem PL_ok : ∀ z ∈ PL, PyData.strOk z = true := by decide +kernel
/-! turned places -/
def turnS (z : Str) : Str := PL.reverse.getD (PL.findIdx fun y => decide (y = z)) ""
theorem turn_at {j : Nat} {z : Str} (h : PL[j]? = some z) : PL[10 - j]? = some (turnS z) := by
  have hj := (List.getElem?_eq_some_iff.mp h).1
  have hj : j < 11 := hj
  have e : PL.getD j "" = z := by rw [List.getD_eq_getElem?_getD, h]; rfl
  subst e
  revert j
  decide +kernel
theorem turn_place {x k e : Int} : turnS (placeS x k e) = placeS k x e := by
  unfold placeS
  generalize hd : x / e - k / e = d
  have hd2 : k / e - x / e = -d := by omega
  rw [hd2]
  unfold placeOfS signS
  generalize x % e = a
  generalize k % e = b
  by_cases d1 : d < -1
  · rw [if_pos d1, if_neg (show ¬ -d < -1 by omega), if_pos (show 1 < -d by omega)]; decide +kernel
  rw [if_neg d1]
  by_cases d2 : 1 < d
  · rw [if_pos d2, if_pos (show -d < -1 by omega)]; decide +kernel
  rw [if_neg d2, if_neg (show ¬ -d < -1 by omega), if_neg (show ¬ 1 < -d by omega)]
  by_cases c1 : a = b
  · rw [if_pos c1, if_pos c1.symm]
    rcases (show d = -1 ∨ d = 0 ∨ d = 1 by omega) with h | h | h <;> subst h <;> decide +kernel
  · rw [if_neg c1, if_neg (show ¬ b = a from fun z => c1 z.symm)]
    by_cases c2 : a < b
    · rw [if_pos c2, if_neg (show ¬ b < a by omega)]
      rcases (show d = -1 ∨ d = 0 ∨ d = 1 by omega) with h | h | h <;> subst h <;> decide +kernel
    · rw [if_neg c2, if_pos (show b < a by omega)]
      rcases (show d = -1 ∨ d = 0 ∨ d = 1 by omega) with h | h | h <;> subst h <;> decide +kernel
theorem turn_mem {z : Str} (h : z ∈ PL) : turnS z ∈ PL := by
  obtain ⟨j, hj⟩ := List.getElem?_of_mem h
  exact List.mem_of_getElem? (turn_at hj)
theorem turn_turn : ∀ {z : Str}, z ∈ PL → turnS (turnS z) = z := by decide +kernel
end NL
namespace NL
open PySem L2
/-! groups -/
def LG : List (Str × List Str) := [("any", ["below", "-<", "-=", "->", "<", "=", ">", "+<", "+=", "+>", "above"]), ("near", ["-=", "->", "<", "=", ">", "+<", "+="]), ("far", ["below", "-<", "+>", "above"]), ("less", ["below", "-<", "-=", "->", "<"]), ("more", [">", "+<", "+=", "+>", "above"]), ("under", ["below", "-<"]), ("over", ["+>", "above"]), ("cell", ["<", "=", ">"]), ("none", [])]
def GN : List Str := ["any", "near", "far", "less", "more", "under", "over", "cell", "none"]
def isGroupB (z : Str) : Bool := decide (z ∈ PL) || (LG.lookup z).isSome
def groupS (z : Str) : List Str := if z ∈ PL then [z] else (LG.lookup z).getD []
/-- two tables whose values correspond -/
theorem lookup_paired {K : PySem.W.Frag} {z : Str} : ∀ {tab : List (Str × V)} {lg : List (Str × List Str)}, Paired (fun (p : Str × V) (q : Str × List Str) => p.1 = q.1 ∧ ∃ a, p.2 = .ref a ∧ ∀ H, SqT K H a (q.2.map V.str)) tab lg →
    (tab.lookup z).isSome = (lg.lookup z).isSome ∧ ∀ ys, lg.lookup z = some ys → ∃ a, tab.lookup z = some (.ref a) ∧ ∀ H, SqT K H a (ys.map V.str)
  | _, _, .nil => ⟨rfl, fun _ h => nomatch h⟩
  | (x, v) :: r, (x', ys0) :: r', .cons ⟨e, a, ev, hs⟩ t => by
    have e : x = x' := e
    subst e
    have ev : v = .ref a := ev
    subst ev
    rw [List.lookup_cons, List.lookup_cons]
    by_cases hz : z = x
    · have e1 : (z == x) = true := by simpa using hz
      rw [e1]
      exact ⟨rfl, fun ys h => ⟨a, rfl, by cases h; exact hs⟩⟩
    · have e1 : (z == x) = false := by simpa using hz
      rw [e1]
      exact lookup_paired t
/-- what each place says of the numbers -/
theorem place_rel {x k e : Int} (he : 0 < e) :
    (placeS x k e = "below" ∧ x < k - e ∧ x / e < k / e) ∨ (placeS x k e = "-<" ∧ x < k - e ∧ x / e = k / e - 1) ∨ (placeS x k e = "-=" ∧ x = k - e ∧ x / e = k / e - 1) ∨ (placeS x k e = "->" ∧ k - e < x ∧ x < k ∧ x / e = k / e - 1) ∨
    (placeS x k e = "<" ∧ k - e < x ∧ x < k ∧ x / e = k / e) ∨ (placeS x k e = "=" ∧ x = k ∧ x / e = k / e) ∨ (placeS x k e = ">" ∧ k < x ∧ x < k + e ∧ x / e = k / e) ∨
    (placeS x k e = "+<" ∧ k < x ∧ x < k + e ∧ x / e = k / e + 1) ∨ (placeS x k e = "+=" ∧ x = k + e ∧ x / e = k / e + 1) ∨ (placeS x k e = "+>" ∧ k + e < x ∧ x / e = k / e + 1) ∨ (placeS x k e = "above" ∧ k + e < x ∧ k / e < x / e) := by
  have hx := Int.emod_add_mul_ediv x e
  have hk := Int.emod_add_mul_ediv k e
  have x1 := Int.emod_nonneg x (show e ≠ 0 by omega)
  have x2 := Int.emod_lt_of_pos x he
  have k1 := Int.emod_nonneg k (show e ≠ 0 by omega)
  have k2 := Int.emod_lt_of_pos k he
  unfold placeS placeOfS signS
  generalize x / e = qx at *
  generalize k / e = qk at *
  generalize x % e = rx at *
  generalize k % e = rk at *
  by_cases d1 : qx - qk < -1
  · have m : e * qx ≤ e * (qk - 2) := Int.mul_le_mul_of_nonneg_left (by omega) (by omega)
    rw [Int.mul_sub] at m
    exact .inl ⟨if_pos d1, by omega, by omega⟩
  by_cases d2 : 1 < qx - qk
  · have m : e * (qk + 2) ≤ e * qx := Int.mul_le_mul_of_nonneg_left (by omega) (by omega)
    rw [Int.mul_add] at m
    exact .inr (.inr (.inr (.inr (.inr (.inr (.inr (.inr (.inr (.inr ⟨by rw [if_neg d1, if_pos d2], by omega, by omega⟩)))))))))
  rw [if_neg d1, if_neg d2]
  rcases (show qx = qk - 1 ∨ qx = qk ∨ qx = qk + 1 by omega) with h | h | h
  · subst h
    rw [Int.mul_sub] at hx
    rw [if_pos (show qk - 1 - qk = -1 by omega)]
    by_cases c1 : rx = rk
    · rw [if_pos c1]; exact .inr (.inr (.inl ⟨rfl, by omega, rfl⟩))
    · rw [if_neg c1]
      by_cases c2 : rx < rk
      · rw [if_pos c2]; exact .inr (.inl ⟨rfl, by omega, rfl⟩)
      · rw [if_neg c2]; exact .inr (.inr (.inr (.inl ⟨rfl, by omega, by omega, rfl⟩)))
  · subst h
    rw [if_neg (show ¬ qx - qx = -1 by omega), if_neg (show ¬ qx - qx = 1 by omega)]
    by_cases c1 : rx = rk
    · rw [if_pos c1]; exact .inr (.inr (.inr (.inr (.inr (.inl ⟨rfl, by omega, rfl⟩)))))
    · rw [if_neg c1]
      by_cases c2 : rx < rk
      · rw [if_pos c2]; exact .inr (.inr (.inr (.inr (.inl ⟨rfl, by omega, by omega, rfl⟩))))
      · rw [if_neg c2]; exact .inr (.inr (.inr (.inr (.inr (.inr (.inl ⟨rfl, by omega, by omega, rfl⟩))))))
  · subst h
    rw [Int.mul_add] at hx
    rw [if_neg (show ¬ qk + 1 - qk = -1 by omega), if_pos (show qk + 1 - qk = 1 by omega)]
    by_cases c1 : rx = rk
    · rw [if_pos c1]; exact .inr (.inr (.inr (.inr (.inr (.inr (.inr (.inr (.inl ⟨rfl, by omega, rfl⟩))))))))
    · rw [if_neg c1]
      by_cases c2 : rx < rk
      · rw [if_pos c2]; exact .inr (.inr (.inr (.inr (.inr (.inr (.inr (.inl ⟨rfl, by omega, by omega, rfl⟩)))))))
      · rw [if_neg c2]; exact .inr (.inr (.inr (.inr (.inr (.inr (.inr (.inr (.inr (.inl ⟨rfl, by omega, rfl⟩)))))))))
/-- membership in each group by comparing numbers -/
theorem group_due {x k e : Int} (he : 0 < e) : (placeS x k e ∈ groupS "any") ∧ (placeS x k e ∈ groupS "near" ↔ (-e ≤ x - k ∧ x - k ≤ e)) ∧ (placeS x k e ∈ groupS "far" ↔ ¬ (-e ≤ x - k ∧ x - k ≤ e)) ∧ (placeS x k e ∈ groupS "less" ↔ x < k) ∧ (placeS x k e ∈ groupS "more" ↔ k < x) ∧
    (placeS x k e ∈ groupS "under" ↔ x < k - e) ∧ (placeS x k e ∈ groupS "over" ↔ k + e < x) ∧ (placeS x k e ∈ groupS "cell" ↔ x / e = k / e) ∧ ¬ (placeS x k e ∈ groupS "none") ∧ (placeS x k e = "=" ↔ x = k) := by
  rcases place_rel (x := x) (k := k) he with ⟨p, h⟩ | ⟨p, h⟩ | ⟨p, h⟩ | ⟨p, h⟩ | ⟨p, h⟩ | ⟨p, h⟩ | ⟨p, h⟩ | ⟨p, h⟩ | ⟨p, h⟩ | ⟨p, h⟩ | ⟨p, h⟩ <;> rw [p] <;>
    refine ⟨by decide +kernel, ?_, ?_, ?_, ?_, ?_, ?_, ?_, by decide +kernel, ?_⟩ <;>
    first
      | exact iff_of_true (by decide +kernel) (by omega)
      | exact iff_of_false (by decide +kernel) (by omega)
theorem GN_group : ∀ {n : Str}, n ∈ GN → isGroupB n = true := by decide +kernel
end NL
namespace NL
open PySem L2
/-! ### loops as plain data -/
def ALPHA : List Nat := ("abcdefghijklmnopqrstuvwxyz" : Str).cps.toList
def isNameB (z : Str) : Bool := decide (1 ≤ z.length) && decide (z.length ≤ 8) && z.cps.toList.all fun c => decide (c ∈ ALPHA)
structure Rule where
  st : Str
  gs : List Str
  wd : Str
  kp : Bool
  nx : Str
def wfRule (r : Rule) : Bool := isNameB r.st && isNameB r.wd && isNameB r.nx && decide (0 < r.gs.length) && r.gs.all isGroupB
def addS (acc : List Str) (z : Str) : List Str := if z ∈ acc then acc else acc ++ [z]
def statesF (acc : List Str) (rs : List Rule) : List Str := rs.foldl (fun acc r => addS (addS acc r.st) r.nx) acc
def statesR (rs : List Rule) : List Str := statesF [] rs
theorem addS_len (acc : List Str) (z : Str) : acc.length ≤ (addS acc z).length ∧ (addS acc z).length ≤ acc.length + 1 := by
  unfold addS; split
  · omega
  · rw [List.length_append]; simp
theorem addS_nodup {acc : List Str} {z : Str} (h : acc.Nodup) : (addS acc z).Nodup := by
  unfold addS; split
  · exact h
  · rename_i hz; exact nd_snoc h hz
theorem addS_mem {acc : List Str} {z y : Str} : y ∈ addS acc z ↔ y ∈ acc ∨ y = z := by
  unfold addS; split
  · rename_i hz
    constructor
    · exact .inl
    · rintro (h | h)
      · exact h
      · rw [h]; exact hz
  · rw [List.mem_append, List.mem_singleton]
theorem statesF_snoc (acc : List Str) (rs : List Rule) (r : Rule) : statesF acc (rs ++ [r]) = addS (addS (statesF acc rs) r.st) r.nx := by
  unfold statesF; rw [List.foldl_append]; rfl
theorem statesF_nodup {acc : List Str} (h : acc.Nodup) : ∀ rs : List Rule, (statesF acc rs).Nodup := fun rs => by
  unfold statesF
  induction rs generalizing acc with
  | nil => exact h
  | cons r rs ih => exact ih (addS_nodup (addS_nodup h))
theorem statesR_nodup (rs : List Rule) : (statesR rs).Nodup := statesF_nodup List.nodup_nil rs
theorem statesF_le (acc : List Str) : ∀ rs : List Rule, acc.length ≤ (statesF acc rs).length := fun rs => by
  unfold statesF
  induction rs generalizing acc with
  | nil => exact Nat.le_refl _
  | cons r rs ih =>
    refine Nat.le_trans ?_ (ih _)
    exact Nat.le_trans (addS_len acc r.st).1 (addS_len _ r.nx).1
theorem statesR_take (rs : List Rule) (n : Nat) : (statesR (rs.take n)).length ≤ (statesR rs).length := by
  conv => rhs; rw [← List.take_append_drop n rs]
  unfold statesR statesF
  rw [List.foldl_append]
  exact statesF_le _ _
theorem statesF_bound (acc : List Str) : ∀ rs : List Rule, (statesF acc rs).length ≤ acc.length + 2 * rs.length := fun rs => by
  unfold statesF
  induction rs generalizing acc with
  | nil => simp
  | cons r rs ih =>
    have h1 := (addS_len acc r.st).2
    have h2 := (addS_len (addS acc r.st) r.nx).2
    have := ih (addS (addS acc r.st) r.nx)
    simp only [List.foldl_cons, List.length_cons] at *
    omega
theorem statesF_mem {z : Str} : ∀ {rs : List Rule} {acc : List Str}, z ∈ statesF acc rs ↔ z ∈ acc ∨ ∃ r ∈ rs, z = r.st ∨ z = r.nx := by
  intro rs
  induction rs with
  | nil => intro acc; simp [statesF]
  | cons r rs ih =>
    intro acc
    show z ∈ statesF (addS (addS acc r.st) r.nx) rs ↔ _
    rw [ih, addS_mem, addS_mem]
    constructor
    · rintro (((h | h) | h) | ⟨r', h1, h2⟩)
      · exact .inl h
      · exact .inr ⟨r, List.mem_cons_self, .inl h⟩
      · exact .inr ⟨r, List.mem_cons_self, .inr h⟩
      · exact .inr ⟨r', List.mem_cons_of_mem _ h1, h2⟩
    · rintro (h | ⟨r', h1, h2⟩)
      · exact .inl (.inl (.inl h))
      · rcases List.mem_cons.mp h1 with rfl | h1
        · rcases h2 with h2 | h2
          · exact .inl (.inl (.inr h2))
          · exact .inl (.inr h2)
        · exact .inr ⟨r', h1, h2⟩
/-- the loop's rules are right: there are some, at most 40, at most 6 states -/
def wfRules (rs : List Rule) : Prop := 0 < rs.length ∧ rs.length ≤ 40 ∧ (∀ r ∈ rs, wfRule r = true) ∧ (statesR rs).length ≤ 6
/-! ### which rule is used -/
def fitsG (p g : Str) : Bool := if g = "none" then decide (p = "none") else decide (p ∈ groupS g)
def Rule.fits (r : Rule) (p : Str) : Bool := r.gs.any (fitsG p)
def hitR (s p : Str) (r : Rule) : Bool := decide (r.st = s) && r.fits p
def fitIdx (rs : List Rule) (s p : Str) : Option Nat := rs.findIdx? (hitR s p)
def usedR (rs : List Rule) (s p : Str) : Str × Bool × Str := match rs.find? (hitR s p) with
  | none => (("pass" : Str), false, s)
  | some r => (r.wd, r.kp, r.nx)
theorem fitIdx_snoc (rs : List Rule) (r : Rule) (s p : Str) : fitIdx (rs ++ [r]) s p = match fitIdx rs s p with | some i => some i | none => if hitR s p r = true then some rs.length else none := by
  unfold fitIdx
  rw [List.findIdx?_append]
  cases rs.findIdx? (hitR s p) with
  | some i => rfl
  | none =>
    show Option.map _ (List.findIdx? (hitR s p) [r]) = _
    rw [List.findIdx?_cons]
    split <;> simp
theorem fit_some {rs : List Rule} {s p : Str} {i : Nat} (h : fitIdx rs s p = some i) : ∃ r, rs[i]? = some r ∧ usedR rs s p = (r.wd, r.kp, r.nx) := by
  unfold fitIdx at h
  obtain ⟨hi, h1, h2⟩ := List.findIdx?_eq_some_iff_getElem.mp h
  refine ⟨rs[i], List.getElem?_eq_getElem hi, ?_⟩
  have : rs.find? (hitR s p) = some rs[i] := by
    rw [List.find?_eq_some_iff_getElem]
    exact ⟨h1, i, hi, rfl, fun j hj => by simpa using h2 j hj⟩
  unfold usedR; rw [this]
theorem fit_none {rs : List Rule} {s p : Str} (h : fitIdx rs s p = none) : usedR rs s p = (("pass" : Str), false, s) := by
  unfold fitIdx at h
  have : rs.find? (hitR s p) = none := by
    rw [List.find?_eq_none]
    intro x hx
    have := List.findIdx?_eq_none_iff.mp h x hx
    simpa using this
  unfold usedR; rw [this]
theorem used_state {rs : List Rule} {s p : Str} (hs : s ∈ statesR rs) : (usedR rs s p).2.2 ∈ statesR rs := by
  unfold usedR
  cases h : rs.find? (hitR s p) with
  | none => exact hs
  | some r => exact statesF_mem.mpr (.inr ⟨r, List.mem_of_find?_eq_some h, .inr rfl⟩)
/-! ### runs -/
structure RS where
  st : Str
  words : List Str
  keeps : List Bool
  kept : List Int
def whereS (kept : List Int) (x e : Int) : Str := match kept.getLast? with
  | none => "none"
  | some k => placeS x k e
def runStep (rs : List Rule) (e : Int) (s : RS) (x : Int) : RS :=
  let u := usedR rs s.st (whereS s.kept x e)
  ⟨u.2.2, s.words ++ [u.1], s.keeps ++ [u.2.1], if u.2.1 = true then s.kept ++ [x] else s.kept⟩
def startR (rs : List Rule) : Str := match rs with
  | [] => ""
  | r :: _ => r.st
def runR (rs : List Rule) (e : Int) (row : List Int) : RS := row.foldl (runStep rs e) ⟨startR rs, [], [], []⟩
theorem runR_snoc (rs : List Rule) (e : Int) (row : List Int) (x : Int) : runR rs e (row ++ [x]) = runStep rs e (runR rs e row) x := by
  unfold runR; rw [List.foldl_append]; rfl
theorem run_len (rs : List Rule) (e : Int) : ∀ row : List Int, (runR rs e row).words.length = row.length ∧ (runR rs e row).keeps.length = row.length ∧ (runR rs e row).kept.length ≤ row.length := by
  intro row
  suffices h : ∀ (s : RS), (row.foldl (runStep rs e) s).words.length = s.words.length + row.length ∧ (row.foldl (runStep rs e) s).keeps.length = s.keeps.length + row.length ∧ (row.foldl (runStep rs e) s).kept.length ≤ s.kept.length + row.length by
    have := h ⟨startR rs, [], [], []⟩
    simpa [runR] using this
  induction row with
  | nil => intro s; simp
  | cons x row ih =>
    intro s
    have := ih (runStep rs e s x)
    simp only [List.foldl_cons, List.length_cons]
    obtain ⟨h1, h2, h3⟩ := this
    have k1 : (runStep rs e s x).words.length = s.words.length + 1 := by simp [runStep]
    have k2 : (runStep rs e s x).keeps.length = s.keeps.length + 1 := by simp [runStep]
    have k3 : (runStep rs e s x).kept.length ≤ s.kept.length + 1 := by
      simp only [runStep]; split
      · simp
      · omega
    omega
theorem run_kept (rs : List Rule) (e : Int) (row : List Int) : ∀ x ∈ (runR rs e row).kept, x ∈ row := by
  suffices h : ∀ (s : RS), ∀ x ∈ (row.foldl (runStep rs e) s).kept, x ∈ s.kept ∨ x ∈ row by
    intro x hx
    rcases h _ x hx with h | h
    · exact nomatch h
    · exact h
  induction row with
  | nil => intro s x hx; exact .inl hx
  | cons y row ih =>
    intro s x hx
    rcases ih _ x hx with h | h
    · simp only [runStep] at h
      split at h
      · rcases List.mem_append.mp h with h | h
        · exact .inl h
        · exact .inr (by rw [List.mem_singleton.mp h]; exact List.mem_cons_self)
      · exact .inl h
    · exact .inr (List.mem_cons_of_mem _ h)
theorem run_state (rs : List Rule) (e : Int) (hr : 0 < rs.length) (row : List Int) : (runR rs e row).st ∈ statesR rs := by
  have h0 : startR rs ∈ statesR rs := by
    cases rs with
    | nil => simp at hr
    | cons r rs => exact statesF_mem.mpr (.inr ⟨r, List.mem_cons_self, .inl rfl⟩)
  suffices h : ∀ (s : RS), s.st ∈ statesR rs → (row.foldl (runStep rs e) s).st ∈ statesR rs by exact h _ h0
  induction row with
  | nil => intro s hs; exact hs
  | cons y row ih => intro s hs; exact ih _ (used_state hs)
/-! ### the law's own look at rules -/
def fitsL (p g : Str) : Bool := decide (g = p) || decide (p ∈ groupS g)
def PN : List Str := "none" :: PL
theorem groupS_PL : ∀ {p : Str}, p ∈ PL → groupS p = [p] := fun {p} h => by unfold groupS; rw [if_pos h]
theorem fits_eq {p g : Str} (hp : p ∈ PN) : fitsL p g = fitsG p g := by
  unfold fitsL fitsG
  by_cases hg : g = "none"
  · subst hg
    rw [if_pos rfl]
    have : groupS "none" = [] := by decide +kernel
    rw [this]
    simp only [List.not_mem_nil, decide_false, Bool.or_false]
    exact decide_eq_decide.mpr ⟨fun h => h.symm, fun h => h.symm⟩
  · rw [if_neg hg]
    by_cases h : g = p
    · subst h
      rcases List.mem_cons.mp hp with h | h
      · exact absurd h hg
      · rw [groupS_PL h]; simp
    · rw [decide_eq_false h, Bool.false_or]
theorem used_law {rs : List Rule} {s p : Str} (hp : p ∈ PN) : rs.find? (fun r => decide (r.st = s) && r.gs.any (fitsL p)) = rs.find? (hitR s p) := by
  congr 1
  funext r
  unfold hitR Rule.fits
  have : (fitsL p) = fitsG p := funext fun g => fits_eq hp
  rw [this]
theorem where_PN (kept : List Int) (x e : Int) (he : 0 < e) : whereS kept x e ∈ PN := by
  unfold whereS
  cases kept.getLast? with
  | none => exact List.mem_cons_self
  | some k => exact List.mem_cons_of_mem _ (placeS_mem he)
end NL
namespace NL
open PySem L2
/-! ### slices of a list or a tuple -/
def rSlSeq (K : PySem.W.Frag) : V → Option Int → Option Int → Hp → VK → Prop := fun x lo hi H Q => ∃ a xs, x = .ref a ∧ Sq K H a xs ∧ ∀ p H', Same H H' → Sq K H' p (cutV xs lo hi) → Q (.ref p) H'
theorem sl_seq {X : Cx} : SlR X (rSlSeq X.K) := by
  intro pins s σ H x v vl vu lo hi sl Q I rx hs pl pu h
  obtain ⟨a, xs, rfl, hq, q⟩ := h
  rcases hq with hq | hq
  · exact sl_list pins s σ H _ v vl vu lo hi sl Q I rx hs pl pu ⟨a, xs, rfl, hq, fun p hp => q p _ (same_new hp) (Sq.lst upd_same)⟩
  · refine sl_tupA pins s σ H _ v vl vu lo hi sl Q I rx hs pl pu ⟨a, xs, rfl, hq, fun hw => q a H (Same.refl _) ?_, fun _ p hp => q p _ (same_new hp) (Sq.tup upd_same)⟩
    have e : cutV xs lo hi = xs := by unfold cutV; rw [hw.1, hw.2]; simp
    rw [e]; exact .inr hq
theorem cut_to (xs : List V) (n : Nat) : cutV xs none (some (n : Int)) = xs.take n := by
  unfold cutV
  rw [HT.sIx_none, HT.sIx_nat]
  simp [List.take_eq_take_iff]
theorem cut_from (xs : List V) (n : Nat) : cutV xs (some (n : Int)) none = xs.drop n := by
  unfold cutV
  rw [HT.sIx_none, HT.sIx_nat]
  apply List.ext_getElem?
  intro i
  rw [List.getElem?_take]
  simp only [List.getElem?_drop]
  split
  · by_cases h : n ≤ xs.length
    · rw [Nat.min_eq_left h]
    · rw [List.getElem?_eq_none (by omega), List.getElem?_eq_none (by omega)]
  · rw [List.getElem?_eq_none (by omega)]
/-! ### rules, in the heap -/
def RuleAt (K : PySem.W.Frag) (H : Hp) (v : V) (r : Rule) : Prop := ∃ t g, v = .ref t ∧ Sq K H t [.str r.st, .ref g, .str r.wd, .bl r.kp, .str r.nx] ∧ Sq K H g (r.gs.map V.str)
def RuleT (K : PySem.W.Frag) (H : Hp) (v : V) (r : Rule) : Prop := ∃ t g, v = .ref t ∧ SqT K H t [.str r.st, .ref g, .str r.wd, .bl r.kp, .str r.nx] ∧ SqT K H g (r.gs.map V.str)
def RulesAt (K : PySem.W.Frag) (H : Hp) (a : Addr) (rs : List Rule) : Prop := ∃ vs, Sq K H a vs ∧ Paired (RuleAt K H) vs rs
def RulesT (K : PySem.W.Frag) (H : Hp) (a : Addr) (rs : List Rule) : Prop := ∃ vs, SqT K H a vs ∧ Paired (RuleT K H) vs rs
section
variable {K : PySem.W.Frag} {H H' : Hp}
theorem RuleAt.same {v : V} {r : Rule} (s : Same H H') (h : RuleAt K H v r) : RuleAt K H' v r := by
  obtain ⟨t, g, e, h1, h2⟩ := h; exact ⟨t, g, e, h1.same s, h2.same s⟩
theorem RuleT.same {v : V} {r : Rule} (s : Same H H') (h : RuleT K H v r) : RuleT K H' v r := by
  obtain ⟨t, g, e, h1, h2⟩ := h; exact ⟨t, g, e, SqT_same s h1, SqT_same s h2⟩
theorem RuleT.at {v : V} {r : Rule} (h : RuleT K H v r) : RuleAt K H v r := by
  obtain ⟨t, g, e, h1, h2⟩ := h; exact ⟨t, g, e, .inr h1, .inr h2⟩
theorem RulesAt.same {a : Addr} {rs : List Rule} (s : Same H H') (h : RulesAt K H a rs) : RulesAt K H' a rs := by
  obtain ⟨vs, h1, h2⟩ := h; exact ⟨vs, h1.same s, Paired.mapP h2 fun _ _ => RuleAt.same s⟩
theorem RulesT.same {a : Addr} {rs : List Rule} (s : Same H H') (h : RulesT K H a rs) : RulesT K H' a rs := by
  obtain ⟨vs, h1, h2⟩ := h; exact ⟨vs, SqT_same s h1, Paired.mapP h2 fun _ _ => RuleT.same s⟩
theorem RulesT.at {a : Addr} {rs : List Rule} (h : RulesT K H a rs) : RulesAt K H a rs := by
  obtain ⟨vs, h1, h2⟩ := h; exact ⟨vs, .inr h1, Paired.mapP h2 fun _ _ => RuleT.at⟩
end
theorem paired_gety {α β : Type} {R : α → β → Prop} : ∀ {xs : List α} {ys : List β} {i : Nat} {y : β}, Paired R xs ys → ys[i]? = some y → ∃ x, xs[i]? = some x ∧ R x y
  | _, _, _, _, .nil, e => by simp at e
  | _, _, 0, _, .cons r _, e => by simp at e; subst e; exact ⟨_, rfl, r⟩
  | _, _, i + 1, x, .cons _ t, e => by
    obtain ⟨u, h1, h2⟩ := paired_gety (i := i) (y := x) t (by simpa using e)
    exact ⟨u, by simpa using h1, h2⟩
theorem paired_take {α β : Type} {R : α → β → Prop} : ∀ {xs : List α} {ys : List β} (n : Nat), Paired R xs ys → Paired R (xs.take n) (ys.take n)
  | _, _, 0, _ => .nil
  | _, _, _ + 1, .nil => .nil
  | _, _, n + 1, .cons r t => .cons r (paired_take n t)
theorem paired_snoc {α β : Type} {R : α → β → Prop} : ∀ {xs : List α} {ys : List β} {x : α} {y : β}, Paired R xs ys → R x y → Paired R (xs ++ [x]) (ys ++ [y])
  | _, _, _, _, .nil, h => .cons h .nil
  | _, _, _, _, .cons r t, h => .cons r (paired_snoc t h)
theorem paired_append {α β : Type} {R : α → β → Prop} : ∀ {xs xs' : List α} {ys ys' : List β}, Paired R xs ys → Paired R xs' ys' → Paired R (xs ++ xs') (ys ++ ys')
  | _, _, _, _, .nil, h => h
  | _, _, _, _, .cons r t, h => .cons r (paired_append t h)
theorem lock_same {H H' : Hp} {d : Addr} {u o : HO} (h : H d = some u) (s : Same (upd H d o) H') : Same H (upd H' d u) := fun c x hc => by
  by_cases e : c = d
  · subst e; rw [h] at hc; rw [upd_same]; exact hc
  · rw [upd_ne e]; exact s c x (by rw [upd_ne e]; exact hc)
theorem nd_take {zs : List Str} {i : Nat} {z : Str} (h : zs.Nodup) (hz : zs[i]? = some z) : z ∉ zs.take i := by
  have e := take_snoc hz
  have h2 : (zs.take i ++ [z]).Nodup := by rw [← e]; exact h.sublist (List.take_sublist _ _)
  intro hm
  rw [List.nodup_append] at h2
  exact h2.2.2 z hm z (List.mem_singleton_self _) rfl
/-! ### the dict of states -/
def stD (zs : List Str) : List (Key × V) := zs.map fun z => (Sum.inr z, V.bl true)
theorem stD_val (zs : List Str) (z : Str) : valV (stD zs) (Sum.inr z) = if z ∈ zs then some (.bl true) else none := by
  induction zs with
  | nil => rfl
  | cons y zs ih =>
    show valV ((Sum.inr y, V.bl true) :: stD zs) _ = _
    by_cases h : y = z
    · subst h; rw [valV_pos rfl, if_pos List.mem_cons_self]
    · rw [valV_neg (fun e => h (Sum.inr.inj e)), ih]
      by_cases h2 : z ∈ zs
      · rw [if_pos h2, if_pos (List.mem_cons_of_mem _ h2)]
      · rw [if_neg h2, if_neg]
        intro hm
        rcases List.mem_cons.mp hm with e | e
        · exact h e.symm
        · exact h2 e
theorem stD_put (zs : List Str) (z : Str) : putK (stD zs) (Sum.inr z) (.bl true) = stD (addS zs z) := by
  unfold addS
  by_cases h : z ∈ zs
  · rw [if_pos h]
    unfold putK
    have e : ((stD zs).any fun kv => decide (kv.1 = Sum.inr z)) = true := by rw [valV_any, stD_val, if_pos h]; rfl
    rw [if_pos e]
    unfold stD
    rw [List.map_map]
    apply List.map_congr_left
    intro y _
    show (if Sum.inr y = (Sum.inr z : Key) then _ else _) = _
    split <;> rfl
  · rw [if_neg h, putK_new _ (by rw [stD_val, if_neg h])]
    unfold stD; rw [List.map_append]; rfl
/-! ### tuple(x), x a list or a tuple -/
def rTupSeq (K : PySem.W.Frag) : List V → Hp → VK → Prop := fun xs H Q => ∃ p ys, xs = [.ref p] ∧ Sq K H p ys ∧ ∀ l H', Same H H' → SqT K H' l ys → Q (.ref l) H'
def rTupOf (K : PySem.W.Frag) : List V → Hp → VK → Prop := fun xs H Q => ∃ p ys, xs = [.ref p] ∧ ((SqL K H p ys ∧ ∀ l, H l = none → Q (.ref l) (upd H l (.tup ys))) ∨ (SqT K H p ys ∧ Q (.ref p) H))
def rLenSeq (K : PySem.W.Frag) : List V → Hp → VK → Prop := fun xs H Q => ∃ p ys, xs = [.ref p] ∧ (SqL K H p ys ∨ SqT K H p ys) ∧ Q (.int ys.length) H
def rLenV (K : PySem.W.Frag) : List V → Hp → VK → Prop := fun xs H Q => ∃ x n, xs = [x] ∧ LenV K x H n ∧ Q (.int n) H
def rListOf (K : PySem.W.Frag) : List V → Hp → VK → Prop := fun xs H Q => ∃ p ys, xs = [.ref p] ∧ (SqL K H p ys ∨ SqT K H p ys) ∧ ∀ l, H l = none → Q (.ref l) (upd H l (.lst ys))
theorem call_tuple_seq {X : Cx} : CallR X (.type "tuple") (rTupSeq X.K) := by
  intro pins s σ H xs us Q I r h
  obtain ⟨p, ys, rfl, hq, q⟩ := h
  refine call_tuple_of pins s σ H _ us Q I r ⟨p, ys, rfl, ?_⟩
  rcases hq with hq | hq
  · exact .inl ⟨hq, fun l hl => q l _ (same_new hl) (SqT.of upd_same)⟩
  · exact .inr ⟨hq, q p H (Same.refl _) hq⟩
/-- no tuple, locked or not -/
def noTup (u : HO) : Prop := (∀ xs, u ≠ .tup xs) ∧ ∀ o xs, u ≠ .frz o (.tup xs)
theorem noTup_lst {xs : List V} : noTup (.lst xs) := ⟨fun _ z => (nomatch z), fun _ _ z => (nomatch z)⟩
theorem noTup_dK {xs : List (Key × V)} : noTup (.dK xs) := ⟨fun _ z => (nomatch z), fun _ _ z => (nomatch z)⟩
theorem noTup_dT {xs : List (List Key × V)} : noTup (.dT xs) := ⟨fun _ z => (nomatch z), fun _ _ z => (nomatch z)⟩
theorem noTup_ins {C dx : Addr} {fs : List (Str × V)} : noTup (.ins C dx fs) := ⟨fun _ z => (nomatch z), fun _ _ z => (nomatch z)⟩
section
variable {K : PySem.W.Frag} {H : Hp} {D : Addr} {u o : HO}
theorem SqT_skip {a : Addr} {xs : List V} (hD : H D = some u) (hu : noTup u) (h : SqT K H a xs) : SqT K (upd H D o) a xs := by
  rcases h with (h | ⟨ob, h⟩) | h
  · refine .inl (.inl (upd_skip (fun e => ?_) h))
    subst e; rw [hD] at h; exact hu.1 _ (Option.some.inj h)
  · refine .inl (.inr ⟨ob, upd_skip (fun e => ?_) h⟩)
    subst e; rw [hD] at h; exact hu.2 _ _ (Option.some.inj h)
  · exact .inr h
theorem RuleT.skip {v : V} {r : Rule} (hD : H D = some u) (hu : noTup u) (h : RuleT K H v r) : RuleT K (upd H D o) v r := by
  obtain ⟨t, g, e, h1, h2⟩ := h; exact ⟨t, g, e, SqT_skip hD hu h1, SqT_skip hD hu h2⟩
theorem RulesT.skip {a : Addr} {rs : List Rule} (hD : H D = some u) (hu : noTup u) (h : RulesT K H a rs) : RulesT K (upd H D o) a rs := by
  obtain ⟨vs, h1, h2⟩ := h; exact ⟨vs, SqT_skip hD hu h1, Paired.mapP h2 fun _ _ => RuleT.skip hD hu⟩
theorem But.skip {H' : Hp} {p q : Addr} (b : But p H H') (n : H q = none) : But p H (L2.upd H' q o) := fun c x hc h => upd_skip (ne_of_none h n) (b c x hc h)
end
/-! ### answers -/
def ansD (ans : List (Str × Str)) : List (Key × V) := ans.map fun p => (Sum.inr p.1, V.str p.2)
def ansOf (ans : List (Str × Str)) (s : Str) : Str := (ans.lookup s).getD ""
def ansV (rs : List Rule) (ans : List (Str × Str)) : List (Key × V) := (statesR rs).map fun s => (Sum.inr s, V.str (ansOf ans s))
theorem ansD_val (ans : List (Str × Str)) (z : Str) : valV (ansD ans) (Sum.inr z) = (ans.lookup z).map V.str := by
  induction ans with
  | nil => rfl
  | cons p ans ih =>
    obtain ⟨x, y⟩ := p
    show valV ((Sum.inr x, V.str y) :: ansD ans) _ = _
    rw [List.lookup_cons]
    by_cases h : z = x
    · subst h; rw [valV_pos rfl]; simp
    · rw [valV_neg (fun e => h (Sum.inr.inj e).symm), ih]
      have : (z == x) = false := by simpa using h
      rw [this]
theorem ansD_get (ans : List (Str × Str)) (z : Str) : ((ans.lookup z).map V.str).getD (.str "") = .str (ansOf ans z) := by
  unfold ansOf; cases ans.lookup z <;> rfl
theorem mapD_val (f : Str → Str) (zs : List Str) (z : Str) : valV (zs.map fun s => ((Sum.inr s : Key), V.str (f s))) (Sum.inr z) = if z ∈ zs then some (.str (f z)) else none := by
  induction zs with
  | nil => rfl
  | cons y zs ih =>
    rw [List.map_cons]
    by_cases h : y = z
    · subst h; rw [valV_pos rfl, if_pos List.mem_cons_self]
    · rw [valV_neg (fun e => h (Sum.inr.inj e)), ih]
      by_cases h2 : z ∈ zs
      · rw [if_pos h2, if_pos (List.mem_cons_of_mem _ h2)]
      · rw [if_neg h2, if_neg]
        intro hm
        rcases List.mem_cons.mp hm with e | e
        · exact h e.symm
        · exact h2 e
/-- the answers are right: for states alone, names or the empty text -/
def ansOk (rs : List Rule) (ans : List (Str × Str)) : Prop := (∀ p ∈ ans, p.1 ∈ statesR rs ∧ (p.2 = "" ∨ isNameB p.2 = true)) ∧ ans.length ≤ 50
theorem ansOk_of {rs : List Rule} {ans : List (Str × Str)} (h : ansOk rs ans) (z : Str) : ansOf ans z = "" ∨ isNameB (ansOf ans z) = true := by
  unfold ansOf
  cases e : ans.lookup z with
  | none => exact .inl rfl
  | some y =>
    have hm : (z, y) ∈ ans := by
      clear h
      induction ans with
      | nil => simp at e
      | cons p ans ih =>
        obtain ⟨a, b⟩ := p
        rw [List.lookup_cons] at e
        by_cases hz : (z == a) = true
        · rw [hz] at e
          have : b = y := Option.some.inj e
          rw [← this, eq_of_beq hz]; exact List.mem_cons_self
        · have hz : (z == a) = false := by simpa using hz
          rw [hz] at e
          exact List.mem_cons_of_mem _ (ih e)
    exact (h.1 _ hm).2
/-! ### the table of a loop -/
def placesG (g : Str) : List Str := if g = "none" then ["none"] else groupS g
theorem fitsG_places (p g : Str) : fitsG p g = decide (p ∈ placesG g) := by
  unfold fitsG placesG
  split
  · simp
  · rfl
def tabF (rs : List Rule) (i : Nat) (st : Str) (acc : List Str) (s p : Str) : Option Nat := match fitIdx (rs.take i) s p with
  | some k => some k
  | none => if s = st ∧ p ∈ acc then some i else none
def TabIs (tab : List (List Key × V)) (f : Str → Str → Option Nat) : Prop := ∀ s p : Str, valV tab [Sum.inr s, Sum.inr p] = (f s p).map fun (k : Nat) => V.int (k : Int)
theorem tabF_nil (rs : List Rule) (i : Nat) (st : Str) : tabF rs i st [] = fitIdx (rs.take i) := by
  funext s p; unfold tabF; cases fitIdx (rs.take i) s p <;> simp
theorem tab_end {rs : List Rule} {i : Nat} {r : Rule} (h : rs[i]? = some r) : tabF rs i r.st (r.gs.flatMap placesG) = fitIdx (rs.take (i + 1)) := by
  funext s p
  rw [take_snoc h, fitIdx_snoc]
  unfold tabF
  cases fitIdx (rs.take i) s p with
  | some k => rfl
  | none =>
    have hl : (rs.take i).length = i := by
      rw [List.length_take]
      have := (List.getElem?_eq_some_iff.mp h).1
      omega
    rw [hl]
    show (if _ then _ else _) = if _ then _ else _
    congr 1
    apply propext
    unfold hitR Rule.fits
    simp only [Bool.and_eq_true, decide_eq_true_eq, List.any_eq_true, List.mem_flatMap, fitsG_places]
    exact ⟨fun ⟨h1, h2⟩ => ⟨h1.symm, h2⟩, fun ⟨h1, h2⟩ => ⟨h1.symm, h2⟩⟩
theorem tab_some {tab : List (List Key × V)} {rs : List Rule} {i : Nat} {st : Str} {acc : List Str} {p : Str} {v : V} (h : TabIs tab (tabF rs i st acc)) (hv : valV tab [Sum.inr st, Sum.inr p] = some v) : TabIs tab (tabF rs i st (acc ++ [p])) := by
  intro s q
  rw [h s q]
  congr 1
  have := (h st p).symm.trans hv
  unfold tabF at this ⊢
  cases e : fitIdx (rs.take i) s q with
  | some k => rfl
  | none =>
    show (if _ then _ else _) = if _ then _ else _
    by_cases hs : s = st ∧ q = p
    · obtain ⟨rfl, rfl⟩ := hs
      rw [e] at this
      by_cases hm : q ∈ acc
      · rw [if_pos ⟨rfl, hm⟩, if_pos ⟨rfl, List.mem_append_left _ hm⟩]
      · exfalso
        rw [show (match (none : Option Nat) with | some k => some k | none => if s = s ∧ q ∈ acc then some i else none) = if s = s ∧ q ∈ acc then some i else none from rfl, if_neg (fun z => hm z.2)] at this
        exact nomatch this
    · congr 1
      apply propext
      rw [List.mem_append, List.mem_singleton]
      exact ⟨fun ⟨h1, h2⟩ => ⟨h1, .inl h2⟩, fun ⟨h1, h2⟩ => ⟨h1, h2.resolve_right fun z => hs ⟨h1, z⟩⟩⟩
theorem tab_none {tab : List (List Key × V)} {rs : List Rule} {i : Nat} {st : Str} {acc : List Str} {p : Str} (h : TabIs tab (tabF rs i st acc)) (hv : valV tab [Sum.inr st, Sum.inr p] = none) : TabIs (putK tab [Sum.inr st, Sum.inr p] (.int (i : Int))) (tabF rs i st (acc ++ [p])) := by
  intro s q
  rw [valV_put]
  have hn := (h st p).symm.trans hv
  by_cases hs : s = st ∧ q = p
  · obtain ⟨rfl, rfl⟩ := hs
    rw [if_pos rfl]
    unfold tabF at hn ⊢
    cases e : fitIdx (rs.take i) s q with
    | some k => rw [e] at hn; exact nomatch hn
    | none =>
      show _ = (if _ then _ else _ : Option Nat).map _
      rw [if_pos ⟨rfl, List.mem_append_right _ (List.mem_singleton_self _)⟩]; rfl
  · rw [if_neg (fun e => hs (by injection e with e1 e2; injection e2 with e2 _; exact ⟨(Sum.inr.inj e1), (Sum.inr.inj e2)⟩)), h s q]
    congr 1
    unfold tabF
    cases e : fitIdx (rs.take i) s q with
    | some k => rfl
    | none =>
      show (if _ then _ else _) = if _ then _ else _
      congr 1
      apply propext
      rw [List.mem_append, List.mem_singleton]
      exact ⟨fun ⟨h1, h2⟩ => ⟨h1, .inl h2⟩, fun ⟨h1, h2⟩ => ⟨h1, h2.resolve_right fun z => hs ⟨h1, z⟩⟩⟩
theorem placesG_len (g : Str) (h : isGroupB g = true) : (placesG g).length ≤ 11 := by
  unfold placesG
  split
  · decide
  · unfold groupS
    split
    · show 1 ≤ 11; decide
    · unfold isGroupB at h
      rename_i _ hz
      rw [decide_eq_false hz, Bool.false_or] at h
      obtain ⟨ys, hy⟩ := Option.isSome_iff_exists.mp h
      rw [hy]
      have : ∀ q ∈ LG, q.2.length ≤ 11 := by decide +kernel
      have hm : ∃ x, (x, ys) ∈ LG := by
        clear h this
        generalize LG = l at hy
        induction l with
        | nil => simp at hy
        | cons p l ih =>
          obtain ⟨a, b⟩ := p
          rw [List.lookup_cons] at hy
          split at hy
          · exact ⟨a, by rw [Option.some.inj hy]; exact List.mem_cons_self⟩
          · obtain ⟨x, hx⟩ := ih hy; exact ⟨x, List.mem_cons_of_mem _ hx⟩
      obtain ⟨x, hx⟩ := hm
      exact this _ hx
theorem flat_len {gs : List Str} (h : ∀ g ∈ gs, isGroupB g = true) : (gs.flatMap placesG).length ≤ 11 * gs.length := by
  induction gs with
  | nil => simp
  | cons g gs ih =>
    rw [List.flatMap_cons, List.length_append, List.length_cons]
    have h1 := placesG_len g (h g List.mem_cons_self)
    have h2 := ih fun x hx => h x (List.mem_cons_of_mem _ hx)
    omega
/-! ### a loop, in the heap -/
def LoopAt (K : PySem.W.Frag) (C : Addr) (H : Hp) (p : Addr) (rs : List Rule) (ans : List (Str × Str)) : Prop :=
  ∃ (dx ra rd rt : Addr) (tab : List (List Key × V)), H p = some (.ins C dx [("own_rules", .ref ra), ("own_answers", .ref rd), ("table", .ref rt)]) ∧ RulesT K H ra rs ∧ H rd = some (.dK (ansV rs ans)) ∧ H rt = some (.dT tab) ∧ TabIs tab (fitIdx rs)
theorem LoopAt.same {K : PySem.W.Frag} {C : Addr} {H H' : Hp} {p : Addr} {rs : List Rule} {ans : List (Str × Str)} (s : Same H H') (h : LoopAt K C H p rs ans) : LoopAt K C H' p rs ans := by
  obtain ⟨dx, ra, rd, rt, tab, h1, h2, h3, h4, h5⟩ := h
  exact ⟨dx, ra, rd, rt, tab, s _ _ h1, h2.same s, s _ _ h3, s _ _ h4, h5⟩
/-! ### a run, in the heap -/
def RunAt (K : PySem.W.Frag) (C : Addr) (H : Hp) (p : Addr) (r : RS) (an : Str) : Prop :=
  ∃ (dx a b c : Addr), H p = some (.ins C dx [("words", .ref a), ("keeps", .ref b), ("kept", .ref c), ("state", .str r.st), ("answer", .str an)]) ∧ H a = some (.tup (r.words.map V.str)) ∧ H b = some (.tup (r.keeps.map V.bl)) ∧ H c = some (.tup (r.kept.map V.int))
theorem RunAt.same {K : PySem.W.Frag} {C : Addr} {H H' : Hp} {p : Addr} {r : RS} {an : Str} (s : Same H H') (h : RunAt K C H p r an) : RunAt K C H' p r an := by
  obtain ⟨dx, a, b, c, h1, h2, h3, h4⟩ := h
  exact ⟨dx, a, b, c, s _ _ h1, s _ _ h2, s _ _ h3, s _ _ h4⟩
theorem But.both {p : Addr} {H H' : Hp} (b : But p H H') (h : ∀ o, H p = some o → H' p = some o) : Same H H' := fun c x hc => by
  by_cases e : c = p
  · subst e; exact h x hc
  · exact b c x e hc
def lastV (ks : List Int) : V := match ks.getLast? with
  | none => .non
  | some k => .int k
theorem atI_last {xs : List V} {x : V} (h : xs.getLast? = some x) : atI xs (-1) = some x := by
  have hne : xs ≠ [] := fun e => by rw [e] at h; exact nomatch h
  have hl : 0 < xs.length := by cases xs with | nil => exact absurd rfl hne | cons _ _ => simp
  rw [List.getLast?_eq_getElem?] at h
  have e : ixN xs.length (-1) = some (xs.length - 1) := by
    unfold ixN
    split <;> first | omega | (split <;> first | omega | (congr 1; omega))
  unfold atI; rw [e]; exact h
/-- a row that stands in the heap -/
def RowAt (H : Hp) (a : Addr) (xs : List V) : Prop := H a = some (.lst xs) ∨ H a = some (.tup xs)
theorem RowAt.sq {K : PySem.W.Frag} {H : Hp} {a : Addr} {xs : List V} (h : RowAt H a xs) : Sq K H a xs := by
  rcases h with h | h
  · exact Sq.lst h
  · exact Sq.tup h
theorem RowAt.same {H H' : Hp} {a : Addr} {xs : List V} (s : Same H H') (h : RowAt H a xs) : RowAt H' a xs := by
  rcases h with h | h
  · exact .inl (s _ _ h)
  · exact .inr (s _ _ h)
theorem RowAt.stays {H H1 H' : Hp} {a : Addr} {xs : List V} (h : RowAt H a xs) (s1 : Same H H1) (s2 : Same H H') {o : HO} (ho : H1 a = some o) : H' a = some o := by
  rcases h with h | h
  · have := (s1 _ _ h).symm.trans ho
    rw [← this]; exact s2 _ _ h
  · have := (s1 _ _ h).symm.trans ho
    rw [← this]; exact s2 _ _ h
end NL
/-! len(x), x == y by a class's own methods -/
namespace NL
open PySem L2
section
variable {X : Cx} {CX : CXT} {n : Nat} {f C : Addr} {fd : FuncData} {ps : List Str} {sp : Sp} {E : XK}
/-- a call of an own method from within a builtin -/
theorem run_own (F : FnOk X.prog X.w X.K X.mg X.base CX n f fd ps sp) {A : Around} (hroom : Room n A) (hfr : A.frames = X.A.frames) (hb : Binds X.K fd ps []) (hx : Passes CX X E) {pins : List (Addr × Obj)} {s : Shared} {σ : L2.St} {H : Hp} {vs : List V} {us : List Value} {Q : VK}
    (I : Inv X pins σ H s) (r : Vals vs us) (h : sp vs H Q E) : wpAny (model X.prog X.w) A (call (.ref f) us) (EP X pins σ Q) X.xe s := by
  have e0 : Env0 X.prog X.w X.K X.mg X.base A X.stack s H := by
    have e := I.env0
    exact ⟨by rw [hfr]; exact e.frames, e.mod, e.bs, e.bsz, e.funs, e.frf, e.hok, e.bare⟩
  have hl := F.len _ _ _ _ h
  have hl2 := r.length
  refine wpAny_call (codeAny_mono (F.run A X.stack s H ⟨us, []⟩ us vs _ E hroom e0 (by
    have := hb s us I.kIn (by simp only [List.append_nil]; omega)
    simpa using this) r h) fun rr s' hq => ?_)
  cases rr with
  | error e => exact hx pins σ H s e s' I hq
  | ok fl =>
    cases fl with
    | ret w =>
      obtain ⟨z, H', I', rz, q⟩ := I.after hq
      exact ⟨z, H', I', rz, q⟩
    | next => exact False.elim hq
    | brk => exact False.elim hq
    | cont => exact False.elim hq
def rLenO (C : Addr) (sp : Sp) (E : XK) : List V → Hp → VK → Prop := fun xs H Q => ∃ a dx fs, xs = [.ref a] ∧ H a = some (.ins C dx fs) ∧ sp [.ref a] H (fun v H' => ∃ i : Int, v = .int i ∧ (0 ≤ i ∧ i < 2 ^ 63) ∧ Q (.int i) H') E
theorem call_lenO (F : FnOk X.prog X.w X.K X.mg X.base CX n f fd ps sp) (hroom : Room (n + 1) X.A) (M : Meth X.K C "__len__" f) (hb : Binds X.K fd ps []) (hx : Passes CX X E) : CallR X (.builtin "len") (rLenO C sp E) := by
  intro pins s σ H xs us Q I r h
  obtain ⟨a, dx, fs, rfl, ha, h⟩ := h
  obtain ⟨u, rfl, rx⟩ := vals1 r
  cases rx
  obtain ⟨mA, J, _⟩ := ins_get I.hok ha
  obtain ⟨od, J, _⟩ := J.look
  obtain ⟨m, hF⟩ := I.fr
  refine PySem.W.len_K hF I.ok.mod.kin J M.at_ M.fn (wpAny_mono (run_own F hroom.in1 rfl hb hx I r h) (fun v s' q => ?_) fun _ _ e => e)
  obtain ⟨z, H', I', rz, i, rfl, hi, q⟩ := q
  obtain ⟨t, rfl⟩ := rz
  exact ⟨hi, .int i, H', I'.tok _, ⟨_, rfl⟩, q⟩
/-- x == y, x of the class at C, y of the same class or any value with a look -/
def rEqO (C : Addr) (sp : Sp) (E : XK) : R2 := fun x y H Q => ∃ a dx fs b dy gs, x = .ref a ∧ y = .ref b ∧ H a = some (.ins C dx fs) ∧ H b = some (.ins C dy gs) ∧ sp [.ref a, .ref b] H (fun v H' => ∃ i : Bool, v = .bl i ∧ Q (.bl i) H') E
theorem op_eqO (F : FnOk X.prog X.w X.K X.mg X.base CX n f fd ps sp) (hroom : Room n X.A) (M : Meth X.K C "__eq__" f) (hb : Binds X.K fd ps []) (hx : Passes CX X E) : OpR X (compareOp .Eq) (rEqO C sp E) := by
  intro pins s σ H x y v u Q I rx ry hq
  obtain ⟨a, dx, fs, b, dy, gs, rfl, rfl, ha, hb', h⟩ := hq
  show wpAny (model X.prog X.w) X.A (richCompare .Eq v u) (EP X pins σ Q) X.xe s
  cases rx
  cases ry
  obtain ⟨mA, J, _⟩ := ins_get I.hok ha
  obtain ⟨mB, J', _⟩ := ins_get I.hok hb'
  obtain ⟨od, J, _⟩ := J.look
  obtain ⟨od', J', _⟩ := J'.look
  obtain ⟨m, hF⟩ := I.fr
  refine PySem.W.cmp_K (op := .Eq) (tb := .ref C) hroom.units0 hF I.ok.mod.kin J J'.type (by simp [PySem.W.notFirst]) M.at_ M.fn ?_
  have r2 : Vals [V.ref a, V.ref b] [Value.ref a, Value.ref b] := .cons rfl (.cons rfl .nil)
  refine wpAny_mono (run_own F hroom rfl hb hx I r2 h) (fun v s' q => ?_) fun _ _ e => e
  obtain ⟨z, H', I', rz, i, rfl, q⟩ := q
  cases rz
  exact ⟨.bl i, H', I', rfl, q⟩
end
end NL
/-! d.update(e), both with keys that are ints and texts -/
namespace NL
open PySem L2
def tDUpd (td ty : TE) : TE := fun σ H Q => td σ H fun x H1 => ∃ a, x = .ref a ∧ IsD H1 a ∧ ty σ H1 fun y H2 => ∃ (b : Addr) (kvs more : List (Key × V)), y = .ref b ∧ a ≠ b ∧ H2 a = some (.dK kvs) ∧ H2 b = some (.dK more) ∧ kvs.length + more.length ≤ sizeLine ∧ Q .non (upd H2 a (.dK (mergeK kvs more)))
theorem pe_dupd {X : Cx} {o e : Expr} {td ty : TE} {apos cpos : Pos} (ho : PE X o td) (he : PE X e ty) (m : M1 X o "update" apos e cpos) : PE X (.Call (.Attribute o "update" apos) [e] [] cpos) (tDUpd td ty) := by
  refine ⟨fun pins s σ H Q I h => ?_⟩
  refine wpAny_Call_method m.base m.few m.line PySem.F.plainAttrs_dict PySem.F.slot_dict_update PySem.F.type_dict_update (thn (ho.run pins s σ H _ I h) fun u s1 ⟨x, H1, I1, rx, a, ex, d, q1⟩ => ?_)
  subst ex
  obtain rfl : u = Value.ref a := rx
  obtain ⟨t1, t2, _⟩ := isD_at I1 d
  refine ⟨t1, t2, ?_⟩
  rw [m.trees]
  refine Calls.callWith_builtin rfl (Calls.evalArgs_plain (Calls.spliced_cons (thn (he.run pins s1 σ H1 _ I1 q1) fun iv s2 ⟨y, H2, I2, ry, b, kvs, more, ey, hne, ea, eb, hz, q⟩ => Calls.spliced_nil ?_)))
  subst ey
  obtain rfl : iv = Value.ref b := ry
  obtain ⟨z1, l1, vs, rel, dd⟩ := dk_of I2.hok ea
  obtain ⟨z2, l2, ws, rel2, dd2⟩ := dk_of I2.hok eb
  refine call_meetsIn PySem.F.slot_dict_update dd.typeIs PySem.F.entry_dict_update (PySem.F.args_dict_update_2 _ _) (meets_dict_update (mixKind X.prog X.w) a b hne l2)
    ⟨vs, ws, dd, dd2, (by rw [← Paired.length rel, ← Paired.length rel2]; exact hz), fun h' hmm _ hs => ?_⟩
  have hz2 : (mergeK kvs more).length ≤ sizeLine := Nat.le_trans (length_mergeK more kvs) hz
  have hex : ∃ q, h'.get? a = some q := by obtain ⟨o, es, ep, hq, _⟩ := id hmm; exact ⟨_, hq⟩
  exact ⟨.non, _, d_write (t' := s2.toks) I2 (by rw [ea]; exact True.intro) hs hex (dk_new hz2 l1 (KV.merge rel2 rel) hmm), rfl, q⟩
end NL
namespace NL
open PySem L2
/-! ### drawn names -/
theorem isName_of {z : Str} (h1 : 1 ≤ z.cps.toList.length) (h2 : z.cps.toList.length ≤ 8) (h3 : ∀ c ∈ z.cps.toList, c ∈ ALPHA) : isNameB z = true := by
  unfold isNameB
  have e : z.length = z.cps.toList.length := by simp [Str.length]
  rw [e, decide_eq_true h1, decide_eq_true h2, Bool.true_and, Bool.true_and, List.all_eq_true]
  intro c hc; exact decide_eq_true (h3 c hc)
theorem name_len {z : Str} (h : isNameB z = true) : 1 ≤ z.length ∧ z.length ≤ 8 := by
  unfold isNameB at h
  simp only [Bool.and_eq_true, decide_eq_true_eq] at h
  exact h.1
def oneS (c : Nat) : Str := ⟨#[c]⟩
theorem joinL_ones : ∀ cs : List Nat, TL.joinL [] (cs.map fun c => [c]) = cs
  | [] => rfl
  | [c] => rfl
  | c :: d :: r => by
    show [c] ++ ([] ++ TL.joinL [] ((d :: r).map fun c => [c])) = c :: d :: r
    rw [joinL_ones (d :: r)]; rfl
theorem join_cps (cs : List Nat) : (Txt.join "" (cs.map oneS)).cps.toList = cs := by
  have e := TL.tl_join "" (cs.map oneS)
  rw [← TL.join_eq] at e
  have e2 : (cs.map oneS).map TL.tl = cs.map fun c => [c] := by rw [List.map_map]; rfl
  rw [e2] at e
  have e3 : TL.tl "" = [] := rfl
  rw [e3, joinL_ones] at e
  exact e
theorem ones_sum : ∀ cs : List Nat, ((cs.map oneS).map (·.length)).sum = cs.length
  | [] => rfl
  | c :: cs => by
    show 1 + ((cs.map oneS).map (·.length)).sum = cs.length + 1
    rw [ones_sum cs]; omega
theorem join_name {cs : List Nat} (h1 : 1 ≤ cs.length) (h2 : cs.length ≤ 8) (h3 : ∀ c ∈ cs, c ∈ ALPHA) : isNameB (Txt.join "" (cs.map oneS)) = true :=
  isName_of (by rw [join_cps]; exact h1) (by rw [join_cps]; exact h2) (by rw [join_cps]; exact h3)
theorem q_name {cs : List Nat} (h1 : 1 ≤ cs.length) (h2 : cs.length ≤ 8) (h3 : ∀ c ∈ cs, c ∈ ALPHA) : isNameB ("q" ++ cutS (Txt.join "" (cs.map oneS)) (some 1) none) = true := by
  have el : (Txt.join "" (cs.map oneS)).length = cs.length := by
    have := congrArg List.length (join_cps cs); simpa [Str.length] using this
  have e : ("q" ++ cutS (Txt.join "" (cs.map oneS)) (some 1) none : Str).cps.toList = 113 :: cs.drop 1 := by
    show ((("q" : Str).cps ++ (cutS (Txt.join "" (cs.map oneS)) (some 1) none).cps)).toList = _
    rw [Array.toList_append]
    unfold cutS
    rw [join_cps, el, HT.sIx_none, show (1 : Int) = ((1 : Nat) : Int) from rfl, HT.sIx_nat]
    show [113] ++ _ = _
    rw [Nat.min_eq_left (by omega)]
    simp only [List.singleton_append, List.cons.injEq, true_and]
    rw [List.take_of_length_le (by rw [List.length_drop]; omega)]
  refine isName_of ?_ ?_ ?_
  · rw [e]; simp
  · rw [e, List.length_cons, List.length_drop]; omega
  · rw [e]; intro c hc
    rcases List.mem_cons.mp hc with rfl | hc
    · decide +kernel
    · exact h3 c (List.mem_of_mem_drop hc)
def ZS : List Str := [("za" : Str), "zb", "zc", "zd", "ze", "zf", "zg", "zh", "zi", "zj", "zk", "zl", "zm", "zn", "zo", "zp", "zq"]
theorem ZS_names : ∀ z ∈ ZS, isNameB z = true := by decide +kernel
theorem ZS_nodup : ZS.Nodup := by decide +kernel
theorem nodup_len : ∀ {xs ys : List Str}, xs.Nodup → (∀ x ∈ xs, x ∈ ys) → xs.length ≤ ys.length
  | [], _, _, _ => Nat.zero_le _
  | x :: xs, ys, h, hs => by
    rw [List.nodup_cons] at h
    have hx := hs x List.mem_cons_self
    have := nodup_len (xs := xs) (ys := ys.erase x) h.2 fun y hy => by
      have hne : y ≠ x := fun e => h.1 (e ▸ hy)
      exact (List.mem_erase_of_ne hne).mpr (hs y (List.mem_cons_of_mem _ hy))
    rw [List.length_erase_of_mem hx] at this
    have hp : 0 < ys.length := List.length_pos_of_mem hx
    rw [List.length_cons]; omega
theorem z_free {ts : List Str} (h : ts.length ≤ 16) : ∃ z r, ZS.filter (fun z => !decide (z ∈ ts)) = z :: r ∧ isNameB z = true ∧ z ∉ ts := by
  cases e : ZS.filter (fun z => !decide (z ∈ ts)) with
  | nil =>
    exfalso
    have := nodup_len ZS_nodup (ys := ts) fun x hx => by
      have := List.filter_eq_nil_iff.mp e x hx
      simpa using this
    have hz : ZS.length = 17 := rfl
    omega
  | cons z r =>
    have hm : z ∈ ZS.filter (fun z => !decide (z ∈ ts)) := by rw [e]; exact List.mem_cons_self
    obtain ⟨h1, h2⟩ := List.mem_filter.mp hm
    exact ⟨z, r, rfl, ZS_names z h1, by simpa using h2⟩
/-! ### the law's own groups -/
def groupL (z : Str) : List Str := (LG.lookup z).getD [z]
theorem groupL_eq {z : Str} (h : isGroupB z = true) : groupL z = groupS z := by
  unfold groupL groupS
  by_cases hp : z ∈ PL
  · rw [if_pos hp]
    have : ∀ z ∈ PL, LG.lookup z = none := by decide +kernel
    rw [this z hp]; rfl
  · rw [if_neg hp]
    unfold isGroupB at h
    rw [decide_eq_false hp, Bool.false_or] at h
    obtain ⟨ys, hy⟩ := Option.isSome_iff_exists.mp h
    rw [hy]; rfl
/-! ### the law's own rules: a list of tuples, with lists of groups -/
def RuleL (H : Hp) (v : V) (r : Rule) : Prop := ∃ t g, v = .ref t ∧ H t = some (.tup [.str r.st, .ref g, .str r.wd, .bl r.kp, .str r.nx]) ∧ H g = some (.lst (r.gs.map V.str))
def RulesL (H : Hp) (a : Addr) (rs : List Rule) : Prop := ∃ vs, H a = some (.lst vs) ∧ Paired (RuleL H) vs rs
section
variable {K : PySem.W.Frag} {H H' : Hp}
theorem RuleL.same {v : V} {r : Rule} (s : Same H H') (h : RuleL H v r) : RuleL H' v r := by
  obtain ⟨t, g, e, h1, h2⟩ := h; exact ⟨t, g, e, s _ _ h1, s _ _ h2⟩
theorem RuleL.at {v : V} {r : Rule} (h : RuleL H v r) : RuleAt K H v r := by
  obtain ⟨t, g, e, h1, h2⟩ := h; exact ⟨t, g, e, Sq.tup h1, Sq.lst h2⟩
theorem RulesL.same {a : Addr} {rs : List Rule} (s : Same H H') (h : RulesL H a rs) : RulesL H' a rs := by
  obtain ⟨vs, h1, h2⟩ := h; exact ⟨vs, s _ _ h1, Paired.mapP h2 fun _ _ => RuleL.same s⟩
theorem RulesL.at {a : Addr} {rs : List Rule} (h : RulesL H a rs) : RulesAt K H a rs := by
  obtain ⟨vs, h1, h2⟩ := h; exact ⟨vs, Sq.lst h1, Paired.mapP h2 fun _ _ => RuleL.at⟩
end
theorem find_step {α : Type} {P : α → Bool} {rs : List α} {i : Nat} {r : α} (hr : rs[i]? = some r) (h : (rs.take i).find? P = none) : (rs.take (i + 1)).find? P = if P r = true then some r else none := by
  rw [take_snoc hr, List.find?_append, h]
  show List.find? P [r] = _
  rw [List.find?_cons]
  cases P r <;> rfl
theorem find_whole {α : Type} {P : α → Bool} {rs : List α} {i : Nat} {r : α} (h : (rs.take i).find? P = some r) : rs.find? P = some r := by
  conv => lhs; rw [← List.take_append_drop i rs]
  rw [List.find?_append, h]; rfl
theorem hit_law {s p : Str} {r : Rule} (hp : p ∈ PN) : (decide (r.st = s) && r.gs.any (fitsL p)) = hitR s p r := by
  unfold hitR Rule.fits
  have : (fitsL p) = fitsG p := funext fun g => fits_eq hp
  rw [this]
/-! ### dicts of lists -/
theorem mergeK_fresh : ∀ {more acc : List (Key × V)}, ((acc ++ more).map (·.1)).Nodup → mergeK acc more = acc ++ more
  | [], acc, _ => by rw [List.append_nil]; rfl
  | (k, v) :: more, acc, h => by
    have hn : valV acc k = none := by
      cases e : valV acc k with
      | none => rfl
      | some w =>
        exfalso
        have : (acc.any fun kv => decide (kv.1 = k)) = true := by rw [valV_any, e]; rfl
        obtain ⟨x, hx, he⟩ := List.any_eq_true.mp this
        rw [List.map_append, List.map_cons, List.nodup_append] at h
        exact h.2.2 x.1 (List.mem_map.mpr ⟨x, hx, rfl⟩) k List.mem_cons_self (of_decide_eq_true he)
    show mergeK (putK acc k v) more = _
    rw [putK_new v hn, mergeK_fresh (by rw [List.append_assoc]; exact h), List.append_assoc]; rfl
def PartR (H : Hp) (kv : Key × V) (q : Str × List Str) : Prop := kv.1 = Sum.inr q.1 ∧ ∃ a, kv.2 = .ref a ∧ H a = some (.lst (q.2.map V.str))
theorem PartR.same {H H' : Hp} {kv : Key × V} {q : Str × List Str} (s : Same H H') (h : PartR H kv q) : PartR H' kv q := by
  obtain ⟨e, a, h1, h2⟩ := h; exact ⟨e, a, h1, s _ _ h2⟩
theorem parts_get {H : Hp} (z : Str) : ∀ {kvs : List (Key × V)} {lg : List (Str × List Str)}, Paired (PartR H) kvs lg →
    (lg.lookup z = none ∧ valV kvs (Sum.inr z) = none) ∨ ∃ ys a, lg.lookup z = some ys ∧ valV kvs (Sum.inr z) = some (.ref a) ∧ H a = some (.lst (ys.map V.str))
  | _, _, .nil => .inl ⟨rfl, rfl⟩
  | (k, v) :: kvs, (n, ys) :: lg, .cons ⟨e, a, h1, h2⟩ t => by
    have e : k = Sum.inr n := e
    subst e
    have h1 : v = .ref a := h1
    subst h1
    rw [List.lookup_cons]
    by_cases h : z = n
    · subst h
      rw [valV_pos rfl]
      have : (z == z) = true := by simp
      rw [this]
      exact .inr ⟨ys, a, rfl, rfl, h2⟩
    · rw [valV_neg (fun e => h (Sum.inr.inj e).symm)]
      have : (z == n) = false := by simpa using h
      rw [this]
      exact parts_get z t
/-! ### ints and bools as data -/
theorem canLay_ints : ∀ zs : List Int, PyData.canLayAll0 (zs.map PyData.int) = true
  | [] => rfl
  | z :: zs => by show (true && PyData.canLayAll0 (zs.map PyData.int)) = true; rw [canLay_ints zs]; rfl
theorem canLay_bools : ∀ zs : List Bool, PyData.canLayAll0 (zs.map PyData.bool) = true
  | [] => rfl
  | z :: zs => by show (true && PyData.canLayAll0 (zs.map PyData.bool)) = true; rw [canLay_bools zs]; rfl
theorem depth_ints : ∀ zs : List Int, PyData.depthAll (zs.map PyData.int) = 0
  | [] => rfl
  | z :: zs => by show max 0 (PyData.depthAll (zs.map PyData.int)) = 0; rw [depth_ints zs]; rfl
theorem depth_bools : ∀ zs : List Bool, PyData.depthAll (zs.map PyData.bool) = 0
  | [] => rfl
  | z :: zs => by show max 0 (PyData.depthAll (zs.map PyData.bool)) = 0; rw [depth_bools zs]; rfl
theorem shapedL_ints (zs : List Int) : SeqAt.shaped (.list (zs.map .int)) = true :=
  shaped_of (canLay_ints zs) (by show PyData.depthAll (zs.map PyData.int) + 1 ≤ 64; rw [depth_ints]; decide)
theorem shapedL_bools (zs : List Bool) : SeqAt.shaped (.list (zs.map .bool)) = true :=
  shaped_of (canLay_bools zs) (by show PyData.depthAll (zs.map PyData.bool) + 1 ≤ 64; rw [depth_bools]; decide)
theorem dpAll_bool {K : PySem.W.Frag} {H : Hp} : ∀ zs : List Bool, DpAll K H (zs.map V.bl) (zs.map PyData.bool)
  | [] => .nil
  | z :: zs => .cons (.bl z) (dpAll_bool zs)
theorem eqv_nil (zs : List Int) : PyData.eqv (.list (zs.map .int)) (.list []) = decide (zs = []) := by
  cases zs <;> rfl
theorem name_ok {z : Str} (h : isNameB z = true) : PyData.strOk z = true := by
  unfold isNameB at h
  simp only [Bool.and_eq_true, List.all_eq_true, decide_eq_true_eq] at h
  unfold PyData.strOk
  rw [Array.all_eq_true_iff_forall_mem]
  intro c hc
  have h1 := h.2 c (by simpa using hc)
  have : ∀ c ∈ ALPHA, decide (c < 0x110000) = true := by decide +kernel
  exact this c h1
/-! ### drawn rules -/
def N19 : List Str := GN.take 8 ++ PL
theorem N19_group : ∀ z ∈ N19, isGroupB z = true := by decide +kernel
def W3 : List Str := [("new" : Str), "old", "pass"]
theorem W3_name : ∀ z ∈ W3, isNameB z = true := by decide +kernel
/-- rules as the law draws them: of at most `many` states, at most `most` rules -/
structure Drawn (rs : List Rule) (many most : Int) : Prop where
  pos : 0 < rs.length
  few : (rs.length : Int) ≤ most
  wf : ∀ r ∈ rs, wfRule r = true
  gs : ∀ r ∈ rs, r.gs.length ≤ 4
  wd : ∀ r ∈ rs, r.wd ∈ W3
  st : ((statesR rs).length : Int) ≤ many
theorem Drawn.rules {rs : List Rule} {many most : Int} (h : Drawn rs many most) (h1 : many ≤ 6) (h2 : most ≤ 40) : wfRules rs :=
  ⟨h.pos, by have := h.few; omega, h.wf, by have := h.st; omega⟩
theorem Drawn.groups {rs : List Rule} {many most : Int} (h : Drawn rs many most) : ∀ r ∈ rs, r.gs.length ≤ 100 ∧ ∀ g ∈ r.gs, isGroupB g = true := fun r hr => by
  have h1 := h.gs r hr
  have h2 := h.wf r hr
  unfold wfRule at h2
  simp only [Bool.and_eq_true] at h2
  exact ⟨by omega, List.all_eq_true.mp h2.2⟩
theorem wfRule_of {r : Rule} (h1 : isNameB r.st = true) (h2 : isNameB r.wd = true) (h3 : isNameB r.nx = true) (h4 : 0 < r.gs.length) (h5 : ∀ g ∈ r.gs, isGroupB g = true) : wfRule r = true := by
  unfold wfRule
  rw [h1, h2, h3, decide_eq_true h4, List.all_eq_true.mpr h5]; rfl
theorem states_sub {rs : List Rule} {zs : List Str} (h : ∀ r ∈ rs, r.st ∈ zs ∧ r.nx ∈ zs) : (statesR rs).length ≤ zs.length := by
  refine nodup_len (statesR_nodup rs) fun x hx => ?_
  rcases statesF_mem.mp hx with h0 | ⟨r, hr, e | e⟩
  · exact nomatch h0
  · rw [e]; exact (h r hr).1
  · rw [e]; exact (h r hr).2
/-- two things put aside -/
def hide2 (H : Hp) (p q : Addr) : Hp := NL.hide (NL.hide H p) q
theorem hide2_at {H : Hp} {p q c : Addr} (h1 : c ≠ p) (h2 : c ≠ q) : hide2 H p q c = H c := by unfold hide2; rw [hide_at h2, hide_at h1]
theorem hide2_some {H : Hp} {p q c : Addr} {o : HO} (h : hide2 H p q c = some o) : c ≠ p ∧ c ≠ q ∧ H c = some o := by
  unfold hide2 at h
  by_cases e : c = q
  · rw [e, hide_self] at h; cases h
  · rw [hide_at e] at h
    by_cases e2 : c = p
    · rw [e2, hide_self] at h; cases h
    · rw [hide_at e2] at h; exact ⟨e2, e, h⟩
theorem hide2_same {H H' : Hp} {p q : Addr} (h : ∀ c o, c ≠ p → c ≠ q → H c = some o → H' c = some o) : Same (hide2 H p q) (hide2 H' p q) := fun c o hc => by
  obtain ⟨h1, h2, h3⟩ := hide2_some hc
  rw [hide2_at h1 h2]; exact h c o h1 h2 h3
theorem ansD_snoc {ans : List (Str × Str)} {z v : Str} (h : z ∉ ans.map (·.1)) : putK (ansD ans) (Sum.inr z) (.str v) = ansD (ans ++ [(z, v)]) := by
  have e : ans.lookup z = none := by
    induction ans with
    | nil => rfl
    | cons p ans ih =>
      obtain ⟨a, b⟩ := p
      rw [List.map_cons, List.mem_cons, not_or] at h
      rw [List.lookup_cons]
      have : (z == a) = false := by simpa using h.1
      rw [this]; exact ih h.2
  rw [putK_new _ (by rw [ansD_val, e]; rfl)]
  unfold ansD; rw [List.map_append]; rfl
/-! ### facts beside the source -/
theorem SqT_hide {K : PySem.W.Frag} {H : Hp} {p a : Addr} {xs : List V} {u : HO} (hp : H p = some u) (hu : noTup u) (h : SqT K H a xs) : SqT K (NL.hide H p) a xs := by
  rcases h with (h | ⟨o, h⟩) | h
  · exact .inl (.inl (hide_put h fun e => by subst e; rw [hp] at h; exact hu.1 _ (Option.some.inj h)))
  · exact .inl (.inr ⟨o, hide_put h fun e => by subst e; rw [hp] at h; exact hu.2 _ _ (Option.some.inj h)⟩)
  · exact .inr h
theorem LoopAt.hide {K : PySem.W.Frag} {C : Addr} {H : Hp} {p q : Addr} {ys : List V} {rs : List Rule} {ans : List (Str × Str)} (hp : H p = some (.lst ys)) (h : LoopAt K C H q rs ans) : LoopAt K C (NL.hide H p) q rs ans := by
  obtain ⟨dx, ra, rd, rt, tab, h1, ⟨vs, h2, h3⟩, h4, h5, h6⟩ := h
  refine ⟨dx, ra, rd, rt, tab, hide_put h1 (ne_of h1 hp fun z => nomatch z), ⟨vs, SqT_hide hp noTup_lst h2, Paired.mapP h3 fun _ _ ⟨t, g, e, k1, k2⟩ => ⟨t, g, e, SqT_hide hp noTup_lst k1, SqT_hide hp noTup_lst k2⟩⟩, hide_put h4 (ne_of h4 hp fun z => nomatch z), hide_put h5 (ne_of h5 hp fun z => nomatch z), h6⟩
theorem RunAt.hide {K : PySem.W.Frag} {C : Addr} {H : Hp} {p q : Addr} {ys : List V} {r : RS} {an : Str} (hp : H p = some (.lst ys)) (h : RunAt K C H q r an) : RunAt K C (NL.hide H p) q r an := by
  obtain ⟨dx, a, b, c, h1, h2, h3, h4⟩ := h
  exact ⟨dx, a, b, c, hide_put h1 (ne_of h1 hp fun z => nomatch z), hide_put h2 (ne_of h2 hp fun z => nomatch z), hide_put h3 (ne_of h3 hp fun z => nomatch z), hide_put h4 (ne_of h4 hp fun z => nomatch z)⟩
theorem Src.lst {H : Hp} {p : Addr} {c : Int} (h : Src H p c) : ∃ ys, H p = some (.lst ys) := by obtain ⟨_, _, e, _⟩ := h; exact ⟨_, e⟩
theorem run_words (rs : List Rule) (e : Int) (row : List Int) : ∀ w ∈ (runR rs e row).words, w = ("pass" : Str) ∨ ∃ r ∈ rs, w = r.wd := by
  suffices h : ∀ (s : RS), ∀ w ∈ (row.foldl (runStep rs e) s).words, w ∈ s.words ∨ w = ("pass" : Str) ∨ ∃ r ∈ rs, w = r.wd by
    intro w hw
    rcases h _ w hw with h | h
    · exact nomatch h
    · exact h
  induction row with
  | nil => intro s w hw; exact .inl hw
  | cons y row ih =>
    intro s w hw
    rcases ih _ w hw with h | h
    · simp only [runStep] at h
      rcases List.mem_append.mp h with h | h
      · exact .inl h
      · refine .inr ?_
        have e2 := List.mem_singleton.mp h
        unfold usedR at e2
        cases hf : rs.find? (hitR s.st (whereS s.kept y e)) with
        | none => rw [hf] at e2; exact .inl e2
        | some r => rw [hf] at e2; exact .inr ⟨r, List.mem_of_find?_eq_some hf, e2⟩
    · exact .inr h
theorem Drawn.words {rs : List Rule} {many most : Int} (h : Drawn rs many most) (e : Int) (row : List Int) : ∀ w ∈ (runR rs e row).words, PyData.strOk w = true := fun w hw => by
  rcases run_words rs e row w hw with rfl | ⟨r, hr, rfl⟩
  · decide +kernel
  · exact name_ok (W3_name _ (h.wd r hr))
theorem state_name {rs : List Rule} (hw : ∀ r ∈ rs, wfRule r = true) {z : Str} (h : z ∈ statesR rs) : isNameB z = true := by
  rcases statesF_mem.mp h with h0 | ⟨r, hr, e | e⟩
  · exact nomatch h0
  · have := hw r hr
    unfold wfRule at this
    simp only [Bool.and_eq_true] at this
    rw [e]; exact this.1.1.1.1
  · have := hw r hr
    unfold wfRule at this
    simp only [Bool.and_eq_true] at this
    rw [e]; exact this.1.1.2
theorem ans_ok {rs : List Rule} {ans : List (Str × Str)} (h : ansOk rs ans) (z : Str) : PyData.strOk (ansOf ans z) = true := by
  rcases ansOk_of h z with e | e
  · rw [e]; decide +kernel
  · exact name_ok e
def lastD (ks : List Int) : PyData := match ks.getLast? with
  | none => .none
  | some k => .int k
theorem last_dp {K : PySem.W.Frag} {H : Hp} (ks : List Int) : Dp K H (lastV ks) (lastD ks) := by
  unfold lastV lastD
  cases ks.getLast? with
  | none => exact .non
  | some k => exact .int k
theorem told_shaped {ks : List Int} {a b : Str} (h1 : PyData.strOk a = true) (h2 : PyData.strOk b = true) : SeqAt.shaped (.list [lastD ks, .str a, .str b]) = true := by
  have : (lastD ks).canLay0 = true ∧ (lastD ks).depth = 0 := by
    unfold lastD; cases ks.getLast? <;> exact ⟨rfl, rfl⟩
  refine shaped_of ?_ ?_
  · show ((lastD ks).canLay0 && (PyData.strOk a && (PyData.strOk b && true))) = true
    rw [this.1, h1, h2]; rfl
  · show max (lastD ks).depth (max 0 (max 0 0)) + 1 ≤ 64
    rw [this.2]; decide
theorem len_rep {α : Type} (k : Nat) (xs : List α) : (List.replicate k xs).flatten.length = k * xs.length := by
  induction k with
  | zero => simp
  | succ k ih => rw [List.replicate_succ, List.flatten_cons, List.length_append, ih, Nat.succ_mul, Nat.add_comm]
/-! ### lists of data -/
def fineD (d : PyData) : Prop := d.canLay0 = true ∧ d.depth ≤ 10
theorem fine_all : ∀ {ds : List PyData}, (∀ d ∈ ds, fineD d) → PyData.canLayAll0 ds = true ∧ PyData.depthAll ds ≤ 10
  | [], _ => ⟨rfl, Nat.zero_le _⟩
  | d :: ds, h => by
    obtain ⟨h1, h2⟩ := fine_all fun x hx => h x (List.mem_cons_of_mem _ hx)
    obtain ⟨h3, h4⟩ := h d List.mem_cons_self
    refine ⟨?_, ?_⟩
    · show (d.canLay0 && PyData.canLayAll0 ds) = true
      rw [h3, h1]; rfl
    · show max d.depth (PyData.depthAll ds) ≤ 10
      omega
theorem shapedL_of {ds : List PyData} (h : ∀ d ∈ ds, fineD d) : SeqAt.shaped (.list ds) = true :=
  shaped_of (fine_all h).1 (by show PyData.depthAll ds + 1 ≤ 64; have := (fine_all h).2; omega)
theorem shapedT_of {ds : List PyData} (h : ∀ d ∈ ds, fineD d) : SeqAt.shaped (.tuple ds) = true :=
  shaped_of (fine_all h).1 (by show PyData.depthAll ds + 1 ≤ 64; have := (fine_all h).2; omega)
theorem fine_tup_strs {zs : List Str} (h : ∀ z ∈ zs, PyData.strOk z = true) : fineD (.tuple (zs.map .str)) := ⟨canLay_strs h, by show PyData.depthAll (zs.map PyData.str) + 1 ≤ 10; rw [depth_strs]; decide⟩
theorem fine_tup_ints (zs : List Int) : fineD (.tuple (zs.map .int)) := ⟨canLay_ints zs, by show PyData.depthAll (zs.map PyData.int) + 1 ≤ 10; rw [depth_ints]; decide⟩
theorem fine_tup_bools (zs : List Bool) : fineD (.tuple (zs.map .bool)) := ⟨canLay_bools zs, by show PyData.depthAll (zs.map PyData.bool) + 1 ≤ 10; rw [depth_bools]; decide⟩
theorem fine_list_strs {zs : List Str} (h : ∀ z ∈ zs, PyData.strOk z = true) : fineD (.list (zs.map .str)) := ⟨canLay_strs h, by show PyData.depthAll (zs.map PyData.str) + 1 ≤ 10; rw [depth_strs]; decide⟩
theorem fine_list_ints (zs : List Int) : fineD (.list (zs.map .int)) := ⟨canLay_ints zs, by show PyData.depthAll (zs.map PyData.int) + 1 ≤ 10; rw [depth_ints]; decide⟩
theorem fine_list_bools (zs : List Bool) : fineD (.list (zs.map .bool)) := ⟨canLay_bools zs, by show PyData.depthAll (zs.map PyData.bool) + 1 ≤ 10; rw [depth_bools]; decide⟩
theorem fine_str {z : Str} (h : PyData.strOk z = true) : fineD (.str z) := ⟨h, Nat.zero_le _⟩
theorem fine_int (z : Int) : fineD (.int z) := ⟨rfl, Nat.zero_le _⟩
theorem fine_none : fineD .none := ⟨rfl, Nat.zero_le _⟩
theorem fine_last (ks : List Int) : fineD (lastD ks) := by
  unfold lastD; cases ks.getLast? <;> exact ⟨rfl, Nat.zero_le _⟩
theorem fine_nil {d : PyData} (h : d ∈ ([] : List PyData)) : fineD d := nomatch h
theorem fine_cons {d : PyData} {ds : List PyData} (h : fineD d) (h2 : ∀ x ∈ ds, fineD x) : ∀ x ∈ d :: ds, fineD x := fun x hx => by
  rcases List.mem_cons.mp hx with rfl | hx
  · exact h
  · exact h2 x hx
end NL
namespace NL
open PySem L2
/-! ### loops that never fit -/
theorem N19_none : ∀ g ∈ N19, fitsG "none" g = false := by decide +kernel
theorem used_none_of {rs : List Rule} {s p : Str} (h : ∀ r ∈ rs, hitR s p r = false) : usedR rs s p = (("pass" : Str), false, s) := by
  refine fit_none ?_
  unfold fitIdx
  rw [List.findIdx?_eq_none_iff]
  intro r hr; rw [h r hr]
theorem snoc_rep {α : Type} (n : Nat) (x : α) : List.replicate n x ++ [x] = List.replicate (n + 1) x := by
  rw [List.replicate_succ']
theorem never_one {rs : List Rule} {z0 : Str} {e : Int} (h : usedR rs z0 "none" = (("pass" : Str), false, z0)) (hs : startR rs = z0) (ns : List Int) : runR rs e ns = ⟨z0, List.replicate ns.length "pass", List.replicate ns.length false, []⟩ := by
  suffices hh : ∀ n : Nat, n ≤ ns.length → runR rs e (ns.take n) = ⟨z0, List.replicate n "pass", List.replicate n false, []⟩ by
    have := hh ns.length (Nat.le_refl _)
    rwa [List.take_length] at this
  intro n
  induction n with
  | zero => intro _; show (⟨startR rs, [], [], []⟩ : RS) = _; rw [hs]; rfl
  | succ n ih =>
    intro hn
    obtain ⟨x, hx⟩ : ∃ x, ns[n]? = some x := ⟨_, List.getElem?_eq_getElem (by omega)⟩
    rw [take_snoc hx, runR_snoc, ih (by omega)]
    have hw : whereS [] x e = "none" := rfl
    unfold runStep
    simp only [hw, h]
    rw [snoc_rep, snoc_rep]; rfl
theorem never_two {rs : List Rule} {z0 w0 : Str} {e : Int} (he : 0 < e) (h0 : usedR rs z0 "none" = (w0, true, z0)) (h : ∀ p ∈ PL, usedR rs z0 p = (("pass" : Str), false, z0)) (hs : startR rs = z0) (ns : List Int) :
    (runR rs e ns).st = z0 ∧ (runR rs e ns).words = (List.range ns.length).map (fun k => if k = 0 then w0 else "pass") ∧ (runR rs e ns).kept = ns.take 1 := by
  suffices hh : ∀ n : Nat, n ≤ ns.length → (runR rs e (ns.take n)).st = z0 ∧ (runR rs e (ns.take n)).words = (List.range n).map (fun k => if k = 0 then w0 else "pass") ∧ (runR rs e (ns.take n)).kept = (ns.take n).take 1 by
    have := hh ns.length (Nat.le_refl _)
    rwa [List.take_length] at this
  intro n
  induction n with
  | zero => intro _; exact ⟨hs, rfl, rfl⟩
  | succ n ih =>
    intro hn
    obtain ⟨x, hx⟩ : ∃ x, ns[n]? = some x := ⟨_, List.getElem?_eq_getElem (by omega)⟩
    obtain ⟨i1, i2, i3⟩ := ih (by omega)
    rw [take_snoc hx, runR_snoc, List.range_succ, List.map_append]
    cases n with
    | zero =>
      have hw : whereS [] x e = "none" := rfl
      have e0 : (runR rs e (ns.take 0)) = ⟨startR rs, [], [], []⟩ := rfl
      rw [e0, hs]
      unfold runStep
      simp only [hw, h0]
      exact ⟨trivial, rfl, rfl⟩
    | succ m =>
      obtain ⟨y, ys, hy⟩ : ∃ y ys, ns.take (m + 1) = y :: ys := by
        cases hns : ns with
        | nil => rw [hns] at hn; simp at hn
        | cons y ys => exact ⟨y, ys.take m, rfl⟩
      have hk : (runR rs e (ns.take (m + 1))).kept = [y] := by rw [i3, hy]; rfl
      have hw : whereS (runR rs e (ns.take (m + 1))).kept x e ∈ PL := by rw [hk]; exact placeS_mem he
      have hu := h _ hw
      unfold runStep
      simp only [i1, hu]
      refine ⟨trivial, ?_, ?_⟩
      · rw [i2]; rfl
      · show (runR rs e (ns.take (m + 1))).kept = _
        rw [hk, hy]; rfl
end NL
local macro_rules | `(tactic| walk_at "hp") => `(tactic| first | assumption | exact L2.upd_same | (refine NL.upd_keep ?_ (by assumption); walk_at "hp") | (refine NL.upd_skip (by assumption) ?_; walk_at "hp") | (refine NL.But.at (by assumption) (by assumption) ?_; walk_at "hp"))
local macro_rules | `(tactic| walk_at "sq") => `(tactic| first | assumption | exact L2.SqL.of (by walk_at "hp") | exact L2.SqT.of (by walk_at "hp"))
local macro_rules | `(tactic| walk_at "at") => `(tactic| first | rfl | assumption)
local macro_rules | `(tactic| walk_at "ixN") => `(tactic| first | rfl | assumption)
local macro_rules | `(tactic| walk_at "pos") => `(tactic| first | assumption | (show (_ : Int) < _; omega) | decide)
local macro_rules | `(tactic| walk_at "len") => `(tactic| first | exact NL.sz1000 (by decide) | exact NL.sz100k (by decide) | exact NL.sz100k (by omega) | exact NL.sz100k (by simp))
local macro_rules | `(tactic| walk_at "mul") => `(tactic| first | (refine Or.inl ⟨?_, ?_⟩ <;> omega) | (refine Or.inr ⟨?_, ?_⟩ <;> omega))
local macro_rules | `(tactic| walk_at "pow") => `(tactic| first | exact ⟨by decide, by decide, by decide⟩ | exact ⟨by decide, by decide, by omega⟩)
local macro_rules | `(tactic| walk_at "div") => `(tactic| first | assumption | exact L2.wide_div (b := 100) (by omega) (by omega) (by decide) (by decide))
local macro_rules | `(tactic| walk_at "arith") => `(tactic| first | decide | omega)
local macro_rules | `(tactic| walk_at "tyx") => `(tactic| first | exact L2.TyX.base (L2.TyOf.int _) | exact L2.TyX.base (L2.TyOf.str _) | exact L2.TyX.base (L2.TyOf.bl _) | exact L2.TyX.base L2.TyOf.non | exact L2.TyX.base (L2.TyOf.lst (by walk_at "hp")) | exact L2.TyX.base (L2.TyOf.tup (by walk_at "hp")))
local macro_rules | `(tactic| walk_at "dlen") => `(tactic| (apply Nat.lt_of_le_of_lt; (repeat (first | exact NL.dl0 _ (by simp) | apply NL.dl1)); decide))
local macro_rules | `(tactic| walk_at "dval") => `(tactic| (simp only [L2.mergeK, List.foldl_cons, List.foldl_nil, L2.valV_put]; repeat (first | rw [if_pos True.intro] | rw [if_pos rfl] | rw [if_neg (by decide +kernel)])))
namespace Law
open PySem L2 NL
def topS (i : Nat) : Stmt := PySem.Challenge.pw_nearloops_k21_loops_that_never_fit.main.body.getD i (.Pass ⟨0, 0, 0, 0⟩)
abbrev s_is_name : Stmt := topS 16
abbrev N_is_name : List Str := ["value", "sign"]
theorem sc_is_name : FnScope N_is_name ["value"] (defScope s_is_name) := ⟨rfl, rfl, rfl, by decide +kernel, rfl, by decide +kernel, by decide +kernel⟩
abbrev s_is_number : Stmt := topS 17
abbrev N_is_number : List Str := ["value"]
theorem sc_is_number : FnScope N_is_number ["value"] (defScope s_is_number) := ⟨rfl, rfl, rfl, by decide +kernel, rfl, by decide +kernel, by decide +kernel⟩
abbrev s_check_number : Stmt := topS 18
abbrev N_check_number : List Str := ["value"]
theorem sc_check_number : FnScope N_check_number ["value"] (defScope s_check_number) := ⟨rfl, rfl, rfl, by decide +kernel, rfl, by decide +kernel, by decide +kernel⟩
abbrev s_check_tolerance : Stmt := topS 19
abbrev N_check_tolerance : List Str := ["value"]
theorem sc_check_tolerance : FnScope N_check_tolerance ["value"] (defScope s_check_tolerance) := ⟨rfl, rfl, rfl, by decide +kernel, rfl, by decide +kernel, by decide +kernel⟩
abbrev s_check_row : Stmt := topS 20
abbrev N_check_row : List Str := ["row", "number"]
theorem sc_check_row : FnScope N_check_row ["row"] (defScope s_check_row) := ⟨rfl, rfl, rfl, by decide +kernel, rfl, by decide +kernel, by decide +kernel⟩
abbrev s_sign_of : Stmt := topS 21
abbrev N_sign_of : List Str := ["first", "second"]
theorem sc_sign_of : FnScope N_sign_of ["first", "second"] (defScope s_sign_of) := ⟨rfl, rfl, rfl, by decide +kernel, rfl, by decide +kernel, by decide +kernel⟩
abbrev s_place_of : Stmt := topS 22
abbrev N_place_of : List Str := ["step", "sign"]
theorem sc_place_of : FnScope N_place_of ["step", "sign"] (defScope s_place_of) := ⟨rfl, rfl, rfl, by decide +kernel, rfl, by decide +kernel, by decide +kernel⟩
abbrev s_place : Stmt := topS 23
abbrev N_place : List Str := ["x", "kept", "tolerance"]
theorem sc_place : FnScope N_place ["x", "kept", "tolerance"] (defScope s_place) := ⟨rfl, rfl, rfl, by decide +kernel, rfl, by decide +kernel, by decide +kernel⟩
abbrev s_is_group : Stmt := topS 24
abbrev N_is_group : List Str := ["name"]
theorem sc_is_group : FnScope N_is_group ["name"] (defScope s_is_group) := ⟨rfl, rfl, rfl, by decide +kernel, rfl, by decide +kernel, by decide +kernel⟩
abbrev s_group : Stmt := topS 25
abbrev N_group : List Str := ["name"]
theorem sc_group : FnScope N_group ["name"] (defScope s_group) := ⟨rfl, rfl, rfl, by decide +kernel, rfl, by decide +kernel, by decide +kernel⟩
abbrev s_is_rule : Stmt := topS 29
abbrev N_is_rule : List Str := ["rule", "state", "groups", "word", "keeps", "after", "name"]
theorem sc_is_rule : FnScope N_is_rule ["rule"] (defScope s_is_rule) := ⟨rfl, rfl, rfl, by decide +kernel, rfl, by decide +kernel, by decide +kernel⟩
abbrev s_states_of : Stmt := topS 30
abbrev N_states_of : List Str := ["rules", "found", "state", "groups", "word", "keeps", "after"]
theorem sc_states_of : FnScope N_states_of ["rules"] (defScope s_states_of) := ⟨rfl, rfl, rfl, by decide +kernel, rfl, by decide +kernel, by decide +kernel⟩
abbrev s_invalid_rule : Stmt := topS 31
abbrev N_invalid_rule : List Str := ["rules", "line"]
theorem sc_invalid_rule : FnScope N_invalid_rule ["rules"] (defScope s_invalid_rule) := ⟨rfl, rfl, rfl, by decide +kernel, rfl, by decide +kernel, by decide +kernel⟩
abbrev s_Loop___init__ : Stmt := inClass (topS 32) 0
abbrev N_Loop___init__ : List Str := ["self", "rules", "answers", "line", "copied", "rule", "given", "found", "state", "key", "answer", "k", "groups", "word", "keeps", "after", "name", "place"]
theorem sc_Loop___init__ : FnScope N_Loop___init__ ["self", "rules", "answers"] (defScope s_Loop___init__) := ⟨rfl, rfl, rfl, by decide +kernel, rfl, by decide +kernel, by decide +kernel⟩
abbrev s_Loop_start : Stmt := inClass (topS 32) 4
abbrev N_Loop_start : List Str := ["self"]
theorem sc_Loop_start : FnScope N_Loop_start ["self"] (defScope s_Loop_start) := ⟨rfl, rfl, rfl, by decide +kernel, rfl, by decide +kernel, by decide +kernel⟩
abbrev s_Loop_answers : Stmt := inClass (topS 32) 5
abbrev N_Loop_answers : List Str := ["self"]
theorem sc_Loop_answers : FnScope N_Loop_answers ["self"] (defScope s_Loop_answers) := ⟨rfl, rfl, rfl, by decide +kernel, rfl, by decide +kernel, by decide +kernel⟩
abbrev s_used : Stmt := topS 33
abbrev N_used : List Str := ["loop", "state", "place", "k"]
theorem sc_used : FnScope N_used ["loop", "state", "place"] (defScope s_used) := ⟨rfl, rfl, rfl, by decide +kernel, rfl, by decide +kernel, by decide +kernel⟩
abbrev s_Run___init__ : Stmt := inClass (topS 35) 0
abbrev N_Run___init__ : List Str := ["self", "words", "keeps", "kept", "state", "answer"]
theorem sc_Run___init__ : FnScope N_Run___init__ ["self", "words", "keeps", "kept", "state", "answer"] (defScope s_Run___init__) := ⟨rfl, rfl, rfl, by decide +kernel, rfl, by decide +kernel, by decide +kernel⟩
abbrev s_Run_last : Stmt := inClass (topS 35) 1
abbrev N_Run_last : List Str := ["self"]
theorem sc_Run_last : FnScope N_Run_last ["self"] (defScope s_Run_last) := ⟨rfl, rfl, rfl, by decide +kernel, rfl, by decide +kernel, by decide +kernel⟩
abbrev s_run : Stmt := topS 36
abbrev N_run : List Str := ["loop", "row", "tolerance", "state", "words", "keeps", "kept", "x", "where", "word", "keep"]
theorem sc_run : FnScope N_run ["loop", "row", "tolerance"] (defScope s_run) := ⟨rfl, rfl, rfl, by decide +kernel, rfl, by decide +kernel, by decide +kernel⟩
abbrev s__law_source : Stmt := topS 38
abbrev N__law_source : List Str := ["_law_script", "_law_great", "_law_seed", "_law_cell"]
theorem sc__law_source : FnScope N__law_source ["_law_script"] (defScope s__law_source) := ⟨rfl, rfl, rfl, by decide +kernel, rfl, by decide +kernel, by decide +kernel⟩
abbrev s__law_draw : Stmt := topS 39
abbrev N__law_draw : List Str := ["_law_source_here", "_law_many", "_law_digit", "_law_mixed"]
theorem sc__law_draw : FnScope N__law_draw ["_law_source_here", "_law_many"] (defScope s__law_draw) := ⟨rfl, rfl, rfl, by decide +kernel, rfl, by decide +kernel, by decide +kernel⟩
abbrev s__law_subset : Stmt := topS 40
abbrev N__law_subset : List Str := ["_law_source_here", "_law_row_here", "_law_one"]
theorem sc__law_subset : FnScope N__law_subset ["_law_source_here", "_law_row_here"] (defScope s__law_subset) := ⟨rfl, rfl, rfl, by decide +kernel, rfl, by decide +kernel, by decide +kernel⟩
abbrev s__law_name : Stmt := topS 41
abbrev N__law_name : List Str := ["_law_source_here", "_law_taken", "_law_size", "_law_name_here", "_law_k", "_law_one", "_law_letter"]
theorem sc__law_name : FnScope N__law_name ["_law_source_here", "_law_taken"] (defScope s__law_name) := ⟨rfl, rfl, rfl, by decide +kernel, rfl, by decide +kernel, by decide +kernel⟩
abbrev s__law_names : Stmt := topS 42
abbrev N__law_names : List Str := ["_law_source_here", "_law_many", "_law_names_here", "_law_k"]
theorem sc__law_names : FnScope N__law_names ["_law_source_here", "_law_many"] (defScope s__law_names) := ⟨rfl, rfl, rfl, by decide +kernel, rfl, by decide +kernel, by decide +kernel⟩
abbrev s__law_places : Stmt := topS 43
abbrev N__law_places : List Str := []
theorem sc__law_places : FnScope N__law_places [] (defScope s__law_places) := ⟨rfl, rfl, rfl, by decide +kernel, rfl, by decide +kernel, by decide +kernel⟩
abbrev s__law_group_names : Stmt := topS 44
abbrev N__law_group_names : List Str := []
theorem sc__law_group_names : FnScope N__law_group_names [] (defScope s__law_group_names) := ⟨rfl, rfl, rfl, by decide +kernel, rfl, by decide +kernel, by decide +kernel⟩
abbrev s__law_tolerance : Stmt := topS 45
abbrev N__law_tolerance : List Str := ["_law_source_here"]
theorem sc__law_tolerance : FnScope N__law_tolerance ["_law_source_here"] (defScope s__law_tolerance) := ⟨rfl, rfl, rfl, by decide +kernel, rfl, by decide +kernel, by decide +kernel⟩
abbrev s__law_row : Stmt := topS 46
abbrev N__law_row : List Str := ["_law_source_here", "_law_most", "_law_tolerance_here", "_law_row_here", "_law_k", "_law_base", "_law_step", "_law_shift", "_law_x"]
theorem sc__law_row : FnScope N__law_row ["_law_source_here", "_law_most", "_law_tolerance_here"] (defScope s__law_row) := ⟨rfl, rfl, rfl, by decide +kernel, rfl, by decide +kernel, by decide +kernel⟩
abbrev s_law : Stmt := topS 47
abbrev N_law : List Str := ["_law_script", "_law_source_here", "_law_names_here", "_law_words", "_law_groups", "_law_name_here", "_law_rules", "_law_tolerance_here", "_law_row_here", "_law_told", "_law_due", "_law_x", "_law_k"]
theorem sc_law : FnScope N_law ["_law_script"] (defScope s_law) := ⟨rfl, rfl, rfl, by decide +kernel, rfl, by decide +kernel, by decide +kernel⟩
/-- what the top has written: where each def stands, the names that are still built-in, the constants -/
structure Tx (w : World) (K : PySem.W.Frag) (mg : Str → Option Value) where
  a_Loop : Addr
  g_Loop : mg "Loop" = some (.ref a_Loop)
  cl_Loop : Cls K a_Loop
  no_Loop_own_rules : NoAttr K a_Loop "own_rules"
  no_Loop_own_answers : NoAttr K a_Loop "own_answers"
  no_Loop_table : NoAttr K a_Loop "table"
  a_Run : Addr
  g_Run : mg "Run" = some (.ref a_Run)
  cl_Run : Cls K a_Run
  no_Run_words : NoAttr K a_Run "words"
  no_Run_keeps : NoAttr K a_Run "keeps"
  no_Run_kept : NoAttr K a_Run "kept"
  no_Run_state : NoAttr K a_Run "state"
  no_Run_answer : NoAttr K a_Run "answer"
  a_is_name : Addr
  fd_is_name : FuncData
  F_is_name : Fun K "is_name" "is_name" s_is_name a_is_name fd_is_name
  b_is_name : Binds K fd_is_name ["value"] []
  g_is_name : mg "is_name" = some (.ref a_is_name)
  a_is_number : Addr
  fd_is_number : FuncData
  F_is_number : Fun K "is_number" "is_number" s_is_number a_is_number fd_is_number
  b_is_number : Binds K fd_is_number ["value"] []
  g_is_number : mg "is_number" = some (.ref a_is_number)
  a_check_number : Addr
  fd_check_number : FuncData
  F_check_number : Fun K "check_number" "check_number" s_check_number a_check_number fd_check_number
  b_check_number : Binds K fd_check_number ["value"] []
  g_check_number : mg "check_number" = some (.ref a_check_number)
  a_check_tolerance : Addr
  fd_check_tolerance : FuncData
  F_check_tolerance : Fun K "check_tolerance" "check_tolerance" s_check_tolerance a_check_tolerance fd_check_tolerance
  b_check_tolerance : Binds K fd_check_tolerance ["value"] []
  g_check_tolerance : mg "check_tolerance" = some (.ref a_check_tolerance)
  a_check_row : Addr
  fd_check_row : FuncData
  F_check_row : Fun K "check_row" "check_row" s_check_row a_check_row fd_check_row
  b_check_row : Binds K fd_check_row ["row"] []
  g_check_row : mg "check_row" = some (.ref a_check_row)
  a_sign_of : Addr
  fd_sign_of : FuncData
  F_sign_of : Fun K "sign_of" "sign_of" s_sign_of a_sign_of fd_sign_of
  b_sign_of : Binds K fd_sign_of ["first", "second"] []
  g_sign_of : mg "sign_of" = some (.ref a_sign_of)
  a_place_of : Addr
  fd_place_of : FuncData
  F_place_of : Fun K "place_of" "place_of" s_place_of a_place_of fd_place_of
  b_place_of : Binds K fd_place_of ["step", "sign"] []
  g_place_of : mg "place_of" = some (.ref a_place_of)
  a_place : Addr
  fd_place : FuncData
  F_place : Fun K "place" "place" s_place a_place fd_place
  b_place : Binds K fd_place ["x", "kept", "tolerance"] []
  g_place : mg "place" = some (.ref a_place)
  a_is_group : Addr
  fd_is_group : FuncData
  F_is_group : Fun K "is_group" "is_group" s_is_group a_is_group fd_is_group
  b_is_group : Binds K fd_is_group ["name"] []
  g_is_group : mg "is_group" = some (.ref a_is_group)
  a_group : Addr
  fd_group : FuncData
  F_group : Fun K "group" "group" s_group a_group fd_group
  b_group : Binds K fd_group ["name"] []
  g_group : mg "group" = some (.ref a_group)
  a_is_rule : Addr
  fd_is_rule : FuncData
  F_is_rule : Fun K "is_rule" "is_rule" s_is_rule a_is_rule fd_is_rule
  b_is_rule : Binds K fd_is_rule ["rule"] []
  g_is_rule : mg "is_rule" = some (.ref a_is_rule)
  a_states_of : Addr
  fd_states_of : FuncData
  F_states_of : Fun K "states_of" "states_of" s_states_of a_states_of fd_states_of
  b_states_of : Binds K fd_states_of ["rules"] []
  g_states_of : mg "states_of" = some (.ref a_states_of)
  a_invalid_rule : Addr
  fd_invalid_rule : FuncData
  F_invalid_rule : Fun K "invalid_rule" "invalid_rule" s_invalid_rule a_invalid_rule fd_invalid_rule
  b_invalid_rule : Binds K fd_invalid_rule ["rules"] []
  g_invalid_rule : mg "invalid_rule" = some (.ref a_invalid_rule)
  a_Loop___init__ : Addr
  fd_Loop___init__ : FuncData
  F_Loop___init__ : FunD K "__init__" "Loop.__init__" (defArgs s_Loop___init__) (defBody s_Loop___init__) (defScope s_Loop___init__) [.non] [] a_Loop___init__ fd_Loop___init__
  b0_Loop___init__ : ∃ ds, Vals [.non] ds ∧ Binds K fd_Loop___init__ ["self", "rules", "answers"] ds
  b_Loop___init__ : Binds K fd_Loop___init__ ["self", "rules", "answers"] []
  mk_Loop : Mk K a_Loop a_Loop___init__
  a_Loop_start : Addr
  fd_Loop_start : FuncData
  F_Loop_start : Fun K "start" "Loop.start" s_Loop_start a_Loop_start fd_Loop_start
  b_Loop_start : Binds K fd_Loop_start ["self"] []
  pp_Loop_start : Addr
  pr_Loop_start : PropOf K a_Loop "start" pp_Loop_start a_Loop_start
  a_Loop_answers : Addr
  fd_Loop_answers : FuncData
  F_Loop_answers : Fun K "answers" "Loop.answers" s_Loop_answers a_Loop_answers fd_Loop_answers
  b_Loop_answers : Binds K fd_Loop_answers ["self"] []
  pp_Loop_answers : Addr
  pr_Loop_answers : PropOf K a_Loop "answers" pp_Loop_answers a_Loop_answers
  a_used : Addr
  fd_used : FuncData
  F_used : Fun K "used" "used" s_used a_used fd_used
  b_used : Binds K fd_used ["loop", "state", "place"] []
  g_used : mg "used" = some (.ref a_used)
  a_Run___init__ : Addr
  fd_Run___init__ : FuncData
  F_Run___init__ : Fun K "__init__" "Run.__init__" s_Run___init__ a_Run___init__ fd_Run___init__
  b_Run___init__ : Binds K fd_Run___init__ ["self", "words", "keeps", "kept", "state", "answer"] []
  mk_Run : Mk K a_Run a_Run___init__
  a_Run_last : Addr
  fd_Run_last : FuncData
  F_Run_last : Fun K "last" "Run.last" s_Run_last a_Run_last fd_Run_last
  b_Run_last : Binds K fd_Run_last ["self"] []
  pp_Run_last : Addr
  pr_Run_last : PropOf K a_Run "last" pp_Run_last a_Run_last
  a_run : Addr
  fd_run : FuncData
  F_run : Fun K "run" "run" s_run a_run fd_run
  b_run : Binds K fd_run ["loop", "row", "tolerance"] []
  g_run : mg "run" = some (.ref a_run)
  a__law_source : Addr
  fd__law_source : FuncData
  F__law_source : Fun K "_law_source" "_law_source" s__law_source a__law_source fd__law_source
  b__law_source : Binds K fd__law_source ["_law_script"] []
  g__law_source : mg "_law_source" = some (.ref a__law_source)
  a__law_draw : Addr
  fd__law_draw : FuncData
  F__law_draw : Fun K "_law_draw" "_law_draw" s__law_draw a__law_draw fd__law_draw
  b__law_draw : Binds K fd__law_draw ["_law_source_here", "_law_many"] []
  g__law_draw : mg "_law_draw" = some (.ref a__law_draw)
  a__law_subset : Addr
  fd__law_subset : FuncData
  F__law_subset : Fun K "_law_subset" "_law_subset" s__law_subset a__law_subset fd__law_subset
  b__law_subset : Binds K fd__law_subset ["_law_source_here", "_law_row_here"] []
  g__law_subset : mg "_law_subset" = some (.ref a__law_subset)
  a__law_name : Addr
  fd__law_name : FuncData
  F__law_name : Fun K "_law_name" "_law_name" s__law_name a__law_name fd__law_name
  b__law_name : Binds K fd__law_name ["_law_source_here", "_law_taken"] []
  g__law_name : mg "_law_name" = some (.ref a__law_name)
  a__law_names : Addr
  fd__law_names : FuncData
  F__law_names : Fun K "_law_names" "_law_names" s__law_names a__law_names fd__law_names
  b__law_names : Binds K fd__law_names ["_law_source_here", "_law_many"] []
  g__law_names : mg "_law_names" = some (.ref a__law_names)
  a__law_places : Addr
  fd__law_places : FuncData
  F__law_places : Fun K "_law_places" "_law_places" s__law_places a__law_places fd__law_places
  b__law_places : Binds K fd__law_places [] []
  g__law_places : mg "_law_places" = some (.ref a__law_places)
  a__law_group_names : Addr
  fd__law_group_names : FuncData
  F__law_group_names : Fun K "_law_group_names" "_law_group_names" s__law_group_names a__law_group_names fd__law_group_names
  b__law_group_names : Binds K fd__law_group_names [] []
  g__law_group_names : mg "_law_group_names" = some (.ref a__law_group_names)
  a__law_tolerance : Addr
  fd__law_tolerance : FuncData
  F__law_tolerance : Fun K "_law_tolerance" "_law_tolerance" s__law_tolerance a__law_tolerance fd__law_tolerance
  b__law_tolerance : Binds K fd__law_tolerance ["_law_source_here"] []
  g__law_tolerance : mg "_law_tolerance" = some (.ref a__law_tolerance)
  a__law_row : Addr
  fd__law_row : FuncData
  F__law_row : Fun K "_law_row" "_law_row" s__law_row a__law_row fd__law_row
  b__law_row : Binds K fd__law_row ["_law_source_here", "_law_most", "_law_tolerance_here"] []
  g__law_row : mg "_law_row" = some (.ref a__law_row)
  a_law : Addr
  fd_law : FuncData
  F_law : Fun K "law" "law" s_law a_law fd_law
  b_law : Binds K fd_law ["_law_script"] []
  g_law : mg "law" = some (.ref a_law)
  m_len : mg "len" = none
  m_int : mg "int" = none
  m_bool : mg "bool" = none
  m_str : mg "str" = none
  m_list : mg "list" = none
  m_tuple : mg "tuple" = none
  m_dict : mg "dict" = none
  m_range : mg "range" = none
  m_enumerate : mg "enumerate" = none
  m_isinstance : mg "isinstance" = none
  m_min : mg "min" = none
  m_all : mg "all" = none
  m_sorted : mg "sorted" = none
  m_super : mg "super" = none
  m_ValueError : mg "ValueError" = none
  t_BOUND : Tok
  g_BOUND : mg "BOUND" = some (.int 1000000000000000000000000000000 t_BOUND)
  t_MOST_NUMBERS : Tok
  g_MOST_NUMBERS : mg "MOST_NUMBERS" = some (.int 1000 t_MOST_NUMBERS)
  t_MOST_LETTERS : Tok
  g_MOST_LETTERS : mg "MOST_LETTERS" = some (.int 8 t_MOST_LETTERS)
  a_PLACES : Addr
  g_PLACES : mg "PLACES" = some (.ref a_PLACES)
  k_PLACES : ∃ o, K.lookup a_PLACES = some o ∧ o.cls = .type "tuple" ∧ o.dict = none
  p_PLACES : ∀ H : Hp, SqT K H a_PLACES [.str "below", .str "-<", .str "-=", .str "->", .str "<", .str "=", .str ">", .str "+<", .str "+=", .str "+>", .str "above"]
  a_LONG_GROUPS : Addr
  g_LONG_GROUPS : mg "LONG_GROUPS" = some (.ref a_LONG_GROUPS)
  a_LONG_GROUPS_any : Addr
  p_LONG_GROUPS_any : ∀ H : Hp, SqT K H a_LONG_GROUPS_any [.str "below", .str "-<", .str "-=", .str "->", .str "<", .str "=", .str ">", .str "+<", .str "+=", .str "+>", .str "above"]
  k_LONG_GROUPS_any : ∃ o, K.lookup a_LONG_GROUPS_any = some o ∧ o.cls = .type "tuple" ∧ o.dict = none
  a_LONG_GROUPS_near : Addr
  p_LONG_GROUPS_near : ∀ H : Hp, SqT K H a_LONG_GROUPS_near [.str "-=", .str "->", .str "<", .str "=", .str ">", .str "+<", .str "+="]
  k_LONG_GROUPS_near : ∃ o, K.lookup a_LONG_GROUPS_near = some o ∧ o.cls = .type "tuple" ∧ o.dict = none
  a_LONG_GROUPS_far : Addr
  p_LONG_GROUPS_far : ∀ H : Hp, SqT K H a_LONG_GROUPS_far [.str "below", .str "-<", .str "+>", .str "above"]
  k_LONG_GROUPS_far : ∃ o, K.lookup a_LONG_GROUPS_far = some o ∧ o.cls = .type "tuple" ∧ o.dict = none
  a_LONG_GROUPS_less : Addr
  p_LONG_GROUPS_less : ∀ H : Hp, SqT K H a_LONG_GROUPS_less [.str "below", .str "-<", .str "-=", .str "->", .str "<"]
  k_LONG_GROUPS_less : ∃ o, K.lookup a_LONG_GROUPS_less = some o ∧ o.cls = .type "tuple" ∧ o.dict = none
  a_LONG_GROUPS_more : Addr
  p_LONG_GROUPS_more : ∀ H : Hp, SqT K H a_LONG_GROUPS_more [.str ">", .str "+<", .str "+=", .str "+>", .str "above"]
  k_LONG_GROUPS_more : ∃ o, K.lookup a_LONG_GROUPS_more = some o ∧ o.cls = .type "tuple" ∧ o.dict = none
  a_LONG_GROUPS_under : Addr
  p_LONG_GROUPS_under : ∀ H : Hp, SqT K H a_LONG_GROUPS_under [.str "below", .str "-<"]
  k_LONG_GROUPS_under : ∃ o, K.lookup a_LONG_GROUPS_under = some o ∧ o.cls = .type "tuple" ∧ o.dict = none
  a_LONG_GROUPS_over : Addr
  p_LONG_GROUPS_over : ∀ H : Hp, SqT K H a_LONG_GROUPS_over [.str "+>", .str "above"]
  k_LONG_GROUPS_over : ∃ o, K.lookup a_LONG_GROUPS_over = some o ∧ o.cls = .type "tuple" ∧ o.dict = none
  a_LONG_GROUPS_cell : Addr
  p_LONG_GROUPS_cell : ∀ H : Hp, SqT K H a_LONG_GROUPS_cell [.str "<", .str "=", .str ">"]
  k_LONG_GROUPS_cell : ∃ o, K.lookup a_LONG_GROUPS_cell = some o ∧ o.cls = .type "tuple" ∧ o.dict = none
  a_LONG_GROUPS_none : Addr
  p_LONG_GROUPS_none : ∀ H : Hp, SqT K H a_LONG_GROUPS_none []
  k_LONG_GROUPS_none : ∃ o, K.lookup a_LONG_GROUPS_none = some o ∧ o.cls = .type "tuple" ∧ o.dict = none
  d_LONG_GROUPS : NL.KDt w K a_LONG_GROUPS [("any", .ref a_LONG_GROUPS_any), ("near", .ref a_LONG_GROUPS_near), ("far", .ref a_LONG_GROUPS_far), ("less", .ref a_LONG_GROUPS_less), ("more", .ref a_LONG_GROUPS_more), ("under", .ref a_LONG_GROUPS_under), ("over", .ref a_LONG_GROUPS_over), ("cell", .ref a_LONG_GROUPS_cell), ("none", .ref a_LONG_GROUPS_none)]
  t_MOST_RULES : Tok
  g_MOST_RULES : mg "MOST_RULES" = some (.int 40 t_MOST_RULES)
  t_MOST_STATES : Tok
  g_MOST_STATES : mg "MOST_STATES" = some (.int 6 t_MOST_STATES)
section
variable {P : Program} {w : World} {K : PySem.W.Frag} {mg : Str → Option Value} {base : Heap}
/-- is_name of a text -/
def sp_is_name : Sp := fun vs H Q _ => ∃ z : Str, vs = [.str z] ∧ z.length ≤ 10000 ∧ ∀ H', Same H H' → Q (.bl (isNameB z)) H'
theorem ok_is_name (T : Tx w K mg) : FnOk P w K mg base CX0 1 T.a_is_name T.fd_is_name ["value"] sp_is_name := by
  refine T.F_is_name.ok sc_is_name (fun vs H Q E h => ?_) (fun cdv A outer s H vs Q E hr h => ?_)
  · obtain ⟨z, rfl, _⟩ := h; rfl
  · obtain ⟨z, rfl, hz, q⟩ := h
    refine ⟨_, ((pss_cons (ps_if (PW.pt (pw_or (pt_not (pt_val (pe_callB (call_isi) (by rfl) T.m_isinstance (by decide +kernel) (pa_cons (pv 0) (pa_cons (pe_bltn (v := .ty "str") (by rfl) T.m_str (by decide +kernel) rfl) pa_nil))))) (pw_or (pt_cmpR (op_lt) (pe_callB (call_len_str) (by rfl) T.m_len (by decide +kernel) (pa_cons (pv 0) pa_nil)) pe_int (nomark _)) (pw_or1 (pt_cmpR (op_gt) (pe_callB (call_len_str) (by rfl) T.m_len (by decide +kernel) (pa_cons (pv 0) pa_nil)) (pe_glob (v := .int 8) rfl T.g_MOST_LETTERS ⟨_, rfl⟩) (nomark _)))))) (pss_one (ps_ret pe_bl)) pss_nil)
      (pss_one (ps_ret (pe_callB (cr_all rfl) (by rfl) T.m_all (by decide +kernel) (pa_cons (pe_lc (own := [("sign", 1)]) (by rfl) sc_is_name.nd (pi_str (pv 0)) (blkOk_by (own := [("sign", 1)]) (N := N_is_name) (sc := defScope s_is_name) (by decide +kernel)) (fun _ _ _ _ _ => (pg_name (i := 1) sc_is_name.nd rfl (by first | exact Or.inl rfl | exact Or.inr rfl))) (fun _ _ _ _ _ => pts_nil) (fun _ _ _ _ _ => (pe_cmpR (op_in_sign) (pv 1) pe_str (by rfl)))) pa_nil)))))), ?_⟩
    unfold isNameB at q
    refine ⟨_, rfl, _, _, _, _, true, rfl, .ty _, (by walk_at "tyx"), kit_ty (by decide +kernel), _, rfl, ?_⟩
    refine ifF rfl ?_
    refine ⟨_, rfl, _, rfl, sz100k (by omega), _, _, rfl, rfl, _, rfl, ?_⟩
    refine ifD (fun c => ?_) (fun c => ?_)
    · refine ifT rfl ?_
      have e : decide (1 ≤ z.length) = false := decide_eq_false (by omega)
      rw [e] at q; exact q H (Same.refl _)
    refine ⟨_, rfl, _, rfl, sz100k (by omega), _, _, rfl, rfl, _, rfl, ?_⟩
    have e1 : decide (1 ≤ z.length) = true := decide_eq_true (by omega)
    refine ifD (fun c => ?_) (fun c => ?_)
    · have e : decide (z.length ≤ 8) = false := decide_eq_false (by omega)
      rw [e, e1] at q; exact q H (Same.refl _)
    have e2 : decide (z.length ≤ 8) = true := decide_eq_true (by omega)
    rw [e1, e2] at q
    refine ⟨_, rfl, _, rfl, fun D nD => ?_⟩
    refine lcW_filt (xs := signsV z) (p := fun _ => true) (f := fun v => match v with | .str y => .bl (y.cps.toList.all fun c => decide (c ∈ ALPHA)) | _ => .non) (walk_signs (G := fun _ => True)) (fun _ _ => True.intro) nD (by unfold signsV; simp; exact hz) ?_ ?_ ?_
    · intro i y H' kk hy sm hk
      exact hk _ (Same.refl _)
    · intro i y H' kk hy _ sm hk
      unfold signsV at hy
      rw [List.getElem?_map] at hy
      obtain ⟨c, hc, rfl⟩ := Option.map_eq_some_iff.mp hy
      refine ⟨_, rfl, c, _, rfl, rfl, ?_⟩
      have := hk _ (Same.refl _)
      show kk (V.bl (decide (c ∈ ALPHA))) H'
      simpa using this
    · intro H2 sm hD
      have eF : ((signsV z).filter fun _ => true).map (fun v => match v with | .str y => V.bl (y.cps.toList.all fun c => decide (c ∈ ALPHA)) | _ => .non) = (z.cps.toList.map fun c => decide (c ∈ ALPHA)).map V.bl := by
        rw [filt_all]; unfold signsV
        rw [List.map_map, List.map_map]
        apply List.map_congr_left
        intro c _
        simp
      rw [eF] at hD
      refine ⟨_, _, rfl, SqL.of hD, ?_⟩
      have := q H2 sm
      rw [List.all_map]
      simpa [Function.comp_def] using this
/-- is_number of an int -/
def sp_is_number : Sp := fun vs H Q _ => ∃ i : Int, vs = [.int i] ∧ Q (.bl (decide (-1000000000000000000000000000000 < i) && decide (i < 1000000000000000000000000000000))) H
theorem ok_is_number (T : Tx w K mg) : FnOk P w K mg base CX0 1 T.a_is_number T.fd_is_number ["value"] sp_is_number := by
  refine T.F_is_number.ok sc_is_number (fun vs H Q E h => ?_) (fun cdv A outer s H vs Q E hr h => ?_)
  · obtain ⟨i, rfl, _⟩ := h; rfl
  · obtain ⟨i, rfl, q⟩ := h
    refine ⟨_, ((pss_one (ps_ret (pe_and (pe_callB (call_isi) (by rfl) T.m_isinstance (by decide +kernel) (pa_cons (pv 0) (pa_cons (pe_bltn (v := .ty "int") (by rfl) T.m_int (by decide +kernel) rfl) pa_nil))) (pe_and (pe_not (pe_callB (call_isi) (by rfl) T.m_isinstance (by decide +kernel) (pa_cons (pv 0) (pa_cons (pe_bltn (v := .ty "bool") (by rfl) T.m_bool (by decide +kernel) rfl) pa_nil)))) (pe_one (pe_chain (op_lt) (op_lt) (pe_op op_sub pe_int (pe_glob (v := .int 1000000000000000000000000000000) rfl T.g_BOUND ⟨_, rfl⟩)) (pv 0) (pe_glob (v := .int 1000000000000000000000000000000) rfl T.g_BOUND ⟨_, rfl⟩)))))))), ?_⟩
    refine ⟨_, rfl, _, _, _, _, true, rfl, .ty _, (by walk_at "tyx"), kit_ty (by decide +kernel), _, rfl, ?_⟩
    refine ifT rfl ?_
    refine ⟨_, rfl, _, _, _, _, false, rfl, .ty _, (by walk_at "tyx"), kit_ty (by decide +kernel), _, rfl, _, rfl, ?_⟩
    refine ifT rfl ?_
    refine ⟨_, _, rfl, rfl, _, rfl, _, _, rfl, rfl, _, rfl, ?_⟩
    refine ifD (fun c => ?_) (fun c => ?_)
    · refine ⟨_, _, rfl, rfl, ?_⟩
      have e : decide (-1000000000000000000000000000000 < i) = true := decide_eq_true (by omega)
      rw [e] at q; exact q
    · have e : decide (-1000000000000000000000000000000 < i) = false := decide_eq_false (by omega)
      rw [e] at q; exact q
/-- check_number of a number -/
def sp_check_number : Sp := fun vs H Q _ => ∃ i : Int, vs = [.int i] ∧ -1000000000000000000000000000000 < i ∧ i < 1000000000000000000000000000000 ∧ Q .non H
theorem ok_check_number (T : Tx w K mg) : FnOk P w K mg base CX0 2 T.a_check_number T.fd_check_number ["value"] sp_check_number := by
  refine T.F_check_number.ok sc_check_number (fun vs H Q E h => ?_) (fun cdv A outer s H vs Q E hr h => ?_)
  · obtain ⟨i, rfl, _⟩ := h; rfl
  · obtain ⟨i, rfl, h1, h2, q⟩ := h
    refine ⟨_, ((pss_one (ps_if (pt_not (pt_val (pe_call (ok_is_number T) (hr.mono (by decide)) rfl T.g_is_number T.F_is_number.kp T.b_is_number .nil pass0 (pa_cons (pv 0) pa_nil)))) (pss_one ps_never) pss_nil))), ?_⟩
    refine ⟨_, rfl, i, rfl, _, rfl, ?_⟩
    rw [decide_eq_true h1, decide_eq_true h2]
    exact ifF rfl q
/-- check_tolerance of a tolerance -/
def sp_check_tolerance : Sp := fun vs H Q _ => ∃ i : Int, vs = [.int i] ∧ 1 ≤ i ∧ i < 1000000000000000000000000000000 ∧ Q .non H
theorem ok_check_tolerance (T : Tx w K mg) : FnOk P w K mg base CX0 2 T.a_check_tolerance T.fd_check_tolerance ["value"] sp_check_tolerance := by
  refine T.F_check_tolerance.ok sc_check_tolerance (fun vs H Q E h => ?_) (fun cdv A outer s H vs Q E hr h => ?_)
  · obtain ⟨i, rfl, _⟩ := h; rfl
  · obtain ⟨i, rfl, h1, h2, q⟩ := h
    refine ⟨_, ((pss_one (ps_if (PW.pt (pw_or (pt_not (pt_val (pe_call (ok_is_number T) (hr.mono (by decide)) rfl T.g_is_number T.F_is_number.kp T.b_is_number .nil pass0 (pa_cons (pv 0) pa_nil)))) (pw_or1 (pt_cmpR (op_lt) (pv 0) pe_int (nomark _))))) (pss_one ps_never) pss_nil))), ?_⟩
    refine ⟨_, rfl, i, rfl, _, rfl, ?_⟩
    rw [decide_eq_true (show -1000000000000000000000000000000 < i by omega), decide_eq_true h2]
    refine ifF rfl ?_
    refine ⟨_, rfl, _, _, rfl, rfl, _, rfl, ?_⟩
    exact ifF (decide_eq_false (by omega)) q
/-- check_row of a row of numbers -/
def sp_check_row (K : PySem.W.Frag) : Sp := fun vs H Q _ => ∃ (a : Addr) (ns : List Int), vs = [.ref a] ∧ Sq K H a (ns.map V.int) ∧ ns.length ≤ 1000 ∧ (∀ i ∈ ns, -1000000000000000000000000000000 < i ∧ i < 1000000000000000000000000000000) ∧ ∀ H', Same H H' → Q .non H'
theorem ok_check_row (T : Tx w K mg) : FnOk P w K mg base CX0 3 T.a_check_row T.fd_check_row ["row"] (sp_check_row K) := by
  refine T.F_check_row.ok sc_check_row (fun vs H Q E h => ?_) (fun cdv A outer s H vs Q E hr h => ?_)
  · obtain ⟨a, ns, rfl, _⟩ := h; rfl
  · obtain ⟨a, ns, rfl, hS, hl, hn, q⟩ := h
    refine ⟨_, ((pss_cons (ps_if (PW.pt (pw_or (pt_not (pt_val (pe_callB (call_isiT) (by rfl) T.m_isinstance (by decide +kernel) (pa_cons (pv 0) (pa_cons (pe_tup (pa_cons (pe_bltn (v := .ty "list") (by rfl) T.m_list (by decide +kernel) rfl) (pa_cons (pe_bltn (v := .ty "tuple") (by rfl) T.m_tuple (by decide +kernel) rfl) pa_nil))) pa_nil))))) (pw_or1 (pt_cmpR (op_gt) (pe_callB (call_len) (by rfl) T.m_len (by decide +kernel) (pa_cons (pv 0) pa_nil)) (pe_glob (v := .int 1000) rfl T.g_MOST_NUMBERS ⟨_, rfl⟩) (nomark _))))) (pss_one ps_never) pss_nil)
      (pss_one (ps_for PassesOwn.never rfl (pi_seq (pv 0)) (pg_name (i := 1) sc_check_row.nd rfl (by first | exact Or.inl rfl | exact Or.inr rfl))
        (pss_one (ps_expr (pe_call (ok_check_number T) (hr.mono (by decide)) rfl T.g_check_number T.F_check_number.kp T.b_check_number .nil pass0 (pa_cons (pv 1) pa_nil)))))))), ?_⟩
    refine ⟨_, rfl, (by walk_at "len"), fun p1 np1 => ?_⟩
    have sm1 : Same H _ := same_new (o := .tup [.ty "list", .ty "tuple"]) np1
    have hS := hS.same sm1
    obtain ⟨ty, us, y1, y2, y3⟩ := isLT hS
    refine ⟨_, _, _, _, _, true, rfl, upd_same, y1, y2, y3, _, rfl, ?_⟩
    refine ifF rfl ?_
    refine ⟨_, rfl, _, _, rfl, hS.len, _, _, rfl, rfl, _, rfl, ?_⟩
    refine ifF (decide_eq_false (by rw [List.length_map]; omega)) ?_
    refine ⟨_, rfl, _, _, rfl, hS, fun J wk => ?_⟩
    refine for_it wk (fun i σ H' => ∃ v1 : Option V, σ = [some (.ref a), v1] ∧ H' = upd H p1 (.tup [.ty "list", .ty "tuple"])) ?_ ?_ ?_ ?_
    · exact ⟨_, rfl, rfl⟩
    · rintro i σ H' hi ⟨_, rfl, rfl⟩ o ho hs; exact ho
    · rintro i x σ H1 H' hi ⟨v1, rfl, rfl⟩ ⟨rfl, hx⟩
      rw [List.getElem?_map] at hx
      obtain ⟨z, hz, rfl⟩ := Option.map_eq_some_iff.mp hx
      obtain ⟨z1, z2⟩ := hn z (List.mem_of_getElem? hz)
      exact ⟨_, rfl, z, rfl, z1, z2, _, rfl, rfl⟩
    · rintro σ H' ⟨v1, rfl, rfl⟩
      exact q _ sm1
def sp_sign_of : Sp := fun vs H Q _ => ∃ i j : Int, vs = [.int i, .int j] ∧ Q (.str (NL.signS i j)) H
theorem ok_sign_of (T : Tx w K mg) : FnOk P w K mg base CX0 1 T.a_sign_of T.fd_sign_of ["first", "second"] sp_sign_of := by
  refine T.F_sign_of.ok sc_sign_of (fun vs H Q E h => ?_) (fun cdv A outer s H vs Q E hr h => ?_)
  · obtain ⟨i, j, rfl, _⟩ := h; rfl
  · obtain ⟨i, j, rfl, q⟩ := h
    refine ⟨_, ((pss_cons (ps_if (pt_cmpR (op_eq) (pv 0) (pv 1) (nomark _)) (pss_one (ps_ret pe_str)) pss_nil)
      (pss_one (ps_ret (pe_ifExp (pt_cmpR (op_lt) (pv 0) (pv 1) (nomark _)) pe_str pe_str))))), ?_⟩
    unfold NL.signS at q
    refine ⟨_, rfl, _, rfl, rfl, _, rfl, ?_⟩
    refine ifD (fun c => ?_) (fun c => ?_)
    · have c : i = j := by injection c
      rw [if_pos c] at q; exact q
    · have c : ¬ i = j := fun e => c (by rw [e])
      rw [if_neg c] at q
      refine ⟨_, rfl, _, rfl, _, _, rfl, rfl, _, rfl, ?_⟩
      refine ifD (fun c => ?_) (fun c => ?_)
      · rw [if_pos c] at q; exact q
      · rw [if_neg c] at q; exact q
def sp_place_of : Sp := fun vs H Q _ => ∃ (d : Int) (z : Str), vs = [.int d, .str z] ∧ z.length ≤ 1000 ∧ Q (.str (NL.placeOfS d z)) H
theorem ok_place_of (T : Tx w K mg) : FnOk P w K mg base CX0 1 T.a_place_of T.fd_place_of ["step", "sign"] sp_place_of := by
  refine T.F_place_of.ok sc_place_of (fun vs H Q E h => ?_) (fun cdv A outer s H vs Q E hr h => ?_)
  · obtain ⟨i, j, rfl, _⟩ := h; rfl
  · obtain ⟨d, z, rfl, hz, q⟩ := h
    refine ⟨_, ((pss_cons (ps_if (pt_cmpR (op_lt) (pv 0) (pe_un un_neg pe_int) (nomark _)) (pss_one (ps_ret pe_str)) pss_nil)
      (pss_cons (ps_if (pt_cmpR (op_gt) (pv 0) pe_int (nomark _)) (pss_one (ps_ret pe_str)) pss_nil)
      (pss_one (ps_ret (pe_op op_add_str (pe_ifExp (pt_cmpR (op_eq) (pv 0) (pe_un un_neg pe_int) (nomark _)) pe_str (pe_ifExp (pt_cmpR (op_eq) (pv 0) pe_int (nomark _)) pe_str pe_str)) (pv 1))))))), ?_⟩
    unfold NL.placeOfS at q
    refine ⟨_, rfl, _, rfl, _, _, rfl, rfl, _, rfl, ?_⟩
    refine ifD (fun c => ?_) (fun c => ?_)
    · rw [if_pos c] at q; exact q
    rw [if_neg c] at q
    refine ⟨_, rfl, _, _, rfl, rfl, _, rfl, ?_⟩
    refine ifD (fun c => ?_) (fun c => ?_)
    · rw [if_pos c] at q; exact q
    rw [if_neg c] at q
    refine ⟨_, rfl, _, rfl, rfl, _, rfl, ?_⟩
    refine ifD (fun c => ?_) (fun c => ?_)
    · have c : d = -1 := by injection c
      rw [if_pos c] at q
      exact ⟨_, rfl, _, _, rfl, rfl, sz100k (by show 1 + _ ≤ _; omega), q⟩
    · have c : ¬ d = -1 := fun e => c (by rw [e])
      rw [if_neg c] at q
      refine ⟨_, rfl, rfl, _, rfl, ?_⟩
      refine ifD (fun c => ?_) (fun c => ?_)
      · have c : d = 1 := by injection c
        rw [if_pos c] at q
        exact ⟨_, rfl, _, _, rfl, rfl, sz100k (by show 1 + _ ≤ _; omega), q⟩
      · have c : ¬ d = 1 := fun e => c (by rw [e])
        rw [if_neg c] at q
        exact ⟨_, rfl, _, _, rfl, rfl, sz100k (by show 0 + _ ≤ _; omega), q⟩
/-- place of numbers, with a tolerance -/
def sp_place : Sp := fun vs H Q _ => ∃ x k e : Int, vs = [.int x, .int k, .int e] ∧ (-1000000000000000000000000000000 < x ∧ x < 1000000000000000000000000000000) ∧ (-1000000000000000000000000000000 < k ∧ k < 1000000000000000000000000000000) ∧ (1 ≤ e ∧ e < 1000000000000000000000000000000) ∧ Q (.str (NL.placeS x k e)) H
theorem ok_place (T : Tx w K mg) : FnOk P w K mg base CX0 3 T.a_place T.fd_place ["x", "kept", "tolerance"] sp_place := by
  refine T.F_place.ok sc_place (fun vs H Q E h => ?_) (fun cdv A outer s H vs Q E hr h => ?_)
  · obtain ⟨x, k, e, rfl, _⟩ := h; rfl
  · obtain ⟨x, k, e, rfl, ⟨x1, x2⟩, ⟨k1, k2⟩, ⟨e1, e2⟩, q⟩ := h
    refine ⟨_, ((pss_cons (ps_expr (pe_call (ok_check_number T) (hr.mono (by decide)) rfl T.g_check_number T.F_check_number.kp T.b_check_number .nil pass0 (pa_cons (pv 0) pa_nil)))
      (pss_cons (ps_expr (pe_call (ok_check_number T) (hr.mono (by decide)) rfl T.g_check_number T.F_check_number.kp T.b_check_number .nil pass0 (pa_cons (pv 1) pa_nil)))
      (pss_cons (ps_expr (pe_call (ok_check_tolerance T) (hr.mono (by decide)) rfl T.g_check_tolerance T.F_check_tolerance.kp T.b_check_tolerance .nil pass0 (pa_cons (pv 2) pa_nil)))
      (pss_one (ps_ret (pe_call (ok_place_of T) (hr.mono (by decide)) rfl T.g_place_of T.F_place_of.kp T.b_place_of .nil pass0 (pa_cons (pe_op op_sub (pe_op op_fdivW (pv 0) (pv 2)) (pe_op op_fdivW (pv 1) (pv 2))) (pa_cons (pe_call (ok_sign_of T) (hr.mono (by decide)) rfl T.g_sign_of T.F_sign_of.kp T.b_sign_of .nil pass0 (pa_cons (pe_op op_mod (pv 0) (pv 2)) (pa_cons (pe_op op_mod (pv 1) (pv 2)) pa_nil))) pa_nil))))))))), ?_⟩
    refine ⟨_, rfl, _, rfl, x1, x2, ?_⟩
    refine ⟨_, rfl, _, rfl, k1, k2, ?_⟩
    refine ⟨_, rfl, _, rfl, e1, e2, ?_⟩
    have hd : ∀ z : Int, CDivW z e := fun z => wide_div (b := 100) (by omega) (by omega) (by decide) (by decide)
    have hp : (0 : Int) < e := by omega
    refine ⟨_, rfl, _, rfl, _, _, rfl, rfl, hd _, _, rfl, _, rfl, _, _, rfl, rfl, hd _, _, _, rfl, rfl, _, rfl, _, rfl, _, _, rfl, rfl, hp, _, rfl, _, rfl, _, _, rfl, rfl, hp, ?_⟩
    exact ⟨_, _, rfl, _, _, rfl, NL.signS_len _ _, q⟩
/-- the module's table of long groups, as it stands -/
theorem lg_pairs (T : Tx w K mg) : Paired (fun (p : Str × V) (q : Str × List Str) => p.1 = q.1 ∧ ∃ a, p.2 = .ref a ∧ ∀ H, SqT K H a (q.2.map V.str))
    [("any", .ref T.a_LONG_GROUPS_any), ("near", .ref T.a_LONG_GROUPS_near), ("far", .ref T.a_LONG_GROUPS_far), ("less", .ref T.a_LONG_GROUPS_less), ("more", .ref T.a_LONG_GROUPS_more), ("under", .ref T.a_LONG_GROUPS_under), ("over", .ref T.a_LONG_GROUPS_over), ("cell", .ref T.a_LONG_GROUPS_cell), ("none", .ref T.a_LONG_GROUPS_none)] LG :=
  .cons ⟨rfl, _, rfl, T.p_LONG_GROUPS_any⟩ (.cons ⟨rfl, _, rfl, T.p_LONG_GROUPS_near⟩ (.cons ⟨rfl, _, rfl, T.p_LONG_GROUPS_far⟩ (.cons ⟨rfl, _, rfl, T.p_LONG_GROUPS_less⟩ (.cons ⟨rfl, _, rfl, T.p_LONG_GROUPS_more⟩ (.cons ⟨rfl, _, rfl, T.p_LONG_GROUPS_under⟩ (.cons ⟨rfl, _, rfl, T.p_LONG_GROUPS_over⟩ (.cons ⟨rfl, _, rfl, T.p_LONG_GROUPS_cell⟩ (.cons ⟨rfl, _, rfl, T.p_LONG_GROUPS_none⟩ .nil))))))))
/-- is_group of a text -/
def sp_is_group : Sp := fun vs H Q _ => ∃ z : Str, vs = [.str z] ∧ Q (.bl (isGroupB z)) H
theorem ok_is_group (T : Tx w K mg) : FnOk P w K mg base CX0 1 T.a_is_group T.fd_is_group ["name"] sp_is_group := by
  refine T.F_is_group.ok sc_is_group (fun vs H Q E h => ?_) (fun cdv A outer s H vs Q E hr h => ?_)
  · obtain ⟨z, rfl, _⟩ := h; rfl
  · obtain ⟨z, rfl, q⟩ := h
    refine ⟨_, ((pss_one (ps_ret (pe_and (pe_callB (call_isi) (by rfl) T.m_isinstance (by decide +kernel) (pa_cons (pv 0) (pa_cons (pe_bltn (v := .ty "str") (by rfl) T.m_str (by decide +kernel) rfl) pa_nil))) (pe_one (pe_or (pe_cmpR (op_in_seq) (pv 0) (pe_glob (v := .ref T.a_PLACES) rfl T.g_PLACES rfl) (by rfl)) (pe_one (pe_cmpR (op_inKD) (pv 0) (pe_glob (v := .ref T.a_LONG_GROUPS) rfl T.g_LONG_GROUPS rfl) (by rfl))))))))), ?_⟩
    unfold isGroupB at q
    refine ⟨_, rfl, _, _, _, _, true, rfl, .ty _, (by walk_at "tyx"), kit_ty (by decide +kernel), _, rfl, ?_⟩
    refine ifT rfl ?_
    refine ⟨_, rfl, _, _, rfl, .inr (T.p_PLACES _), rfl, flats_str PL, _, rfl, ?_⟩
    refine ifB _ (fun c => ?_) (fun c => ?_)
    · have c : inV (.str z) (PL.map V.str) = true := c
      rw [inV_strs] at c
      rw [c] at q; exact q
    · have c : inV (.str z) (PL.map V.str) = false := c
      rw [inV_strs] at c
      rw [c, Bool.false_or] at q
      refine ⟨_, rfl, _, _, _, rfl, rfl, T.d_LONG_GROUPS, ?_⟩
      rw [(lookup_paired (lg_pairs T)).1]; exact q
/-- group of the name of a group -/
def sp_group (K : PySem.W.Frag) : Sp := fun vs H Q _ => ∃ z : Str, vs = [.str z] ∧ isGroupB z = true ∧ ∀ (a : Addr) (H' : Hp), Same H H' → SqT K H' a ((groupS z).map V.str) → Q (.ref a) H'
theorem ok_group (T : Tx w K mg) : FnOk P w K mg base CX0 2 T.a_group T.fd_group ["name"] (sp_group K) := by
  refine T.F_group.ok sc_group (fun vs H Q E h => ?_) (fun cdv A outer s H vs Q E hr h => ?_)
  · obtain ⟨z, rfl, _⟩ := h; rfl
  · obtain ⟨z, rfl, hz, q⟩ := h
    refine ⟨_, ((pss_cons (ps_if (pt_not (pt_val (pe_call (ok_is_group T) (hr.mono (by decide)) rfl T.g_is_group T.F_is_group.kp T.b_is_group .nil pass0 (pa_cons (pv 0) pa_nil)))) (pss_one ps_never) pss_nil)
      (pss_one (ps_ret (pe_ifExp (pt_cmpR (op_in_seq) (pv 0) (pe_glob (v := .ref T.a_PLACES) rfl T.g_PLACES rfl) (by rfl)) (pe_tup (pa_cons (pv 0) pa_nil)) (pe_ix ix_KD (pe_glob (v := .ref T.a_LONG_GROUPS) rfl T.g_LONG_GROUPS rfl) (pv 0) (fun _ _ => rfl))))))), ?_⟩
    refine ⟨_, rfl, z, rfl, _, rfl, ?_⟩
    refine ifF (by rw [hz]; rfl) ?_
    refine ⟨_, rfl, _, _, rfl, .inr (T.p_PLACES _), rfl, flats_str PL, _, rfl, ?_⟩
    refine ifB _ (fun c => ?_) (fun c => ?_)
    · have c : inV (.str z) (PL.map V.str) = true := c
      rw [inV_strs] at c
      have hm := of_decide_eq_true c
      refine ⟨_, rfl, (by walk_at "len"), fun p np => ?_⟩
      refine q p _ (same_new np) ?_
      unfold groupS
      rw [if_pos hm]; exact SqT.of upd_same
    · have c : inV (.str z) (PL.map V.str) = false := c
      rw [inV_strs] at c
      have hm := of_decide_eq_false c
      have hl : ∃ ys, LG.lookup z = some ys := by
        unfold isGroupB at hz
        rw [c, Bool.false_or] at hz
        exact Option.isSome_iff_exists.mp hz
      obtain ⟨ys, hl⟩ := hl
      obtain ⟨a, ha, hs⟩ := (lookup_paired (lg_pairs T)).2 ys hl
      refine ⟨_, rfl, _, _, _, _, rfl, rfl, T.d_LONG_GROUPS, ha, ?_⟩
      refine q a H (Same.refl _) ?_
      unfold groupS
      rw [if_neg hm, hl]; exact hs H
/-- is_rule of a rule that is right -/
def sp_is_rule (K : PySem.W.Frag) : Sp := fun vs H Q _ => ∃ (v : V) (r : Rule), vs = [v] ∧ RuleAt K H v r ∧ wfRule r = true ∧ r.gs.length ≤ 100 ∧ ∀ H', Same H H' → Q (.bl true) H'
theorem nm_len {z : Str} (h : isNameB z = true) : z.length ≤ 8 := by
  unfold isNameB at h
  simp only [Bool.and_eq_true, decide_eq_true_eq] at h
  exact h.1.2
theorem ok_is_rule (T : Tx w K mg) : FnOk P w K mg base CX0 2 T.a_is_rule T.fd_is_rule ["rule"] (sp_is_rule K) := by
  refine T.F_is_rule.ok sc_is_rule (fun vs H Q E h => ?_) (fun cdv A outer s H vs Q E hr h => ?_)
  · obtain ⟨v, r, rfl, _⟩ := h; rfl
  · obtain ⟨v, r, rfl, ⟨t, g, rfl, hT, hG⟩, hw, hgl, q⟩ := h
    refine ⟨_, ((pss_cons (ps_if (PW.pt (pw_or (pt_not (pt_val (pe_callB (call_isiT) (by rfl) T.m_isinstance (by decide +kernel) (pa_cons (pv 0) (pa_cons (pe_tup (pa_cons (pe_bltn (v := .ty "list") (by rfl) T.m_list (by decide +kernel) rfl) (pa_cons (pe_bltn (v := .ty "tuple") (by rfl) T.m_tuple (by decide +kernel) rfl) pa_nil))) pa_nil))))) (pw_or1 (pt_cmpR (op_ne) (pe_callB (call_len) (by rfl) T.m_len (by decide +kernel) (pa_cons (pv 0) pa_nil)) pe_int (nomark _))))) (pss_one (ps_ret pe_bl)) pss_nil)
      (pss_cons (ps_asg (pv 0) (pg_seq (by rfl) (pgs_cons (pg_name (i := 1) sc_is_rule.nd rfl (by first | exact Or.inl rfl | exact Or.inr rfl)) (pgs_cons (pg_name (i := 2) sc_is_rule.nd rfl (by first | exact Or.inl rfl | exact Or.inr rfl)) (pgs_cons (pg_name (i := 3) sc_is_rule.nd rfl (by first | exact Or.inl rfl | exact Or.inr rfl)) (pgs_cons (pg_name (i := 4) sc_is_rule.nd rfl (by first | exact Or.inl rfl | exact Or.inr rfl)) (pgs_cons (pg_name (i := 5) sc_is_rule.nd rfl (by first | exact Or.inl rfl | exact Or.inr rfl)) pgs_nil)))))))
      (pss_cons (ps_if (PW.pt (pw_or (pt_not (pt_val (pe_call (ok_is_name T) (hr.mono (by decide)) rfl T.g_is_name T.F_is_name.kp T.b_is_name .nil pass0 (pa_cons (pv 1) pa_nil)))) (pw_or (pt_not (pt_val (pe_call (ok_is_name T) (hr.mono (by decide)) rfl T.g_is_name T.F_is_name.kp T.b_is_name .nil pass0 (pa_cons (pv 3) pa_nil)))) (pw_or (pt_not (pt_val (pe_call (ok_is_name T) (hr.mono (by decide)) rfl T.g_is_name T.F_is_name.kp T.b_is_name .nil pass0 (pa_cons (pv 5) pa_nil)))) (pw_or1 (pt_not (pt_val (pe_callB (call_isi) (by rfl) T.m_isinstance (by decide +kernel) (pa_cons (pv 4) (pa_cons (pe_bltn (v := .ty "bool") (by rfl) T.m_bool (by decide +kernel) rfl) pa_nil)))))))))) (pss_one (ps_ret pe_bl)) pss_nil)
      (pss_one (ps_ret (pe_and (pe_callB (call_isiT) (by rfl) T.m_isinstance (by decide +kernel) (pa_cons (pv 2) (pa_cons (pe_tup (pa_cons (pe_bltn (v := .ty "list") (by rfl) T.m_list (by decide +kernel) rfl) (pa_cons (pe_bltn (v := .ty "tuple") (by rfl) T.m_tuple (by decide +kernel) rfl) pa_nil))) pa_nil))) (pe_and (pe_cmpR (op_gt) (pe_callB (call_len) (by rfl) T.m_len (by decide +kernel) (pa_cons (pv 2) pa_nil)) pe_int (nomark _)) (pe_one (pe_callB (cr_all rfl) (by rfl) T.m_all (by decide +kernel) (pa_cons (pe_lc (own := [("name", 6)]) (by rfl) sc_is_rule.nd (pi_seq (pv 2)) (blkOk_by (own := [("name", 6)]) (N := N_is_rule) (sc := defScope s_is_rule) (by decide +kernel)) (fun _ _ _ _ _ => (pg_name (i := 6) sc_is_rule.nd rfl (by first | exact Or.inl rfl | exact Or.inr rfl))) (fun _ _ _ _ _ => pts_nil) (fun _ _ _ _ _ => (pe_call (ok_is_group T) (hr.mono (by decide)) rfl T.g_is_group T.F_is_group.kp T.b_is_group .nil pass0 (pa_cons (pv 6) pa_nil)))) pa_nil))))))))))), ?_⟩
    unfold wfRule at hw
    simp only [Bool.and_eq_true, decide_eq_true_eq] at hw
    obtain ⟨⟨⟨⟨n1, n2⟩, n3⟩, g0⟩, gA⟩ := hw
    refine ⟨_, rfl, (by walk_at "len"), fun p1 np1 => ?_⟩
    obtain ⟨ty, us, y1, y2, y3⟩ := isLT (hT.same (same_new (o := .tup [.ty "list", .ty "tuple"]) np1))
    refine ⟨_, _, _, _, _, true, rfl, upd_same, y1, y2, y3, _, rfl, ?_⟩
    refine ifF rfl ?_
    have hT := hT.same (same_new (o := .tup [.ty "list", .ty "tuple"]) np1)
    have hG := hG.same (same_new (o := .tup [.ty "list", .ty "tuple"]) np1)
    have sm1 : Same H _ := same_new (o := .tup [.ty "list", .ty "tuple"]) np1
    generalize upd H p1 (.tup [.ty "list", .ty "tuple"]) = H1 at *
    refine ⟨_, rfl, _, _, rfl, hT.len, rfl, _, rfl, ?_⟩
    refine iteNS rfl ?_
    -- unpack
    refine ⟨_, rfl, _, _, rfl, hT, rfl, _, _, rfl, _, _, rfl, _, _, rfl, _, _, rfl, _, _, rfl, rfl, ?_⟩
    refine ⟨_, rfl, _, rfl, Nat.le_trans (nm_len n1) (by decide), fun H2 sm2 => ?_⟩
    refine ⟨_, rfl, ?_⟩
    rw [n1]
    refine ifF rfl ?_
    refine ⟨_, rfl, _, rfl, Nat.le_trans (nm_len n2) (by decide), fun H3 sm3 => ?_⟩
    refine ⟨_, rfl, ?_⟩
    rw [n2]
    refine ifF rfl ?_
    refine ⟨_, rfl, _, rfl, Nat.le_trans (nm_len n3) (by decide), fun H4 sm4 => ?_⟩
    refine ⟨_, rfl, ?_⟩
    rw [n3]
    refine ifF rfl ?_
    refine ⟨_, rfl, _, _, _, _, true, rfl, .ty _, (by walk_at "tyx"), kit_ty (by decide +kernel), _, rfl, ?_⟩
    refine ifF rfl ?_
    -- groups
    have sm := (sm2.trans sm3).trans sm4
    have hG := hG.same sm
    refine ⟨_, rfl, (by walk_at "len"), fun p2 np2 => ?_⟩
    have hG := hG.same (same_new (o := .tup [.ty "list", .ty "tuple"]) np2)
    obtain ⟨ty, us, y1, y2, y3⟩ := isLT hG
    refine ⟨_, _, _, _, _, true, rfl, upd_same, y1, y2, y3, _, rfl, ?_⟩
    refine ifT rfl ?_
    refine ⟨_, rfl, _, _, rfl, hG.len, _, _, rfl, rfl, _, rfl, ?_⟩
    refine ifT (decide_eq_true (by rw [List.length_map]; omega)) ?_
    refine ⟨_, rfl, _, _, rfl, hG, fun J wk D nD => ?_⟩
    refine lcW_filt (p := fun _ => true) (f := fun _ => .bl true) wk (fun H' sm o ho _ => sm _ _ ho) nD (by rw [List.length_map]; omega) ?_ ?_ ?_
    · intro i y H' kk hy sm hk
      exact hk _ (Same.refl _)
    · intro i y H' kk hy _ sm hk
      rw [List.getElem?_map] at hy
      obtain ⟨z, hz, rfl⟩ := Option.map_eq_some_iff.mp hy
      have hg : isGroupB z = true := List.all_eq_true.mp gA z (List.mem_of_getElem? hz)
      refine ⟨_, rfl, z, rfl, ?_⟩
      rw [hg]; exact hk _ (Same.refl _)
    · intro H5 sm5 hD
      have eF : ((r.gs.map V.str).filter fun _ => true).map (fun _ => V.bl true) = (r.gs.map fun _ => true).map V.bl := by
        rw [filt_all, List.map_map, List.map_map]; rfl
      rw [eF] at hD
      refine ⟨_, _, rfl, SqL.of hD, ?_⟩
      have e : (r.gs.map fun _ => true).all id = true := by simp
      rw [e]
      exact q _ (((sm1.trans sm).trans (same_new np2)).trans sm5)
/-- states_of of rules -/
def sp_states_of (K : PySem.W.Frag) : Sp := fun vs H Q _ => ∃ (a : Addr) (rs : List Rule), vs = [.ref a] ∧ RulesAt K H a rs ∧ rs.length ≤ 1000 ∧ ∀ (H' : Hp) (p : Addr), Same H H' → H p = none → H' p = some (.lst ((statesR rs).map V.str)) → Q (.ref p) H'
theorem ok_states_of (T : Tx w K mg) : FnOk P w K mg base CX0 1 T.a_states_of T.fd_states_of ["rules"] (sp_states_of K) := by
  refine T.F_states_of.ok sc_states_of (fun vs H Q E h => ?_) (fun cdv A outer s H vs Q E hr h => ?_)
  · obtain ⟨a, rs, rfl, _⟩ := h; rfl
  · obtain ⟨a, rs, rfl, ⟨vs, hv, hp⟩, hlen, q⟩ := h
    have hu := hu_of hr
    refine ⟨_, ((pss_cons (ps_set (i := 1) sc_states_of.nd rfl (by first | exact Or.inl rfl | exact Or.inr rfl) pe_dnewK)
      (pss_cons (ps_for PassesOwn.never rfl (pi_seq (pv 0)) (pg_seq (by rfl) (pgs_cons (pg_name (i := 2) sc_states_of.nd rfl (by first | exact Or.inl rfl | exact Or.inr rfl)) (pgs_cons (pg_name (i := 3) sc_states_of.nd rfl (by first | exact Or.inl rfl | exact Or.inr rfl)) (pgs_cons (pg_name (i := 4) sc_states_of.nd rfl (by first | exact Or.inl rfl | exact Or.inr rfl)) (pgs_cons (pg_name (i := 5) sc_states_of.nd rfl (by first | exact Or.inl rfl | exact Or.inr rfl)) (pgs_cons (pg_name (i := 6) sc_states_of.nd rfl (by first | exact Or.inl rfl | exact Or.inr rfl)) pgs_nil))))))
        (pss_cons (ps_dput hu (pv 1) (pv 2) pe_bl rfl)
      (pss_one (ps_dput hu (pv 1) (pv 6) pe_bl rfl))))
      (pss_one (ps_ret (pe_callTy (call_listD rfl) (by rfl) T.m_list (by decide +kernel) (pa_cons (pv 1) pa_nil))))))), ?_⟩
    refine fun d nd => ?_
    have hvl : vs.length = rs.length := Paired.length hp
    refine ⟨_, rfl, _, _, rfl, hv.same (same_new nd), fun J wk => ?_⟩
    refine for_it wk (fun i σ H' => ∃ v2 v3 v4 v5 v6 : Option V, σ = [some (.ref a), some (.ref d), v2, v3, v4, v5, v6] ∧ Same H H' ∧ H' d = some (.dK (stD (statesR (rs.take i))))) ?_ ?_ ?_ ?_
    · exact ⟨_, _, _, _, _, rfl, same_new nd, upd_same⟩
    · rintro i σ H' hi ⟨_, _, _, _, _, rfl, sm, hd⟩ o ho hs
      by_cases e : a = d
      · subst e
        rw [upd_same] at ho
        cases ho
        exact (isSeqO_dK hs).elim
      · rw [upd_ne e] at ho
        exact sm _ _ ho
    · rintro i x σ H1 H' hi ⟨v2, v3, v4, v5, v6, rfl, sm, hd⟩ ⟨rfl, hx⟩
      obtain ⟨r, hr1, t, g, rfl, hT, hG⟩ := paired_get hp hx
      have hi' : i < rs.length := by omega
      have hl : (statesR (rs.take i)).length ≤ 2000 := by
        have := statesF_bound [] (rs.take i)
        have h2 : (rs.take i).length ≤ rs.length := by rw [List.length_take]; omega
        unfold statesR; simp only [List.length_nil] at this; omega
      refine ⟨_, _, rfl, hT.same sm, rfl, _, _, rfl, _, _, rfl, _, _, rfl, _, _, rfl, _, _, rfl, rfl, ?_⟩
      refine ⟨_, rfl, _, rfl, _, _, rfl, DPut.k (k := Sum.inr r.st) hd (sz100k_lt (by unfold stD; rw [List.length_map]; omega)), ?_⟩
      rw [stD_put]
      refine ⟨_, rfl, _, rfl, _, _, rfl, DPut.k (k := Sum.inr r.nx) upd_same (sz100k_lt ?_), ?_⟩
      · unfold stD; rw [List.length_map]
        have := (addS_len (statesR (rs.take i)) r.st).2
        omega
      rw [stD_put]
      refine ⟨_, _, _, _, _, rfl, ?_, ?_⟩
      · intro c o hc
        have ne := ne_of_none hc nd
        exact upd_skip ne (upd_skip ne (sm _ _ hc))
      · rw [take_snoc hr1]
        unfold statesR
        rw [statesF_snoc]; exact upd_same
    · rintro σ H' ⟨v2, v3, v4, v5, v6, rfl, sm, hd⟩
      rw [hvl, List.take_length] at hd
      refine ⟨_, rfl, _, _, rfl, .inl hd, fun p np => ?_⟩
      refine q _ p (sm.trans (same_new np)) (sm.free np) ?_
      have e : (stD (statesR rs)).map (fun kv => kV kv.1) = (statesR rs).map V.str := by unfold stD; rw [List.map_map]; rfl
      rw [e]; exact upd_same
/-- invalid_rule of rules that are right -/
def sp_invalid_rule (K : PySem.W.Frag) : Sp := fun vs H Q _ => ∃ (a : Addr) (rs : List Rule), vs = [.ref a] ∧ RulesAt K H a rs ∧ wfRules rs ∧ (∀ r ∈ rs, r.gs.length ≤ 100) ∧ ∀ H', Same H H' → Q (.int 0) H'
theorem ok_invalid_rule (T : Tx w K mg) : FnOk P w K mg base CX0 3 T.a_invalid_rule T.fd_invalid_rule ["rules"] (sp_invalid_rule K) := by
  refine T.F_invalid_rule.ok sc_invalid_rule (fun vs H Q E h => ?_) (fun cdv A outer s H vs Q E hr h => ?_)
  · obtain ⟨a, ns, rfl, _⟩ := h; rfl
  · obtain ⟨a, rs, rfl, ⟨vs, hv, hp⟩, ⟨w1, w2, w3, w4⟩, hg, q⟩ := h
    refine ⟨_, ((pss_cons (ps_if (pt_cmpR (op_eq) (pe_callB (call_len) (by rfl) T.m_len (by decide +kernel) (pa_cons (pv 0) pa_nil)) pe_int (nomark _)) (pss_one (ps_ret pe_int)) pss_nil)
      (pss_cons (ps_for PassesOwn.never rfl (pi_range2 rfl T.m_range (pa_cons pe_int (pa_cons (pe_op op_add (pe_callB (call_len) (by rfl) T.m_len (by decide +kernel) (pa_cons (pv 0) pa_nil)) pe_int) pa_nil))) (pg_name (i := 1) sc_invalid_rule.nd rfl (by first | exact Or.inl rfl | exact Or.inr rfl))
        (pss_one (ps_if (PW.pt (pw_or (pt_cmpR (op_gt) (pv 1) (pe_glob (v := .int 40) rfl T.g_MOST_RULES ⟨_, rfl⟩) (nomark _)) (pw_or (pt_not (pt_val (pe_call (ok_is_rule T) (hr.mono (by decide)) rfl T.g_is_rule T.F_is_rule.kp T.b_is_rule .nil pass0 (pa_cons (pe_ix ix_seq (pv 0) (pe_op op_sub (pv 1) pe_int) (fun _ _ => rfl)) pa_nil)))) (pw_or1 (pt_cmpR (op_gt) (pe_callB (call_len_seq) (by rfl) T.m_len (by decide +kernel) (pa_cons (pe_call (ok_states_of T) (hr.mono (by decide)) rfl T.g_states_of T.F_states_of.kp T.b_states_of .nil pass0 (pa_cons (pe_slice sl_seq (pv 0) po_none (po_some (pv 1))) pa_nil)) pa_nil)) (pe_glob (v := .int 6) rfl T.g_MOST_STATES ⟨_, rfl⟩) (nomark _)))))) (pss_one (ps_ret (pv 1))) pss_nil)))
      (pss_one (ps_ret pe_int))))), ?_⟩
    have hvl : vs.length = rs.length := Paired.length hp
    refine ⟨_, rfl, _, _, rfl, hv.len, rfl, _, rfl, ?_⟩
    refine ifF (decide_eq_false (by intro e; injection e with e; omega)) ?_
    refine ⟨_, rfl, _, _, rfl, hv.len, _, _, rfl, rfl, _, _, rfl, ⟨by decide, by decide, by omega, by omega⟩, ?_⟩
    rw [show ((vs.length : Int) + 1 - 1).toNat = vs.length by omega]
    refine for_range (lo := 1) (n := vs.length) (fun i σ H' => ∃ v1 : Option V, σ = [some (.ref a), v1] ∧ Same H H') ?_ ?_ ?_
    · exact ⟨_, rfl, Same.refl _⟩
    · rintro i σ H' hi ⟨v1, rfl, sm⟩
      obtain ⟨n, hn⟩ : ∃ n : Int, n = 1 + (i : Int) := ⟨_, rfl⟩
      rw [← hn]
      refine ⟨_, rfl, _, _, rfl, rfl, _, rfl, ?_⟩
      refine ifF (decide_eq_false (by omega)) ?_
      obtain ⟨r, hr1⟩ : ∃ r, rs[i]? = some r := ⟨_, List.getElem?_eq_getElem (by omega)⟩
      obtain ⟨v, hv1, hv2⟩ := paired_gety hp hr1
      refine ⟨_, rfl, _, rfl, _, _, rfl, rfl, ?_⟩
      refine rIx_seq (hv.same sm) (v := v) (by rw [show n - 1 = ((i : Nat) : Int) by omega]; exact atI_nat hv1) ?_
      have hm := List.mem_of_getElem? hr1
      refine ⟨v, r, rfl, hv2.same sm, w3 r hm, hg r hm, fun H2 sm2 => ?_⟩
      refine ⟨_, rfl, ?_⟩
      refine ifF rfl ?_
      refine ⟨_, rfl, _, rfl, _, rfl, _, _, rfl, hv.same (sm.trans sm2), fun p H3 sm3 hp3 => ?_⟩
      rw [show n = ((i + 1 : Nat) : Int) by omega, cut_to] at hp3
      refine ⟨p, rs.take (i + 1), rfl, ⟨_, hp3, Paired.mapP (paired_take _ hp) fun _ _ h => h.same ((sm.trans sm2).trans sm3)⟩, ?_, fun H4 p4 sm4 np4 h4 => ?_⟩
      · rw [List.length_take]; omega
      refine ⟨_, _, rfl, .inl (SqL.of h4), _, _, rfl, rfl, _, rfl, ?_⟩
      have := statesR_take rs (i + 1)
      refine ifF (decide_eq_false (by rw [List.length_map]; omega)) ?_
      exact ⟨_, rfl, ((sm.trans sm2).trans sm3).trans sm4⟩
    · rintro σ H' ⟨v1, rfl, sm⟩
      exact q _ sm
/-- Loop(rules, answers) of what is right -/
def sp_Loop___init__ (K : PySem.W.Frag) (C : Addr) : Sp := fun vs H Q _ => ∃ (self a dx : Addr) (av : V) (rs : List Rule) (ans : List (Str × Str)), vs = [.ref self, .ref a, av] ∧ H self = some (.ins C dx []) ∧ RulesAt K H a rs ∧ wfRules rs ∧ (∀ r ∈ rs, r.gs.length ≤ 100) ∧ ansOk rs ans ∧
  ((av = .non ∧ ans = []) ∨ ∃ d, av = .ref d ∧ H d = some (.dK (ansD ans))) ∧ ∀ H', But self H H' → LoopAt K C H' self rs ans → Q .non H'
theorem ok_Loop___init__ (T : Tx w K mg) : FnOk P w K mg base CX0 4 T.a_Loop___init__ T.fd_Loop___init__ ["self", "rules", "answers"] (sp_Loop___init__ K T.a_Loop) := by
  refine T.F_Loop___init__.ok sc_Loop___init__ (fun vs H Q E h => ?_) (fun cdv A outer s H vs Q E hr h => ?_)
  · obtain ⟨self, a, dx, av, rs, ans, rfl, _⟩ := h; rfl
  · obtain ⟨self, a, dx, av, rs, ans, rfl, hself, hR, hwf, hg, hA, hav, q⟩ := h
    have hu := hu_of hr
    refine ⟨_, PSs.nox ((pss_cons (ps_set (i := 3) sc_Loop___init__.nd rfl (by first | exact Or.inl rfl | exact Or.inr rfl) (pe_call (ok_invalid_rule T) (hr.mono (by decide)) rfl T.g_invalid_rule T.F_invalid_rule.kp T.b_invalid_rule .nil pass0 (pa_cons (pv 1) pa_nil)))
      (pss_cons (ps_if (pt_cmpR (op_gt) (pv 3) pe_int (nomark _)) (pss_one ps_never) pss_nil)
      (Evl.pss_cut (ps_setLc (i := 4) (own := [("rule", 5)]) (by rfl) sc_Loop___init__.nd rfl rfl (sw_true rfl rfl rfl (by decide +kernel)) (pi_seq (pv 1)) (blkOk_by (own := [("rule", 5)]) (N := N_Loop___init__) (sc := defScope s_Loop___init__) (by decide +kernel)) (fun _ _ _ _ _ => (pg_name (i := 5) sc_Loop___init__.nd rfl (by first | exact Or.inl rfl | exact Or.inr rfl))) (fun _ _ _ _ _ => pts_nil) (fun _ _ _ _ _ => (pe_tup (pa_cons (pe_ix (show IxR _ (rIx K) from ix_seq) (pv 5) pe_int (fun _ _ => rfl)) (pa_cons (pe_callTy ((show CallR _ _ (rTupSeq K) from call_tuple_seq)) (by rfl) T.m_tuple (by decide +kernel) (pa_cons (pe_ix (show IxR _ (rIx K) from ix_seq) (pv 5) pe_int (fun _ _ => rfl)) pa_nil)) (show PA _ _ (StX.tStar K _ _) from StX.pa_star (pe_slice (show SlR _ (rSlSeq K) from sl_seq) (pv 5) (po_some pe_int) po_none) pa_nil))))))
      (Evl.pss_cut (ps_fld (pv 0) (pe_callTy (call_tuple_of) (by rfl) T.m_tuple (by decide +kernel) (pa_cons (pv 4) pa_nil)) rfl)
      (Evl.pss_cut (ps_set (i := 6) sc_Loop___init__.nd rfl (by first | exact Or.inl rfl | exact Or.inr rfl) (pe_ifExp (pt_cmpR (op_isN) (pv 2) pe_non (nomark _)) pe_dnewK (pe_callTy (call_dictD) (by rfl) T.m_dict (by decide +kernel) (pa_cons (pv 2) pa_nil))))
      (Evl.pss_cut (ps_set (i := 7) sc_Loop___init__.nd rfl (by first | exact Or.inl rfl | exact Or.inr rfl) (pe_callTy (call_tuple_of) (by rfl) T.m_tuple (by decide +kernel) (pa_cons (pe_call (ok_states_of T) (hr.mono (by decide)) rfl T.g_states_of T.F_states_of.kp T.b_states_of .nil pass0 (pa_cons (pe_fld (pv 0) rfl) pa_nil)) pa_nil)))
      (pss_cons (ps_for PassesOwn.never rfl (pi_list (pe_callB (cr_sortedS) (by rfl) T.m_sorted (by decide +kernel) (pa_cons (pe_lock (pe_lc (own := [("key", 9)]) (by rfl) sc_Loop___init__.nd (pi_keys (pv 6)) (blkOk_by (own := [("key", 9)]) (N := N_Loop___init__) (sc := defScope s_Loop___init__) (by decide +kernel)) (fun _ _ _ _ _ => (pg_name (i := 9) sc_Loop___init__.nd rfl (by first | exact Or.inl rfl | exact Or.inr rfl))) (fun _ _ _ _ _ => pts_nil) (fun _ _ _ _ _ => (pe_callTy (SkE.call_str_str) (by rfl) T.m_str (by decide +kernel) (pa_cons (pv 9) pa_nil))))) pa_nil))) (pg_name (i := 8) sc_Loop___init__.nd rfl (by first | exact Or.inl rfl | exact Or.inr rfl))
        (pss_one (ps_if (pt_cmpR (op_notIn_seq) (pv 8) (pv 7) (by rfl)) (pss_one ps_never) pss_nil)))
      (pss_cons (ps_for PassesOwn.never rfl (pi_tup (pv 7)) (pg_name (i := 8) sc_Loop___init__.nd rfl (by first | exact Or.inl rfl | exact Or.inr rfl))
        (pss_cons (ps_set (i := 10) sc_Loop___init__.nd rfl (by first | exact Or.inl rfl | exact Or.inr rfl) (pe_dget2 hu (pv 6) (pv 8) pe_str ⟨rfl, rfl, rfl, rfl⟩))
      (pss_one (ps_if (PW.pt (pw_and (pt_cmpR (op_ne) (pv 10) pe_str (nomark _)) (pw_and1 (pt_not (pt_val (pe_call (ok_is_name T) (hr.mono (by decide)) rfl T.g_is_name T.F_is_name.kp T.b_is_name .nil pass0 (pa_cons (pv 10) pa_nil))))))) (pss_one ps_never) pss_nil))))
      (Evl.pss_cut (ps_fld (pv 0) (pe_dc (own := [("state", 8)]) (by rfl) sc_Loop___init__.nd (pi_tup (pv 7)) (blkOk_by (own := [("state", 8)]) (N := N_Loop___init__) (sc := defScope s_Loop___init__) (by decide +kernel)) (fun _ _ _ _ _ => (pg_name (i := 8) sc_Loop___init__.nd rfl (by first | exact Or.inl rfl | exact Or.inr rfl))) (fun _ _ _ _ _ => pts_nil) (fun _ _ _ _ _ => (pv 8)) (fun _ _ _ _ _ => (pe_dget2 hu (pv 6) (pv 8) pe_str ⟨rfl, rfl, rfl, rfl⟩))) rfl)
      (Evl.pss_cut (ps_fld (pv 0) pe_dnewT rfl)
      (pss_one (ps_for PassesOwn.never rfl (pi_enumT (by rfl) T.m_enumerate (pa_cons (pe_fld (pv 0) rfl) pa_nil)) (pg_tup (by rfl) (pgs_cons (pg_name (i := 11) sc_Loop___init__.nd rfl (by first | exact Or.inl rfl | exact Or.inr rfl)) (pgs_cons (pg_tup (by rfl) (pgs_cons (pg_name (i := 8) sc_Loop___init__.nd rfl (by first | exact Or.inl rfl | exact Or.inr rfl)) (pgs_cons (pg_name (i := 12) sc_Loop___init__.nd rfl (by first | exact Or.inl rfl | exact Or.inr rfl)) (pgs_cons (pg_name (i := 13) sc_Loop___init__.nd rfl (by first | exact Or.inl rfl | exact Or.inr rfl)) (pgs_cons (pg_name (i := 14) sc_Loop___init__.nd rfl (by first | exact Or.inl rfl | exact Or.inr rfl)) (pgs_cons (pg_name (i := 15) sc_Loop___init__.nd rfl (by first | exact Or.inl rfl | exact Or.inr rfl)) pgs_nil)))))) pgs_nil)))
        (pss_one (ps_for PassesOwn.never rfl (pi_tup (pv 12)) (pg_name (i := 16) sc_Loop___init__.nd rfl (by first | exact Or.inl rfl | exact Or.inr rfl))
        (pss_one (ps_for PassesOwn.never rfl (pi_tup (pe_cut (pe_ifExp (pt_cmpR (op_eq) (pv 16) pe_str (nomark _)) (pe_tup (pa_cons pe_str pa_nil)) (pe_call (ok_group T) (hr.mono (by decide)) rfl T.g_group T.F_group.kp T.b_group .nil pass0 (pa_cons (pv 16) pa_nil))))) (pg_name (i := 17) sc_Loop___init__.nd rfl (by first | exact Or.inl rfl | exact Or.inr rfl))
        (pss_one (ps_expr (pe_dsetdT hu (pe_fld (pv 0) rfl) (pe_tup (pa_cons (pv 8) (pa_cons (pv 17) pa_nil))) (pv 11) ⟨rfl, rfl, rfl, rfl⟩)))))))))))))))))))), ?_⟩
    obtain ⟨w1, w2, w3, w4⟩ := id hwf
    -- line
    refine ⟨_, rfl, a, rs, rfl, hR, hwf, hg, fun H1 sm1 => ?_⟩
    refine ⟨_, rfl, _, _, rfl, rfl, _, rfl, ?_⟩
    refine ifF rfl ?_
    -- copied
    refine ⟨fun σ H' => ∃ (cp : Addr) (vs : List V), σ = [some (.ref self), some (.ref a), some av, some (.int 0), some (.ref cp), none, none, none, none, none, none, none, none, none, none, none, none, none] ∧ Same H H' ∧ H' cp = some (.lst vs) ∧ Paired (RuleT K H') vs rs, ?_, ?_⟩
    · obtain ⟨vs, hv, hp⟩ := hR.same sm1
      have hvl : vs.length = rs.length := Paired.length hp
      refine ⟨_, rfl, _, _, rfl, hv, fun J wk D nD => ?_⟩
      refine lc_it wk (fun i H' => Same H1 H' ∧ ∃ us, H' D = some (.lst us) ∧ Paired (RuleT K H') us (rs.take i)) ?_ ?_ ?_ ?_
      · exact ⟨same_new nD, [], upd_same, .nil⟩
      · rintro i H' hi ⟨sm, _⟩ o ho _; exact sm _ _ ho
      · rintro i x H' H'' hi ⟨sm, us, hD, hu⟩ ⟨rfl, hx⟩
        obtain ⟨r, hr1, t, g, rfl, hT, hG⟩ := paired_get hp hx
        refine ⟨rfl, ?_⟩
        refine ⟨_, rfl, ?_⟩
        refine rIx_seq (hT.same sm) (i := 0) rfl ?_
        refine ⟨_, rfl, ?_⟩
        refine rIx_seq (hT.same sm) (i := 1) rfl ?_
        refine ⟨_, _, rfl, hG.same sm, fun g2 H2 sm2 hG2 => ?_⟩
        refine ⟨_, rfl, _, rfl, _, _, rfl, hT.same (sm.trans sm2), fun s3 H3 sm3 hs3 => ?_⟩
        rw [show (2 : Int) = ((2 : Nat) : Int) from rfl, cut_from] at hs3
        refine ⟨_, _, rfl, Or.symm hs3, (by walk_at "len"), fun t2 nt2 => ?_⟩
        have hul : us.length = i := by
          have := Paired.length hu
          rw [this, List.length_take]; omega
        have hD2 : upd H3 t2 (.tup [.str r.st, .ref g2, .str r.wd, .bl r.kp, .str r.nx]) D = some (.lst us) := upd_keep (sm3 _ _ (sm2 _ _ hD)) nt2
        refine ⟨us, hD2, sz100k_lt (by omega), ?_, _, upd_same, ?_⟩
        · intro c o hc
          refine upd_skip (ne_of_none hc nD) (upd_keep (sm3 _ _ (sm2 _ _ (sm _ _ hc))) nt2)
        · rw [take_snoc hr1]
          refine paired_snoc (Paired.mapP hu fun _ _ h => (((h.same sm2).same sm3).same (same_new nt2)).skip hD2 noTup_lst) ?_
          refine RuleT.skip hD2 noTup_lst ⟨t2, g2, rfl, SqT.of upd_same, SqT_same (same_new nt2) (SqT_same sm3 hG2)⟩
      · rintro H' ⟨sm, us, hD, hu⟩
        rw [hvl, List.take_length] at hu
        exact ⟨D, us, rfl, sm1.trans sm, hD, hu⟩
    rintro σ H2 ⟨cp, vs, rfl, sm2, hcp, hvs⟩
    -- self.own_rules
    refine ⟨fun σ H' => ∃ (ra : Addr), σ = [some (.ref self), some (.ref a), some av, some (.int 0), some (.ref cp), none, none, none, none, none, none, none, none, none, none, none, none, none] ∧ But self H H' ∧ H' self = some (.ins T.a_Loop dx [("own_rules", .ref ra)]) ∧ RulesT K H' ra rs, ?_, ?_⟩
    · refine ⟨_, rfl, _, _, rfl, .inl ⟨SqL.of hcp, fun ra nra => ?_⟩⟩
      have hs2 := upd_keep (o := .tup vs) (sm2 _ _ hself) nra
      refine ⟨_, rfl, _, _, _, _, rfl, hs2, T.cl_Loop, T.no_Loop_own_rules, by decide, ?_⟩
      refine ⟨ra, rfl, But.upd ((But.of_same sm2).new nra), upd_same, ?_⟩
      refine RulesT.skip hs2 noTup_ins ⟨vs, SqT.of upd_same, Paired.mapP hvs fun _ _ h => h.same (same_new nra)⟩
    rintro σ H3 ⟨ra, rfl, bt3, hs3, hr3⟩
    -- given
    refine ⟨fun σ H' => ∃ (gv : Addr), σ = [some (.ref self), some (.ref a), some av, some (.int 0), some (.ref cp), none, some (.ref gv), none, none, none, none, none, none, none, none, none, none, none] ∧ But self H H' ∧ H' self = some (.ins T.a_Loop dx [("own_rules", .ref ra)]) ∧ RulesT K H' ra rs ∧ H' gv = some (.dK (ansD ans)), ?_, ?_⟩
    · rcases hav with ⟨rfl, rfl⟩ | ⟨d, rfl, hd⟩
      · refine ⟨_, rfl, rfl, _, rfl, ?_⟩
        refine ifT rfl ?_
        intro gv ng
        exact ⟨gv, rfl, bt3.new ng, upd_keep hs3 ng, hr3.same (same_new ng), upd_same⟩
      · refine ⟨_, rfl, rfl, _, rfl, ?_⟩
        refine ifF rfl ?_
        refine ⟨_, rfl, d, _, rfl, .inl (bt3.at (fun e => ?_) hd), fun gv ng => ?_⟩
        · subst e; rw [hd] at hself; cases hself
        exact ⟨gv, rfl, bt3.new ng, upd_keep hs3 ng, hr3.same (same_new ng), upd_same⟩
    rintro σ H4 ⟨gv, rfl, bt4, hs4, hr4, hg4⟩
    -- found
    refine ⟨fun σ H' => ∃ (fd : Addr), σ = [some (.ref self), some (.ref a), some av, some (.int 0), some (.ref cp), none, some (.ref gv), some (.ref fd), none, none, none, none, none, none, none, none, none, none] ∧ Same H4 H' ∧ H' fd = some (.tup ((statesR rs).map V.str)), ?_, ?_⟩
    · refine ⟨_, rfl, _, _, _, _, _, rfl, hs4, T.cl_Loop, T.no_Loop_own_rules, rfl, ra, rs, rfl, hr4.at, by omega, fun H5 p5 sm5 np5 hp5 => ?_⟩
      refine ⟨_, _, rfl, .inl ⟨SqL.of hp5, fun l nl => ?_⟩⟩
      exact ⟨l, rfl, sm5.trans (same_new nl), upd_same⟩
    rintro σ H5 ⟨fd, rfl, sm5, hfd⟩
    -- for state in sorted
    refine ⟨gv, _, sm5 _ _ hg4, True.intro, fun od => ?_⟩
    refine ⟨_, rfl, gv, od, rfl, .inl ⟨_, upd_same, fun D nD => ?_⟩⟩
    have hal : (ansD ans).length = ans.length := by unfold ansD; rw [List.length_map]
    refine lc_it walk_keys (fun i H' => Same (upd H5 gv (.frz od (.dK (ansD ans)))) H' ∧ H' D = some (.lst ((ans.take i).map fun p => V.str p.1))) ?_ ?_ ?_ ?_
    · exact ⟨same_new nD, upd_same⟩
    · rintro i H' hi ⟨sm, _⟩; exact sm _ _ upd_same
    · rintro i x H' H'' hi ⟨sm, hD⟩ ⟨rfl, k, v, hk, rfl⟩
      have hk : (ans.map fun p => ((Sum.inr p.1 : Key), V.str p.2))[i]? = some (k, v) := hk
      rw [List.getElem?_map] at hk
      obtain ⟨⟨ks, vs'⟩, hk1, hk2⟩ := Option.map_eq_some_iff.mp hk
      injection hk2 with e1 e2
      subst e1
      refine ⟨rfl, ?_⟩
      refine ⟨_, rfl, ks, rfl, ?_⟩
      refine ⟨_, hD, sz100k_lt ?_, ?_, ?_⟩
      · rw [List.length_map, List.length_take]
        have := hA.2; omega
      · intro c o hc
        exact upd_skip (ne_of_none hc nD) (sm _ _ hc)
      · rw [take_snoc hk1, List.map_append]; exact upd_same
    · rintro H6 ⟨sm6, hD6⟩
      rw [hal, List.take_length] at hD6
      refine ⟨sm6 _ _ upd_same, ?_⟩
      have sm7 : Same H5 (upd H6 gv (.dK (ansD ans))) := lock_same (sm5 _ _ hg4) sm6
      have nDg : D ≠ gv := upd_none_ne nD
      have hD7 : upd H6 gv (.dK (ansD ans)) D = some (.lst (ans.map fun p => V.str p.1)) := upd_skip nDg hD6
      obtain ⟨H7, hH7⟩ : ∃ H7, H7 = upd H6 gv (.dK (ansD ans)) := ⟨_, rfl⟩
      rw [← hH7] at sm7 hD7 ⊢
      refine ⟨D, ans.map (·.1), rfl, SqL.of (by rw [hD7, List.map_map]; rfl), by rw [List.length_map]; have := hA.2; omega, fun ys p perm _ np => ?_⟩
      refine ⟨_, rfl, ⟨_, SqL.of upd_same⟩, for_list (K := K) (a := p) (xs := ys.map V.str) (fun j σ H' => ∃ v8 : Option V, σ = [some (.ref self), some (.ref a), some av, some (.int 0), some (.ref cp), none, some (.ref gv), some (.ref fd), v8, none, none, none, none, none, none, none, none, none] ∧ H' = upd H7 p (.lst (ys.map V.str))) ?_ ?_ ?_ ?_⟩
      · exact ⟨_, rfl, rfl⟩
      · rintro j σ H' _ ⟨v8, rfl, rfl⟩; exact SqL.of upd_same
      · rintro j y σ H' hy ⟨v8, rfl, rfl⟩
        rw [List.getElem?_map] at hy
        obtain ⟨z, hz, rfl⟩ := Option.map_eq_some_iff.mp hy
        have hm : z ∈ statesR rs := by
          have h1 := perm.mem_iff.mp (List.mem_of_getElem? hz)
          obtain ⟨pp, h2, rfl⟩ := List.mem_map.mp h1
          exact (hA.1 pp h2).1
        refine ⟨_, rfl, _, rfl, _, _, rfl, .inr (SqT.of (upd_keep (sm7 _ _ hfd) np)), rfl, flats_str _, _, rfl, ?_⟩
        refine ifF ?_ ?_
        · show (!inV (.str z) ((statesR rs).map V.str)) = false
          rw [inV_strs, decide_eq_true hm]; rfl
        exact ⟨_, rfl, rfl⟩
      rintro σ H8' ⟨v8, rfl, rfl⟩
      -- for state in found
      have sm8 : Same H4 (upd H7 p (.lst (ys.map V.str))) := (sm5.trans sm7).trans (same_new np)
      have hfd8 : upd H7 p (.lst (ys.map V.str)) fd = some (.tup ((statesR rs).map V.str)) := upd_keep (sm7 _ _ hfd) np
      obtain ⟨H8, hH8⟩ : ∃ H8, H8 = upd H7 p (.lst (ys.map V.str)) := ⟨_, rfl⟩
      rw [← hH8] at sm8 hfd8 ⊢
      refine ⟨_, rfl, _, rfl, ⟨_, SqT.of hfd8⟩, for_tup (K := K) (a := fd) (xs := (statesR rs).map V.str) (fun j σ H' => ∃ v8 v10 : Option V, σ = [some (.ref self), some (.ref a), some av, some (.int 0), some (.ref cp), none, some (.ref gv), some (.ref fd), v8, none, v10, none, none, none, none, none, none, none] ∧ Same H8 H') ?_ ?_ ?_ ?_⟩
      · exact ⟨_, _, rfl, Same.refl _⟩
      · rintro j σ H' _ ⟨v8, v10, rfl, sm⟩; exact SqT.of (sm _ _ hfd8)
      · rintro j y σ H' hy ⟨v8, v10, rfl, sm⟩
        rw [List.getElem?_map] at hy
        obtain ⟨z, hz, rfl⟩ := Option.map_eq_some_iff.mp hy
        have hg9 := sm _ _ (sm8 _ _ hg4)
        refine ⟨_, rfl, _, rfl, .inl ⟨_, .inl hg9⟩, _, rfl, _, DGet.k (k := Sum.inr z) hg9, ?_⟩
        rw [ansD_val, ansD_get]
        refine ⟨_, rfl, rfl, _, rfl, ?_⟩
        rcases ansOk_of hA z with hz0 | hz0
        · refine ifF (by rw [hz0]; rfl) ?_
          refine ifF rfl ?_
          exact ⟨_, _, rfl, sm⟩
        · refine ifT ?_ ?_
          · have : ansOf ans z ≠ "" := fun e => by rw [e] at hz0; exact absurd hz0 (by decide +kernel)
            show (!decide (V.str (ansOf ans z) = V.str "")) = true
            rw [decide_eq_false (fun e => this (by injection e))]; rfl
          refine ⟨_, rfl, _, rfl, Nat.le_trans (nm_len hz0) (by decide), fun H9 sm9 => ?_⟩
          refine ⟨_, rfl, ?_⟩
          refine ifF (by rw [hz0]; rfl) ?_
          exact ⟨_, _, rfl, sm.trans sm9⟩
      rintro σ H9 ⟨v8, v10, rfl, sm9⟩
      -- self.own_answers
      have bt9 : But self H H9 := bt4.trans (But.of_same (sm8.trans sm9))
      have hs9 := sm9 _ _ (sm8 _ _ hs4)
      have hr9 := (hr4.same sm8).same sm9
      have hg9 := sm9 _ _ (sm8 _ _ hg4)
      have hfd9 := sm9 _ _ hfd8
      refine ⟨fun σ H' => ∃ (oa : Addr), σ = [some (.ref self), some (.ref a), some av, some (.int 0), some (.ref cp), none, some (.ref gv), some (.ref fd), v8, none, v10, none, none, none, none, none, none, none] ∧ But self H H' ∧ H' self = some (.ins T.a_Loop dx [("own_rules", .ref ra), ("own_answers", .ref oa)]) ∧ RulesT K H' ra rs ∧ H' oa = some (.dK (ansV rs ans)), ?_, ?_⟩
      · refine ⟨_, rfl, _, rfl, ⟨_, SqT.of hfd9⟩, fun D nD => ?_⟩
        refine dc_tup (K := K) (a := fd) (xs := (statesR rs).map V.str) (fun i H' => Same H9 H' ∧ H' D = some (.dK (((statesR rs).take i).map fun s => ((Sum.inr s : Key), V.str (ansOf ans s))))) ?_ ?_ ?_ ?_
        · exact ⟨same_new nD, upd_same⟩
        · rintro i H' _ ⟨sm, _⟩; exact SqT.of (sm _ _ hfd9)
        · rintro i x H' hx ⟨sm, hD⟩
          rw [List.getElem?_map] at hx
          obtain ⟨z, hz, rfl⟩ := Option.map_eq_some_iff.mp hx
          refine ⟨rfl, ?_⟩
          refine ⟨_, rfl, _, rfl, _, rfl, .inl ⟨_, .inl (sm _ _ hg9)⟩, _, rfl, _, DGet.k (k := Sum.inr z) (sm _ _ hg9), ?_⟩
          rw [ansD_val, ansD_get]
          refine ⟨_, Sum.inr z, rfl, hD, sz100k_lt ?_, ?_, ?_⟩
          · rw [List.length_map, List.length_take]; omega
          · intro c o hc
            exact upd_skip (ne_of_none hc nD) (sm _ _ hc)
          · rw [putK_new, take_snoc hz, List.map_append]
            · exact upd_same
            · rw [mapD_val, if_neg]
              exact nd_take (statesR_nodup rs) hz
        · rintro H' ⟨sm, hD⟩
          rw [List.length_map, List.take_length] at hD
          have hs' := sm _ _ hs9
          refine ⟨_, rfl, _, _, _, _, rfl, hs', T.cl_Loop, T.no_Loop_own_answers, (by show 1 < 1000; decide), ?_⟩
          refine ⟨D, rfl, But.upd (bt9.trans (But.of_same sm)), upd_same, RulesT.skip hs' noTup_ins (hr9.same sm), upd_skip (ne_of hD hs' (fun z => nomatch z)) hD⟩
      rintro σ H10 ⟨oa, rfl, bt10, hs10, hr10, ho10⟩
      -- self.table
      refine ⟨fun σ H' => ∃ (tb : Addr), σ = [some (.ref self), some (.ref a), some av, some (.int 0), some (.ref cp), none, some (.ref gv), some (.ref fd), v8, none, v10, none, none, none, none, none, none, none] ∧ But self H H' ∧ H tb = none ∧ H' self = some (.ins T.a_Loop dx [("own_rules", .ref ra), ("own_answers", .ref oa), ("table", .ref tb)]) ∧ RulesT K H' ra rs ∧ H' oa = some (.dK (ansV rs ans)) ∧ H' tb = some (.dT []), ?_, ?_⟩
      · refine fun tb ntb => ?_
        have hs' := upd_keep (o := .dT []) hs10 ntb
        refine ⟨_, rfl, _, _, _, _, rfl, hs', T.cl_Loop, T.no_Loop_table, (by show 2 < 1000; decide), ?_⟩
        refine ⟨tb, rfl, But.upd (bt10.new ntb), ?_, upd_same, RulesT.skip hs' noTup_ins (hr10.same (same_new ntb)), ?_, ?_⟩
        · by_cases e : tb = self
          · subst e; rw [hs10] at ntb; cases ntb
          · cases hh : H tb with
            | none => rfl
            | some o => rw [bt10 _ _ e hh] at ntb; cases ntb
        · exact upd_skip (ne_of ho10 hs10 (fun z => nomatch z)) (upd_keep ho10 ntb)
        · exact upd_skip (ne_of_none hs10 ntb).symm upd_same
      rintro σ H11 ⟨tb, rfl, bt11, ntb, hs11, hr11, ho11, ht11⟩
      -- for k, rule in enumerate(own_rules)
      have nts : self ≠ tb := ne_of hs11 ht11 (fun z => nomatch z)
      obtain ⟨vs, hv, hp⟩ := id hr11
      have hvl : vs.length = rs.length := Paired.length hp
      refine ⟨_, rfl, _, _, _, _, _, rfl, hs11, T.cl_Loop, T.no_Loop_own_rules, rfl, _, _, rfl, hv, ?_⟩
      have keepT : ∀ {H' : Hp} {x : Addr} {xs : List V}, But tb H11 H' → SqT K H11 x xs → SqT K H' x xs := fun {H' x xs} bt h => by
        rcases h with (h | ⟨ob, h⟩) | h
        · exact .inl (.inl (bt _ _ (ne_of h ht11 (fun z => nomatch z)) h))
        · exact .inl (.inr ⟨ob, bt _ _ (ne_of h ht11 (fun z => nomatch z)) h⟩)
        · exact .inr h
      refine for_it (walk_enumT (K := K) (a := ra) (xs := vs)) (fun i σ H' => ∃ (v8 v11 v12 v13 v14 v15 v16 v17 : Option V) (tab : List (List Key × V)), σ = [some (.ref self), some (.ref a), some av, some (.int 0), some (.ref cp), none, some (.ref gv), some (.ref fd), v8, none, v10, v11, v12, v13, v14, v15, v16, v17] ∧ But tb H11 H' ∧ H' tb = some (.dT tab) ∧ tab.length ≤ i * 1100 ∧ TabIs tab (fitIdx (rs.take i))) ?_ ?_ ?_ ?_
      · exact ⟨_, _, _, _, _, _, _, _, [], rfl, But.refl, ht11, by simp, fun s p => rfl⟩
      · rintro i σ H' hi ⟨v8, v11, v12, v13, v14, v15, v16, v17, tab, rfl, bt, _⟩; exact keepT bt hv
      · rintro i x σ H' H'' hi ⟨v8, v11, v12, v13, v14, v15, v16, v17, tab, rfl, bt, htb, hlen, htab⟩ ⟨t0, x0, y0, rfl, nt0, rfl, e1, e2⟩
        cases e1
        obtain ⟨r, hr1, t, g, rfl, hT, hG⟩ := paired_get hp e2
        have hrm := List.mem_of_getElem? hr1
        have hgb : ∀ g ∈ r.gs, isGroupB g = true := by
          have := w3 r hrm
          unfold wfRule at this
          simp only [Bool.and_eq_true] at this
          exact List.all_eq_true.mp this.2
        have hgl := hg r hrm
        have bt0 : But tb H11 (upd H' t0 (.tup [.int (i : Nat), .ref t])) := bt.new nt0
        refine ⟨_, _, rfl, SqT.of upd_same, rfl, _, _, rfl, _, _, rfl, _, _, rfl, keepT bt0 hT, rfl, _, _, rfl, _, _, rfl, _, _, rfl, _, _, rfl, _, _, rfl, rfl, rfl, ?_⟩
        have htb0 : upd H' t0 (.tup [.int (i : Nat), .ref t]) tb = some (.dT tab) := upd_keep htb nt0
        -- for name in groups
        refine ⟨_, rfl, _, rfl, ⟨_, keepT bt0 hG⟩, for_tup (K := K) (a := g) (xs := r.gs.map V.str) (fun j σ H' => ∃ (v16 v17 : Option V) (tab : List (List Key × V)), σ = [some (.ref self), some (.ref a), some av, some (.int 0), some (.ref cp), none, some (.ref gv), some (.ref fd), some (.str r.st), none, v10, some (.int (i : Nat)), some (.ref g), some (.str r.wd), some (.bl r.kp), some (.str r.nx), v16, v17] ∧ But tb H11 H' ∧ H' tb = some (.dT tab) ∧ tab.length ≤ i * 1100 + ((r.gs.take j).flatMap placesG).length ∧ TabIs tab (tabF rs i r.st ((r.gs.take j).flatMap placesG))) ?_ ?_ ?_ ?_⟩
        · refine ⟨_, _, tab, rfl, bt0, htb0, by simpa using hlen, ?_⟩
          rw [List.take_zero, List.flatMap_nil, tabF_nil]; exact htab
        · rintro j σ H2 _ ⟨v16, v17, tab, rfl, bt, _⟩; exact keepT bt hG
        · rintro j y σ H2 hy ⟨v16, v17, tab, rfl, bt2, htb2, hlen2, htab2⟩
          rw [List.getElem?_map] at hy
          obtain ⟨nm, hnm, rfl⟩ := Option.map_eq_some_iff.mp hy
          have hgn := hgb nm (List.mem_of_getElem? hnm)
          -- for place
          refine ⟨fun v H3 => ∃ L : Addr, v = .ref L ∧ But tb H11 H3 ∧ H3 tb = some (.dT tab) ∧ SqT K H3 L ((placesG nm).map V.str), ?_, ?_⟩
          · refine ⟨_, rfl, rfl, _, rfl, ?_⟩
            by_cases hn : nm = "none"
            · subst hn
              refine ifT rfl ?_
              refine ⟨(by walk_at "len"), fun L nL => ?_⟩
              exact ⟨L, rfl, bt2.new nL, upd_keep htb2 nL, SqT.of upd_same⟩
            · refine ifF (decide_eq_false fun e => hn (by injection e)) ?_
              refine ⟨_, rfl, nm, rfl, hgn, fun L H3 sm3 hL => ?_⟩
              refine ⟨L, rfl, bt2.trans (But.of_same sm3), sm3 _ _ htb2, ?_⟩
              unfold placesG; rw [if_neg hn]; exact hL
          rintro v H3 ⟨L, rfl, bt3, htb3, hL⟩
          have keepL : ∀ {H' : Hp}, But tb H3 H' → SqT K H' L ((placesG nm).map V.str) := fun {H'} bt => by
            rcases hL with (h | ⟨ob, h⟩) | h
            · exact .inl (.inl (bt _ _ (ne_of h htb3 (fun z => nomatch z)) h))
            · exact .inl (.inr ⟨ob, bt _ _ (ne_of h htb3 (fun z => nomatch z)) h⟩)
            · exact .inr h
          refine ⟨_, rfl, ⟨_, hL⟩, for_tup (K := K) (a := L) (xs := (placesG nm).map V.str) (fun m σ H' => ∃ (v17 : Option V) (tab : List (List Key × V)), σ = [some (.ref self), some (.ref a), some av, some (.int 0), some (.ref cp), none, some (.ref gv), some (.ref fd), some (.str r.st), none, v10, some (.int (i : Nat)), some (.ref g), some (.str r.wd), some (.bl r.kp), some (.str r.nx), some (.str nm), v17] ∧ But tb H3 H' ∧ H' tb = some (.dT tab) ∧ tab.length ≤ i * 1100 + ((r.gs.take j).flatMap placesG).length + m ∧ TabIs tab (tabF rs i r.st ((r.gs.take j).flatMap placesG ++ (placesG nm).take m))) ?_ ?_ ?_ ?_⟩
          · refine ⟨_, tab, rfl, But.refl, htb3, hlen2, ?_⟩
            rw [List.take_zero, List.append_nil]; exact htab2
          · rintro m σ H4 _ ⟨v17, tab, rfl, bt, _⟩; exact keepL bt
          · rintro m y σ H4 hy ⟨v17, tab4, rfl, bt4, htb4, hlen4, htab4⟩
            rw [List.getElem?_map] at hy
            obtain ⟨pl, hpl, rfl⟩ := Option.map_eq_some_iff.mp hy
            have hm : m < (placesG nm).length := (List.getElem?_eq_some_iff.mp hpl).1
            have hm11 := placesG_len nm hgn
            have hfl := flat_len (gs := r.gs.take j) fun x hx => hgb x (List.mem_of_mem_take hx)
            have hjl : (r.gs.take j).length ≤ 100 := by rw [List.length_take]; omega
            have hs4 := bt4 _ _ nts (bt3 _ _ nts hs11)
            have hi40 : i ≤ 40 := by omega
            refine ⟨_, rfl, _, _, _, _, _, rfl, hs4, T.cl_Loop, T.no_Loop_table, rfl, _, rfl, .inr ⟨_, .inl htb4⟩, _, rfl, _, rfl, (by walk_at "len"), fun b nb => ?_⟩
            refine ⟨_, rfl, tab4, [Sum.inr r.st, Sum.inr pl], b, upd_keep htb4 nb, rfl, upd_same, sz100k_lt (by omega), fun v hv => ?_, fun hv => ?_⟩
            · refine ⟨_, tab4, rfl, bt4.new nb, upd_keep htb4 nb, by omega, ?_⟩
              rw [take_snoc hpl, ← List.append_assoc]
              exact tab_some htab4 hv
            · refine ⟨_, _, rfl, But.upd (bt4.new nb), upd_same, ?_, ?_⟩
              · have := length_putK tab4 [Sum.inr r.st, Sum.inr pl] (.int (i : Nat)); omega
              · rw [take_snoc hpl, ← List.append_assoc]
                exact tab_none htab4 hv
          · rintro σ H4 ⟨v17, tab4, rfl, bt4, htb4, hlen4, htab4⟩
            rw [List.length_map] at hlen4 htab4
            rw [List.take_length] at htab4
            have e : (r.gs.take (j + 1)).flatMap placesG = (r.gs.take j).flatMap placesG ++ placesG nm := by
              rw [take_snoc hnm, List.flatMap_append]; simp
            refine ⟨_, _, tab4, rfl, bt3.trans bt4, htb4, ?_, ?_⟩
            · rw [e, List.length_append]; omega
            · rw [e]; exact htab4
        · rintro σ H2 ⟨v16, v17, tab2, rfl, bt2, htb2, hlen2, htab2⟩
          rw [List.length_map, List.take_length] at hlen2 htab2
          have hfl := flat_len hgb
          refine ⟨_, _, _, _, _, _, _, _, tab2, rfl, bt2, htb2, ?_, ?_⟩
          · rw [Nat.add_mul]; omega
          · rw [← tab_end hr1]; exact htab2
      · rintro σ H12 ⟨v8, v11, v12, v13, v14, v15, v16, v17, tab, rfl, bt, htb, _, htab⟩
        rw [hvl, List.take_length] at htab
        refine q H12 (fun c o hc h => bt _ _ (ne_of_none h ntb) (bt11 _ _ hc h)) ?_
        refine ⟨dx, ra, oa, tb, tab, bt _ _ nts hs11, ⟨vs, keepT bt hv, Paired.mapP hp fun _ _ ⟨t, g, e, h1, h2⟩ => ⟨t, g, e, keepT bt h1, keepT bt h2⟩⟩, bt _ _ (ne_of ho11 ht11 (fun z => nomatch z)) ho11, htb, htab⟩
/-- loop.start -/
def sp_Loop_start (K : PySem.W.Frag) (C : Addr) : Sp := fun vs H Q _ => ∃ (p : Addr) (rs : List Rule) (ans : List (Str × Str)), vs = [.ref p] ∧ LoopAt K C H p rs ans ∧ 0 < rs.length ∧ Q (.str (startR rs)) H
theorem ok_Loop_start (T : Tx w K mg) : FnOk P w K mg base CX0 1 T.a_Loop_start T.fd_Loop_start ["self"] (sp_Loop_start K T.a_Loop) := by
  refine T.F_Loop_start.ok sc_Loop_start (fun vs H Q E h => ?_) (fun cdv A outer s H vs Q E hr h => ?_)
  · obtain ⟨p, rs, ans, rfl, _⟩ := h; rfl
  · obtain ⟨p, rs, ans, rfl, ⟨dx, ra, rd, rt, tab, h1, ⟨vs, hv, hp⟩, h3, h4, h5⟩, hl, q⟩ := h
    refine ⟨_, ((pss_one (ps_ret (pe_ix ix_tup (pe_ix ix_tup (pe_fld (pv 0) rfl) pe_int (fun _ _ => rfl)) pe_int (fun _ _ => rfl))))), ?_⟩
    cases hp with
    | nil => exact absurd hl (by simp)
    | cons r _ =>
      obtain ⟨t, g, rfl, hT, _⟩ := r
      exact ⟨_, rfl, _, _, _, _, _, rfl, h1, T.cl_Loop, T.no_Loop_own_rules, rfl, _, _, _, _, rfl, rfl, hv, atI_nat (j := 0) rfl, _, _, _, _, rfl, rfl, hT, rfl, q⟩
/-- loop.answers -/
def sp_Loop_answers (K : PySem.W.Frag) (C : Addr) : Sp := fun vs H Q _ => ∃ (p : Addr) (rs : List Rule) (ans : List (Str × Str)), vs = [.ref p] ∧ LoopAt K C H p rs ans ∧ ∀ d, H d = none → Q (.ref d) (upd H d (.dK (ansV rs ans)))
theorem ok_Loop_answers (T : Tx w K mg) : FnOk P w K mg base CX0 1 T.a_Loop_answers T.fd_Loop_answers ["self"] (sp_Loop_answers K T.a_Loop) := by
  refine T.F_Loop_answers.ok sc_Loop_answers (fun vs H Q E h => ?_) (fun cdv A outer s H vs Q E hr h => ?_)
  · obtain ⟨p, rs, ans, rfl, _⟩ := h; rfl
  · obtain ⟨p, rs, ans, rfl, ⟨dx, ra, rd, rt, tab, h1, h2, h3, h4, h5⟩, q⟩ := h
    refine ⟨_, ((pss_one (ps_ret (pe_callTy (call_dictD) (by rfl) T.m_dict (by decide +kernel) (pa_cons (pe_fld (pv 0) rfl) pa_nil))))), ?_⟩
    exact ⟨_, rfl, _, _, _, _, _, rfl, h1, T.cl_Loop, T.no_Loop_own_answers, rfl, _, _, rfl, .inl h3, fun d nd => q d nd⟩
/-- used(loop, state, place) -/
def sp_used (K : PySem.W.Frag) (C : Addr) : Sp := fun vs H Q _ => ∃ (lp : Addr) (s p : Str) (rs : List Rule) (ans : List (Str × Str)), vs = [.ref lp, .str s, .str p] ∧ LoopAt K C H lp rs ans ∧
  ∀ (H' : Hp) (t : Addr), Same H H' → SqT K H' t [.str (usedR rs s p).1, .bl (usedR rs s p).2.1, .str (usedR rs s p).2.2] → Q (.ref t) H'
theorem ok_used (T : Tx w K mg) : FnOk P w K mg base CX0 4 T.a_used T.fd_used ["loop", "state", "place"] (sp_used K T.a_Loop) := by
  refine T.F_used.ok sc_used (fun vs H Q E h => ?_) (fun cdv A outer s H vs Q E hr h => ?_)
  · obtain ⟨p, _, _, rs, ans, rfl, _⟩ := h; rfl
  · obtain ⟨lp, s0, p0, rs, ans, rfl, ⟨dx, ra, rd, rt, tab, h1, ⟨vs, hv, hp⟩, h3, h4, h5⟩, q⟩ := h
    have hu := hu_of hr
    refine ⟨_, ((pss_cons (ps_set (i := 3) sc_used.nd rfl (by first | exact Or.inl rfl | exact Or.inr rfl) (pe_dget1 hu (pe_fld (pv 0) rfl) (pe_tup (pa_cons (pv 1) (pa_cons (pv 2) pa_nil))) ⟨rfl, rfl, rfl, rfl⟩))
      (pss_one (ps_ret (pe_ifExp (pt_cmpR (op_isN) (pv 3) pe_non (nomark _)) (pe_tup (pa_cons pe_str (pa_cons pe_bl (pa_cons (pv 1) pa_nil)))) (pe_slice sl_tupA (pe_ix ix_tup (pe_fld (pv 0) rfl) (pv 3) (fun _ _ => rfl)) (po_some pe_int) po_none)))))), ?_⟩
    refine ⟨_, rfl, _, _, _, _, _, rfl, h1, T.cl_Loop, T.no_Loop_table, rfl, _, rfl, .inr ⟨_, .inl h4⟩, _, rfl, _, rfl, (by walk_at "len"), fun b nb => ?_⟩
    refine ⟨_, DGet.t (k := [Sum.inr s0, Sum.inr p0]) (upd_keep h4 nb) upd_same, ?_⟩
    rw [h5 s0 p0]
    cases e : fitIdx rs s0 p0 with
    | none =>
      refine ⟨_, rfl, rfl, _, rfl, ?_⟩
      refine ifT rfl ?_
      refine ⟨_, rfl, (by walk_at "len"), fun t nt => ?_⟩
      refine q _ t ((same_new nb).trans (same_new nt)) ?_
      rw [fit_none e]; exact SqT.of upd_same
    | some i =>
      obtain ⟨r, hr1, hu1⟩ := fit_some e
      obtain ⟨v, hv1, t, g, rfl, hT, hG⟩ := paired_gety hp hr1
      refine ⟨_, rfl, rfl, _, rfl, ?_⟩
      refine ifF rfl ?_
      have sm : Same H _ := same_new (o := .tup [.str s0, .str p0]) nb
      refine ⟨_, rfl, _, _, _, _, _, rfl, upd_keep h1 nb, T.cl_Loop, T.no_Loop_own_rules, rfl, _, rfl, _, _, _, _, rfl, rfl, SqT_same sm hv, atI_nat hv1, _, rfl, _, _, rfl, SqT_same sm hT, fun z => absurd z.1 (by show ¬ (2 = 0); decide), fun _ t2 nt2 => ?_⟩
      refine q _ t2 (sm.trans (same_new nt2)) ?_
      rw [hu1]
      rw [show (2 : Int) = ((2 : Nat) : Int) from rfl, cut_from]
      exact SqT.of upd_same
/-- Run(words, keeps, kept, state, answer) -/
def sp_Run___init__ (K : PySem.W.Frag) (C : Addr) : Sp := fun vs H Q _ => ∃ (self dx a b c : Addr) (r : RS) (an : Str), vs = [.ref self, .ref a, .ref b, .ref c, .str r.st, .str an] ∧ H self = some (.ins C dx []) ∧ H a = some (.lst (r.words.map V.str)) ∧ H b = some (.lst (r.keeps.map V.bl)) ∧ H c = some (.lst (r.kept.map V.int)) ∧
  ∀ H', But self H H' → RunAt K C H' self r an → Q .non H'
theorem ok_Run___init__ (T : Tx w K mg) : FnOk P w K mg base CX0 1 T.a_Run___init__ T.fd_Run___init__ ["self", "words", "keeps", "kept", "state", "answer"] (sp_Run___init__ K T.a_Run) := by
  refine T.F_Run___init__.ok sc_Run___init__ (fun vs H Q E h => ?_) (fun cdv A outer s H vs Q E hr h => ?_)
  · obtain ⟨self, dx, a, b, c, r, an, rfl, _⟩ := h; rfl
  · obtain ⟨self, dx, a, b, c, r, an, rfl, h0, ha, hb, hc, q⟩ := h
    refine ⟨_, ((pss_cons (ps_fld (pv 0) (pe_callTy (call_tuple_of) (by rfl) T.m_tuple (by decide +kernel) (pa_cons (pv 1) pa_nil)) rfl)
      (pss_cons (ps_fld (pv 0) (pe_callTy (call_tuple_of) (by rfl) T.m_tuple (by decide +kernel) (pa_cons (pv 2) pa_nil)) rfl)
      (pss_cons (ps_fld (pv 0) (pe_callTy (call_tuple_of) (by rfl) T.m_tuple (by decide +kernel) (pa_cons (pv 3) pa_nil)) rfl)
      (pss_cons (ps_fld (pv 0) (pv 4) rfl)
      (pss_one (ps_fld (pv 0) (pv 5) rfl))))))), ?_⟩
    have na : a ≠ self := ne_of ha h0 (fun z => nomatch z)
    have nb : b ≠ self := ne_of hb h0 (fun z => nomatch z)
    have nc : c ≠ self := ne_of hc h0 (fun z => nomatch z)
    refine ⟨_, rfl, _, _, rfl, .inl ⟨SqL.of ha, fun p1 n1 => ?_⟩⟩
    have hs1 := upd_keep (o := .tup (r.words.map V.str)) h0 n1
    refine ⟨_, rfl, _, _, _, _, rfl, hs1, T.cl_Run, T.no_Run_words, (by decide), ?_⟩
    have m1 := ne_of_none h0 n1
    have b1 : But self H (upd (upd H p1 (.tup (r.words.map V.str))) self (.ins T.a_Run dx (putF "words" (.ref p1) []))) := But.upd (But.refl.new n1)
    have w1 : upd (upd H p1 (.tup (r.words.map V.str))) self (.ins T.a_Run dx (putF "words" (.ref p1) [])) p1 = some (.tup (r.words.map V.str)) := upd_skip m1.symm upd_same
    obtain ⟨H1, hH1⟩ : ∃ H1, H1 = upd (upd H p1 (.tup (r.words.map V.str))) self (.ins T.a_Run dx (putF "words" (.ref p1) [])) := ⟨_, rfl⟩
    have s1 : H1 self = some (.ins T.a_Run dx [("words", .ref p1)]) := by rw [hH1]; exact upd_same
    rw [← hH1] at b1 w1 ⊢
    refine ⟨_, rfl, _, _, rfl, .inl ⟨SqL.of (b1.at nb hb), fun p2 n2 => ?_⟩⟩
    have hs2 := upd_keep (o := .tup (r.keeps.map V.bl)) s1 n2
    refine ⟨_, rfl, _, _, _, _, rfl, hs2, T.cl_Run, T.no_Run_keeps, (by show 1 < 1000; decide), ?_⟩
    have m2 := ne_of_none s1 n2
    have b2 : But self H1 (upd (upd H1 p2 (.tup (r.keeps.map V.bl))) self (.ins T.a_Run dx (putF "keeps" (.ref p2) [("words", .ref p1)]))) := But.upd (But.refl.new n2)
    have w2 : upd (upd H1 p2 (.tup (r.keeps.map V.bl))) self (.ins T.a_Run dx (putF "keeps" (.ref p2) [("words", .ref p1)])) p2 = some (.tup (r.keeps.map V.bl)) := upd_skip m2.symm upd_same
    obtain ⟨H2, hH2⟩ : ∃ H2, H2 = upd (upd H1 p2 (.tup (r.keeps.map V.bl))) self (.ins T.a_Run dx (putF "keeps" (.ref p2) [("words", .ref p1)])) := ⟨_, rfl⟩
    have s2 : H2 self = some (.ins T.a_Run dx [("words", .ref p1), ("keeps", .ref p2)]) := by rw [hH2]; exact upd_same
    rw [← hH2] at b2 w2 ⊢
    refine ⟨_, rfl, _, _, rfl, .inl ⟨SqL.of (b2.at nc (b1.at nc hc)), fun p3 n3 => ?_⟩⟩
    have hs3 := upd_keep (o := .tup (r.kept.map V.int)) s2 n3
    refine ⟨_, rfl, _, _, _, _, rfl, hs3, T.cl_Run, T.no_Run_kept, (by show 2 < 1000; decide), ?_⟩
    have m3 := ne_of_none s2 n3
    refine ⟨_, rfl, _, rfl, _, _, _, _, rfl, upd_same, T.cl_Run, T.no_Run_state, (by show 3 < 1000; decide), ?_⟩
    refine ⟨_, rfl, _, rfl, _, _, _, _, rfl, upd_same, T.cl_Run, T.no_Run_answer, (by show 4 < 1000; decide), ?_⟩
    refine q _ (((b1.trans b2).new n3).upd.upd.upd) ⟨dx, p1, p2, p3, upd_same, ?_, ?_, ?_⟩
    · exact upd_skip m1.symm (upd_skip m1.symm (upd_skip m1.symm (upd_keep (b2.at m1.symm w1) n3)))
    · exact upd_skip m2.symm (upd_skip m2.symm (upd_skip m2.symm (upd_keep w2 n3)))
    · exact upd_skip m3.symm (upd_skip m3.symm (upd_skip m3.symm upd_same))
/-- run.last -/
def sp_Run_last (K : PySem.W.Frag) (C : Addr) : Sp := fun vs H Q _ => ∃ (p : Addr) (r : RS) (an : Str), vs = [.ref p] ∧ RunAt K C H p r an ∧ Q (lastV r.kept) H
theorem ok_Run_last (T : Tx w K mg) : FnOk P w K mg base CX0 1 T.a_Run_last T.fd_Run_last ["self"] (sp_Run_last K T.a_Run) := by
  refine T.F_Run_last.ok sc_Run_last (fun vs H Q E h => ?_) (fun cdv A outer s H vs Q E hr h => ?_)
  · obtain ⟨p, r, an, rfl, _⟩ := h; rfl
  · obtain ⟨p, r, an, rfl, ⟨dx, a, b, c, h1, h2, h3, h4⟩, q⟩ := h
    refine ⟨_, ((pss_one (ps_ret (pe_ifExp (pt_cmpR (op_gt) (pe_callB (call_len_seq) (by rfl) T.m_len (by decide +kernel) (pa_cons (pe_fld (pv 0) rfl) pa_nil)) pe_int (nomark _)) (pe_ix ix_tup (pe_fld (pv 0) rfl) (pe_un un_neg pe_int) (fun _ _ => rfl)) pe_non)))), ?_⟩
    refine ⟨_, rfl, _, _, _, _, _, rfl, h1, T.cl_Run, T.no_Run_kept, rfl, _, _, rfl, .inr (SqT.of h4), _, _, rfl, rfl, _, rfl, ?_⟩
    unfold lastV at q
    cases e : r.kept.getLast? with
    | none =>
      rw [e] at q
      have hn : r.kept = [] := List.getLast?_eq_none_iff.mp e
      refine ifF (decide_eq_false (by rw [hn]; decide)) ?_
      exact q
    | some k =>
      rw [e] at q
      have hl : 0 < r.kept.length := by cases hk : r.kept with | nil => rw [hk] at e; exact nomatch e | cons _ _ => simp
      refine ifT (decide_eq_true (by rw [List.length_map]; omega)) ?_
      refine ⟨_, rfl, _, _, _, _, _, rfl, h1, T.cl_Run, T.no_Run_kept, rfl, _, rfl, _, _, _, _, rfl, rfl, SqT.of h4, atI_last (x := .int k) ?_, q⟩
      rw [List.getLast?_map, e]; rfl
/-- run(loop, row, tolerance) -/
def sp_run (K : PySem.W.Frag) (C R : Addr) : Sp := fun vs H Q _ => ∃ (lp row : Addr) (e : Int) (rs : List Rule) (ans : List (Str × Str)) (ns : List Int), vs = [.ref lp, .ref row, .int e] ∧ LoopAt K C H lp rs ans ∧ wfRules rs ∧ RowAt H row (ns.map V.int) ∧ ns.length ≤ 1000 ∧
  (∀ i ∈ ns, -1000000000000000000000000000000 < i ∧ i < 1000000000000000000000000000000) ∧ (1 ≤ e ∧ e < 1000000000000000000000000000000) ∧ ∀ (H' : Hp) (p : Addr), Same H H' → H p = none → RunAt K R H' p (runR rs e ns) (ansOf ans (runR rs e ns).st) → Q (.ref p) H'
theorem ok_run (T : Tx w K mg) : FnOk P w K mg base CX0 5 T.a_run T.fd_run ["loop", "row", "tolerance"] (sp_run K T.a_Loop T.a_Run) := by
  refine T.F_run.ok sc_run (fun vs H Q E h => ?_) (fun cdv A outer s H vs Q E hr h => ?_)
  · obtain ⟨lp, row, e, rs, ans, ns, rfl, _⟩ := h; rfl
  · obtain ⟨lp, row, e, rs, ans, ns, rfl, hL, hwf, hrow, hlen, hns, ⟨e1, e2⟩, q⟩ := h
    have hu := hu_of hr
    refine ⟨_, ((pss_cons (ps_expr (pe_call (ok_check_row T) (hr.mono (by decide)) rfl T.g_check_row T.F_check_row.kp T.b_check_row .nil pass0 (pa_cons (pv 1) pa_nil)))
      (pss_cons (ps_expr (pe_call (ok_check_tolerance T) (hr.mono (by decide)) rfl T.g_check_tolerance T.F_check_tolerance.kp T.b_check_tolerance .nil pass0 (pa_cons (pv 2) pa_nil)))
      (Evl.pss_cut (ps_asg (pe_tup (pa_cons (pe_prop (pv 0) T.cl_Loop T.pr_Loop_start (ok_Loop_start T) (hr.mono (by decide)) T.b_Loop_start .nil pass0 rfl) (pa_cons (pe_lst pa_nil) (pa_cons (pe_lst pa_nil) (pa_cons (pe_lst pa_nil) pa_nil))))) (pg_tup (by rfl) (pgs_cons (pg_name (i := 3) sc_run.nd rfl (by first | exact Or.inl rfl | exact Or.inr rfl)) (pgs_cons (pg_name (i := 4) sc_run.nd rfl (by first | exact Or.inl rfl | exact Or.inr rfl)) (pgs_cons (pg_name (i := 5) sc_run.nd rfl (by first | exact Or.inl rfl | exact Or.inr rfl)) (pgs_cons (pg_name (i := 6) sc_run.nd rfl (by first | exact Or.inl rfl | exact Or.inr rfl)) pgs_nil))))))
      (pss_cons (ps_for PassesOwn.never rfl (pi_seq (pv 1)) (pg_name (i := 7) sc_run.nd rfl (by first | exact Or.inl rfl | exact Or.inr rfl))
        (pss_cons (ps_set (i := 8) sc_run.nd rfl (by first | exact Or.inl rfl | exact Or.inr rfl) (pe_cut (pe_ifExp (pt_cmpR (op_gt) (pe_callB (call_len_seq) (by rfl) T.m_len (by decide +kernel) (pa_cons (pv 6) pa_nil)) pe_int (nomark _)) (pe_call (ok_place T) (hr.mono (by decide)) rfl T.g_place T.F_place.kp T.b_place .nil pass0 (pa_cons (pv 7) (pa_cons (pe_ix ix_list (pv 6) (pe_un un_neg pe_int) (fun _ _ => rfl)) (pa_cons (pv 2) pa_nil)))) pe_str)))
      (pss_cons (ps_asg (pe_call (ok_used T) (hr.mono (by decide)) rfl T.g_used T.F_used.kp T.b_used .nil pass0 (pa_cons (pv 0) (pa_cons (pv 3) (pa_cons (pv 8) pa_nil)))) (pg_tup (by rfl) (pgs_cons (pg_name (i := 9) sc_run.nd rfl (by first | exact Or.inl rfl | exact Or.inr rfl)) (pgs_cons (pg_name (i := 10) sc_run.nd rfl (by first | exact Or.inl rfl | exact Or.inr rfl)) (pgs_cons (pg_name (i := 3) sc_run.nd rfl (by first | exact Or.inl rfl | exact Or.inr rfl)) pgs_nil)))))
      (pss_cons (ps_expr (pe_bm PySem.F.plainAttrs_list PySem.F.slot_list_append PySem.F.type_list_append mt_append (pv 4) (pa_cons (pv 9) pa_nil)))
      (pss_cons (ps_expr (pe_bm PySem.F.plainAttrs_list PySem.F.slot_list_append PySem.F.type_list_append mt_append (pv 5) (pa_cons (pv 10) pa_nil)))
      (pss_one (ps_if (pt_val (pv 10)) (pss_one (ps_expr (pe_bm PySem.F.plainAttrs_list PySem.F.slot_list_append PySem.F.type_list_append mt_append (pv 6) (pa_cons (pv 7) pa_nil)))) pss_nil)))))))
      (pss_one (ps_ret (pe_make T.mk_Run (ok_Run___init__ T) (hr.mono (by decide)) rfl T.g_Run T.b_Run___init__ .nil pass0 (pa_cons (pv 4) (pa_cons (pv 5) (pa_cons (pv 6) (pa_cons (pv 3) (pa_cons (pe_dget hu (pe_prop (pv 0) T.cl_Loop T.pr_Loop_answers (ok_Loop_answers T) (hr.mono (by decide)) T.b_Loop_answers .nil pass0 rfl) (pv 3) (fun _ _ => rfl)) pa_nil))))))))))))), ?_⟩
    refine ⟨_, rfl, row, ns, rfl, hrow.sq, hlen, hns, fun H1 sm1 => ?_⟩
    refine ⟨_, rfl, e, rfl, e1, e2, ?_⟩
    have hL1 := hL.same sm1
    have hr1 := hrow.same sm1
    obtain ⟨w1, w2, w3, w4⟩ := id hwf
    refine ⟨fun σ H' => ∃ a b c : Addr, σ = [some (.ref lp), some (.ref row), some (.int e), some (.str (startR rs)), some (.ref a), some (.ref b), some (.ref c), none, none, none, none] ∧ Same H1 H' ∧ H1 a = none ∧ H1 b = none ∧ H1 c = none ∧ (a ≠ b ∧ a ≠ c ∧ b ≠ c) ∧ H' a = some (.lst []) ∧ H' b = some (.lst []) ∧ H' c = some (.lst []), ?_, ?_⟩
    · obtain ⟨dx, ra, rd, rt, tab, l1, l2, l3, l4, l5⟩ := id hL1
      refine ⟨_, rfl, _, _, _, rfl, l1, lp, rs, ans, rfl, hL1, w1, ?_⟩
      refine ⟨(by walk_at "len"), fun a na => ?_⟩
      refine ⟨(by walk_at "len"), fun b nb => ?_⟩
      refine ⟨(by walk_at "len"), fun c nc => ?_⟩
      refine ⟨(by walk_at "len"), fun d nd => ?_⟩
      refine ⟨_, _, rfl, SqT.of upd_same, rfl, _, _, rfl, _, _, rfl, _, _, rfl, _, _, rfl, rfl, ?_⟩
      refine ⟨a, b, c, rfl, (((same_new na).trans (same_new nb)).trans (same_new nc)).trans (same_new nd), na, upd_no nb, upd_no (upd_no nc), ⟨(upd_none_ne nb).symm, (upd_none_ne (upd_no nc)).symm, (upd_none_ne nc).symm⟩, ?_, ?_, ?_⟩
      · exact upd_keep (upd_keep (upd_keep upd_same nb) nc) nd
      · exact upd_keep (upd_keep upd_same nc) nd
      · exact upd_keep upd_same nd
    rintro σ H2 ⟨a, b, c, rfl, sm2, na, nb, nc, ⟨nab, nac, nbc⟩, ha, hb, hc⟩
    refine ⟨_, rfl, _, _, rfl, (hr1.same sm2).sq, fun J wk => ?_⟩
    refine for_it wk (fun i σ H' => ∃ (v7 v8 v9 v10 : Option V), σ = [some (.ref lp), some (.ref row), some (.int e), some (.str (runR rs e (ns.take i)).st), some (.ref a), some (.ref b), some (.ref c), v7, v8, v9, v10] ∧ Same H1 H' ∧ H' a = some (.lst ((runR rs e (ns.take i)).words.map V.str)) ∧ H' b = some (.lst ((runR rs e (ns.take i)).keeps.map V.bl)) ∧ H' c = some (.lst ((runR rs e (ns.take i)).kept.map V.int))) ?_ ?_ ?_ ?_
    · exact ⟨_, _, _, _, rfl, sm2, ha, hb, hc⟩
    · rintro i σ H' hi ⟨v7, v8, v9, v10, rfl, sm, _⟩ o ho _; exact hr1.stays sm2 sm ho
    · rintro i x σ H3 H' hi ⟨v7, v8, v9, v10, rfl, sm, ha, hb, hc⟩ ⟨rfl, hx⟩
      rw [List.getElem?_map] at hx
      obtain ⟨z, hz, rfl⟩ := Option.map_eq_some_iff.mp hx
      have hi : i < ns.length := (List.getElem?_eq_some_iff.mp hz).1
      obtain ⟨r, hr0⟩ : ∃ r, r = runR rs e (ns.take i) := ⟨_, rfl⟩
      have hkm := run_kept rs e (ns.take i)
      obtain ⟨hl1, hl2, hl3⟩ := run_len rs e (ns.take i)
      have htl : (ns.take i).length ≤ 1000 := by rw [List.length_take]; omega
      rw [← hr0] at ha hb hc hkm hl1 hl2 hl3 ⊢
      -- where
      refine ⟨fun v H4 => v = .str (whereS r.kept z e) ∧ H4 = H', ?_, ?_⟩
      · refine ⟨_, rfl, _, _, rfl, .inl (SqL.of hc), _, _, rfl, rfl, _, rfl, ?_⟩
        cases hk : r.kept.getLast? with
        | none =>
          have hn : r.kept = [] := List.getLast?_eq_none_iff.mp hk
          refine ifF (decide_eq_false (by rw [hn]; decide)) ?_
          refine ⟨?_, rfl⟩
          unfold whereS; rw [hk]
        | some k =>
          have hl : 0 < r.kept.length := by cases hk2 : r.kept with | nil => rw [hk2] at hk; exact nomatch hk | cons _ _ => simp
          refine ifT (decide_eq_true (by rw [List.length_map]; omega)) ?_
          have hkn := hns k (List.mem_of_mem_take (hkm k (List.mem_of_getLast? hk)))
          refine ⟨_, rfl, _, rfl, _, rfl, _, _, _, _, rfl, rfl, SqL.of hc, atI_last (x := .int k) ?_, _, rfl, z, k, e, rfl, hns z (List.mem_of_getElem? hz), hkn, ⟨e1, e2⟩, ?_, rfl⟩
          · rw [List.getLast?_map, hk]; rfl
          · unfold whereS; rw [hk]
      rintro v H4 ⟨rfl, rfl⟩
      -- used
      refine ⟨_, rfl, _, rfl, _, rfl, lp, _, _, rs, ans, rfl, hL1.same sm, fun H5 t sm5 ht => ?_⟩
      obtain ⟨u, hu0⟩ : ∃ u, u = usedR rs r.st (whereS r.kept z e) := ⟨_, rfl⟩
      rw [← hu0] at ht
      refine ⟨_, _, rfl, ht, rfl, _, _, rfl, _, _, rfl, _, _, rfl, rfl, ?_⟩
      refine ⟨_, rfl, .inl ⟨rfl, _, SqL.of (sm5 _ _ ha)⟩, _, rfl, _, _, _, rfl, rfl, sm5 _ _ ha, sz100k_lt (by rw [List.length_map]; omega), ?_⟩
      refine ⟨_, rfl, .inl ⟨rfl, _, SqL.of (upd_skip nab.symm (sm5 _ _ hb))⟩, _, rfl, _, _, _, rfl, rfl, upd_skip nab.symm (sm5 _ _ hb), sz100k_lt (by rw [List.length_map]; omega), ?_⟩
      have hc5 := upd_skip (o := .lst (r.keeps.map V.bl ++ [.bl u.2.1])) nbc.symm (upd_skip (o := .lst (r.words.map V.str ++ [.str u.1])) nac.symm (sm5 _ _ hc))
      have smA : Same H1 (upd (upd H5 a (.lst (r.words.map V.str ++ [.str u.1]))) b (.lst (r.keeps.map V.bl ++ [.bl u.2.1]))) := fun q o hq => upd_skip (ne_of_none hq nb) (upd_skip (ne_of_none hq na) (sm5 _ _ (sm _ _ hq)))
      have fin : runR rs e (ns.take (i + 1)) = ⟨u.2.2, r.words ++ [u.1], r.keeps ++ [u.2.1], if u.2.1 = true then r.kept ++ [z] else r.kept⟩ := by
        rw [take_snoc hz, runR_snoc, ← hr0, hu0]; rfl
      refine ⟨_, rfl, _, rfl, ?_⟩
      refine ifB _ (fun hk => ?_) (fun hk => ?_)
      · have hk : u.2.1 = true := hk
        refine ⟨_, rfl, .inl ⟨rfl, _, SqL.of hc5⟩, _, rfl, _, _, _, rfl, rfl, hc5, sz100k_lt (by rw [List.length_map]; omega), ?_⟩
        rw [fin]
        refine ⟨_, _, _, _, rfl, fun q o hq => upd_skip (ne_of_none hq nc) (smA _ _ hq), ?_, ?_, ?_⟩
        · rw [List.map_append]
          exact upd_skip nac (upd_skip nab upd_same)
        · rw [List.map_append]
          exact upd_skip nbc upd_same
        · show _ = some (HO.lst (List.map V.int (if u.2.1 = true then r.kept ++ [z] else r.kept)))
          rw [if_pos hk, List.map_append]; exact upd_same
      · have hk : u.2.1 = false := hk
        rw [fin]
        refine ⟨_, _, _, _, rfl, smA, ?_, ?_, ?_⟩
        · rw [List.map_append]
          exact upd_skip nab upd_same
        · rw [List.map_append]
          exact upd_same
        · show _ = some (HO.lst (List.map V.int (if u.2.1 = true then r.kept ++ [z] else r.kept)))
          rw [if_neg (by rw [hk]; decide)]; exact hc5
    · rintro σ H3 ⟨v7, v8, v9, v10, rfl, sm, ha, hb, hc⟩
      rw [List.length_map, List.take_length] at ha hb hc ⊢
      obtain ⟨dx, ra, rd, rt, tab, l1, l2, l3, l4, l5⟩ := id (hL1.same sm)
      refine ⟨_, rfl, _, rfl, _, rfl, _, rfl, _, rfl, _, _, _, rfl, l1, lp, rs, ans, rfl, hL1.same sm, fun d nd => ?_⟩
      have hst := run_state rs e w1 ns
      have dg := DGet.k (H := upd H3 d (.dK (ansV rs ans))) (k := Sum.inr (runR rs e ns).st) upd_same
      unfold ansV at dg
      rw [mapD_val, if_pos hst] at dg
      refine ⟨_, rfl, _, _, rfl, dg, fun x dx2 nx ndx ne => ?_⟩
      have ns1 : H3 x = none := upd_no nx
      refine ⟨x, dx2, a, b, c, runR rs e ns, ansOf ans (runR rs e ns).st, rfl, upd_same, ?_, ?_, ?_, fun H5 bt hR => ⟨rfl, ?_⟩⟩
      · exact upd_keep (upd_keep (upd_keep ha nd) ndx) (by rw [upd_ne (Ne.symm ne)]; exact nx)
      · exact upd_keep (upd_keep (upd_keep hb nd) ndx) (by rw [upd_ne (Ne.symm ne)]; exact nx)
      · exact upd_keep (upd_keep (upd_keep hc nd) ndx) (by rw [upd_ne (Ne.symm ne)]; exact nx)
      · have smx : Same H H5 := fun q o hq => by
          have h3 := sm _ _ (sm1 _ _ hq)
          refine bt _ _ (ne_of_none h3 ns1) ?_
          exact upd_skip (ne_of_none h3 ns1) (upd_keep (upd_keep h3 nd) ndx)
        refine q H5 x smx ?_ hR
        exact (sm1.trans sm).free ns1
/-- the source that a script makes -/
def sp__law_source (K : PySem.W.Frag) : Sp := fun vs H Q _ => ∃ (a : Addr) (ns : List Int), vs = [.ref a] ∧ SqL K H a (ns.map V.int) ∧
  ∀ (H' : Hp) (p : Addr), Same H H' → H p = none → Src H' p 0 → Q (.ref p) H'
theorem ok__law_source (T : Tx w K mg) : FnOk P w K mg base CX0 1 T.a__law_source T.fd__law_source ["_law_script"] (sp__law_source K) := by
  refine T.F__law_source.ok sc__law_source (fun vs H Q E h => ?_) (fun cdv A outer s H vs Q E hr h => ?_)
  · obtain ⟨a, ns, rfl, _⟩ := h; rfl
  · obtain ⟨a, ns, rfl, hS, q⟩ := h
    refine ⟨_, ((pss_cons (ps_asg (pe_tup (pa_cons pe_int (pa_cons pe_int pa_nil))) (pg_tup (by rfl) (pgs_cons (pg_name (i := 1) sc__law_source.nd rfl (by first | exact Or.inl rfl | exact Or.inr rfl)) (pgs_cons (pg_name (i := 2) sc__law_source.nd rfl (by first | exact Or.inl rfl | exact Or.inr rfl)) pgs_nil))))
      (pss_cons (ps_for PassesOwn.never rfl (pi_list (pv 0)) (pg_name (i := 3) sc__law_source.nd rfl (by first | exact Or.inl rfl | exact Or.inr rfl))
        (pss_cons (ps_if (PW.pt (pw_and (pt_cmpR (op_eq) (pv 1) pe_int (nomark _)) (pw_and1 (pt_cmpR (op_ge) (pv 3) (pe_op op_pow pe_int pe_int) (nomark _))))) (pss_one (ps_set (i := 1) sc__law_source.nd rfl (by first | exact Or.inl rfl | exact Or.inr rfl) (pv 3))) pss_nil)
      (pss_one (ps_set (i := 2) sc__law_source.nd rfl (by first | exact Or.inl rfl | exact Or.inr rfl) (pe_op op_mod (pe_callTy (call_int1) (by rfl) T.m_int (by decide +kernel) (pa_cons (pe_op op_add (pe_op op_add (pe_op op_mul (pv 2) pe_int) (pv 3)) pe_int) pa_nil)) pe_int)))))
      (pss_one (ps_ret (pe_lst (pa_cons (pv 1) (pa_cons (pv 2) (pa_cons pe_int pa_nil))))))))), ?_⟩
    refine ⟨(by walk_at "len"), fun t nt => ?_⟩
    refine ⟨_, _, rfl, SqT.of upd_same, rfl, _, _, rfl, _, _, rfl, rfl, ?_⟩
    have sm : Same H _ := same_new (o := .tup [.int 0, .int 17]) nt
    have hS := sm.seq hS
    generalize upd H t (.tup [.int 0, .int 17]) = H1 at *
    refine ⟨_, rfl, _, rfl, ⟨_, hS⟩, for_list (K := K) (a := a) (xs := ns.map V.int) (fun i σ H' => ∃ (g z : Int) (c : Option V), σ = [some (.ref a), some (.int g), some (.int z), c] ∧ H' = H1 ∧ 0 ≤ z ∧ z < 2147483647)
      ⟨0, 17, none, rfl, rfl, by decide, by decide⟩ ?_ ?_ ?_⟩
    · rintro i σ H' _ ⟨g, z, c, rfl, rfl, _⟩; exact hS
    · rintro i x σ H' hx ⟨g, z, c, rfl, rfl, z1, z2⟩
      obtain ⟨n, rfl⟩ : ∃ n, x = V.int n := by
        rw [List.getElem?_map] at hx
        cases e : ns[i]? with
        | none => rw [e] at hx; cases hx
        | some n => rw [e] at hx; exact ⟨n, (Option.some.inj hx).symm⟩
      refine ⟨_, rfl, rfl, _, rfl, ?_⟩
      refine ifD (fun c => ?_) (fun c => ?_)
      · refine ⟨_, rfl, _, _, rfl, rfl, (by walk_at "pow"), _, _, rfl, rfl, _, rfl, ?_⟩
        refine ifD (fun c => ?_) (fun c => ?_)
        · refine ⟨_, rfl, ?_⟩
          refine ⟨_, rfl, _, _, rfl, rfl, (by walk_at "mul"), _, rfl, _, _, rfl, rfl, _, _, rfl, rfl, .inl ⟨_, rfl, ?_⟩⟩
          refine ⟨_, _, rfl, rfl, (by walk_at "pos"), ?_⟩
          exact ⟨_, _, _, rfl, rfl, Int.emod_nonneg _ (by decide), Int.emod_lt_of_pos _ (by decide)⟩
        · refine ⟨_, rfl, _, _, rfl, rfl, (by walk_at "mul"), _, rfl, _, _, rfl, rfl, _, _, rfl, rfl, .inl ⟨_, rfl, ?_⟩⟩
          refine ⟨_, _, rfl, rfl, (by walk_at "pos"), ?_⟩
          exact ⟨_, _, _, rfl, rfl, Int.emod_nonneg _ (by decide), Int.emod_lt_of_pos _ (by decide)⟩
      · refine ifF rfl ?_
        refine ⟨_, rfl, _, _, rfl, rfl, (by walk_at "mul"), _, rfl, _, _, rfl, rfl, _, _, rfl, rfl, .inl ⟨_, rfl, ?_⟩⟩
        refine ⟨_, _, rfl, rfl, (by walk_at "pos"), ?_⟩
        exact ⟨_, _, _, rfl, rfl, Int.emod_nonneg _ (by decide), Int.emod_lt_of_pos _ (by decide)⟩
    · rintro σ H' ⟨g, z, c, rfl, rfl, z1, z2⟩
      refine ⟨_, rfl, _, rfl, (by walk_at "len"), fun p np => ?_⟩
      exact q _ p (sm.trans (same_new np)) (sm.free np) ⟨g, z, upd_same, z1, z2, by decide⟩
/-- one draw: any number below many; the source goes on -/
def sp__law_draw : Sp := fun vs H Q _ => ∃ (p : Addr) (c m : Int), vs = [.ref p, .int m] ∧ Src H p c ∧ c ≤ 1000000 ∧ 0 < m ∧ m < 1073741824 ∧
  ∀ (r : Int) (H' : Hp), 0 ≤ r → r < m → But p H H' → Src H' p (c + 1) → Q (.int r) H'
theorem ok__law_draw (T : Tx w K mg) : FnOk P w K mg base CX0 1 T.a__law_draw T.fd__law_draw ["_law_source_here", "_law_many"] sp__law_draw := by
  refine T.F__law_draw.ok sc__law_draw (fun vs H Q E h => ?_) (fun cdv A outer s H vs Q E hr h => ?_)
  · obtain ⟨p, c, m, rfl, _⟩ := h; rfl
  · obtain ⟨p, c, m, rfl, ⟨g, z, hp, z1, z2, c1⟩, c2, m1, m2, q⟩ := h
    refine ⟨_, ((pss_cons (ps_asg (pe_op op_add (pe_ix ix_list (pv 0) pe_int (fun _ _ => rfl)) pe_int) (pg_sub (pv 0) pe_int set_list))
      (pss_cons (ps_if (pt_cmpR (op_gt) (pe_ix ix_list (pv 0) pe_int (fun _ _ => rfl)) pe_int (nomark _)) (pss_cons (ps_set (i := 2) sc__law_draw.nd rfl (by first | exact Or.inl rfl | exact Or.inr rfl) (pe_op op_mod (pe_callTy (call_int1) (by rfl) T.m_int (by decide +kernel) (pa_cons (pe_ix ix_list (pv 0) pe_int (fun _ _ => rfl)) pa_nil)) (pv 1)))
      (pss_cons (ps_asg (pe_op op_fdivW (pe_ix ix_list (pv 0) pe_int (fun _ _ => rfl)) (pv 1)) (pg_sub (pv 0) pe_int set_list))
      (pss_one (ps_ret (pv 2))))) pss_nil)
      (pss_cons (ps_set (i := 3) sc__law_draw.nd rfl (by first | exact Or.inl rfl | exact Or.inr rfl) (pe_op op_mod (pe_op op_pow (pe_op op_add (pe_ix ix_list (pv 0) pe_int (fun _ _ => rfl)) (pe_op op_mul pe_int (pe_ix ix_list (pv 0) pe_int (fun _ _ => rfl)))) pe_int) pe_int))
      (pss_one (ps_ret (pe_op op_mod (pe_op op_mod (pe_op op_pow (pe_op op_add (pe_op op_add (pe_op op_mul (pv 3) pe_int) (pe_op op_mul (pe_op op_mul pe_int (pe_ix ix_list (pv 0) pe_int (fun _ _ => rfl))) (pe_ix ix_list (pv 0) pe_int (fun _ _ => rfl)))) pe_int) pe_int) pe_int) (pv 1)))))))), ?_⟩
    refine ⟨_, rfl, _, _, _, _, rfl, rfl, (by walk_at "sq"), (by walk_at "at"), _, _, rfl, rfl, _, rfl, _, _, _, _, rfl, rfl, (by walk_at "hp"), (by walk_at "ixN"), ?_⟩
    refine ⟨_, rfl, _, _, _, _, rfl, rfl, (by walk_at "sq"), (by walk_at "at"), _, _, rfl, rfl, _, rfl, ?_⟩
    refine ifD (fun d => ?_) (fun d => ?_)
    · refine ⟨_, rfl, _, _, _, _, rfl, rfl, (by walk_at "sq"), (by walk_at "at"), .inl ⟨_, rfl, ?_⟩⟩
      refine ⟨_, rfl, _, _, rfl, rfl, (by walk_at "pos"), ?_⟩
      refine ⟨_, rfl, _, _, _, _, rfl, rfl, (by walk_at "sq"), (by walk_at "at"), _, rfl, _, _, rfl, rfl, (by walk_at "div"), _, rfl, _, _, _, _, rfl, rfl, (by walk_at "hp"), (by walk_at "ixN"), ?_⟩
      refine ⟨_, rfl, ?_⟩
      rw [L2.upd_upd]
      exact q _ _ (Int.emod_nonneg _ (by omega)) (Int.emod_lt_of_pos _ (by omega)) But.refl.upd ⟨_, z, upd_same, z1, z2, by omega⟩
    · refine ⟨_, rfl, _, _, _, _, rfl, rfl, (by walk_at "sq"), (by walk_at "at"), _, rfl, _, _, _, _, rfl, rfl, (by walk_at "sq"), (by walk_at "at"), _, _, rfl, rfl, (by walk_at "mul"), _, _, rfl, rfl, _, _, rfl, rfl, ⟨by decide, by decide, by omega⟩, _, _, rfl, rfl, (by walk_at "pos"), ?_⟩
      have hy : ∀ x : Int, 0 ≤ x % 2147483629 ∧ x % 2147483629 < 2147483629 := fun x => ⟨Int.emod_nonneg _ (by decide), Int.emod_lt_of_pos _ (by decide)⟩
      obtain ⟨y1, y2⟩ := hy ((z + 7919 * (c + 1)) ^ (5 : Int).toNat)
      generalize (z + 7919 * (c + 1)) ^ (5 : Int).toNat % 2147483629 = y at *
      have h1 : 16807 * (c + 1) * (c + 1) ≤ 16807 * 1000001 * 1000001 := Int.mul_le_mul (by omega) (by omega) (by omega) (by decide)
      have h0 : 0 ≤ 16807 * (c + 1) * (c + 1) := Int.mul_nonneg (by omega) (by omega)
      refine ⟨_, rfl, _, _, rfl, rfl, (by walk_at "mul"), _, rfl, _, _, _, _, rfl, rfl, (by walk_at "sq"), (by walk_at "at"), _, _, rfl, rfl, (by walk_at "mul"), _, rfl, _, _, _, _, rfl, rfl, (by walk_at "sq"), (by walk_at "at"), _, _, rfl, rfl, (by walk_at "mul"), _, _, rfl, rfl, _, _, rfl, rfl, _, _, rfl, rfl, ⟨by decide, by decide, by omega⟩, _, _, rfl, rfl, (by walk_at "pos"), _, rfl, _, _, rfl, rfl, (by walk_at "pos"), ?_⟩
      exact q _ _ (Int.emod_nonneg _ (by omega)) (Int.emod_lt_of_pos _ (by omega)) But.refl.upd ⟨_, z, upd_same, z1, z2, by omega⟩
/-- some of the things of a list -/
def sp__law_subset : Sp := fun vs H Q _ => ∃ (p l : Addr) (c : Int) (xs : List V), vs = [.ref p, .ref l] ∧ Src H p c ∧ c ≤ 990000 ∧ l ≠ p ∧ H l = some (.lst xs) ∧ xs.length ≤ 1000 ∧
  ∀ (m : Addr) (ys : List V) (H' : Hp), H m = none → H' m = some (.lst ys) → ys.length ≤ xs.length → (∀ y ∈ ys, y ∈ xs) → But p H H' → Src H' p (c + xs.length) → Q (.ref m) H'
theorem ok__law_subset (T : Tx w K mg) : FnOk P w K mg base CX0 2 T.a__law_subset T.fd__law_subset ["_law_source_here", "_law_row_here"] sp__law_subset := by
  refine T.F__law_subset.ok sc__law_subset (fun vs H Q E h => ?_) (fun cdv A outer s H vs Q E hr h => ?_)
  · obtain ⟨p, l, c, xs, rfl, _⟩ := h; rfl
  · obtain ⟨p, l, c, xs, rfl, hS, hc, ne, hl, hxl, q⟩ := h
    refine ⟨_, ((pss_one (ps_ret (pe_lc (own := [("_law_one", 2)]) (by rfl) sc__law_subset.nd (pi_list (pv 1)) (blkOk_by (own := [("_law_one", 2)]) (N := N__law_subset) (sc := defScope s__law_subset) (by decide +kernel)) (fun _ _ _ _ _ => (pg_name (i := 2) sc__law_subset.nd rfl (by first | exact Or.inl rfl | exact Or.inr rfl))) (fun _ _ _ _ _ => pts_one (pt_cmpR (op_eq) (pe_call (ok__law_draw T) (hr.mono (by decide)) rfl T.g__law_draw T.F__law_draw.kp T.b__law_draw .nil pass0 (pa_cons (pv 0) (pa_cons pe_int pa_nil))) pe_int (nomark _))) (fun _ _ _ _ _ => (pv 2)))))), ?_⟩
    refine ⟨_, rfl, _, rfl, ⟨_, SqL.of hl⟩, fun D nD => ?_⟩
    have nDp := hS.ne nD
    have nlD : l ≠ D := ne_of_none hl nD
    refine lc_list (K := K) (a := l) (xs := xs) (fun i H' => ∃ ys : List V, But p H H' ∧ Src H' p (c + i) ∧ H' D = some (.lst ys) ∧ ys.length ≤ i ∧ ∀ y ∈ ys, y ∈ xs) ?_ ?_ ?_ ?_
    · refine ⟨[], But.refl.new nD, ?_, upd_same, Nat.le_refl _, fun y hy => (nomatch hy)⟩
      have := hS.keep (o := .lst []) nD
      simpa using this
    · rintro i H' _ ⟨ys, bt, _⟩; exact SqL.of (bt.at ne hl)
    · rintro i x H1 hx ⟨ys, bt, hs, hD, hyl, hym⟩
      have hi : i < xs.length := (List.getElem?_eq_some_iff.mp hx).1
      refine ⟨rfl, ?_⟩
      refine ⟨_, rfl, p, _, _, rfl, hs, by omega, by decide, by decide, fun r H2 r0 r1 bt2 hs2 => ?_⟩
      have e : c + ((i + 1 : Nat) : Int) = c + (i : Int) + 1 := by omega
      refine ⟨rfl, _, rfl, ?_⟩
      refine ifD (fun cc => ?_) (fun cc => ?_)
      · refine ⟨_, rfl, ys, bt2.at nDp hD, sz100k_lt (by omega), ys ++ [x], fun a o ha ho => ?_, ?_, upd_same, by rw [List.length_append]; simp; omega, ?_⟩
        · exact upd_skip (ne_of_none ho nD) (bt2 _ _ ha (bt _ _ ha ho))
        · rw [e]; exact hs2.skip nDp.symm
        · intro y hy
          rcases List.mem_append.mp hy with hy | hy
          · exact hym y hy
          · rw [List.mem_singleton.mp hy]; exact List.mem_of_getElem? hx
      · refine ⟨ys, bt.trans bt2, ?_, bt2.at nDp hD, by omega, hym⟩
        rw [e]; exact hs2
    · rintro H1 ⟨ys, bt, hs, hD, hyl, hym⟩
      exact q D ys H1 nD hD hyl hym bt hs
/-- a new name -/
def sp__law_name : Sp := fun vs H Q _ => ∃ (p l : Addr) (c : Int) (ts : List Str), vs = [.ref p, .ref l] ∧ Src H p c ∧ c ≤ 999900 ∧ l ≠ p ∧ H l = some (.lst (ts.map V.str)) ∧ ts.length ≤ 16 ∧
  ∀ (z : Str) (H' : Hp) (c' : Int), isNameB z = true → z ∉ ts → But p H H' → Src H' p c' → c ≤ c' → c' ≤ c + 20 → Q (.str z) H'
theorem ok__law_name (T : Tx w K mg) : FnOk P w K mg base CX0 2 T.a__law_name T.fd__law_name ["_law_source_here", "_law_taken"] sp__law_name := by
  refine T.F__law_name.ok sc__law_name (fun vs H Q E h => ?_) (fun cdv A outer s H vs Q E hr h => ?_)
  · obtain ⟨p, l, c, xs, rfl, _⟩ := h; rfl
  · obtain ⟨p, l, c, ts, rfl, hS, hc, nlp, hl, hts, q⟩ := h
    refine ⟨_, ((pss_cons (ps_set (i := 2) sc__law_name.nd rfl (by first | exact Or.inl rfl | exact Or.inr rfl) (pe_ix ix_list (pe_lst (pa_cons pe_int (pa_cons pe_int (pa_cons pe_int (pa_cons pe_int (pa_cons pe_int (pa_cons pe_int (pa_cons pe_int (pa_cons pe_int (pa_cons pe_int (pa_cons pe_int (pa_cons pe_int (pa_cons pe_int (pa_cons pe_int pa_nil)))))))))))))) (pe_call (ok__law_draw T) (hr.mono (by decide)) rfl T.g__law_draw T.F__law_draw.kp T.b__law_draw .nil pass0 (pa_cons (pv 0) (pa_cons pe_int pa_nil))) (fun _ _ => rfl)))
      (Evl.pss_cut (ps_set (i := 3) sc__law_name.nd rfl (by first | exact Or.inl rfl | exact Or.inr rfl) (pe_join pe_str (pe_lc (own := [("_law_k", 4)]) (by rfl) sc__law_name.nd (pi_range1 rfl T.m_range (pa_cons (pv 2) pa_nil)) (blkOk_by (own := [("_law_k", 4)]) (N := N__law_name) (sc := defScope s__law_name) (by decide +kernel)) (fun _ _ _ _ _ => (pg_name (i := 4) sc__law_name.nd rfl (by first | exact Or.inl rfl | exact Or.inr rfl))) (fun _ _ _ _ _ => pts_nil) (fun _ _ _ _ _ => (pe_ix ix_str pe_str (pe_call (ok__law_draw T) (hr.mono (by decide)) rfl T.g__law_draw T.F__law_draw.kp T.b__law_draw .nil pass0 (pa_cons (pv 0) (pa_cons pe_int pa_nil))) (fun _ _ => rfl))))))
      (Evl.pss_cut (ps_if (pt_chain (op_lt) (op_lt) pe_int (pv 2) pe_int) (pss_one (ps_set (i := 3) sc__law_name.nd rfl (by first | exact Or.inl rfl | exact Or.inr rfl) (pe_ix ix_list (pe_lst (pa_cons pe_str (pa_cons pe_str (pa_cons pe_str (pa_cons pe_str (pa_cons pe_str (pa_cons (pe_op op_add_str pe_str (pe_slice sl_str (pv 3) (po_some pe_int) po_none)) pa_nil))))))) (pe_call (ok__law_draw T) (hr.mono (by decide)) rfl T.g__law_draw T.F__law_draw.kp T.b__law_draw .nil pass0 (pa_cons (pv 0) (pa_cons pe_int pa_nil))) (fun _ _ => rfl)))) pss_nil)
      (pss_cons (ps_if (pt_cmpR (op_notIn_seq) (pv 3) (pv 1) (by rfl)) (pss_one (ps_ret (pv 3))) pss_nil)
      (pss_one (ps_ret (pe_ix ix_list (pe_lc (own := [("_law_one", 5)]) (by rfl) sc__law_name.nd (pi_list (pe_lc (own := [("_law_letter", 6)]) (by rfl) sc__law_name.nd (pi_str pe_str) (blkOk_by (own := [("_law_letter", 6)]) (N := N__law_name) (sc := defScope s__law_name) (by decide +kernel)) (fun _ _ _ _ _ => (pg_name (i := 6) sc__law_name.nd rfl (by first | exact Or.inl rfl | exact Or.inr rfl))) (fun _ _ _ _ _ => pts_nil) (fun _ _ _ _ _ => (pe_op op_add_str pe_str (pv 6))))) (blkOk_by (own := [("_law_one", 5)]) (N := N__law_name) (sc := defScope s__law_name) (by decide +kernel)) (fun _ _ _ _ _ => (pg_name (i := 5) sc__law_name.nd rfl (by first | exact Or.inl rfl | exact Or.inr rfl))) (fun _ _ _ _ _ => pts_one (pt_cmpR ((show OpR _ _ (rIn K true) from op_notIn_seq)) (pv 5) (pv 1) (by rfl))) (fun _ _ _ _ _ => (pv 5))) pe_int (fun _ _ => rfl))))))))), ?_⟩
    refine ⟨(by walk_at "len"), fun p1 np1 => ?_⟩
    refine ⟨_, rfl, ?_⟩
    refine ⟨p, c, _, rfl, hS.keep np1, by omega, by decide, by decide, fun r H1 r0 r1 bt1 hS1 => ?_⟩
    have hl1 := bt1 p1 _ (hS.ne np1) upd_same
    obtain ⟨v, hv, hm⟩ := atI_mem (xs := ([8, 4, 5, 6, 7, 1, 2, 3, 1, 2, 3, 1, 2] : List Int).map V.int) r0 r1
    obtain ⟨n, hn, rfl⟩ := List.mem_map.mp hm
    obtain ⟨n1, n8⟩ : 1 ≤ n ∧ n ≤ 8 := by
      simp only [List.mem_cons, List.not_mem_nil, or_false] at hn
      omega
    refine ⟨_, _, _, _, rfl, rfl, SqL.of hl1, hv, ?_⟩
    have bt1 : But p H H1 := (But.refl.new np1).trans bt1
    -- letters
    refine ⟨fun σ H' => ∃ cs : List Nat, σ = [some (.ref p), some (.ref l), some (.int n), some (.str (Txt.join "" (cs.map oneS))), none, none, none] ∧ But p H H' ∧ Src H' p (c + 1 + n) ∧ (cs.length : Int) = n ∧ ∀ x ∈ cs, x ∈ ALPHA, ?_, ?_⟩
    · refine ⟨⟨_, rfl⟩, _, rfl, _, rfl, (by walk_at "arith"), (by walk_at "arith"), fun D nD => ?_⟩
      have nDp := hS1.ne nD
      refine lc_range (lo := 0) (n := n.toNat) (fun i H' => ∃ cs : List Nat, But p H H' ∧ Src H' p (c + 1 + i) ∧ H' D = some (.lst ((cs.map oneS).map V.str)) ∧ cs.length = i ∧ ∀ x ∈ cs, x ∈ ALPHA) ?_ ?_ ?_
      · refine ⟨[], bt1.new nD, ?_, upd_same, rfl, fun x hx => (nomatch hx)⟩
        have := hS1.keep (o := .lst []) nD
        simpa using this
      · rintro i H' hi ⟨cs, bt, hs, hD, hcs, hal⟩
        refine ⟨rfl, ?_⟩
        refine ⟨_, rfl, p, _, _, rfl, hs, by omega, by decide, by decide, fun r H2 r0 r1 bt2 hs2 => ?_⟩
        obtain ⟨x, hx, hxm⟩ := atI_mem (xs := ALPHA) r0 r1
        refine ⟨_, _, x, rfl, rfl, (by walk_at "len"), hx, ?_⟩
        have hD2 := bt2.at nDp hD
        refine ⟨_, hD2, sz100k_lt (by rw [List.length_map, List.length_map]; omega), cs ++ [x], fun a o ha ho => ?_, ?_, ?_, by simp [hcs], ?_⟩
        · by_cases e : a = D
          · subst e
            have h0 := bt1.at ha ho
            rw [nD] at h0; cases h0
          · exact upd_skip e (bt2 _ _ ha (bt _ _ ha ho))
        · have := hs2.skip (o := .lst ((cs.map oneS).map V.str ++ [.str ⟨#[x]⟩])) nDp.symm
          have e : c + 1 + ((i + 1 : Nat) : Int) = c + 1 + (i : Int) + 1 := by omega
          rw [e]; exact this
        · rw [List.map_append, List.map_append]; exact upd_same
        · intro y hy
          rcases List.mem_append.mp hy with hy | hy
          · exact hal y hy
          · rw [List.mem_singleton.mp hy]; exact hxm
      · rintro H2 ⟨cs, bt, hs, hD, hcs, hal⟩
        refine ⟨_, _, cs.map oneS, rfl, rfl, .inl (SqL.of hD), ?_, cs, rfl, bt, ?_, by omega, hal⟩
        · rw [ones_sum, List.length_map]
          show cs.length + cs.length * 0 ≤ _
          omega
        · have e : c + 1 + n = c + 1 + ((n.toNat : Nat) : Int) := by omega
          rw [e]; exact hs
    rintro σ H2 ⟨cs, rfl, bt2, hs2, hcs, hal⟩
    have hjl : (Txt.join "" (cs.map oneS)).length = cs.length := by
      have := congrArg List.length (join_cps cs); simpa [Str.length] using this
    refine ⟨fun σ H' => ∃ (z : Str) (c' : Int), σ = [some (.ref p), some (.ref l), some (.int n), some (.str z), none, none, none] ∧ But p H H' ∧ Src H' p c' ∧ c ≤ c' ∧ c' ≤ c + 20 ∧ isNameB z = true, ?_, ?_⟩
    · have hno : ∃ (z : Str) (c' : Int), [some (V.ref p), some (.ref l), some (.int n), some (.str (Txt.join "" (cs.map oneS))), none, none, none] = [some (.ref p), some (.ref l), some (.int n), some (.str z), none, none, none] ∧ But p H H2 ∧ Src H2 p c' ∧ c ≤ c' ∧ c' ≤ c + 20 ∧ isNameB z = true :=
        ⟨_, _, rfl, bt2, hs2, by omega, by omega, join_name (by omega) (by omega) hal⟩
      refine ⟨_, rfl, _, _, rfl, rfl, _, rfl, ?_⟩
      refine ifD (fun c1 => ?_) (fun c1 => ?_)
      · refine ⟨_, _, rfl, rfl, _, rfl, ?_⟩
        refine ifD (fun c2 => ?_) (fun c2 => ?_)
        · refine ⟨_, rfl, _, rfl, _, rfl, sz100k (by omega), _, _, rfl, rfl, ?_, (by walk_at "len"), fun p5 np5 => ?_⟩
          · have hq := name_len (q_name (cs := cs) (by omega) (by omega) hal)
            have : (("q" : Str) ++ cutS (Txt.join "" (cs.map oneS)) (some 1) none).length = ("q" : Str).length + (cutS (Txt.join "" (cs.map oneS)) (some 1) none).length := by
              show (Array.size (_ ++ _)) = _
              rw [Array.size_append]; rfl
            exact sz100k (by omega)
          refine ⟨_, rfl, p, _, _, rfl, hs2.keep np5, by omega, by decide, by decide, fun r H3 r0 r1 bt3 hs3 => ?_⟩
          have hl3 := bt3 p5 _ (hs2.ne np5) upd_same
          obtain ⟨v, hv, hm⟩ := atI_mem (xs := ([("keep" : Str), "pass", "none", "near", "answer", "q" ++ cutS (Txt.join "" (cs.map oneS)) (some 1) none] : List Str).map V.str) r0 r1
          obtain ⟨z, hz, rfl⟩ := List.mem_map.mp hm
          refine ⟨_, _, _, _, rfl, rfl, SqL.of hl3, hv, ?_⟩
          refine ⟨z, _, rfl, (bt2.new np5).trans bt3, hs3, by omega, by omega, ?_⟩
          simp only [List.mem_cons, List.not_mem_nil, or_false] at hz
          rcases hz with rfl | rfl | rfl | rfl | rfl | rfl
          · decide +kernel
          · decide +kernel
          · decide +kernel
          · decide +kernel
          · decide +kernel
          · exact q_name (by omega) (by omega) hal
        · exact hno
      · refine ⟨_, rfl, ?_⟩
        exact hno
    rintro σ H3 ⟨z, c', rfl, bt3, hs3, c1, c2, hz⟩
    have hl3 := bt3.at nlp hl
    refine ⟨_, rfl, _, rfl, _, _, rfl, .inl (SqL.of hl3), rfl, flats_str _, _, rfl, ?_⟩
    refine ifB _ (fun hb => ?_) (fun hb => ?_)
    · have hb : (!inV (.str z) (ts.map V.str)) = true := hb
      rw [inV_strs] at hb
      exact ⟨_, rfl, q z H3 c' hz (by simpa using hb) bt3 hs3 c1 c2⟩
    · refine ⟨_, rfl, fun D nD => ?_⟩
      refine lcW_filt (xs := signsV "abcdefghijklmnopq") (p := fun _ => true) (f := fun v => match v with | .str y => .str ("z" ++ y) | _ => .non) (walk_signs (G := fun _ => True)) (fun _ _ => True.intro) nD (by decide +kernel) ?_ ?_ ?_
      · intro i y H' kk hy sm hk
        exact hk _ (Same.refl _)
      · intro i y H' kk hy _ sm hk
        unfold signsV at hy
        rw [List.getElem?_map] at hy
        obtain ⟨x, hx, rfl⟩ := Option.map_eq_some_iff.mp hy
        refine ⟨_, rfl, _, _, rfl, rfl, sz100k (by show 1 + 1 ≤ 100000; decide), ?_⟩
        exact hk _ (Same.refl _)
      · intro H4 sm4 hD
        have eF : ((signsV "abcdefghijklmnopq").filter fun _ => true).map (fun v => match v with | .str y => V.str ("z" ++ y) | _ => .non) = ZS.map V.str := by decide +kernel
        rw [eF] at hD
        refine ⟨_, rfl, ⟨_, SqL.of hD⟩, fun D2 nD2 => ?_⟩
        have hl4 := sm4 _ _ hl3
        refine lcL_filt (p := fun v => match v with | .str y => !decide (y ∈ ts) | _ => false) (f := fun v => v) nD2 (SqL.of hD) (by decide +kernel) ?_ ?_ ?_
        · intro i y H' kk hy sm hk
          rw [List.getElem?_map] at hy
          obtain ⟨x, hx, rfl⟩ := Option.map_eq_some_iff.mp hy
          refine ⟨_, rfl, _, rfl, _, _, rfl, .inl (SqL.of (sm _ _ hl4)), rfl, flats_str _, _, rfl, ?_⟩
          have e : (!inV (.str x) (ts.map V.str)) = !decide (x ∈ ts) := by rw [inV_strs]
          show kk (!inV (.str x) (ts.map V.str)) H'
          rw [e]
          exact hk _ (Same.refl _)
        · intro i y H' kk hy _ sm hk
          rw [List.getElem?_map] at hy
          obtain ⟨x, hx, rfl⟩ := Option.map_eq_some_iff.mp hy
          exact ⟨_, rfl, hk _ (Same.refl _)⟩
        · intro H5 sm5 hD5
          obtain ⟨z2, r2, e2, n2, f2⟩ := z_free hts
          have eF2 : ((ZS.map V.str).filter (fun v => match v with | .str y => !decide (y ∈ ts) | _ => false)).map (fun v => v) = (z2 :: r2).map V.str := by
            rw [← e2, List.filter_map, List.map_map]; rfl
          rw [eF2] at hD5
          refine ⟨_, _, _, _, rfl, rfl, SqL.of hD5, atI_nat (j := 0) rfl, ?_⟩
          have sm : Same H3 H5 := sm4.trans sm5
          exact q z2 H5 c' n2 f2 (bt3.trans (But.of_same sm)) (hs3.same sm) c1 c2
/-- some names, all different -/
def sp__law_names : Sp := fun vs H Q _ => ∃ (p : Addr) (c n : Int), vs = [.ref p, .int n] ∧ Src H p c ∧ c ≤ 999000 ∧ 0 ≤ n ∧ n ≤ 16 ∧
  ∀ (l : Addr) (zs : List Str) (H' : Hp) (c' : Int), H l = none → H' l = some (.lst (zs.map V.str)) → (zs.length : Int) = n → zs.Nodup → (∀ z ∈ zs, isNameB z = true) → But p H H' → Src H' p c' → c ≤ c' → c' ≤ c + 20 * n → Q (.ref l) H'
theorem ok__law_names (T : Tx w K mg) : FnOk P w K mg base CX0 3 T.a__law_names T.fd__law_names ["_law_source_here", "_law_many"] sp__law_names := by
  refine T.F__law_names.ok sc__law_names (fun vs H Q E h => ?_) (fun cdv A outer s H vs Q E hr h => ?_)
  · obtain ⟨p, c, n, rfl, _⟩ := h; rfl
  · obtain ⟨p, c, n, rfl, hS, hc, n0, n16, q⟩ := h
    refine ⟨_, ((pss_cons (ps_set (i := 2) sc__law_names.nd rfl (by first | exact Or.inl rfl | exact Or.inr rfl) (pe_lst pa_nil))
      (pss_cons (ps_for PassesOwn.never rfl (pi_range1 rfl T.m_range (pa_cons (pv 1) pa_nil)) (pg_name (i := 3) sc__law_names.nd rfl (by first | exact Or.inl rfl | exact Or.inr rfl))
        (pss_one (ps_expr (pe_bm PySem.F.plainAttrs_list PySem.F.slot_list_append PySem.F.type_list_append mt_append (pv 2) (pa_cons (pe_call (ok__law_name T) (hr.mono (by decide)) rfl T.g__law_name T.F__law_name.kp T.b__law_name .nil pass0 (pa_cons (pv 0) (pa_cons (pv 2) pa_nil))) pa_nil)))))
      (pss_one (ps_ret (pv 2)))))), ?_⟩
    refine ⟨(by walk_at "len"), fun l nl => ?_⟩
    have nlp := hS.ne nl
    refine ⟨_, rfl, _, rfl, (by walk_at "arith"), (by walk_at "arith"), for_range (lo := 0) (n := n.toNat) (fun i σ H' => ∃ (zs : List Str) (c' : Int) (v3 : Option V), σ = [some (.ref p), some (.int n), some (.ref l), v3] ∧ H' l = some (.lst (zs.map V.str)) ∧ zs.length = i ∧ zs.Nodup ∧ (∀ z ∈ zs, isNameB z = true) ∧ But p H H' ∧ Src H' p c' ∧ c ≤ c' ∧ c' ≤ c + 20 * i) ?_ ?_ ?_⟩
    · exact ⟨[], c, _, rfl, upd_same, rfl, List.nodup_nil, fun z hz => (nomatch hz), But.refl.new nl, hS.keep nl, by omega, by omega⟩
    · rintro i σ H1 hi ⟨zs, c', v3, rfl, hl, hzl, hnd, hnm, bt, hs, c1, c2⟩
      refine ⟨_, rfl, .inl ⟨rfl, _, SqL.of hl⟩, _, rfl, _, rfl, ?_⟩
      refine ⟨p, l, c', zs, rfl, hs, by omega, nlp, hl, by omega, fun z H2 c'' hz hzn bt2 hs2 d1 d2 => ?_⟩
      have hl2 := bt2.at nlp hl
      refine ⟨_, _, _, rfl, rfl, hl2, sz100k_lt (by rw [List.length_map]; omega), ?_⟩
      refine ⟨zs ++ [z], c'', _, rfl, ?_, by simp [hzl], nd_snoc hnd hzn, ?_, ?_, hs2.skip nlp.symm, by omega, by omega⟩
      · rw [List.map_append]; exact upd_same
      · intro y hy
        rcases List.mem_append.mp hy with hy | hy
        · exact hnm y hy
        · rw [List.mem_singleton.mp hy]; exact hz
      · intro a o ha ho
        exact upd_skip (ne_of_none ho nl) (bt2 _ _ ha (bt _ _ ha ho))
    · rintro σ H1 ⟨zs, c', v3, rfl, hl, hzl, hnd, hnm, bt, hs, c1, c2⟩
      exact ⟨_, rfl, q l zs H1 c' nl hl (by omega) hnd hnm bt hs c1 (by omega)⟩
def sp__law_places : Sp := fun vs H Q _ => vs = [] ∧ ∀ p, H p = none → Q (.ref p) (upd H p (.lst (PL.map V.str)))
theorem ok__law_places (T : Tx w K mg) : FnOk P w K mg base CX0 1 T.a__law_places T.fd__law_places [] sp__law_places := by
  refine T.F__law_places.ok sc__law_places (fun vs H Q E h => ?_) (fun cdv A outer s H vs Q E hr h => ?_)
  · obtain ⟨rfl, _⟩ := h; rfl
  · obtain ⟨rfl, q⟩ := h
    refine ⟨_, ((pss_one (ps_ret (pe_lst (pa_cons pe_str (pa_cons pe_str (pa_cons pe_str (pa_cons pe_str (pa_cons pe_str (pa_cons pe_str (pa_cons pe_str (pa_cons pe_str (pa_cons pe_str (pa_cons pe_str (pa_cons pe_str pa_nil))))))))))))))), ?_⟩
    exact ⟨(by walk_at "len"), fun p np => q p np⟩
def sp__law_group_names : Sp := fun vs H Q _ => vs = [] ∧ ∀ p, H p = none → Q (.ref p) (upd H p (.lst (GN.map V.str)))
theorem ok__law_group_names (T : Tx w K mg) : FnOk P w K mg base CX0 1 T.a__law_group_names T.fd__law_group_names [] sp__law_group_names := by
  refine T.F__law_group_names.ok sc__law_group_names (fun vs H Q E h => ?_) (fun cdv A outer s H vs Q E hr h => ?_)
  · obtain ⟨rfl, _⟩ := h; rfl
  · obtain ⟨rfl, q⟩ := h
    refine ⟨_, ((pss_one (ps_ret (pe_lst (pa_cons pe_str (pa_cons pe_str (pa_cons pe_str (pa_cons pe_str (pa_cons pe_str (pa_cons pe_str (pa_cons pe_str (pa_cons pe_str (pa_cons pe_str pa_nil))))))))))))), ?_⟩
    exact ⟨(by walk_at "len"), fun p np => q p np⟩
def sp__law_tolerance : Sp := fun vs H Q _ => ∃ (p : Addr) (c : Int), vs = [.ref p] ∧ Src H p c ∧ c ≤ 1000000 ∧
  ∀ (e : Int) (H' : Hp), e ∈ ([1, 2, 3, 4, 5, 7, 10, 1000000] : List Int) → But p H H' → Src H' p (c + 1) → Q (.int e) H'
theorem ok__law_tolerance (T : Tx w K mg) : FnOk P w K mg base CX0 2 T.a__law_tolerance T.fd__law_tolerance ["_law_source_here"] sp__law_tolerance := by
  refine T.F__law_tolerance.ok sc__law_tolerance (fun vs H Q E h => ?_) (fun cdv A outer s H vs Q E hr h => ?_)
  · obtain ⟨p, c, rfl, _⟩ := h; rfl
  · obtain ⟨p, c, rfl, hS, hc, q⟩ := h
    refine ⟨_, ((pss_one (ps_ret (pe_ix ix_list (pe_lst (pa_cons pe_int (pa_cons pe_int (pa_cons pe_int (pa_cons pe_int (pa_cons pe_int (pa_cons pe_int (pa_cons pe_int (pa_cons (pe_op op_pow pe_int pe_int) pa_nil))))))))) (pe_call (ok__law_draw T) (hr.mono (by decide)) rfl T.g__law_draw T.F__law_draw.kp T.b__law_draw .nil pass0 (pa_cons (pv 0) (pa_cons pe_int pa_nil))) (fun _ _ => rfl))))), ?_⟩
    refine ⟨_, _, rfl, rfl, (by walk_at "pow"), (by walk_at "len"), fun l nl => ?_⟩
    have ne := hS.ne nl
    refine ⟨_, rfl, ?_⟩
    refine ⟨_, _, _, rfl, hS.keep nl, hc, by decide, by decide, fun r H1 r0 r8 bt hS1 => ?_⟩
    have hl := bt l _ ne upd_same
    obtain ⟨v, hv, hm⟩ := atI_mem (xs := ([1, 2, 3, 4, 5, 7, 10, 1000000] : List Int).map V.int) r0 r8
    obtain ⟨e, he, rfl⟩ := List.mem_map.mp hm
    refine ⟨_, _, _, _, rfl, rfl, SqL.of hl, hv, ?_⟩
    exact q e H1 he ((But.refl.new nl).trans bt) hS1
/-- a drawn row -/
def sp__law_row : Sp := fun vs H Q _ => ∃ (p : Addr) (c most e : Int), vs = [.ref p, .int most, .int e] ∧ Src H p c ∧ c ≤ 990000 ∧ 0 ≤ most ∧ most ≤ 100 ∧ 1 ≤ e ∧ e ≤ 1000000 ∧
  ∀ (l : Addr) (ns : List Int) (H' : Hp) (c' : Int), H l = none → H' l = some (.lst (ns.map V.int)) → (ns.length : Int) ≤ most → (∀ x ∈ ns, -100000000000000000000000000000 ≤ x ∧ x ≤ 100000000000000000000000000000) → But p H H' → Src H' p c' → c ≤ c' → c' ≤ c + 600 → Q (.ref l) H'
theorem ok__law_row (T : Tx w K mg) : FnOk P w K mg base CX0 2 T.a__law_row T.fd__law_row ["_law_source_here", "_law_most", "_law_tolerance_here"] sp__law_row := by
  refine T.F__law_row.ok sc__law_row (fun vs H Q E h => ?_) (fun cdv A outer s H vs Q E hr h => ?_)
  · obtain ⟨p, c, most, e, rfl, _⟩ := h; rfl
  · obtain ⟨p, c, most, e, rfl, hS, hc, m0, m100, e1, e6, q⟩ := h
    refine ⟨_, ((pss_cons (ps_set (i := 3) sc__law_row.nd rfl (by first | exact Or.inl rfl | exact Or.inr rfl) (pe_lst pa_nil))
      (Evl.pss_cut (ps_for PassesOwn.never rfl (pi_range1 rfl T.m_range (pa_cons (pe_call (ok__law_draw T) (hr.mono (by decide)) rfl T.g__law_draw T.F__law_draw.kp T.b__law_draw .nil pass0 (pa_cons (pv 0) (pa_cons (pe_op op_add (pv 1) pe_int) pa_nil))) pa_nil)) (pg_name (i := 4) sc__law_row.nd rfl (by first | exact Or.inl rfl | exact Or.inr rfl))
        (pss_cons (ps_set (i := 5) sc__law_row.nd rfl (by first | exact Or.inl rfl | exact Or.inr rfl) (pe_cut (pe_ifExp (pt_cmpR (op_eqD hr.units) (pv 3) (pe_lst pa_nil) (nomark _)) pe_int (pe_ix ix_list (pv 3) (pe_call (ok__law_draw T) (hr.mono (by decide)) rfl T.g__law_draw T.F__law_draw.kp T.b__law_draw .nil pass0 (pa_cons (pv 0) (pa_cons (pe_callB (call_len_seq) (by rfl) T.m_len (by decide +kernel) (pa_cons (pv 3) pa_nil)) pa_nil))) (fun _ _ => rfl)))))
      (Evl.pss_cut (ps_set (i := 6) sc__law_row.nd rfl (by first | exact Or.inl rfl | exact Or.inr rfl) (pe_op op_add (pe_op op_mulW (pe_ix ix_list (pe_lst (pa_cons pe_int (pa_cons pe_int (pa_cons pe_int (pa_cons pe_int (pa_cons pe_int pa_nil)))))) (pe_call (ok__law_draw T) (hr.mono (by decide)) rfl T.g__law_draw T.F__law_draw.kp T.b__law_draw .nil pass0 (pa_cons (pv 0) (pa_cons pe_int pa_nil))) (fun _ _ => rfl)) (pv 2)) (pe_call (ok__law_draw T) (hr.mono (by decide)) rfl T.g__law_draw T.F__law_draw.kp T.b__law_draw .nil pass0 (pa_cons (pv 0) (pa_cons (pe_op op_add (pe_callB (call_min2 rfl) (by rfl) T.m_min (by decide +kernel) (pa_cons (pv 2) (pa_cons pe_int pa_nil))) pe_int) pa_nil)))))
      (pss_one (ps_expr (pe_bm PySem.F.plainAttrs_list PySem.F.slot_list_append PySem.F.type_list_append mt_append (pv 3) (pa_cons (pe_op op_add (pv 5) (pe_cut (pe_ifExp (pt_cmpR (op_eq) (pe_call (ok__law_draw T) (hr.mono (by decide)) rfl T.g__law_draw T.F__law_draw.kp T.b__law_draw .nil pass0 (pa_cons (pv 0) (pa_cons pe_int pa_nil))) pe_int (nomark _)) (pv 6) (pe_op op_sub pe_int (pv 6))))) pa_nil)))))))
      (Evl.pss_cut (ps_if (pt_cmpR (op_eq) (pe_call (ok__law_draw T) (hr.mono (by decide)) rfl T.g__law_draw T.F__law_draw.kp T.b__law_draw .nil pass0 (pa_cons (pv 0) (pa_cons pe_int pa_nil))) pe_int (nomark _)) (Evl.pss_cut (ps_set (i := 7) sc__law_row.nd rfl (by first | exact Or.inl rfl | exact Or.inr rfl) (pe_op op_mulW (pe_ix ix_list (pe_lst (pa_cons (pe_op op_pow pe_int pe_int) (pa_cons (pe_op op_sub pe_int (pe_op op_pow pe_int pe_int)) pa_nil))) (pe_call (ok__law_draw T) (hr.mono (by decide)) rfl T.g__law_draw T.F__law_draw.kp T.b__law_draw .nil pass0 (pa_cons (pv 0) (pa_cons pe_int pa_nil))) (fun _ _ => rfl)) (pv 2)))
      (pss_one (ps_setLc (i := 3) (own := [("_law_x", 8)]) (by rfl) sc__law_row.nd rfl rfl (sw_true rfl rfl rfl (by decide +kernel)) (pi_list (pv 3)) (blkOk_by (own := [("_law_x", 8)]) (N := N__law_row) (sc := defScope s__law_row) (by decide +kernel)) (fun _ _ _ _ _ => (pg_name (i := 8) sc__law_row.nd rfl (by first | exact Or.inl rfl | exact Or.inr rfl))) (fun _ _ _ _ _ => pts_nil) (fun _ _ _ _ _ => (pe_op op_add (pv 8) (pv 7)))))) pss_nil)
      (pss_one (ps_ret (pv 3))))))), ?_⟩
    refine ⟨(by walk_at "len"), fun rl nrl => ?_⟩
    have nrlp := hS.ne nrl
    refine ⟨fun σ H' => ∃ (ns : List Int) (c' : Int) (v4 v5 v6 : Option V), σ = [some (.ref p), some (.int most), some (.int e), some (.ref rl), v4, v5, v6, none, none] ∧ H' rl = some (.lst (ns.map V.int)) ∧ (ns.length : Int) ≤ most ∧ (∀ x ∈ ns, -400000000 ≤ x ∧ x ≤ 400000000) ∧ But p H H' ∧ Src H' p c' ∧ c ≤ c' ∧ c' ≤ c + 510, ?_, ?_⟩
    · refine ⟨_, rfl, _, rfl, _, _, rfl, rfl, ?_⟩
      refine ⟨p, c, _, rfl, hS.keep nrl, by omega, by omega, by omega, fun r H1 r0 r1 bt1 hs1 => ?_⟩
      have hrl1 := bt1.at nrlp upd_same
      have bt1 : But p H H1 := (But.refl.new nrl).trans bt1
      refine ⟨_, rfl, (by walk_at "arith"), (by walk_at "arith"), for_range (lo := 0) (n := r.toNat) (fun i σ H' => ∃ (ns : List Int) (c' : Int) (v4 v5 v6 : Option V), σ = [some (.ref p), some (.int most), some (.int e), some (.ref rl), v4, v5, v6, none, none] ∧ H' rl = some (.lst (ns.map V.int)) ∧ ns.length = i ∧ (∀ x ∈ ns, -(4000000 * (i : Int)) ≤ x ∧ x ≤ 4000000 * (i : Int)) ∧ But p H H' ∧ Src H' p c' ∧ c ≤ c' ∧ c' ≤ c + 1 + 5 * i) ?_ ?_ ?_⟩
      · exact ⟨[], _, _, _, _, rfl, hrl1, rfl, fun x hx => (nomatch hx), bt1, hs1, by omega, by omega⟩
      · rintro i σ H2 hi ⟨ns, c2, v4, v5, v6, rfl, hrl2, hnl, hnb, bt2, hs2, d1, d2⟩
        -- base
        refine ⟨fun v H' => ∃ (b c' : Int), v = .int b ∧ (-(4000000 * (i : Int)) ≤ b ∧ b ≤ 4000000 * (i : Int)) ∧ But p H2 H' ∧ Src H' p c' ∧ c2 ≤ c' ∧ c' ≤ c2 + 1, ?_, ?_⟩
        · refine ⟨_, rfl, (by walk_at "len"), fun p4 n4 => ?_⟩
          have hrl3 := upd_keep (o := .lst []) hrl2 n4
          refine ⟨.list (ns.map .int), .list [], .lst (SqL.of hrl3) (dpAll_int _), .lst (SqL.of upd_same) .nil, shapedL_ints _, rfl, _, rfl, ?_⟩
          rw [eqv_nil]
          refine ifD (fun cc => ?_) (fun cc => ?_)
          · exact ⟨0, c2, rfl, ⟨by omega, by omega⟩, But.refl.new n4, hs2.keep n4, by omega, by omega⟩
          · have hpos : 0 < ns.length := by cases ns with | nil => exact absurd rfl cc | cons _ _ => simp
            refine ⟨_, rfl, _, rfl, _, rfl, _, _, rfl, .inl (SqL.of hrl3), ?_⟩
            refine ⟨p, c2, _, rfl, hs2.keep n4, by omega, by rw [List.length_map]; omega, by rw [List.length_map]; omega, fun r H3 r0 r1 bt3 hs3 => ?_⟩
            obtain ⟨v, hv, hm⟩ := atI_mem (xs := ns.map V.int) r0 r1
            obtain ⟨b, hb, rfl⟩ := List.mem_map.mp hm
            refine ⟨_, _, _, _, rfl, rfl, SqL.of (bt3.at nrlp hrl3), hv, ?_⟩
            exact ⟨b, _, rfl, hnb b hb, (But.refl.new n4).trans bt3, hs3, by omega, by omega⟩
        rintro v H3 ⟨b, c3, rfl, ⟨b1, b2⟩, bt3, hs3, d3, d4⟩
        -- step
        refine ⟨fun σ H' => ∃ (t c' : Int), σ = [some (.ref p), some (.int most), some (.int e), some (.ref rl), some (.int (0 + (i : Int))), some (.int b), some (.int t), none, none] ∧ (0 ≤ t ∧ t ≤ 3000009) ∧ But p H3 H' ∧ Src H' p c' ∧ c3 ≤ c' ∧ c' ≤ c3 + 2, ?_, ?_⟩
        · refine ⟨(by walk_at "len"), fun l nl => ?_⟩
          refine ⟨_, rfl, p, c3, _, rfl, hs3.keep nl, by omega, by decide, by decide, fun r H4 r0 r1 bt4 hs4 => ?_⟩
          have hl4 := bt4 l _ (hs3.ne nl) upd_same
          obtain ⟨v, hv, hm⟩ := atI_mem (xs := ([0, 1, 1, 2, 3] : List Int).map V.int) r0 r1
          obtain ⟨f, hf, rfl⟩ := List.mem_map.mp hm
          obtain ⟨f0, f3⟩ : 0 ≤ f ∧ f ≤ 3 := by
            simp only [List.mem_cons, List.not_mem_nil, or_false] at hf
            omega
          refine ⟨_, _, _, _, rfl, rfl, SqL.of hl4, hv, _, rfl, _, _, rfl, rfl, wide_mul (a := 4) (b := 21) (by omega) (by omega) (by decide) (by decide) (by decide), ?_⟩
          refine ⟨_, rfl, _, rfl, _, _, rfl, _, _, rfl, rfl, ?_⟩
          refine ⟨p, _, _, rfl, hs4, by omega, by omega, by omega, fun r2 H5 r20 r21 bt5 hs5 => ?_⟩
          refine ⟨_, _, rfl, rfl, ?_⟩
          refine ⟨_, _, rfl, ?_, ((But.refl.new nl).trans bt4).trans bt5, hs5, by omega, by omega⟩
          have h1 : 0 ≤ f * e := Int.mul_nonneg f0 (by omega)
          have h2 : f * e ≤ 3 * 1000000 := Int.mul_le_mul f3 e6 (by omega) (by decide)
          exact ⟨by omega, by omega⟩
        rintro σ H4 ⟨t, c4, rfl, ⟨t0, t3⟩, bt4, hs4, d5, d6⟩
        have hrl4 := bt4.at nrlp (bt3.at nrlp hrl2)
        refine ⟨_, rfl, .inl ⟨rfl, _, SqL.of hrl4⟩, _, rfl, ?_⟩
        refine ⟨fun v H' => ∃ t' : Int, v = .int t' ∧ (-3000009 ≤ t' ∧ t' ≤ 3000009) ∧ But p H4 H' ∧ Src H' p (c4 + 1), ?_, ?_⟩
        · refine ⟨_, rfl, p, c4, _, rfl, hs4, by omega, by decide, by decide, fun r H5 r0 r1 bt5 hs5 => ?_⟩
          refine ⟨rfl, _, rfl, ?_⟩
          refine ifD (fun cc => ?_) (fun cc => ?_)
          · exact ⟨_, rfl, t, rfl, ⟨by omega, by omega⟩, bt5, hs5⟩
          · exact ⟨_, rfl, _, _, rfl, rfl, _, rfl, ⟨by omega, by omega⟩, bt5, hs5⟩
        rintro v H5 ⟨t', rfl, ⟨u1, u2⟩, bt5, hs5⟩
        have hrl5 := bt5.at nrlp hrl4
        refine ⟨_, _, rfl, rfl, _, _, _, rfl, rfl, hrl5, sz100k_lt (by rw [List.length_map]; omega), ?_⟩
        refine ⟨ns ++ [b + t'], _, _, _, _, rfl, ?_, by simp [hnl], ?_, ?_, hs5.skip nrlp.symm, by omega, by omega⟩
        · rw [List.map_append]; exact upd_same
        · intro x hx
          rcases List.mem_append.mp hx with hx | hx
          · have := hnb x hx; omega
          · rw [List.mem_singleton.mp hx]; omega
        · intro a o ha ho
          exact upd_skip (ne_of_none ho nrl) (bt5 _ _ ha (bt4 _ _ ha (bt3 _ _ ha (bt2 _ _ ha ho))))
      · rintro σ H2 ⟨ns, c2, v4, v5, v6, rfl, hrl2, hnl, hnb, bt2, hs2, d1, d2⟩
        refine ⟨ns, c2, _, _, _, rfl, hrl2, by omega, fun x hx => ?_, bt2, hs2, d1, by omega⟩
        have := hnb x hx
        omega
    rintro σ H2 ⟨ns, c2, v4, v5, v6, rfl, hrl2, hnl, hnb, bt2, hs2, d1, d2⟩
    -- shifted
    refine ⟨fun σ H' => ∃ (l : Addr) (ns' : List Int) (c' : Int) (v7 : Option V), σ = [some (.ref p), some (.int most), some (.int e), some (.ref l), v4, v5, v6, v7, none] ∧ H l = none ∧ H' l = some (.lst (ns'.map V.int)) ∧ (ns'.length : Int) ≤ most ∧ (∀ x ∈ ns', -100000000000000000000000000000 ≤ x ∧ x ≤ 100000000000000000000000000000) ∧ But p H H' ∧ Src H' p c' ∧ c ≤ c' ∧ c' ≤ c + 600, ?_, ?_⟩
    · refine ⟨_, rfl, p, c2, _, rfl, hs2, by omega, by decide, by decide, fun r H3 r0 r1 bt3 hs3 => ?_⟩
      refine ⟨rfl, _, rfl, ?_⟩
      have hrl3 := bt3.at nrlp hrl2
      refine ifD (fun cc => ?_) (fun cc => ?_)
      · refine ⟨fun σ H' => ∃ (t : Int), σ = [some (.ref p), some (.int most), some (.int e), some (.ref rl), v4, v5, v6, some (.int t), none] ∧ (-10000000000000000000000000000 ≤ t ∧ t ≤ 10000000000000000000000000000) ∧ But p H3 H' ∧ Src H' p (c2 + 1 + 1), ?_, ?_⟩
        · refine ⟨_, _, rfl, rfl, (by walk_at "pow"), _, _, rfl, rfl, (by walk_at "pow"), _, _, rfl, rfl, (by walk_at "len"), fun l nl => ?_⟩
          refine ⟨_, rfl, p, _, _, rfl, hs3.keep nl, by omega, by decide, by decide, fun r H4 r0 r1 bt4 hs4 => ?_⟩
          have hl4 := bt4 l _ (hs3.ne nl) upd_same
          obtain ⟨v, hv, hm⟩ := atI_mem (xs := ([10000000000000000000000, -1000000000000000000000] : List Int).map V.int) r0 r1
          obtain ⟨f, hf, rfl⟩ := List.mem_map.mp hm
          obtain ⟨f0, f3⟩ : -10000000000000000000000 ≤ f ∧ f ≤ 10000000000000000000000 := by
            simp only [List.mem_cons, List.not_mem_nil, or_false] at hf
            omega
          refine ⟨_, _, _, _, rfl, rfl, SqL.of hl4, hv, _, rfl, _, _, rfl, rfl, wide_mul (a := 80) (b := 21) (by omega) (by omega) (by decide) (by decide) (by decide), ?_⟩
          obtain ⟨m1, m2⟩ := mul_bd (a := f) (b := e) (A := 10000000000000000000000) (B := 1000000) (by omega) (by omega) (by omega) (by omega) (by decide)
          refine ⟨_, rfl, ⟨by omega, by omega⟩, (But.refl.new nl).trans bt4, hs4⟩
        rintro σ H4 ⟨t, rfl, ⟨t1, t2⟩, bt4, hs4⟩
        have hrl4 := bt4.at nrlp hrl3
        refine ⟨_, rfl, _, rfl, ⟨_, SqL.of hrl4⟩, fun D nD => ?_⟩
        refine lcL_filt (p := fun _ => true) (f := fun v => match v with | .int x => .int (x + t) | _ => .non) nD (SqL.of hrl4) (by rw [List.length_map]; omega) ?_ ?_ ?_
        · intro i y H' kk hy sm hk
          exact hk _ (Same.refl _)
        · intro i y H' kk hy _ sm hk
          rw [List.getElem?_map] at hy
          obtain ⟨x, hx, rfl⟩ := Option.map_eq_some_iff.mp hy
          exact ⟨_, rfl, _, rfl, _, _, rfl, rfl, hk _ (Same.refl _)⟩
        · intro H5 sm5 hD
          have eF : ((ns.map V.int).filter fun _ => true).map (fun v => match v with | .int x => V.int (x + t) | _ => .non) = (ns.map fun x => x + t).map V.int := by
            rw [filt_all, List.map_map, List.map_map]; rfl
          rw [eF] at hD
          have nDp : D ≠ p := hs4.ne nD
          have btA := (bt2.trans bt3).trans bt4
          have nDH : H D = none := by
            cases e : H D with
            | none => rfl
            | some o => rw [btA _ _ nDp e] at nD; cases nD
          refine ⟨D, ns.map fun x => x + t, _, _, rfl, nDH, hD, by rw [List.length_map]; exact hnl, fun x hx => ?_, btA.trans (But.of_same sm5), hs4.same sm5, by omega, by omega⟩
          obtain ⟨y, hy, rfl⟩ := List.mem_map.mp hx
          have := hnb y hy
          show -100000000000000000000000000000 ≤ y + t ∧ y + t ≤ 100000000000000000000000000000
          omega
      · refine ⟨rl, ns, _, _, rfl, nrl, hrl3, hnl, fun x hx => ?_, bt2.trans bt3, hs3, by omega, by omega⟩
        have := hnb x hx
        omega
    rintro σ H3 ⟨l, ns', c3, v7, rfl, nl, hl, hnl, hnb, bt3, hs3, d1, d2⟩
    exact ⟨_, rfl, q l ns' H3 c3 nl hl hnl hnb bt3 hs3 d1 d2⟩
def sp_law (K : PySem.W.Frag) : Sp := fun vs H Q _ => ∃ (a : Addr) (ns : List Int), vs = [.ref a] ∧ SqL K H a (ns.map V.int) ∧ ns.length ≤ 63 ∧ ∀ H', Q (.bl true) H'
theorem ok_law (T : Tx w K mg) : FnOk P w K mg base CX0 6 T.a_law T.fd_law ["_law_script"] (sp_law K) := by
  refine T.F_law.ok sc_law (fun vs H Q E h => ?_) (fun cdv A outer s H vs Q E hr h => ?_)
  · obtain ⟨p, c, rfl, _⟩ := h; rfl
  · obtain ⟨a, ns, rfl, hS, hlen, q⟩ := h
    have hu := hu_of hr
    obtain ⟨ds0, v0_Loop___init__, b0_Loop___init__⟩ := T.b0_Loop___init__
    refine ⟨_, ((pss_cons (ps_set (i := 1) sc_law.nd rfl (by first | exact Or.inl rfl | exact Or.inr rfl) (pe_call (ok__law_source T) (hr.mono (by decide)) rfl T.g__law_source T.F__law_source.kp T.b__law_source .nil pass0 (pa_cons (pv 0) pa_nil)))
      (pss_cons (ps_set (i := 2) sc_law.nd rfl (by first | exact Or.inl rfl | exact Or.inr rfl) (pe_call (ok__law_names T) (hr.mono (by decide)) rfl T.g__law_names T.F__law_names.kp T.b__law_names .nil pass0 (pa_cons (pv 1) (pa_cons pe_int pa_nil))))
      (pss_cons (ps_set (i := 3) sc_law.nd rfl (by first | exact Or.inl rfl | exact Or.inr rfl) (pe_call (ok__law_names T) (hr.mono (by decide)) rfl T.g__law_names T.F__law_names.kp T.b__law_names .nil pass0 (pa_cons (pv 1) (pa_cons pe_int pa_nil))))
      (Evl.pss_cut (ps_set (i := 4) sc_law.nd rfl (by first | exact Or.inl rfl | exact Or.inr rfl) (pe_op op_cat (pe_lc (own := [("_law_name_here", 5)]) (by rfl) sc_law.nd (pi_list (pe_call (ok__law_subset T) (hr.mono (by decide)) rfl T.g__law_subset T.F__law_subset.kp T.b__law_subset .nil pass0 (pa_cons (pv 1) (pa_cons (pe_op op_cat (pe_slice sl_list (pe_call0 (ok__law_group_names T) (hr.mono (by decide)) rfl T.g__law_group_names T.F__law_group_names.kp T.b__law_group_names .nil pass0) po_none (po_some pe_int)) (pe_call0 (ok__law_places T) (hr.mono (by decide)) rfl T.g__law_places T.F__law_places.kp T.b__law_places .nil pass0)) pa_nil)))) (blkOk_by (own := [("_law_name_here", 5)]) (N := N_law) (sc := defScope s_law) (by decide +kernel)) (fun _ _ _ _ _ => (pg_name (i := 5) sc_law.nd rfl (by first | exact Or.inl rfl | exact Or.inr rfl))) (fun _ _ _ _ _ => pts_nil) (fun _ _ _ _ _ => (pv 5))) (pe_lst (pa_cons pe_str pa_nil))))
      (Evl.pss_cut (ps_set (i := 6) sc_law.nd rfl (by first | exact Or.inl rfl | exact Or.inr rfl) (pe_lst (pa_cons (pe_tup (pa_cons (pe_ix ix_list (pv 2) pe_int (fun _ _ => rfl)) (pa_cons (pv 4) (pa_cons (pe_ix ix_list (pv 3) pe_int (fun _ _ => rfl)) (pa_cons pe_bl (pa_cons (pe_ix ix_list (pv 2) pe_int (fun _ _ => rfl)) pa_nil)))))) (pa_cons (pe_tup (pa_cons (pe_ix ix_list (pv 2) pe_int (fun _ _ => rfl)) (pa_cons (pe_lst (pa_cons pe_str (pa_cons pe_str pa_nil))) (pa_cons (pe_ix ix_list (pv 3) pe_int (fun _ _ => rfl)) (pa_cons pe_bl (pa_cons (pe_ix ix_list (pv 2) pe_int (fun _ _ => rfl)) pa_nil)))))) pa_nil))))
      (pss_cons (ps_set (i := 7) sc_law.nd rfl (by first | exact Or.inl rfl | exact Or.inr rfl) (pe_call (ok__law_tolerance T) (hr.mono (by decide)) rfl T.g__law_tolerance T.F__law_tolerance.kp T.b__law_tolerance .nil pass0 (pa_cons (pv 1) pa_nil)))
      (pss_cons (ps_set (i := 8) sc_law.nd rfl (by first | exact Or.inl rfl | exact Or.inr rfl) (pe_call (ok__law_row T) (hr.mono (by decide)) rfl T.g__law_row T.F__law_row.kp T.b__law_row .nil pass0 (pa_cons (pv 1) (pa_cons pe_int (pa_cons (pv 7) pa_nil)))))
      (Evl.pss_cut (ps_set (i := 9) sc_law.nd rfl (by first | exact Or.inl rfl | exact Or.inr rfl) (pe_call (ok_run T) (hr.mono (by decide)) rfl T.g_run T.F_run.kp T.b_run .nil pass0 (pa_cons (pe_make T.mk_Loop (ok_Loop___init__ T) (hr.mono (by decide)) rfl T.g_Loop T.b_Loop___init__ .nil pass0 (pa_cons (pv 6) (pa_cons (pe_disp (pps_cons (pe_ix ix_list (pv 2) pe_int (fun _ _ => rfl)) pe_str pps_nil) (by rfl) (by rfl) (fun z => by cases z) (by decide)) pa_nil))) (pa_cons (pv 8) (pa_cons (pv 7) pa_nil)))))
      (Evl.pss_cut (ps_set (i := 10) sc_law.nd rfl (by first | exact Or.inl rfl | exact Or.inr rfl) (pe_callTy (call_tuple_of) (by rfl) T.m_tuple (by decide +kernel) (pa_cons (pe_lc (own := [("_law_x", 11)]) (by rfl) sc_law.nd (pi_list (pv 8)) (blkOk_by (own := [("_law_x", 11)]) (N := N_law) (sc := defScope s_law) (by decide +kernel)) (fun _ _ _ _ _ => (pg_name (i := 11) sc_law.nd rfl (by first | exact Or.inl rfl | exact Or.inr rfl))) (fun _ _ _ _ _ => pts_nil) (fun _ _ _ _ _ => pe_str)) pa_nil)))
      (Evl.pss_cut (ps_if (pt_cmpR (op_neD hr.units) (pe_lst (pa_cons (pe_fld (pv 9) rfl) (pa_cons (pe_fld (pv 9) rfl) (pa_cons (pe_prop (pv 9) T.cl_Run T.pr_Run_last (ok_Run_last T) (hr.mono (by decide)) T.b_Run_last .nil pass0 rfl) (pa_cons (pe_fld (pv 9) rfl) (pa_cons (pe_fld (pv 9) rfl) pa_nil)))))) (pe_lst (pa_cons (pv 10) (pa_cons (pe_tup pa_nil) (pa_cons pe_non (pa_cons (pe_ix ix_list (pv 2) pe_int (fun _ _ => rfl)) (pa_cons pe_str pa_nil)))))) (nomark _)) (pss_one (ps_ret pe_bl)) pss_nil)
      (Evl.pss_cut (ps_if (pt_cmpR (op_neD hr.units) (pe_fld (pv 9) rfl) (pe_callTy (call_tuple_of) (by rfl) T.m_tuple (by decide +kernel) (pa_cons (pe_lc (own := [("_law_x", 11)]) (by rfl) sc_law.nd (pi_list (pv 8)) (blkOk_by (own := [("_law_x", 11)]) (N := N_law) (sc := defScope s_law) (by decide +kernel)) (fun _ _ _ _ _ => (pg_name (i := 11) sc_law.nd rfl (by first | exact Or.inl rfl | exact Or.inr rfl))) (fun _ _ _ _ _ => pts_nil) (fun _ _ _ _ _ => pe_bl)) pa_nil)) (nomark _)) (pss_one (ps_ret pe_bl)) pss_nil)
      (Evl.pss_cut (ps_set (i := 6) sc_law.nd rfl (by first | exact Or.inl rfl | exact Or.inr rfl) (pe_lst (pa_cons (pe_tup (pa_cons (pe_ix ix_list (pv 2) pe_int (fun _ _ => rfl)) (pa_cons (pe_lst (pa_cons pe_str pa_nil)) (pa_cons (pe_ix ix_list (pv 3) pe_int (fun _ _ => rfl)) (pa_cons pe_bl (pa_cons (pe_ix ix_list (pv 2) pe_int (fun _ _ => rfl)) pa_nil)))))) (pa_cons (pe_tup (pa_cons (pe_ix ix_list (pv 2) pe_int (fun _ _ => rfl)) (pa_cons (pe_lst (pa_cons pe_str (pa_cons pe_str pa_nil))) (pa_cons (pe_ix ix_list (pv 3) pe_int (fun _ _ => rfl)) (pa_cons pe_bl (pa_cons (pe_ix ix_list (pv 2) pe_int (fun _ _ => rfl)) pa_nil)))))) pa_nil))))
      (Evl.pss_cut (ps_set (i := 9) sc_law.nd rfl (by first | exact Or.inl rfl | exact Or.inr rfl) (pe_call (ok_run T) (hr.mono (by decide)) rfl T.g_run T.F_run.kp T.b_run .nil pass0 (pa_cons (pe_make T.mk_Loop (ok_Loop___init__ T) (hr.mono (by decide)) rfl T.g_Loop b0_Loop___init__ v0_Loop___init__ pass0 (pa_cons (pv 6) pa_nil)) (pa_cons (pv 8) (pa_cons (pv 7) pa_nil)))))
      (Evl.pss_cut (ps_set (i := 10) sc_law.nd rfl (by first | exact Or.inl rfl | exact Or.inr rfl) (pe_callTy (call_tuple_of) (by rfl) T.m_tuple (by decide +kernel) (pa_cons (pe_lc (own := [("_law_k", 12)]) (by rfl) sc_law.nd (pi_range1 rfl T.m_range (pa_cons (pe_callB (call_len_seq) (by rfl) T.m_len (by decide +kernel) (pa_cons (pv 8) pa_nil)) pa_nil)) (blkOk_by (own := [("_law_k", 12)]) (N := N_law) (sc := defScope s_law) (by decide +kernel)) (fun _ _ _ _ _ => (pg_name (i := 12) sc_law.nd rfl (by first | exact Or.inl rfl | exact Or.inr rfl))) (fun _ _ _ _ _ => pts_nil) (fun _ _ _ _ _ => (pe_ifExp (pt_cmpR (op_eq) (pv 12) pe_int (nomark _)) (pe_ix (show IxR _ (rIxL K) from ix_list) (pv 3) pe_int (fun _ _ => rfl)) pe_str))) pa_nil)))
      (pss_one (ps_ret (pe_cmpR (op_eqD hr.units) (pe_lst (pa_cons (pe_fld (pv 9) rfl) (pa_cons (pe_fld (pv 9) rfl) (pa_cons (pe_fld (pv 9) rfl) pa_nil)))) (pe_lst (pa_cons (pv 10) (pa_cons (pe_callTy (call_tuple_of) (by rfl) T.m_tuple (by decide +kernel) (pa_cons (pe_slice sl_list (pv 8) po_none (po_some pe_int)) pa_nil)) (pa_cons (pe_ix ix_list (pv 2) pe_int (fun _ _ => rfl)) pa_nil)))) (nomark _))))))))))))))))))), ?_⟩
    refine ⟨_, rfl, a, ns, rfl, hS, fun H1 p sm np hs1 => ?_⟩
    refine ⟨_, rfl, p, _, _, rfl, hs1, by decide, by decide, by decide, fun nl zs H2 c2 nnl hnl hzl hnd hnm bt2 hs2 c21 c22 => ?_⟩
    have nnlp := hs1.ne nnl
    refine ⟨_, rfl, p, _, _, rfl, hs2, by omega, by decide, by decide, fun wl ws H3 c3 nwl hwl hwll _ hwn bt3 hs3 c31 c32 => ?_⟩
    have nwlp := hs2.ne nwl
    obtain ⟨z0, z1, z2, rfl⟩ : ∃ x y z, zs = [x, y, z] := by
      match zs, hzl with
      | [x, y, z], _ => exact ⟨x, y, z, rfl⟩
    obtain ⟨w0, w1, rfl⟩ : ∃ x y, ws = [x, y] := by
      match ws, hwll with
      | [x, y], _ => exact ⟨x, y, rfl⟩
    have n0 := hnm z0 (by simp)
    have n1 := hnm z1 (by simp)
    have n2 := hnm z2 (by simp)
    have m0 := hwn w0 (by simp)
    have m1 := hwn w1 (by simp)
    obtain ⟨d01, d02⟩ : z0 ≠ z1 ∧ z0 ≠ z2 := by
      simp only [List.nodup_cons, List.mem_cons, List.not_mem_nil, or_false, not_or] at hnd
      exact hnd.1
    have hN3 : NL.hide H3 p nl = some (.lst [.str z0, .str z1, .str z2]) := hide_put (bt3.at nnlp hnl) nnlp
    have hW3 : NL.hide H3 p wl = some (.lst [.str w0, .str w1]) := hide_put hwl nwlp
    -- groups
    refine ⟨fun σ H' => ∃ (gl : Addr) (gs : List Str) (c' : Int), σ = [some (.ref a), some (.ref p), some (.ref nl), some (.ref wl), some (.ref gl), none, none, none, none, none, none, none, none] ∧ NL.hide H' p gl = some (.lst (gs.map V.str)) ∧ 0 < gs.length ∧ gs.length ≤ 30 ∧ (∀ g ∈ gs, g ∈ N19) ∧ Same (NL.hide H3 p) (NL.hide H' p) ∧ Src H' p c' ∧ c' ≤ 300, ?_, ?_⟩
    · refine ⟨_, rfl, rfl, fun p1 n1 => ?_⟩
      refine ⟨_, rfl, _, _, rfl, SqL.of upd_same, fun p2 n2 => ?_⟩
      refine ⟨rfl, fun p3 n3 => ?_⟩
      refine ⟨_, _, _, _, rfl, rfl, upd_keep upd_same n3, upd_same, (by walk_at "len"), fun p4 n4 => ?_⟩
      have s4 := (((same_new (o := .lst (GN.map V.str)) n1).trans (same_new (o := .lst (cutV (GN.map V.str) none (some 8))) n2)).trans (same_new (o := .lst (PL.map V.str)) n3)).trans (same_new (o := .lst (cutV (GN.map V.str) none (some 8) ++ PL.map V.str)) n4)
      have hs4 := hs3.same s4
      have n4p : p4 ≠ p := (((hs3.keep n1).keep n2).keep n3).ne n4
      refine ⟨p, p4, _, N19.map V.str, rfl, hs4, by omega, n4p, upd_same, by decide +kernel, fun m ys H5 nm hm hyl hys bt5 hs5 => ?_⟩
      have nmp : m ≠ p := hs4.ne nm
      refine ⟨_, rfl, ⟨_, SqL.of hm⟩, fun D nD => ?_⟩
      have hN19l : (N19.map V.str).length = 19 := by decide +kernel
      rw [hN19l] at hyl hs5
      obtain ⟨gs, rfl, hgm⟩ : ∃ gs : List Str, ys = gs.map V.str ∧ ∀ g ∈ gs, g ∈ N19 := by
        clear hm hyl
        induction ys with
        | nil => exact ⟨[], rfl, fun g hg => (nomatch hg)⟩
        | cons y ys ih =>
          obtain ⟨gs, e, h⟩ := ih fun x hx => hys x (List.mem_cons_of_mem _ hx)
          obtain ⟨g, hg, e2⟩ := List.mem_map.mp (hys y List.mem_cons_self)
          refine ⟨g :: gs, by rw [e, List.map_cons, e2], fun x hx => ?_⟩
          rcases List.mem_cons.mp hx with rfl | hx
          · exact hg
          · exact h x hx
      rw [List.length_map] at hyl
      refine lcL_filt (p := fun _ => true) (f := fun v => v) nD (SqL.of hm) (by rw [List.length_map]; omega) ?_ ?_ ?_
      · intro i y H' kk hy sm hk
        exact hk _ (Same.refl _)
      · intro i y H' kk hy _ sm hk
        exact ⟨_, rfl, hk _ (Same.refl _)⟩
      · intro H6 sm6 hD
        rw [filt_all, List.map_id'] at hD
        refine ⟨(by walk_at "len"), fun p5 n5 => ?_⟩
        have hs6 := hs5.same sm6
        refine ⟨_, _, _, _, rfl, rfl, upd_keep hD n5, upd_same, sz100k (by rw [List.length_map]; show gs.length + 1 ≤ 100000; omega), fun p6 n6 => ?_⟩
        refine ⟨p6, gs ++ [("any" : Str)], _, rfl, hide_put (by rw [List.map_append]; exact upd_same) ((hs6.keep n5).ne n6), by simp, by rw [List.length_append]; show gs.length + 1 ≤ 30; omega, ?_, ?_, (hs6.keep n5).keep n6, by omega⟩
        · intro g hg
          rcases List.mem_append.mp hg with hg | hg
          · exact hgm g hg
          · rw [List.mem_singleton.mp hg]; decide +kernel
        · exact ((((But.of_same s4).hide).trans bt5.hide).trans (But.of_same sm6).hide).trans ((But.of_same ((same_new n5).trans (same_new n6))).hide)
    rintro σ H4 ⟨gl, gs, c4, rfl, hG4, g0, g30, hgm, s34, hs4, c41⟩
    have hN4 := s34 _ _ hN3
    have hW4 := s34 _ _ hW3
    -- rules
    refine ⟨fun σ H' => ∃ (rl : Addr), σ = [some (.ref a), some (.ref p), some (.ref nl), some (.ref wl), some (.ref gl), none, some (.ref rl), none, none, none, none, none, none] ∧ RulesL (NL.hide H' p) rl [⟨z0, gs, w0, true, z1⟩, ⟨z1, ["none", "any"], w0, true, z1⟩] ∧ Same (NL.hide H4 p) (NL.hide H' p) ∧ Src H' p c4, ?_, ?_⟩
    · have hN := hide_same _ _ hN4
      have hW := hide_same _ _ hW4
      refine ⟨_, rfl, _, _, _, _, rfl, rfl, SqL.of hN, rfl, _, rfl, _, rfl, _, _, _, _, rfl, rfl, SqL.of hW, rfl, _, rfl, _, _, _, _, rfl, rfl, SqL.of hN, rfl, (by walk_at "len"), fun p7 n7 => ?_⟩
      have hs5 := hs4.keep (o := .tup [.str z0, .ref gl, .str w0, .bl true, .str z1]) n7
      have nn7 := hs4.ne n7
      refine ⟨_, rfl, _, _, _, _, rfl, rfl, SqL.of (upd_keep hN n7), rfl, (by walk_at "len"), fun p8 n8 => ?_⟩
      have hs6 := hs5.keep (o := .lst [.str "none", .str "any"]) n8
      have nn8 := hs5.ne n8
      refine ⟨_, rfl, _, _, _, _, rfl, rfl, SqL.of (upd_keep (upd_keep hW n7) n8), rfl, _, rfl, _, _, _, _, rfl, rfl, SqL.of (upd_keep (upd_keep hN n7) n8), rfl, (by walk_at "len"), fun p9 n9 => ?_⟩
      have hs7 := hs6.keep (o := .tup [.str z1, .ref p8, .str w0, .bl true, .str z1]) n9
      have nn9 := hs6.ne n9
      refine ⟨(by walk_at "len"), fun p10 n10 => ?_⟩
      have nn10 := hs7.ne n10
      have sAll := (((same_new (o := .tup [.str z0, .ref gl, .str w0, .bl true, .str z1]) n7).trans (same_new (o := .lst [.str "none", .str "any"]) n8)).trans (same_new (o := .tup [.str z1, .ref p8, .str w0, .bl true, .str z1]) n9)).trans (same_new (o := .lst [.ref p7, .ref p9]) n10)
      have hh := (But.of_same (p := p) sAll).hide
      refine ⟨p10, rfl, ⟨_, hide_put upd_same nn10, .cons ⟨p7, gl, rfl, hide_put (upd_keep (upd_keep (upd_keep upd_same n8) n9) n10) nn7, hh _ _ hG4⟩ (.cons ⟨p9, p8, rfl, hide_put (upd_keep upd_same n10) nn9, hide_put (upd_keep (upd_keep upd_same n9) n10) nn8⟩ .nil)⟩, hh, hs7.keep n10⟩
    rintro σ H5 ⟨rl, rfl, hR5, s45, hs5⟩
    have hN5 := s45 _ _ hN4
    have hW5 := s45 _ _ hW4
    -- tolerance, row
    refine ⟨_, rfl, p, _, rfl, hs5, by omega, fun e H6 he bt6 hs6 => ?_⟩
    obtain ⟨e1, e2⟩ : 1 ≤ e ∧ e ≤ 1000000 := by
      simp only [List.mem_cons, List.not_mem_nil, or_false] at he
      omega
    refine ⟨_, rfl, _, rfl, p, _, _, e, rfl, hs6, by omega, by decide, by decide, e1, e2, fun xl xs H7 c7 nxl hxl hxn hxb bt7 hs7 c71 c72 => ?_⟩
    have nxlp := hs6.ne nxl
    have s57 := bt6.hide.trans bt7.hide
    have hN7 := s57 _ _ hN5
    have hW7 := s57 _ _ hW5
    have hR7 := hR5.same s57
    have hX7 : NL.hide H7 p xl = some (.lst (xs.map V.int)) := hide_put hxl nxlp
    have hxn : xs.length ≤ 8 := by omega
    -- the loop runs
    have hGn : ∀ g ∈ gs, isGroupB g = true := fun g hg => N19_group g (hgm g hg)
    have hwf : wfRules [⟨z0, gs, w0, true, z1⟩, ⟨z1, ["none", "any"], w0, true, z1⟩] := by
      refine ⟨(by show 0 < 2; decide), (by show 2 ≤ 40; decide), fun r hr => ?_, ?_⟩
      · rcases List.mem_cons.mp hr with rfl | hr
        · exact wfRule_of n0 m0 n1 g0 hGn
        · rw [List.mem_singleton.mp hr]
          exact wfRule_of n1 m0 n1 (by show 0 < 2; decide) (show ∀ g ∈ (["none", "any"] : List Str), isGroupB g = true by decide +kernel)
      · have := states_sub (rs := [⟨z0, gs, w0, true, z1⟩, ⟨z1, ["none", "any"], w0, true, z1⟩]) (zs := [z0, z1]) fun r hr => by
          rcases List.mem_cons.mp hr with rfl | hr
          · exact ⟨by simp, by simp⟩
          · rw [List.mem_singleton.mp hr]; exact ⟨by simp, by simp⟩
        exact Nat.le_trans this (by show 2 ≤ 6; decide)
    have hst0 : z0 ∈ statesR [⟨z0, gs, w0, true, z1⟩, ⟨z1, ["none", "any"], w0, true, z1⟩] := statesF_mem.mpr (.inr ⟨_, List.mem_cons_self, .inl rfl⟩)
    have hA : ansOk [⟨z0, gs, w0, true, z1⟩, ⟨z1, ["none", "any"], w0, true, z1⟩] [(z0, "stays")] := ⟨fun q hq => by
      rw [List.mem_singleton.mp hq]; exact ⟨hst0, .inr (show isNameB "stays" = true by decide +kernel)⟩, (by show 1 ≤ 50; decide)⟩
    have hu1 : usedR [⟨z0, gs, w0, true, z1⟩, ⟨z1, ["none", "any"], w0, true, z1⟩] z0 "none" = (("pass" : Str), false, z0) := by
      refine used_none_of fun r hr => ?_
      rcases List.mem_cons.mp hr with rfl | hr
      · unfold hitR Rule.fits
        rw [Bool.and_eq_false_iff]; right
        rw [List.any_eq_false]
        intro g hg; rw [N19_none g (hgm g hg)]; decide
      · rw [List.mem_singleton.mp hr]
        unfold hitR
        rw [decide_eq_false (fun z => d01 z.symm)]; rfl
    have hrun1 := never_one (e := e) hu1 rfl xs
    refine ⟨fun σ H' => ∃ (tr : Addr), σ = [some (.ref a), some (.ref p), some (.ref nl), some (.ref wl), some (.ref gl), none, some (.ref rl), some (.int e), some (.ref xl), some (.ref tr), none, none, none] ∧ RunAt K T.a_Run H' tr ⟨z0, List.replicate xs.length "pass", List.replicate xs.length false, []⟩ "stays" ∧ Same H7 H', ?_, ?_⟩
    · refine ⟨_, rfl, fun d nd => ?_⟩
      have hN := upd_keep (o := .dK []) (hide_same _ _ hN7) nd
      refine ⟨_, rfl, _, _, _, _, rfl, rfl, SqL.of hN, rfl, upd_same, [(Sum.inr z0, .str "stays")], rfl, (by show 1 ≤ 15; decide), ?_⟩
      have smd : Same H7 (upd (upd H7 d (.dK [])) d (.dK (mergeK [] [(Sum.inr z0, .str "stays")]))) := fun c o hc => upd_skip (ne_of_none hc nd) (upd_keep hc nd)
      have hd : upd (upd H7 d (.dK [])) d (.dK (mergeK [] [(Sum.inr z0, .str "stays")])) d = some (.dK (ansD [(z0, "stays")])) := upd_same
      obtain ⟨H8, e8⟩ : ∃ H8, H8 = upd (upd H7 d (.dK [])) d (.dK (mergeK [] [(Sum.inr z0, .str "stays")])) := ⟨_, rfl⟩
      rw [← e8] at smd hd ⊢
      intro lp dx nlp ndx ndl
      have smL : Same H8 (upd (upd H8 dx (.own lp)) lp (.ins T.a_Loop dx [])) := (same_new ndx).trans (same_new (by rw [upd_ne ndl.symm]; exact nlp))
      refine ⟨lp, rl, dx, .ref d, _, [(z0, "stays")], rfl, upd_same, ((((hR7.same hide_same).same smd).same smL).at), hwf, fun r hr => ?_, hA, .inr ⟨d, rfl, smL _ _ hd⟩, fun H9 bt9 hL9 => ⟨rfl, ?_⟩⟩
      · rcases List.mem_cons.mp hr with rfl | hr
        · show gs.length ≤ 100; omega
        · rw [List.mem_singleton.mp hr]; show 2 ≤ 100; decide
      have sm9 : Same H8 H9 := fun c o hc => bt9 _ _ (ne_of_none hc nlp) (smL _ _ hc)
      refine ⟨_, rfl, _, rfl, lp, xl, e, _, _, xs, rfl, hL9, hwf, .inl (sm9 _ _ (smd _ _ hxl)), by omega, fun x hx => by have := hxb x hx; omega, ⟨e1, by omega⟩, fun H10 tr sm10 ntr hRun => ?_⟩
      rw [hrun1] at hRun
      have han : ansOf [(z0, ("stays" : Str))] z0 = "stays" := by unfold ansOf; rw [List.lookup_cons]; simp
      rw [show ansOf [(z0, ("stays" : Str))] (RS.st ⟨z0, List.replicate xs.length "pass", List.replicate xs.length false, []⟩) = "stays" from han] at hRun
      exact ⟨tr, rfl, hRun, (smd.trans sm9).trans sm10⟩
    rintro σ H8 ⟨tr, rfl, hT8, s78⟩
    obtain ⟨dx2, wa, ka, ta, R1, R2, R3, R4⟩ := id hT8
    have hx8 := s78 _ _ hxl
    -- due
    refine ⟨fun σ H' => ∃ (du : Addr), σ = [some (.ref a), some (.ref p), some (.ref nl), some (.ref wl), some (.ref gl), none, some (.ref rl), some (.int e), some (.ref xl), some (.ref tr), some (.ref du), none, none] ∧ Same H8 H' ∧ H' du = some (.tup ((List.replicate xs.length ("pass" : Str)).map V.str)), ?_, ?_⟩
    · refine ⟨_, rfl, _, rfl, ⟨_, SqL.of hx8⟩, fun D nD => ?_⟩
      refine lcL_filt (p := fun _ => true) (f := fun _ => .str "pass") nD (SqL.of hx8) (by rw [List.length_map]; omega) ?_ ?_ ?_
      · intro i y H' kk hy sm hk
        exact hk _ (Same.refl _)
      · intro i y H' kk hy _ sm hk
        exact hk _ (Same.refl _)
      · intro H9 sm9 hD
        have eF : ((xs.map V.int).filter fun _ => true).map (fun _ => V.str "pass") = (List.replicate xs.length ("pass" : Str)).map V.str := by
          rw [filt_all, List.map_map, List.map_replicate]
          exact List.map_const' ..
        rw [eF] at hD
        refine ⟨_, _, rfl, .inl ⟨SqL.of hD, fun du ndu => ?_⟩⟩
        exact ⟨du, rfl, sm9.trans (same_new ndu), upd_same⟩
    rintro σ H9 ⟨du, rfl, s89, hdu⟩
    have okp : ∀ z ∈ List.replicate xs.length ("pass" : Str), PyData.strOk z = true := fun z hz => by rw [List.eq_of_mem_replicate hz]; decide +kernel
    have hN9 := s89 _ _ (s78 _ _ (hide_same _ _ hN7))
    -- the first test
    have sh1 : SeqAt.shaped (.list [.tuple ((List.replicate xs.length ("pass" : Str)).map .str), .tuple [], .none, .str z0, .str "stays"]) = true :=
      shapedL_of (fine_cons (fine_tup_strs okp) (fine_cons ⟨rfl, by decide⟩ (fine_cons fine_none (fine_cons (fine_str (name_ok n0)) (fine_cons (fine_str (by decide +kernel)) fun _ h => fine_nil h)))))
    refine ⟨fun σ H' => σ = [some (.ref a), some (.ref p), some (.ref nl), some (.ref wl), some (.ref gl), none, some (.ref rl), some (.int e), some (.ref xl), some (.ref tr), some (.ref du), none, none] ∧ Same H9 H', ?_, ?_⟩
    · have r1 := s89 _ _ R1
      refine ⟨_, rfl, _, _, _, _, _, rfl, r1, T.cl_Run, T.no_Run_words, rfl, _, rfl, _, _, _, _, _, rfl, r1, T.cl_Run, T.no_Run_kept, rfl, _, rfl, _, _, _, rfl, r1, tr, _, _, rfl, hT8.same s89, ?_⟩
      refine ⟨_, rfl, _, _, _, _, _, rfl, r1, T.cl_Run, T.no_Run_state, rfl, _, rfl, _, _, _, _, _, rfl, r1, T.cl_Run, T.no_Run_answer, rfl, (by walk_at "len"), fun p13 n13 => ?_⟩
      refine ⟨_, rfl, (by walk_at "len"), fun p14 n14 => ?_⟩
      refine ⟨_, rfl, _, _, _, _, rfl, rfl, SqL.of (upd_keep (upd_keep hN9 n13) n14), rfl, (by walk_at "len"), fun p15 n15 => ?_⟩
      refine ⟨_, _, .lst (SqL.of (upd_keep (upd_keep upd_same n14) n15)) (.cons (.tup (SqT.of (upd_keep (upd_keep (upd_keep (s89 _ _ R2) n13) n14) n15)) (dpAll_str _)) (.cons (.tup (SqT.of (upd_keep (upd_keep (upd_keep (s89 _ _ R4) n13) n14) n15)) .nil) (.cons .non (.cons (.str _) (.cons (.str _) .nil))))), .lst (SqL.of upd_same) (.cons (.tup (SqT.of (upd_keep (upd_keep (upd_keep hdu n13) n14) n15)) (dpAll_str _)) (.cons (.tup (SqT.of (upd_keep upd_same n15)) .nil) (.cons .non (.cons (.str _) (.cons (.str _) .nil))))), sh1, sh1, _, rfl, ?_⟩
      refine ifF (by rw [eqv_same sh1]; rfl) ?_
      exact ⟨rfl, ((same_new n13).trans (same_new n14)).trans (same_new n15)⟩
    rintro σ H10 ⟨rfl, s910⟩
    have s710 : Same H7 H10 := (s78.trans s89).trans s910
    have hx10 := s710 _ _ hxl
    -- the second test
    have sh2 : SeqAt.shaped (.tuple ((List.replicate xs.length false).map .bool)) = true := shaped_of (fine_tup_bools _).1 (Nat.le_trans (fine_tup_bools _).2 (by decide))
    refine ⟨fun σ H' => σ = [some (.ref a), some (.ref p), some (.ref nl), some (.ref wl), some (.ref gl), none, some (.ref rl), some (.int e), some (.ref xl), some (.ref tr), some (.ref du), none, none] ∧ Same H10 H', ?_, ?_⟩
    · have r1 := s910 _ _ (s89 _ _ R1)
      have r3 := s910 _ _ (s89 _ _ R3)
      refine ⟨_, rfl, _, _, _, _, _, rfl, r1, T.cl_Run, T.no_Run_keeps, rfl, _, rfl, _, rfl, ⟨_, SqL.of hx10⟩, fun D nD => ?_⟩
      refine lcL_filt (p := fun _ => true) (f := fun _ => .bl false) nD (SqL.of hx10) (by rw [List.length_map]; omega) ?_ ?_ ?_
      · intro i y H' kk hy sm hk
        exact hk _ (Same.refl _)
      · intro i y H' kk hy _ sm hk
        exact hk _ (Same.refl _)
      · intro H11 sm11 hD
        have eF : ((xs.map V.int).filter fun _ => true).map (fun _ => V.bl false) = (List.replicate xs.length false).map V.bl := by
          rw [filt_all, List.map_map, List.map_replicate]
          exact List.map_const' ..
        rw [eF] at hD
        refine ⟨_, _, rfl, .inl ⟨SqL.of hD, fun p16 n16 => ?_⟩⟩
        refine ⟨_, _, .tup (SqT.of (upd_keep (sm11 _ _ r3) n16)) (dpAll_bool _), .tup (SqT.of upd_same) (dpAll_bool _), sh2, sh2, _, rfl, ?_⟩
        refine ifF (by rw [eqv_same sh2]; rfl) ?_
        exact ⟨rfl, sm11.trans (same_new n16)⟩
    rintro σ H11 ⟨rfl, s1011⟩
    have s711 : Same H7 H11 := s710.trans s1011
    have hN := s711 _ _ (hide_same _ _ hN7)
    have hW := s711 _ _ (hide_same _ _ hW7)
    have hX := s711 _ _ hxl
    -- the other rules
    refine ⟨fun σ H' => ∃ (rl2 : Addr), σ = [some (.ref a), some (.ref p), some (.ref nl), some (.ref wl), some (.ref gl), none, some (.ref rl2), some (.int e), some (.ref xl), some (.ref tr), some (.ref du), none, none] ∧ RulesL H' rl2 [⟨z0, ["none"], w0, true, z0⟩, ⟨z2, ["any", "none"], w1, true, z2⟩] ∧ Same H11 H', ?_, ?_⟩
    · refine ⟨_, rfl, _, _, _, _, rfl, rfl, SqL.of hN, rfl, (by walk_at "len"), fun p17 n17 => ?_⟩
      refine ⟨_, rfl, _, _, _, _, rfl, rfl, SqL.of (upd_keep hW n17), rfl, _, rfl, _, _, _, _, rfl, rfl, SqL.of (upd_keep hN n17), rfl, (by walk_at "len"), fun p18 n18 => ?_⟩
      refine ⟨_, rfl, _, _, _, _, rfl, rfl, SqL.of (upd_keep (upd_keep hN n17) n18), rfl, (by walk_at "len"), fun p19 n19 => ?_⟩
      refine ⟨_, rfl, _, _, _, _, rfl, rfl, SqL.of (upd_keep (upd_keep (upd_keep hW n17) n18) n19), rfl, _, rfl, _, _, _, _, rfl, rfl, SqL.of (upd_keep (upd_keep (upd_keep hN n17) n18) n19), rfl, (by walk_at "len"), fun p20 n20 => ?_⟩
      refine ⟨(by walk_at "len"), fun p21 n21 => ?_⟩
      refine ⟨p21, rfl, ⟨_, upd_same, .cons ⟨p18, p17, rfl, upd_keep (upd_keep (upd_keep upd_same n19) n20) n21, upd_keep (upd_keep (upd_keep (upd_keep upd_same n18) n19) n20) n21⟩ (.cons ⟨p20, p19, rfl, upd_keep upd_same n21, upd_keep (upd_keep upd_same n20) n21⟩ .nil)⟩, (((((same_new n17).trans (same_new n18)).trans (same_new n19)).trans (same_new n20)).trans (same_new n21))⟩
    rintro σ H12 ⟨rl2, rfl, hR12, s1112⟩
    have hwf2 : wfRules [⟨z0, ["none"], w0, true, z0⟩, ⟨z2, ["any", "none"], w1, true, z2⟩] := by
      refine ⟨(by show 0 < 2; decide), (by show 2 ≤ 40; decide), fun r hr => ?_, ?_⟩
      · rcases List.mem_cons.mp hr with rfl | hr
        · exact wfRule_of n0 m0 n0 (by show 0 < 1; decide) (show ∀ g ∈ (["none"] : List Str), isGroupB g = true by decide +kernel)
        · rw [List.mem_singleton.mp hr]
          exact wfRule_of n2 m1 n2 (by show 0 < 2; decide) (show ∀ g ∈ (["any", "none"] : List Str), isGroupB g = true by decide +kernel)
      · have := states_sub (rs := [⟨z0, ["none"], w0, true, z0⟩, ⟨z2, ["any", "none"], w1, true, z2⟩]) (zs := [z0, z2]) fun r hr => by
          rcases List.mem_cons.mp hr with rfl | hr
          · exact ⟨by simp, by simp⟩
          · rw [List.mem_singleton.mp hr]; exact ⟨by simp, by simp⟩
        exact Nat.le_trans this (by show 2 ≤ 6; decide)
    have hu2 : usedR [⟨z0, ["none"], w0, true, z0⟩, ⟨z2, ["any", "none"], w1, true, z2⟩] z0 "none" = (w0, true, z0) := by
      unfold usedR
      rw [List.find?_cons]
      have : hitR z0 "none" ⟨z0, ["none"], w0, true, z0⟩ = true := by
        unfold hitR; rw [decide_eq_true rfl]; rfl
      rw [this]
    have hu3 : ∀ q ∈ PL, usedR [⟨z0, ["none"], w0, true, z0⟩, ⟨z2, ["any", "none"], w1, true, z2⟩] z0 q = (("pass" : Str), false, z0) := fun q hq => by
      refine used_none_of fun r hr => ?_
      rcases List.mem_cons.mp hr with rfl | hr
      · unfold hitR Rule.fits
        rw [Bool.and_eq_false_iff]; right
        have : ∀ q ∈ PL, fitsG q "none" = false := by decide +kernel
        show (fitsG q "none" || false) = false
        rw [this q hq]; rfl
      · rw [List.mem_singleton.mp hr]
        unfold hitR
        rw [decide_eq_false (fun z => d02 z.symm)]; rfl
    obtain ⟨t1, t2, t3⟩ := never_two (e := e) (by omega) hu2 hu3 rfl xs
    obtain ⟨r2, hr2⟩ : ∃ r, r = runR [⟨z0, ["none"], w0, true, z0⟩, ⟨z2, ["any", "none"], w1, true, z2⟩] e xs := ⟨_, rfl⟩
    rw [← hr2] at t1 t2 t3
    -- the run
    refine ⟨fun σ H' => ∃ (tr2 : Addr) (an : Str), σ = [some (.ref a), some (.ref p), some (.ref nl), some (.ref wl), some (.ref gl), none, some (.ref rl2), some (.int e), some (.ref xl), some (.ref tr2), some (.ref du), none, none] ∧ RunAt K T.a_Run H' tr2 r2 an ∧ Same H12 H', ?_, ?_⟩
    · refine ⟨_, rfl, ?_⟩
      intro lp dx nlp ndx ndl
      have smL : Same H12 (upd (upd H12 dx (.own lp)) lp (.ins T.a_Loop dx [])) := (same_new ndx).trans (same_new (by rw [upd_ne ndl.symm]; exact nlp))
      refine ⟨lp, rl2, dx, .non, _, [], rfl, upd_same, (hR12.same smL).at, hwf2, fun r hr => ?_, ⟨fun q hq => (nomatch hq), Nat.zero_le _⟩, .inl ⟨rfl, rfl⟩, fun H13 bt13 hL13 => ⟨rfl, ?_⟩⟩
      · rcases List.mem_cons.mp hr with rfl | hr
        · show 1 ≤ 100; decide
        · rw [List.mem_singleton.mp hr]; show 2 ≤ 100; decide
      have sm13 : Same H12 H13 := fun c o hc => bt13 _ _ (ne_of_none hc nlp) (smL _ _ hc)
      refine ⟨_, rfl, _, rfl, lp, xl, e, _, _, xs, rfl, hL13, hwf2, .inl (sm13 _ _ (s1112 _ _ hX)), by omega, fun x hx => by have := hxb x hx; omega, ⟨e1, by omega⟩, fun H14 tr2 sm14 ntr hRun => ?_⟩
      rw [← hr2] at hRun
      exact ⟨tr2, _, rfl, hRun, sm13.trans sm14⟩
    rintro σ H13 ⟨tr2, an2, rfl, hT13, s1213⟩
    obtain ⟨dx3, wa2, ka2, ta2, S1, S2, S3, S4⟩ := id hT13
    have s1113 := s1112.trans s1213
    have hX13 := s1113 _ _ hX
    have hW13 := s1113 _ _ hW
    have hN13 := s1113 _ _ hN
    -- due
    refine ⟨fun σ H' => ∃ (du : Addr), σ = [some (.ref a), some (.ref p), some (.ref nl), some (.ref wl), some (.ref gl), none, some (.ref rl2), some (.int e), some (.ref xl), some (.ref tr2), some (.ref du), none, none] ∧ Same H13 H' ∧ H' du = some (.tup (((List.range xs.length).map (fun k => if k = 0 then w0 else ("pass" : Str))).map V.str)), ?_, ?_⟩
    · refine ⟨_, rfl, _, _, rfl, .inl (SqL.of hX13), _, rfl, (by rw [List.length_map]; omega), (by rw [List.length_map]; omega), fun D nD => ?_⟩
      rw [List.length_map, Int.toNat_natCast]
      refine lc_range (lo := 0) (n := xs.length) (fun i H' => Same H13 H' ∧ H' D = some (.lst (((List.range i).map (fun k => if k = 0 then w0 else ("pass" : Str))).map V.str))) ?_ ?_ ?_
      · exact ⟨same_new nD, upd_same⟩
      · rintro i H' hi ⟨sm, hD⟩
        refine ⟨rfl, ?_⟩
        have done : ∀ y : Str, y = (if i = 0 then w0 else ("pass" : Str)) → ∃ acc, H' D = some (.lst acc) ∧ acc.length < sizeLine ∧ Same H13 (upd H' D (.lst (acc ++ [.str y]))) ∧ upd H' D (.lst (acc ++ [.str y])) D = some (.lst (((List.range (i + 1)).map (fun k => if k = 0 then w0 else ("pass" : Str))).map V.str)) := fun y hy => by
          refine ⟨_, hD, sz100k_lt (by rw [List.length_map, List.length_map, List.length_range]; omega), fun c o hc => upd_skip (ne_of_none hc nD) (sm _ _ hc), ?_⟩
          rw [List.range_succ, List.map_append, List.map_append, hy]; exact upd_same
        refine ⟨_, rfl, rfl, _, rfl, ?_⟩
        refine ifD (fun cc => ?_) (fun cc => ?_)
        · have cc : i = 0 := by injection cc with cc; omega
          refine ⟨_, rfl, _, _, _, _, rfl, rfl, SqL.of (sm _ _ hW13), rfl, ?_⟩
          exact done w0 (by rw [if_pos cc])
        · have cc : ¬ i = 0 := fun z => cc (by rw [z]; rfl)
          exact done "pass" (by rw [if_neg cc])
      · rintro H14 ⟨sm, hD⟩
        refine ⟨_, _, rfl, .inl ⟨SqL.of hD, fun du ndu => ?_⟩⟩
        exact ⟨du, rfl, sm.trans (same_new ndu), upd_same⟩
    rintro σ H14 ⟨du2, rfl, s1314, hdu2⟩
    have okw : ∀ z ∈ (List.range xs.length).map (fun k => if k = 0 then w0 else ("pass" : Str)), PyData.strOk z = true := fun z hz => by
      obtain ⟨k, _, rfl⟩ := List.mem_map.mp hz
      show PyData.strOk (if k = 0 then w0 else ("pass" : Str)) = true
      split
      · exact name_ok m0
      · decide +kernel
    rw [t2] at S2
    rw [t3] at S4
    have sh3 : SeqAt.shaped (.list [.tuple (((List.range xs.length).map (fun k => if k = 0 then w0 else ("pass" : Str))).map .str), .tuple ((xs.take 1).map .int), .str z0]) = true :=
      shapedL_of (fine_cons (fine_tup_strs okw) (fine_cons (fine_tup_ints _) (fine_cons (fine_str (name_ok n0)) fun _ h => fine_nil h)))
    have u1 := s1314 _ _ S1
    rw [t1] at u1
    refine ⟨_, rfl, _, _, _, _, _, rfl, u1, T.cl_Run, T.no_Run_words, rfl, _, rfl, _, _, _, _, _, rfl, u1, T.cl_Run, T.no_Run_kept, rfl, _, rfl, _, _, _, _, _, rfl, u1, T.cl_Run, T.no_Run_state, rfl, (by walk_at "len"), fun p23 n23 => ?_⟩
    refine ⟨_, rfl, _, rfl, _, rfl, _, _, rfl, SqL.of (upd_keep (s1314 _ _ hX13) n23), fun p24 n24 => ?_⟩
    rw [show (1 : Int) = ((1 : Nat) : Int) from rfl, cut_to, ← List.map_take]
    refine ⟨_, _, rfl, .inl ⟨SqL.of upd_same, fun p26 n26 => ?_⟩⟩
    refine ⟨_, rfl, _, _, _, _, rfl, rfl, SqL.of (upd_keep (upd_keep (upd_keep (s1314 _ _ hN13) n23) n24) n26), rfl, (by walk_at "len"), fun p25 n25 => ?_⟩
    refine ⟨_, _, .lst (SqL.of (upd_keep (upd_keep (upd_keep upd_same n24) n26) n25)) (.cons (.tup (SqT.of (upd_keep (upd_keep (upd_keep (upd_keep (s1314 _ _ S2) n23) n24) n26) n25)) (dpAll_str _)) (.cons (.tup (SqT.of (upd_keep (upd_keep (upd_keep (upd_keep (s1314 _ _ S4) n23) n24) n26) n25)) (dpAll_int _)) (.cons (.str _) .nil))), .lst (SqL.of upd_same) (.cons (.tup (SqT.of (upd_keep (upd_keep (upd_keep (upd_keep hdu2 n23) n24) n26) n25)) (dpAll_str _)) (.cons (.tup (SqT.of (upd_keep upd_same n25)) (dpAll_int _)) (.cons (.str _) .nil))), sh3, sh3, ?_⟩
    rw [eqv_same sh3]
    exact q _
end
theorem all_mk {l : PySem.W.OpenLaw} {w : World} {K : PySem.W.Frag} {h : Heap} {mg : Str → Option Value} {fa : Addr} (X : K.In h) (G : h.Ns mainGlobals mg) (hfa : mg "law" = some (.ref fa))
    {C_Loop : Addr}
    {C_Run : Addr}
    {od_is_name an_is_name : Option Addr} {sl_is_name : Array (Option Value)} {oc_is_name kV_is_name dc_is_name pm_is_name cd_is_name ct_is_name : Value} {f_is_name : Addr}
    {od_is_number an_is_number : Option Addr} {sl_is_number : Array (Option Value)} {oc_is_number kV_is_number dc_is_number pm_is_number cd_is_number ct_is_number : Value} {f_is_number : Addr}
    {od_check_number an_check_number : Option Addr} {sl_check_number : Array (Option Value)} {oc_check_number kV_check_number dc_check_number pm_check_number cd_check_number ct_check_number : Value} {f_check_number : Addr}
    {od_check_tolerance an_check_tolerance : Option Addr} {sl_check_tolerance : Array (Option Value)} {oc_check_tolerance kV_check_tolerance dc_check_tolerance pm_check_tolerance cd_check_tolerance ct_check_tolerance : Value} {f_check_tolerance : Addr}
    {od_check_row an_check_row : Option Addr} {sl_check_row : Array (Option Value)} {oc_check_row kV_check_row dc_check_row pm_check_row cd_check_row ct_check_row : Value} {f_check_row : Addr}
    {od_sign_of an_sign_of : Option Addr} {sl_sign_of : Array (Option Value)} {oc_sign_of kV_sign_of dc_sign_of pm_sign_of cd_sign_of ct_sign_of : Value} {f_sign_of : Addr}
    {od_place_of an_place_of : Option Addr} {sl_place_of : Array (Option Value)} {oc_place_of kV_place_of dc_place_of pm_place_of cd_place_of ct_place_of : Value} {f_place_of : Addr}
    {od_place an_place : Option Addr} {sl_place : Array (Option Value)} {oc_place kV_place dc_place pm_place cd_place ct_place : Value} {f_place : Addr}
    {od_is_group an_is_group : Option Addr} {sl_is_group : Array (Option Value)} {oc_is_group kV_is_group dc_is_group pm_is_group cd_is_group ct_is_group : Value} {f_is_group : Addr}
    {od_group an_group : Option Addr} {sl_group : Array (Option Value)} {oc_group kV_group dc_group pm_group cd_group ct_group : Value} {f_group : Addr}
    {od_is_rule an_is_rule : Option Addr} {sl_is_rule : Array (Option Value)} {oc_is_rule kV_is_rule dc_is_rule pm_is_rule cd_is_rule ct_is_rule : Value} {f_is_rule : Addr}
    {od_states_of an_states_of : Option Addr} {sl_states_of : Array (Option Value)} {oc_states_of kV_states_of dc_states_of pm_states_of cd_states_of ct_states_of : Value} {f_states_of : Addr}
    {od_invalid_rule an_invalid_rule : Option Addr} {sl_invalid_rule : Array (Option Value)} {oc_invalid_rule kV_invalid_rule dc_invalid_rule pm_invalid_rule cd_invalid_rule ct_invalid_rule : Value} {f_invalid_rule : Addr}
    {od_Loop___init__ an_Loop___init__ : Option Addr} {sl_Loop___init__ : Array (Option Value)} {oc_Loop___init__ kV_Loop___init__ dc_Loop___init__ pm_Loop___init__ cd_Loop___init__ ct_Loop___init__ : Value} {f_Loop___init__ : Addr}
    {dt_Loop___init__ : Addr} {do_Loop___init__ : Obj} {di_Loop___init__ : List Value} {dn_Loop___init__ : Nat}
    {od_Loop_start an_Loop_start : Option Addr} {sl_Loop_start : Array (Option Value)} {oc_Loop_start kV_Loop_start dc_Loop_start pm_Loop_start cd_Loop_start ct_Loop_start : Value} {f_Loop_start : Addr}
    {p_Loop_start : Addr} {r_Loop_start : List Value}
    {od_Loop_answers an_Loop_answers : Option Addr} {sl_Loop_answers : Array (Option Value)} {oc_Loop_answers kV_Loop_answers dc_Loop_answers pm_Loop_answers cd_Loop_answers ct_Loop_answers : Value} {f_Loop_answers : Addr}
    {p_Loop_answers : Addr} {r_Loop_answers : List Value}
    {od_used an_used : Option Addr} {sl_used : Array (Option Value)} {oc_used kV_used dc_used pm_used cd_used ct_used : Value} {f_used : Addr}
    {od_Run___init__ an_Run___init__ : Option Addr} {sl_Run___init__ : Array (Option Value)} {oc_Run___init__ kV_Run___init__ dc_Run___init__ pm_Run___init__ cd_Run___init__ ct_Run___init__ : Value} {f_Run___init__ : Addr}
    {od_Run_last an_Run_last : Option Addr} {sl_Run_last : Array (Option Value)} {oc_Run_last kV_Run_last dc_Run_last pm_Run_last cd_Run_last ct_Run_last : Value} {f_Run_last : Addr}
    {p_Run_last : Addr} {r_Run_last : List Value}
    {od_run an_run : Option Addr} {sl_run : Array (Option Value)} {oc_run kV_run dc_run pm_run cd_run ct_run : Value} {f_run : Addr}
    {od__law_source an__law_source : Option Addr} {sl__law_source : Array (Option Value)} {oc__law_source kV__law_source dc__law_source pm__law_source cd__law_source ct__law_source : Value} {f__law_source : Addr}
    {od__law_draw an__law_draw : Option Addr} {sl__law_draw : Array (Option Value)} {oc__law_draw kV__law_draw dc__law_draw pm__law_draw cd__law_draw ct__law_draw : Value} {f__law_draw : Addr}
    {od__law_subset an__law_subset : Option Addr} {sl__law_subset : Array (Option Value)} {oc__law_subset kV__law_subset dc__law_subset pm__law_subset cd__law_subset ct__law_subset : Value} {f__law_subset : Addr}
    {od__law_name an__law_name : Option Addr} {sl__law_name : Array (Option Value)} {oc__law_name kV__law_name dc__law_name pm__law_name cd__law_name ct__law_name : Value} {f__law_name : Addr}
    {od__law_names an__law_names : Option Addr} {sl__law_names : Array (Option Value)} {oc__law_names kV__law_names dc__law_names pm__law_names cd__law_names ct__law_names : Value} {f__law_names : Addr}
    {od__law_places an__law_places : Option Addr} {sl__law_places : Array (Option Value)} {oc__law_places kV__law_places dc__law_places pm__law_places cd__law_places ct__law_places : Value} {f__law_places : Addr}
    {od__law_group_names an__law_group_names : Option Addr} {sl__law_group_names : Array (Option Value)} {oc__law_group_names kV__law_group_names dc__law_group_names pm__law_group_names cd__law_group_names ct__law_group_names : Value} {f__law_group_names : Addr}
    {od__law_tolerance an__law_tolerance : Option Addr} {sl__law_tolerance : Array (Option Value)} {oc__law_tolerance kV__law_tolerance dc__law_tolerance pm__law_tolerance cd__law_tolerance ct__law_tolerance : Value} {f__law_tolerance : Addr}
    {od__law_row an__law_row : Option Addr} {sl__law_row : Array (Option Value)} {oc__law_row kV__law_row dc__law_row pm__law_row cd__law_row ct__law_row : Value} {f__law_row : Addr}
    {od_law an_law : Option Addr} {sl_law : Array (Option Value)} {oc_law kV_law dc_law pm_law cd_law ct_law : Value} {f_law : Addr}
    {t_BOUND : Tok}
    {t_MOST_NUMBERS : Tok}
    {t_MOST_LETTERS : Tok}
    {a_PLACES : Addr} {o_PLACES : Obj} {i_PLACES : Array Value} {n_PLACES : Nat}
    {a_LONG_GROUPS : Addr} {es_LONG_GROUPS : Array DictEntry} {n_LONG_GROUPS : Nat}
    {a_LONG_GROUPS_any : Addr} {o_LONG_GROUPS_any : Obj} {i_LONG_GROUPS_any : Array Value} {n_LONG_GROUPS_any : Nat}
    {a_LONG_GROUPS_near : Addr} {o_LONG_GROUPS_near : Obj} {i_LONG_GROUPS_near : Array Value} {n_LONG_GROUPS_near : Nat}
    {a_LONG_GROUPS_far : Addr} {o_LONG_GROUPS_far : Obj} {i_LONG_GROUPS_far : Array Value} {n_LONG_GROUPS_far : Nat}
    {a_LONG_GROUPS_less : Addr} {o_LONG_GROUPS_less : Obj} {i_LONG_GROUPS_less : Array Value} {n_LONG_GROUPS_less : Nat}
    {a_LONG_GROUPS_more : Addr} {o_LONG_GROUPS_more : Obj} {i_LONG_GROUPS_more : Array Value} {n_LONG_GROUPS_more : Nat}
    {a_LONG_GROUPS_under : Addr} {o_LONG_GROUPS_under : Obj} {i_LONG_GROUPS_under : Array Value} {n_LONG_GROUPS_under : Nat}
    {a_LONG_GROUPS_over : Addr} {o_LONG_GROUPS_over : Obj} {i_LONG_GROUPS_over : Array Value} {n_LONG_GROUPS_over : Nat}
    {a_LONG_GROUPS_cell : Addr} {o_LONG_GROUPS_cell : Obj} {i_LONG_GROUPS_cell : Array Value} {n_LONG_GROUPS_cell : Nat}
    {a_LONG_GROUPS_none : Addr} {o_LONG_GROUPS_none : Obj} {i_LONG_GROUPS_none : Array Value} {n_LONG_GROUPS_none : Nat}
    {t_MOST_RULES : Tok}
    {t_MOST_STATES : Tok}
    (gc_Loop : PySem.W.nsIn K mainGlobals "Loop" = some (some (.ref C_Loop))) (pg_Loop : PySem.W.plainGet K C_Loop Str.empty = true) (hd_Loop : PySem.W.hasDictIn K C_Loop = true) (po_Loop : PySem.W.plainOver K C_Loop = true) (sa_Loop : PySem.W.findIn K (.ref C_Loop) "__setattr__" = some (some (.builtin "object.__setattr__"))) (mk_Loop : PySem.W.makesIn K C_Loop = true) (kc_Loop : PySem.W.keepIn K (.ref C_Loop) = true)
    (no_Loop_own_rules : PySem.W.findIn K (.ref C_Loop) "own_rules" = some none)
    (no_Loop_own_answers : PySem.W.findIn K (.ref C_Loop) "own_answers" = some none)
    (no_Loop_table : PySem.W.findIn K (.ref C_Loop) "table" = some none)
    (gc_Run : PySem.W.nsIn K mainGlobals "Run" = some (some (.ref C_Run))) (pg_Run : PySem.W.plainGet K C_Run Str.empty = true) (hd_Run : PySem.W.hasDictIn K C_Run = true) (po_Run : PySem.W.plainOver K C_Run = true) (sa_Run : PySem.W.findIn K (.ref C_Run) "__setattr__" = some (some (.builtin "object.__setattr__"))) (mk_Run : PySem.W.makesIn K C_Run = true) (kc_Run : PySem.W.keepIn K (.ref C_Run) = true)
    (no_Run_words : PySem.W.findIn K (.ref C_Run) "words" = some none)
    (no_Run_keeps : PySem.W.findIn K (.ref C_Run) "keeps" = some none)
    (no_Run_kept : PySem.W.findIn K (.ref C_Run) "kept" = some none)
    (no_Run_state : PySem.W.findIn K (.ref C_Run) "state" = some none)
    (no_Run_answer : PySem.W.findIn K (.ref C_Run) "answer" = some none)
    (a_is_name : PySem.W.nsIn K mainGlobals "is_name" = some (some (.ref f_is_name)))
    (l_is_name : K.lookup f_is_name = some ⟨oc_is_name, od_is_name, .func (PySem.W.fnOf "is_name" "is_name" (defArgs s_is_name) (defBody s_is_name) (defScope s_is_name) .none kV_is_name dc_is_name pm_is_name an_is_name cd_is_name ct_is_name), sl_is_name⟩) (c_is_name : PySem.W.codeIn K cd_is_name "is_name" = true) (k_is_name : PySem.W.keepIn K (.ref f_is_name) = true)
    (a_is_number : PySem.W.nsIn K mainGlobals "is_number" = some (some (.ref f_is_number)))
    (l_is_number : K.lookup f_is_number = some ⟨oc_is_number, od_is_number, .func (PySem.W.fnOf "is_number" "is_number" (defArgs s_is_number) (defBody s_is_number) (defScope s_is_number) .none kV_is_number dc_is_number pm_is_number an_is_number cd_is_number ct_is_number), sl_is_number⟩) (c_is_number : PySem.W.codeIn K cd_is_number "is_number" = true) (k_is_number : PySem.W.keepIn K (.ref f_is_number) = true)
    (a_check_number : PySem.W.nsIn K mainGlobals "check_number" = some (some (.ref f_check_number)))
    (l_check_number : K.lookup f_check_number = some ⟨oc_check_number, od_check_number, .func (PySem.W.fnOf "check_number" "check_number" (defArgs s_check_number) (defBody s_check_number) (defScope s_check_number) .none kV_check_number dc_check_number pm_check_number an_check_number cd_check_number ct_check_number), sl_check_number⟩) (c_check_number : PySem.W.codeIn K cd_check_number "check_number" = true) (k_check_number : PySem.W.keepIn K (.ref f_check_number) = true)
    (a_check_tolerance : PySem.W.nsIn K mainGlobals "check_tolerance" = some (some (.ref f_check_tolerance)))
    (l_check_tolerance : K.lookup f_check_tolerance = some ⟨oc_check_tolerance, od_check_tolerance, .func (PySem.W.fnOf "check_tolerance" "check_tolerance" (defArgs s_check_tolerance) (defBody s_check_tolerance) (defScope s_check_tolerance) .none kV_check_tolerance dc_check_tolerance pm_check_tolerance an_check_tolerance cd_check_tolerance ct_check_tolerance), sl_check_tolerance⟩) (c_check_tolerance : PySem.W.codeIn K cd_check_tolerance "check_tolerance" = true) (k_check_tolerance : PySem.W.keepIn K (.ref f_check_tolerance) = true)
    (a_check_row : PySem.W.nsIn K mainGlobals "check_row" = some (some (.ref f_check_row)))
    (l_check_row : K.lookup f_check_row = some ⟨oc_check_row, od_check_row, .func (PySem.W.fnOf "check_row" "check_row" (defArgs s_check_row) (defBody s_check_row) (defScope s_check_row) .none kV_check_row dc_check_row pm_check_row an_check_row cd_check_row ct_check_row), sl_check_row⟩) (c_check_row : PySem.W.codeIn K cd_check_row "check_row" = true) (k_check_row : PySem.W.keepIn K (.ref f_check_row) = true)
    (a_sign_of : PySem.W.nsIn K mainGlobals "sign_of" = some (some (.ref f_sign_of)))
    (l_sign_of : K.lookup f_sign_of = some ⟨oc_sign_of, od_sign_of, .func (PySem.W.fnOf "sign_of" "sign_of" (defArgs s_sign_of) (defBody s_sign_of) (defScope s_sign_of) .none kV_sign_of dc_sign_of pm_sign_of an_sign_of cd_sign_of ct_sign_of), sl_sign_of⟩) (c_sign_of : PySem.W.codeIn K cd_sign_of "sign_of" = true) (k_sign_of : PySem.W.keepIn K (.ref f_sign_of) = true)
    (a_place_of : PySem.W.nsIn K mainGlobals "place_of" = some (some (.ref f_place_of)))
    (l_place_of : K.lookup f_place_of = some ⟨oc_place_of, od_place_of, .func (PySem.W.fnOf "place_of" "place_of" (defArgs s_place_of) (defBody s_place_of) (defScope s_place_of) .none kV_place_of dc_place_of pm_place_of an_place_of cd_place_of ct_place_of), sl_place_of⟩) (c_place_of : PySem.W.codeIn K cd_place_of "place_of" = true) (k_place_of : PySem.W.keepIn K (.ref f_place_of) = true)
    (a_place : PySem.W.nsIn K mainGlobals "place" = some (some (.ref f_place)))
    (l_place : K.lookup f_place = some ⟨oc_place, od_place, .func (PySem.W.fnOf "place" "place" (defArgs s_place) (defBody s_place) (defScope s_place) .none kV_place dc_place pm_place an_place cd_place ct_place), sl_place⟩) (c_place : PySem.W.codeIn K cd_place "place" = true) (k_place : PySem.W.keepIn K (.ref f_place) = true)
    (a_is_group : PySem.W.nsIn K mainGlobals "is_group" = some (some (.ref f_is_group)))
    (l_is_group : K.lookup f_is_group = some ⟨oc_is_group, od_is_group, .func (PySem.W.fnOf "is_group" "is_group" (defArgs s_is_group) (defBody s_is_group) (defScope s_is_group) .none kV_is_group dc_is_group pm_is_group an_is_group cd_is_group ct_is_group), sl_is_group⟩) (c_is_group : PySem.W.codeIn K cd_is_group "is_group" = true) (k_is_group : PySem.W.keepIn K (.ref f_is_group) = true)
    (a_group : PySem.W.nsIn K mainGlobals "group" = some (some (.ref f_group)))
    (l_group : K.lookup f_group = some ⟨oc_group, od_group, .func (PySem.W.fnOf "group" "group" (defArgs s_group) (defBody s_group) (defScope s_group) .none kV_group dc_group pm_group an_group cd_group ct_group), sl_group⟩) (c_group : PySem.W.codeIn K cd_group "group" = true) (k_group : PySem.W.keepIn K (.ref f_group) = true)
    (a_is_rule : PySem.W.nsIn K mainGlobals "is_rule" = some (some (.ref f_is_rule)))
    (l_is_rule : K.lookup f_is_rule = some ⟨oc_is_rule, od_is_rule, .func (PySem.W.fnOf "is_rule" "is_rule" (defArgs s_is_rule) (defBody s_is_rule) (defScope s_is_rule) .none kV_is_rule dc_is_rule pm_is_rule an_is_rule cd_is_rule ct_is_rule), sl_is_rule⟩) (c_is_rule : PySem.W.codeIn K cd_is_rule "is_rule" = true) (k_is_rule : PySem.W.keepIn K (.ref f_is_rule) = true)
    (a_states_of : PySem.W.nsIn K mainGlobals "states_of" = some (some (.ref f_states_of)))
    (l_states_of : K.lookup f_states_of = some ⟨oc_states_of, od_states_of, .func (PySem.W.fnOf "states_of" "states_of" (defArgs s_states_of) (defBody s_states_of) (defScope s_states_of) .none kV_states_of dc_states_of pm_states_of an_states_of cd_states_of ct_states_of), sl_states_of⟩) (c_states_of : PySem.W.codeIn K cd_states_of "states_of" = true) (k_states_of : PySem.W.keepIn K (.ref f_states_of) = true)
    (a_invalid_rule : PySem.W.nsIn K mainGlobals "invalid_rule" = some (some (.ref f_invalid_rule)))
    (l_invalid_rule : K.lookup f_invalid_rule = some ⟨oc_invalid_rule, od_invalid_rule, .func (PySem.W.fnOf "invalid_rule" "invalid_rule" (defArgs s_invalid_rule) (defBody s_invalid_rule) (defScope s_invalid_rule) .none kV_invalid_rule dc_invalid_rule pm_invalid_rule an_invalid_rule cd_invalid_rule ct_invalid_rule), sl_invalid_rule⟩) (c_invalid_rule : PySem.W.codeIn K cd_invalid_rule "invalid_rule" = true) (k_invalid_rule : PySem.W.keepIn K (.ref f_invalid_rule) = true)
    (u_Loop___init__ : K.lookup dt_Loop___init__ = some do_Loop___init__) (ud_Loop___init__ : do_Loop___init__.data = .seq di_Loop___init__.toArray dn_Loop___init__) (uv_Loop___init__ : Vals [.non] di_Loop___init__)
    (a_Loop___init__ : PySem.W.findIn K (.ref C_Loop) "__init__" = some (some (.ref f_Loop___init__))) (i_Loop___init__ : PySem.W.isFn K (.ref f_Loop___init__) = true)
    (l_Loop___init__ : K.lookup f_Loop___init__ = some ⟨oc_Loop___init__, od_Loop___init__, .func (PySem.W.fnOf "__init__" "Loop.__init__" (defArgs s_Loop___init__) (defBody s_Loop___init__) (defScope s_Loop___init__) (.ref dt_Loop___init__) kV_Loop___init__ dc_Loop___init__ pm_Loop___init__ an_Loop___init__ cd_Loop___init__ ct_Loop___init__), sl_Loop___init__⟩) (c_Loop___init__ : PySem.W.codeIn K cd_Loop___init__ "Loop.__init__" = true) (k_Loop___init__ : PySem.W.keepIn K (.ref f_Loop___init__) = true)
    (q1_Loop_start : PySem.W.findIn K (.ref C_Loop) "start" = some (some (.ref p_Loop_start))) (q2_Loop_start : PySem.W.specialIn K (.ref p_Loop_start) "__get__" = some (some (.builtin "property.__get__"))) (q3_Loop_start : PySem.W.takesIn K (.ref p_Loop_start) = some true) (q4_Loop_start : PySem.W.recIn K p_Loop_start "property" = some (.ref f_Loop_start :: r_Loop_start))
    (l_Loop_start : K.lookup f_Loop_start = some ⟨oc_Loop_start, od_Loop_start, .func (PySem.W.fnOf "start" "Loop.start" (defArgs s_Loop_start) (defBody s_Loop_start) (defScope s_Loop_start) .none kV_Loop_start dc_Loop_start pm_Loop_start an_Loop_start cd_Loop_start ct_Loop_start), sl_Loop_start⟩) (c_Loop_start : PySem.W.codeIn K cd_Loop_start "Loop.start" = true) (k_Loop_start : PySem.W.keepIn K (.ref f_Loop_start) = true)
    (q1_Loop_answers : PySem.W.findIn K (.ref C_Loop) "answers" = some (some (.ref p_Loop_answers))) (q2_Loop_answers : PySem.W.specialIn K (.ref p_Loop_answers) "__get__" = some (some (.builtin "property.__get__"))) (q3_Loop_answers : PySem.W.takesIn K (.ref p_Loop_answers) = some true) (q4_Loop_answers : PySem.W.recIn K p_Loop_answers "property" = some (.ref f_Loop_answers :: r_Loop_answers))
    (l_Loop_answers : K.lookup f_Loop_answers = some ⟨oc_Loop_answers, od_Loop_answers, .func (PySem.W.fnOf "answers" "Loop.answers" (defArgs s_Loop_answers) (defBody s_Loop_answers) (defScope s_Loop_answers) .none kV_Loop_answers dc_Loop_answers pm_Loop_answers an_Loop_answers cd_Loop_answers ct_Loop_answers), sl_Loop_answers⟩) (c_Loop_answers : PySem.W.codeIn K cd_Loop_answers "Loop.answers" = true) (k_Loop_answers : PySem.W.keepIn K (.ref f_Loop_answers) = true)
    (a_used : PySem.W.nsIn K mainGlobals "used" = some (some (.ref f_used)))
    (l_used : K.lookup f_used = some ⟨oc_used, od_used, .func (PySem.W.fnOf "used" "used" (defArgs s_used) (defBody s_used) (defScope s_used) .none kV_used dc_used pm_used an_used cd_used ct_used), sl_used⟩) (c_used : PySem.W.codeIn K cd_used "used" = true) (k_used : PySem.W.keepIn K (.ref f_used) = true)
    (a_Run___init__ : PySem.W.findIn K (.ref C_Run) "__init__" = some (some (.ref f_Run___init__))) (i_Run___init__ : PySem.W.isFn K (.ref f_Run___init__) = true)
    (l_Run___init__ : K.lookup f_Run___init__ = some ⟨oc_Run___init__, od_Run___init__, .func (PySem.W.fnOf "__init__" "Run.__init__" (defArgs s_Run___init__) (defBody s_Run___init__) (defScope s_Run___init__) .none kV_Run___init__ dc_Run___init__ pm_Run___init__ an_Run___init__ cd_Run___init__ ct_Run___init__), sl_Run___init__⟩) (c_Run___init__ : PySem.W.codeIn K cd_Run___init__ "Run.__init__" = true) (k_Run___init__ : PySem.W.keepIn K (.ref f_Run___init__) = true)
    (q1_Run_last : PySem.W.findIn K (.ref C_Run) "last" = some (some (.ref p_Run_last))) (q2_Run_last : PySem.W.specialIn K (.ref p_Run_last) "__get__" = some (some (.builtin "property.__get__"))) (q3_Run_last : PySem.W.takesIn K (.ref p_Run_last) = some true) (q4_Run_last : PySem.W.recIn K p_Run_last "property" = some (.ref f_Run_last :: r_Run_last))
    (l_Run_last : K.lookup f_Run_last = some ⟨oc_Run_last, od_Run_last, .func (PySem.W.fnOf "last" "Run.last" (defArgs s_Run_last) (defBody s_Run_last) (defScope s_Run_last) .none kV_Run_last dc_Run_last pm_Run_last an_Run_last cd_Run_last ct_Run_last), sl_Run_last⟩) (c_Run_last : PySem.W.codeIn K cd_Run_last "Run.last" = true) (k_Run_last : PySem.W.keepIn K (.ref f_Run_last) = true)
    (a_run : PySem.W.nsIn K mainGlobals "run" = some (some (.ref f_run)))
    (l_run : K.lookup f_run = some ⟨oc_run, od_run, .func (PySem.W.fnOf "run" "run" (defArgs s_run) (defBody s_run) (defScope s_run) .none kV_run dc_run pm_run an_run cd_run ct_run), sl_run⟩) (c_run : PySem.W.codeIn K cd_run "run" = true) (k_run : PySem.W.keepIn K (.ref f_run) = true)
    (a__law_source : PySem.W.nsIn K mainGlobals "_law_source" = some (some (.ref f__law_source)))
    (l__law_source : K.lookup f__law_source = some ⟨oc__law_source, od__law_source, .func (PySem.W.fnOf "_law_source" "_law_source" (defArgs s__law_source) (defBody s__law_source) (defScope s__law_source) .none kV__law_source dc__law_source pm__law_source an__law_source cd__law_source ct__law_source), sl__law_source⟩) (c__law_source : PySem.W.codeIn K cd__law_source "_law_source" = true) (k__law_source : PySem.W.keepIn K (.ref f__law_source) = true)
    (a__law_draw : PySem.W.nsIn K mainGlobals "_law_draw" = some (some (.ref f__law_draw)))
    (l__law_draw : K.lookup f__law_draw = some ⟨oc__law_draw, od__law_draw, .func (PySem.W.fnOf "_law_draw" "_law_draw" (defArgs s__law_draw) (defBody s__law_draw) (defScope s__law_draw) .none kV__law_draw dc__law_draw pm__law_draw an__law_draw cd__law_draw ct__law_draw), sl__law_draw⟩) (c__law_draw : PySem.W.codeIn K cd__law_draw "_law_draw" = true) (k__law_draw : PySem.W.keepIn K (.ref f__law_draw) = true)
    (a__law_subset : PySem.W.nsIn K mainGlobals "_law_subset" = some (some (.ref f__law_subset)))
    (l__law_subset : K.lookup f__law_subset = some ⟨oc__law_subset, od__law_subset, .func (PySem.W.fnOf "_law_subset" "_law_subset" (defArgs s__law_subset) (defBody s__law_subset) (defScope s__law_subset) .none kV__law_subset dc__law_subset pm__law_subset an__law_subset cd__law_subset ct__law_subset), sl__law_subset⟩) (c__law_subset : PySem.W.codeIn K cd__law_subset "_law_subset" = true) (k__law_subset : PySem.W.keepIn K (.ref f__law_subset) = true)
    (a__law_name : PySem.W.nsIn K mainGlobals "_law_name" = some (some (.ref f__law_name)))
    (l__law_name : K.lookup f__law_name = some ⟨oc__law_name, od__law_name, .func (PySem.W.fnOf "_law_name" "_law_name" (defArgs s__law_name) (defBody s__law_name) (defScope s__law_name) .none kV__law_name dc__law_name pm__law_name an__law_name cd__law_name ct__law_name), sl__law_name⟩) (c__law_name : PySem.W.codeIn K cd__law_name "_law_name" = true) (k__law_name : PySem.W.keepIn K (.ref f__law_name) = true)
    (a__law_names : PySem.W.nsIn K mainGlobals "_law_names" = some (some (.ref f__law_names)))
    (l__law_names : K.lookup f__law_names = some ⟨oc__law_names, od__law_names, .func (PySem.W.fnOf "_law_names" "_law_names" (defArgs s__law_names) (defBody s__law_names) (defScope s__law_names) .none kV__law_names dc__law_names pm__law_names an__law_names cd__law_names ct__law_names), sl__law_names⟩) (c__law_names : PySem.W.codeIn K cd__law_names "_law_names" = true) (k__law_names : PySem.W.keepIn K (.ref f__law_names) = true)
    (a__law_places : PySem.W.nsIn K mainGlobals "_law_places" = some (some (.ref f__law_places)))
    (l__law_places : K.lookup f__law_places = some ⟨oc__law_places, od__law_places, .func (PySem.W.fnOf "_law_places" "_law_places" (defArgs s__law_places) (defBody s__law_places) (defScope s__law_places) .none kV__law_places dc__law_places pm__law_places an__law_places cd__law_places ct__law_places), sl__law_places⟩) (c__law_places : PySem.W.codeIn K cd__law_places "_law_places" = true) (k__law_places : PySem.W.keepIn K (.ref f__law_places) = true)
    (a__law_group_names : PySem.W.nsIn K mainGlobals "_law_group_names" = some (some (.ref f__law_group_names)))
    (l__law_group_names : K.lookup f__law_group_names = some ⟨oc__law_group_names, od__law_group_names, .func (PySem.W.fnOf "_law_group_names" "_law_group_names" (defArgs s__law_group_names) (defBody s__law_group_names) (defScope s__law_group_names) .none kV__law_group_names dc__law_group_names pm__law_group_names an__law_group_names cd__law_group_names ct__law_group_names), sl__law_group_names⟩) (c__law_group_names : PySem.W.codeIn K cd__law_group_names "_law_group_names" = true) (k__law_group_names : PySem.W.keepIn K (.ref f__law_group_names) = true)
    (a__law_tolerance : PySem.W.nsIn K mainGlobals "_law_tolerance" = some (some (.ref f__law_tolerance)))
    (l__law_tolerance : K.lookup f__law_tolerance = some ⟨oc__law_tolerance, od__law_tolerance, .func (PySem.W.fnOf "_law_tolerance" "_law_tolerance" (defArgs s__law_tolerance) (defBody s__law_tolerance) (defScope s__law_tolerance) .none kV__law_tolerance dc__law_tolerance pm__law_tolerance an__law_tolerance cd__law_tolerance ct__law_tolerance), sl__law_tolerance⟩) (c__law_tolerance : PySem.W.codeIn K cd__law_tolerance "_law_tolerance" = true) (k__law_tolerance : PySem.W.keepIn K (.ref f__law_tolerance) = true)
    (a__law_row : PySem.W.nsIn K mainGlobals "_law_row" = some (some (.ref f__law_row)))
    (l__law_row : K.lookup f__law_row = some ⟨oc__law_row, od__law_row, .func (PySem.W.fnOf "_law_row" "_law_row" (defArgs s__law_row) (defBody s__law_row) (defScope s__law_row) .none kV__law_row dc__law_row pm__law_row an__law_row cd__law_row ct__law_row), sl__law_row⟩) (c__law_row : PySem.W.codeIn K cd__law_row "_law_row" = true) (k__law_row : PySem.W.keepIn K (.ref f__law_row) = true)
    (a_law : PySem.W.nsIn K mainGlobals "law" = some (some (.ref f_law)))
    (l_law : K.lookup f_law = some ⟨oc_law, od_law, .func (PySem.W.fnOf "law" "law" (defArgs s_law) (defBody s_law) (defScope s_law) .none kV_law dc_law pm_law an_law cd_law ct_law), sl_law⟩) (c_law : PySem.W.codeIn K cd_law "law" = true) (k_law : PySem.W.keepIn K (.ref f_law) = true)
    (m_len : PySem.W.nsIn K mainGlobals "len" = some none)
    (m_int : PySem.W.nsIn K mainGlobals "int" = some none)
    (m_bool : PySem.W.nsIn K mainGlobals "bool" = some none)
    (m_str : PySem.W.nsIn K mainGlobals "str" = some none)
    (m_list : PySem.W.nsIn K mainGlobals "list" = some none)
    (m_tuple : PySem.W.nsIn K mainGlobals "tuple" = some none)
    (m_dict : PySem.W.nsIn K mainGlobals "dict" = some none)
    (m_range : PySem.W.nsIn K mainGlobals "range" = some none)
    (m_enumerate : PySem.W.nsIn K mainGlobals "enumerate" = some none)
    (m_isinstance : PySem.W.nsIn K mainGlobals "isinstance" = some none)
    (m_min : PySem.W.nsIn K mainGlobals "min" = some none)
    (m_all : PySem.W.nsIn K mainGlobals "all" = some none)
    (m_sorted : PySem.W.nsIn K mainGlobals "sorted" = some none)
    (m_super : PySem.W.nsIn K mainGlobals "super" = some none)
    (m_ValueError : PySem.W.nsIn K mainGlobals "ValueError" = some none)
    (g_BOUND : PySem.W.nsIn K mainGlobals "BOUND" = some (some (.int 1000000000000000000000000000000 t_BOUND)))
    (g_MOST_NUMBERS : PySem.W.nsIn K mainGlobals "MOST_NUMBERS" = some (some (.int 1000 t_MOST_NUMBERS)))
    (g_MOST_LETTERS : PySem.W.nsIn K mainGlobals "MOST_LETTERS" = some (some (.int 8 t_MOST_LETTERS)))
    (g_PLACES : PySem.W.nsIn K mainGlobals "PLACES" = some (some (.ref a_PLACES))) (l_PLACES : K.lookup a_PLACES = some o_PLACES) (c_PLACES : o_PLACES.cls = .type "tuple") (e_PLACES : o_PLACES.dict = none) (d_PLACES : o_PLACES.data = .seq i_PLACES n_PLACES) (z_PLACES : i_PLACES.size ≤ sizeLine) (v_PLACES : Vals [.str "below", .str "-<", .str "-=", .str "->", .str "<", .str "=", .str ">", .str "+<", .str "+=", .str "+>", .str "above"] i_PLACES.toList)
    (g_LONG_GROUPS : PySem.W.nsIn K mainGlobals "LONG_GROUPS" = some (some (.ref a_LONG_GROUPS))) (l_LONG_GROUPS : K.lookup a_LONG_GROUPS = some ⟨.type "dict", none, .dict es_LONG_GROUPS n_LONG_GROUPS, #[]⟩) (y_LONG_GROUPS : (a_LONG_GROUPS == sysModules) = false)
    (x_LONG_GROUPS : NL.KPairs w.params [("any", .ref a_LONG_GROUPS_any), ("near", .ref a_LONG_GROUPS_near), ("far", .ref a_LONG_GROUPS_far), ("less", .ref a_LONG_GROUPS_less), ("more", .ref a_LONG_GROUPS_more), ("under", .ref a_LONG_GROUPS_under), ("over", .ref a_LONG_GROUPS_over), ("cell", .ref a_LONG_GROUPS_cell), ("none", .ref a_LONG_GROUPS_none)] es_LONG_GROUPS.toList)
    (l_LONG_GROUPS_any : K.lookup a_LONG_GROUPS_any = some o_LONG_GROUPS_any) (c_LONG_GROUPS_any : o_LONG_GROUPS_any.cls = .type "tuple") (e_LONG_GROUPS_any : o_LONG_GROUPS_any.dict = none) (d_LONG_GROUPS_any : o_LONG_GROUPS_any.data = .seq i_LONG_GROUPS_any n_LONG_GROUPS_any) (z_LONG_GROUPS_any : i_LONG_GROUPS_any.size ≤ sizeLine) (v_LONG_GROUPS_any : Vals [.str "below", .str "-<", .str "-=", .str "->", .str "<", .str "=", .str ">", .str "+<", .str "+=", .str "+>", .str "above"] i_LONG_GROUPS_any.toList)
    (l_LONG_GROUPS_near : K.lookup a_LONG_GROUPS_near = some o_LONG_GROUPS_near) (c_LONG_GROUPS_near : o_LONG_GROUPS_near.cls = .type "tuple") (e_LONG_GROUPS_near : o_LONG_GROUPS_near.dict = none) (d_LONG_GROUPS_near : o_LONG_GROUPS_near.data = .seq i_LONG_GROUPS_near n_LONG_GROUPS_near) (z_LONG_GROUPS_near : i_LONG_GROUPS_near.size ≤ sizeLine) (v_LONG_GROUPS_near : Vals [.str "-=", .str "->", .str "<", .str "=", .str ">", .str "+<", .str "+="] i_LONG_GROUPS_near.toList)
    (l_LONG_GROUPS_far : K.lookup a_LONG_GROUPS_far = some o_LONG_GROUPS_far) (c_LONG_GROUPS_far : o_LONG_GROUPS_far.cls = .type "tuple") (e_LONG_GROUPS_far : o_LONG_GROUPS_far.dict = none) (d_LONG_GROUPS_far : o_LONG_GROUPS_far.data = .seq i_LONG_GROUPS_far n_LONG_GROUPS_far) (z_LONG_GROUPS_far : i_LONG_GROUPS_far.size ≤ sizeLine) (v_LONG_GROUPS_far : Vals [.str "below", .str "-<", .str "+>", .str "above"] i_LONG_GROUPS_far.toList)
    (l_LONG_GROUPS_less : K.lookup a_LONG_GROUPS_less = some o_LONG_GROUPS_less) (c_LONG_GROUPS_less : o_LONG_GROUPS_less.cls = .type "tuple") (e_LONG_GROUPS_less : o_LONG_GROUPS_less.dict = none) (d_LONG_GROUPS_less : o_LONG_GROUPS_less.data = .seq i_LONG_GROUPS_less n_LONG_GROUPS_less) (z_LONG_GROUPS_less : i_LONG_GROUPS_less.size ≤ sizeLine) (v_LONG_GROUPS_less : Vals [.str "below", .str "-<", .str "-=", .str "->", .str "<"] i_LONG_GROUPS_less.toList)
    (l_LONG_GROUPS_more : K.lookup a_LONG_GROUPS_more = some o_LONG_GROUPS_more) (c_LONG_GROUPS_more : o_LONG_GROUPS_more.cls = .type "tuple") (e_LONG_GROUPS_more : o_LONG_GROUPS_more.dict = none) (d_LONG_GROUPS_more : o_LONG_GROUPS_more.data = .seq i_LONG_GROUPS_more n_LONG_GROUPS_more) (z_LONG_GROUPS_more : i_LONG_GROUPS_more.size ≤ sizeLine) (v_LONG_GROUPS_more : Vals [.str ">", .str "+<", .str "+=", .str "+>", .str "above"] i_LONG_GROUPS_more.toList)
    (l_LONG_GROUPS_under : K.lookup a_LONG_GROUPS_under = some o_LONG_GROUPS_under) (c_LONG_GROUPS_under : o_LONG_GROUPS_under.cls = .type "tuple") (e_LONG_GROUPS_under : o_LONG_GROUPS_under.dict = none) (d_LONG_GROUPS_under : o_LONG_GROUPS_under.data = .seq i_LONG_GROUPS_under n_LONG_GROUPS_under) (z_LONG_GROUPS_under : i_LONG_GROUPS_under.size ≤ sizeLine) (v_LONG_GROUPS_under : Vals [.str "below", .str "-<"] i_LONG_GROUPS_under.toList)
    (l_LONG_GROUPS_over : K.lookup a_LONG_GROUPS_over = some o_LONG_GROUPS_over) (c_LONG_GROUPS_over : o_LONG_GROUPS_over.cls = .type "tuple") (e_LONG_GROUPS_over : o_LONG_GROUPS_over.dict = none) (d_LONG_GROUPS_over : o_LONG_GROUPS_over.data = .seq i_LONG_GROUPS_over n_LONG_GROUPS_over) (z_LONG_GROUPS_over : i_LONG_GROUPS_over.size ≤ sizeLine) (v_LONG_GROUPS_over : Vals [.str "+>", .str "above"] i_LONG_GROUPS_over.toList)
    (l_LONG_GROUPS_cell : K.lookup a_LONG_GROUPS_cell = some o_LONG_GROUPS_cell) (c_LONG_GROUPS_cell : o_LONG_GROUPS_cell.cls = .type "tuple") (e_LONG_GROUPS_cell : o_LONG_GROUPS_cell.dict = none) (d_LONG_GROUPS_cell : o_LONG_GROUPS_cell.data = .seq i_LONG_GROUPS_cell n_LONG_GROUPS_cell) (z_LONG_GROUPS_cell : i_LONG_GROUPS_cell.size ≤ sizeLine) (v_LONG_GROUPS_cell : Vals [.str "<", .str "=", .str ">"] i_LONG_GROUPS_cell.toList)
    (l_LONG_GROUPS_none : K.lookup a_LONG_GROUPS_none = some o_LONG_GROUPS_none) (c_LONG_GROUPS_none : o_LONG_GROUPS_none.cls = .type "tuple") (e_LONG_GROUPS_none : o_LONG_GROUPS_none.dict = none) (d_LONG_GROUPS_none : o_LONG_GROUPS_none.data = .seq i_LONG_GROUPS_none n_LONG_GROUPS_none) (z_LONG_GROUPS_none : i_LONG_GROUPS_none.size ≤ sizeLine) (v_LONG_GROUPS_none : Vals [] i_LONG_GROUPS_none.toList)
    (g_MOST_RULES : PySem.W.nsIn K mainGlobals "MOST_RULES" = some (some (.int 40 t_MOST_RULES)))
    (g_MOST_STATES : PySem.W.nsIn K mainGlobals "MOST_STATES" = some (some (.int 6 t_MOST_STATES))) :
    ∃ fd : FuncData, (∀ (s : Shared) (v : Value), BindsTo s fd ⟨[v], []⟩ [("_law_script", v)]) ∧ ∀ base : Heap, K.In base → base.Ns mainGlobals mg → FnOk l.prog w K mg base CX0 6 fa fd ["_law_script"] (sp_law K) := by
  have e := hfa.symm.trans (PySem.W.mg_of X G a_law)
  cases e
  have F_is_name := fun_mk (st := s_is_name) l_is_name c_is_name k_is_name
  have b_is_name := F_is_name.binds (ps := ["value"]) fun _ _ _ _ _ _ us hl => match us, hl with | [_], _ => rfl
  have F_is_number := fun_mk (st := s_is_number) l_is_number c_is_number k_is_number
  have b_is_number := F_is_number.binds (ps := ["value"]) fun _ _ _ _ _ _ us hl => match us, hl with | [_], _ => rfl
  have F_check_number := fun_mk (st := s_check_number) l_check_number c_check_number k_check_number
  have b_check_number := F_check_number.binds (ps := ["value"]) fun _ _ _ _ _ _ us hl => match us, hl with | [_], _ => rfl
  have F_check_tolerance := fun_mk (st := s_check_tolerance) l_check_tolerance c_check_tolerance k_check_tolerance
  have b_check_tolerance := F_check_tolerance.binds (ps := ["value"]) fun _ _ _ _ _ _ us hl => match us, hl with | [_], _ => rfl
  have F_check_row := fun_mk (st := s_check_row) l_check_row c_check_row k_check_row
  have b_check_row := F_check_row.binds (ps := ["row"]) fun _ _ _ _ _ _ us hl => match us, hl with | [_], _ => rfl
  have F_sign_of := fun_mk (st := s_sign_of) l_sign_of c_sign_of k_sign_of
  have b_sign_of := F_sign_of.binds (ps := ["first", "second"]) fun _ _ _ _ _ _ us hl => match us, hl with | [_, _], _ => rfl
  have F_place_of := fun_mk (st := s_place_of) l_place_of c_place_of k_place_of
  have b_place_of := F_place_of.binds (ps := ["step", "sign"]) fun _ _ _ _ _ _ us hl => match us, hl with | [_, _], _ => rfl
  have F_place := fun_mk (st := s_place) l_place c_place k_place
  have b_place := F_place.binds (ps := ["x", "kept", "tolerance"]) fun _ _ _ _ _ _ us hl => match us, hl with | [_, _, _], _ => rfl
  have F_is_group := fun_mk (st := s_is_group) l_is_group c_is_group k_is_group
  have b_is_group := F_is_group.binds (ps := ["name"]) fun _ _ _ _ _ _ us hl => match us, hl with | [_], _ => rfl
  have F_group := fun_mk (st := s_group) l_group c_group k_group
  have b_group := F_group.binds (ps := ["name"]) fun _ _ _ _ _ _ us hl => match us, hl with | [_], _ => rfl
  have F_is_rule := fun_mk (st := s_is_rule) l_is_rule c_is_rule k_is_rule
  have b_is_rule := F_is_rule.binds (ps := ["rule"]) fun _ _ _ _ _ _ us hl => match us, hl with | [_], _ => rfl
  have F_states_of := fun_mk (st := s_states_of) l_states_of c_states_of k_states_of
  have b_states_of := F_states_of.binds (ps := ["rules"]) fun _ _ _ _ _ _ us hl => match us, hl with | [_], _ => rfl
  have F_invalid_rule := fun_mk (st := s_invalid_rule) l_invalid_rule c_invalid_rule k_invalid_rule
  have b_invalid_rule := F_invalid_rule.binds (ps := ["rules"]) fun _ _ _ _ _ _ us hl => match us, hl with | [_], _ => rfl
  have F_Loop___init__ : FunD K "__init__" "Loop.__init__" (defArgs s_Loop___init__) (defBody s_Loop___init__) (defScope s_Loop___init__) [.non] [] f_Loop___init__ _ := ⟨⟨_, _, _, _, _, _, _, _, _, _, rfl, l_Loop___init__, c_Loop___init__, .inr ⟨fun z => (nomatch z), _, _, _, _, rfl, u_Loop___init__, ud_Loop___init__, uv_Loop___init__⟩, .inl rfl⟩, k_Loop___init__⟩
  have b0_Loop___init__ := F_Loop___init__.binds1 (ps := ["self", "rules", "answers"]) 2 0 (fun z => nomatch z) (by decide) fun _ _ _ _ _ _ _ us its hu hi => match us, its, hu, hi with | [_, _], [_], _, _ => ⟨_, rfl, rfl⟩
  have b1_Loop___init__ := F_Loop___init__.binds1 (ps := ["self", "rules", "answers"]) 3 1 (fun z => nomatch z) (by decide) fun _ _ _ _ _ _ _ us its hu hi => match us, its, hu, hi with | [_, _, _], [_], _, _ => ⟨_, rfl, rfl⟩
  have b_Loop___init__ : Binds K (PySem.W.fnOf "__init__" "Loop.__init__" (defArgs s_Loop___init__) (defBody s_Loop___init__) (defScope s_Loop___init__) (.ref dt_Loop___init__) kV_Loop___init__ dc_Loop___init__ pm_Loop___init__ an_Loop___init__ cd_Loop___init__ ct_Loop___init__) ["self", "rules", "answers"] [] := by obtain ⟨ds, hv, hb⟩ := b1_Loop___init__; cases hv; exact hb
  have F_Loop_start := fun_mk (st := s_Loop_start) l_Loop_start c_Loop_start k_Loop_start
  have b_Loop_start := F_Loop_start.binds (ps := ["self"]) fun _ _ _ _ _ _ us hl => match us, hl with | [_], _ => rfl
  have F_Loop_answers := fun_mk (st := s_Loop_answers) l_Loop_answers c_Loop_answers k_Loop_answers
  have b_Loop_answers := F_Loop_answers.binds (ps := ["self"]) fun _ _ _ _ _ _ us hl => match us, hl with | [_], _ => rfl
  have F_used := fun_mk (st := s_used) l_used c_used k_used
  have b_used := F_used.binds (ps := ["loop", "state", "place"]) fun _ _ _ _ _ _ us hl => match us, hl with | [_, _, _], _ => rfl
  have F_Run___init__ := fun_mk (st := s_Run___init__) l_Run___init__ c_Run___init__ k_Run___init__
  have b_Run___init__ := F_Run___init__.binds (ps := ["self", "words", "keeps", "kept", "state", "answer"]) fun _ _ _ _ _ _ us hl => match us, hl with | [_, _, _, _, _, _], _ => rfl
  have F_Run_last := fun_mk (st := s_Run_last) l_Run_last c_Run_last k_Run_last
  have b_Run_last := F_Run_last.binds (ps := ["self"]) fun _ _ _ _ _ _ us hl => match us, hl with | [_], _ => rfl
  have F_run := fun_mk (st := s_run) l_run c_run k_run
  have b_run := F_run.binds (ps := ["loop", "row", "tolerance"]) fun _ _ _ _ _ _ us hl => match us, hl with | [_, _, _], _ => rfl
  have F__law_source := fun_mk (st := s__law_source) l__law_source c__law_source k__law_source
  have b__law_source := F__law_source.binds (ps := ["_law_script"]) fun _ _ _ _ _ _ us hl => match us, hl with | [_], _ => rfl
  have F__law_draw := fun_mk (st := s__law_draw) l__law_draw c__law_draw k__law_draw
  have b__law_draw := F__law_draw.binds (ps := ["_law_source_here", "_law_many"]) fun _ _ _ _ _ _ us hl => match us, hl with | [_, _], _ => rfl
  have F__law_subset := fun_mk (st := s__law_subset) l__law_subset c__law_subset k__law_subset
  have b__law_subset := F__law_subset.binds (ps := ["_law_source_here", "_law_row_here"]) fun _ _ _ _ _ _ us hl => match us, hl with | [_, _], _ => rfl
  have F__law_name := fun_mk (st := s__law_name) l__law_name c__law_name k__law_name
  have b__law_name := F__law_name.binds (ps := ["_law_source_here", "_law_taken"]) fun _ _ _ _ _ _ us hl => match us, hl with | [_, _], _ => rfl
  have F__law_names := fun_mk (st := s__law_names) l__law_names c__law_names k__law_names
  have b__law_names := F__law_names.binds (ps := ["_law_source_here", "_law_many"]) fun _ _ _ _ _ _ us hl => match us, hl with | [_, _], _ => rfl
  have F__law_places := fun_mk (st := s__law_places) l__law_places c__law_places k__law_places
  have b__law_places := F__law_places.binds (ps := []) fun _ _ _ _ _ _ us hl => match us, hl with | [], _ => rfl
  have F__law_group_names := fun_mk (st := s__law_group_names) l__law_group_names c__law_group_names k__law_group_names
  have b__law_group_names := F__law_group_names.binds (ps := []) fun _ _ _ _ _ _ us hl => match us, hl with | [], _ => rfl
  have F__law_tolerance := fun_mk (st := s__law_tolerance) l__law_tolerance c__law_tolerance k__law_tolerance
  have b__law_tolerance := F__law_tolerance.binds (ps := ["_law_source_here"]) fun _ _ _ _ _ _ us hl => match us, hl with | [_], _ => rfl
  have F__law_row := fun_mk (st := s__law_row) l__law_row c__law_row k__law_row
  have b__law_row := F__law_row.binds (ps := ["_law_source_here", "_law_most", "_law_tolerance_here"]) fun _ _ _ _ _ _ us hl => match us, hl with | [_, _, _], _ => rfl
  have F_law := fun_mk (st := s_law) l_law c_law k_law
  have b_law := F_law.binds (ps := ["_law_script"]) fun _ _ _ _ _ _ us hl => match us, hl with | [_], _ => rfl
  exact ⟨PySem.W.fnOf "law" "law" (defArgs s_law) (defBody s_law) (defScope s_law) .none kV_law dc_law pm_law an_law cd_law ct_law, fun s v => .of_eq rfl, fun base _ _ => ok_law { a_Loop := C_Loop, g_Loop := PySem.W.mg_of X G gc_Loop, cl_Loop := ⟨pg_Loop, hd_Loop, po_Loop, sa_Loop⟩, no_Loop_own_rules := no_Loop_own_rules, no_Loop_own_answers := no_Loop_own_answers, no_Loop_table := no_Loop_table, a_Run := C_Run, g_Run := PySem.W.mg_of X G gc_Run, cl_Run := ⟨pg_Run, hd_Run, po_Run, sa_Run⟩, no_Run_words := no_Run_words, no_Run_keeps := no_Run_keeps, no_Run_kept := no_Run_kept, no_Run_state := no_Run_state, no_Run_answer := no_Run_answer, a_is_name := f_is_name, fd_is_name := _, F_is_name := F_is_name, b_is_name := b_is_name, g_is_name := PySem.W.mg_of X G a_is_name, a_is_number := f_is_number, fd_is_number := _, F_is_number := F_is_number, b_is_number := b_is_number, g_is_number := PySem.W.mg_of X G a_is_number, a_check_number := f_check_number, fd_check_number := _, F_check_number := F_check_number, b_check_number := b_check_number, g_check_number := PySem.W.mg_of X G a_check_number, a_check_tolerance := f_check_tolerance, fd_check_tolerance := _, F_check_tolerance := F_check_tolerance, b_check_tolerance := b_check_tolerance, g_check_tolerance := PySem.W.mg_of X G a_check_tolerance, a_check_row := f_check_row, fd_check_row := _, F_check_row := F_check_row, b_check_row := b_check_row, g_check_row := PySem.W.mg_of X G a_check_row, a_sign_of := f_sign_of, fd_sign_of := _, F_sign_of := F_sign_of, b_sign_of := b_sign_of, g_sign_of := PySem.W.mg_of X G a_sign_of, a_place_of := f_place_of, fd_place_of := _, F_place_of := F_place_of, b_place_of := b_place_of, g_place_of := PySem.W.mg_of X G a_place_of, a_place := f_place, fd_place := _, F_place := F_place, b_place := b_place, g_place := PySem.W.mg_of X G a_place, a_is_group := f_is_group, fd_is_group := _, F_is_group := F_is_group, b_is_group := b_is_group, g_is_group := PySem.W.mg_of X G a_is_group, a_group := f_group, fd_group := _, F_group := F_group, b_group := b_group, g_group := PySem.W.mg_of X G a_group, a_is_rule := f_is_rule, fd_is_rule := _, F_is_rule := F_is_rule, b_is_rule := b_is_rule, g_is_rule := PySem.W.mg_of X G a_is_rule, a_states_of := f_states_of, fd_states_of := _, F_states_of := F_states_of, b_states_of := b_states_of, g_states_of := PySem.W.mg_of X G a_states_of, a_invalid_rule := f_invalid_rule, fd_invalid_rule := _, F_invalid_rule := F_invalid_rule, b_invalid_rule := b_invalid_rule, g_invalid_rule := PySem.W.mg_of X G a_invalid_rule, a_Loop___init__ := f_Loop___init__, fd_Loop___init__ := _, F_Loop___init__ := F_Loop___init__, b_Loop___init__ := b_Loop___init__, b0_Loop___init__ := b0_Loop___init__, mk_Loop := ⟨mk_Loop, a_Loop___init__, i_Loop___init__, kc_Loop⟩, a_Loop_start := f_Loop_start, fd_Loop_start := _, F_Loop_start := F_Loop_start, b_Loop_start := b_Loop_start, pp_Loop_start := p_Loop_start, pr_Loop_start := ⟨q1_Loop_start, q2_Loop_start, q3_Loop_start, _, q4_Loop_start⟩, a_Loop_answers := f_Loop_answers, fd_Loop_answers := _, F_Loop_answers := F_Loop_answers, b_Loop_answers := b_Loop_answers, pp_Loop_answers := p_Loop_answers, pr_Loop_answers := ⟨q1_Loop_answers, q2_Loop_answers, q3_Loop_answers, _, q4_Loop_answers⟩, a_used := f_used, fd_used := _, F_used := F_used, b_used := b_used, g_used := PySem.W.mg_of X G a_used, a_Run___init__ := f_Run___init__, fd_Run___init__ := _, F_Run___init__ := F_Run___init__, b_Run___init__ := b_Run___init__, mk_Run := ⟨mk_Run, a_Run___init__, i_Run___init__, kc_Run⟩, a_Run_last := f_Run_last, fd_Run_last := _, F_Run_last := F_Run_last, b_Run_last := b_Run_last, pp_Run_last := p_Run_last, pr_Run_last := ⟨q1_Run_last, q2_Run_last, q3_Run_last, _, q4_Run_last⟩, a_run := f_run, fd_run := _, F_run := F_run, b_run := b_run, g_run := PySem.W.mg_of X G a_run, a__law_source := f__law_source, fd__law_source := _, F__law_source := F__law_source, b__law_source := b__law_source, g__law_source := PySem.W.mg_of X G a__law_source, a__law_draw := f__law_draw, fd__law_draw := _, F__law_draw := F__law_draw, b__law_draw := b__law_draw, g__law_draw := PySem.W.mg_of X G a__law_draw, a__law_subset := f__law_subset, fd__law_subset := _, F__law_subset := F__law_subset, b__law_subset := b__law_subset, g__law_subset := PySem.W.mg_of X G a__law_subset, a__law_name := f__law_name, fd__law_name := _, F__law_name := F__law_name, b__law_name := b__law_name, g__law_name := PySem.W.mg_of X G a__law_name, a__law_names := f__law_names, fd__law_names := _, F__law_names := F__law_names, b__law_names := b__law_names, g__law_names := PySem.W.mg_of X G a__law_names, a__law_places := f__law_places, fd__law_places := _, F__law_places := F__law_places, b__law_places := b__law_places, g__law_places := PySem.W.mg_of X G a__law_places, a__law_group_names := f__law_group_names, fd__law_group_names := _, F__law_group_names := F__law_group_names, b__law_group_names := b__law_group_names, g__law_group_names := PySem.W.mg_of X G a__law_group_names, a__law_tolerance := f__law_tolerance, fd__law_tolerance := _, F__law_tolerance := F__law_tolerance, b__law_tolerance := b__law_tolerance, g__law_tolerance := PySem.W.mg_of X G a__law_tolerance, a__law_row := f__law_row, fd__law_row := _, F__law_row := F__law_row, b__law_row := b__law_row, g__law_row := PySem.W.mg_of X G a__law_row, a_law := fa, fd_law := _, F_law := F_law, b_law := b_law, g_law := PySem.W.mg_of X G a_law, m_len := PySem.W.mg_none_of X G m_len, m_int := PySem.W.mg_none_of X G m_int, m_bool := PySem.W.mg_none_of X G m_bool, m_str := PySem.W.mg_none_of X G m_str, m_list := PySem.W.mg_none_of X G m_list, m_tuple := PySem.W.mg_none_of X G m_tuple, m_dict := PySem.W.mg_none_of X G m_dict, m_range := PySem.W.mg_none_of X G m_range, m_enumerate := PySem.W.mg_none_of X G m_enumerate, m_isinstance := PySem.W.mg_none_of X G m_isinstance, m_min := PySem.W.mg_none_of X G m_min, m_all := PySem.W.mg_none_of X G m_all, m_sorted := PySem.W.mg_none_of X G m_sorted, m_super := PySem.W.mg_none_of X G m_super, m_ValueError := PySem.W.mg_none_of X G m_ValueError, t_BOUND := t_BOUND, g_BOUND := PySem.W.mg_of X G g_BOUND, t_MOST_NUMBERS := t_MOST_NUMBERS, g_MOST_NUMBERS := PySem.W.mg_of X G g_MOST_NUMBERS, t_MOST_LETTERS := t_MOST_LETTERS, g_MOST_LETTERS := PySem.W.mg_of X G g_MOST_LETTERS, a_PLACES := a_PLACES, g_PLACES := PySem.W.mg_of X G g_PLACES, k_PLACES := ⟨o_PLACES, l_PLACES, c_PLACES, e_PLACES⟩, p_PLACES := fun H => .inr ⟨o_PLACES, i_PLACES, n_PLACES, l_PLACES, c_PLACES, d_PLACES, z_PLACES, v_PLACES⟩, t_MOST_RULES := t_MOST_RULES, g_MOST_RULES := PySem.W.mg_of X G g_MOST_RULES, t_MOST_STATES := t_MOST_STATES, g_MOST_STATES := PySem.W.mg_of X G g_MOST_STATES, a_LONG_GROUPS := a_LONG_GROUPS, g_LONG_GROUPS := PySem.W.mg_of X G g_LONG_GROUPS, d_LONG_GROUPS := ⟨_, _, l_LONG_GROUPS, y_LONG_GROUPS, x_LONG_GROUPS⟩, a_LONG_GROUPS_any := a_LONG_GROUPS_any, k_LONG_GROUPS_any := ⟨o_LONG_GROUPS_any, l_LONG_GROUPS_any, c_LONG_GROUPS_any, e_LONG_GROUPS_any⟩, p_LONG_GROUPS_any := fun H => .inr ⟨o_LONG_GROUPS_any, i_LONG_GROUPS_any, n_LONG_GROUPS_any, l_LONG_GROUPS_any, c_LONG_GROUPS_any, d_LONG_GROUPS_any, z_LONG_GROUPS_any, v_LONG_GROUPS_any⟩, a_LONG_GROUPS_near := a_LONG_GROUPS_near, k_LONG_GROUPS_near := ⟨o_LONG_GROUPS_near, l_LONG_GROUPS_near, c_LONG_GROUPS_near, e_LONG_GROUPS_near⟩, p_LONG_GROUPS_near := fun H => .inr ⟨o_LONG_GROUPS_near, i_LONG_GROUPS_near, n_LONG_GROUPS_near, l_LONG_GROUPS_near, c_LONG_GROUPS_near, d_LONG_GROUPS_near, z_LONG_GROUPS_near, v_LONG_GROUPS_near⟩, a_LONG_GROUPS_far := a_LONG_GROUPS_far, k_LONG_GROUPS_far := ⟨o_LONG_GROUPS_far, l_LONG_GROUPS_far, c_LONG_GROUPS_far, e_LONG_GROUPS_far⟩, p_LONG_GROUPS_far := fun H => .inr ⟨o_LONG_GROUPS_far, i_LONG_GROUPS_far, n_LONG_GROUPS_far, l_LONG_GROUPS_far, c_LONG_GROUPS_far, d_LONG_GROUPS_far, z_LONG_GROUPS_far, v_LONG_GROUPS_far⟩, a_LONG_GROUPS_less := a_LONG_GROUPS_less, k_LONG_GROUPS_less := ⟨o_LONG_GROUPS_less, l_LONG_GROUPS_less, c_LONG_GROUPS_less, e_LONG_GROUPS_less⟩, p_LONG_GROUPS_less := fun H => .inr ⟨o_LONG_GROUPS_less, i_LONG_GROUPS_less, n_LONG_GROUPS_less, l_LONG_GROUPS_less, c_LONG_GROUPS_less, d_LONG_GROUPS_less, z_LONG_GROUPS_less, v_LONG_GROUPS_less⟩, a_LONG_GROUPS_more := a_LONG_GROUPS_more, k_LONG_GROUPS_more := ⟨o_LONG_GROUPS_more, l_LONG_GROUPS_more, c_LONG_GROUPS_more, e_LONG_GROUPS_more⟩, p_LONG_GROUPS_more := fun H => .inr ⟨o_LONG_GROUPS_more, i_LONG_GROUPS_more, n_LONG_GROUPS_more, l_LONG_GROUPS_more, c_LONG_GROUPS_more, d_LONG_GROUPS_more, z_LONG_GROUPS_more, v_LONG_GROUPS_more⟩, a_LONG_GROUPS_under := a_LONG_GROUPS_under, k_LONG_GROUPS_under := ⟨o_LONG_GROUPS_under, l_LONG_GROUPS_under, c_LONG_GROUPS_under, e_LONG_GROUPS_under⟩, p_LONG_GROUPS_under := fun H => .inr ⟨o_LONG_GROUPS_under, i_LONG_GROUPS_under, n_LONG_GROUPS_under, l_LONG_GROUPS_under, c_LONG_GROUPS_under, d_LONG_GROUPS_under, z_LONG_GROUPS_under, v_LONG_GROUPS_under⟩, a_LONG_GROUPS_over := a_LONG_GROUPS_over, k_LONG_GROUPS_over := ⟨o_LONG_GROUPS_over, l_LONG_GROUPS_over, c_LONG_GROUPS_over, e_LONG_GROUPS_over⟩, p_LONG_GROUPS_over := fun H => .inr ⟨o_LONG_GROUPS_over, i_LONG_GROUPS_over, n_LONG_GROUPS_over, l_LONG_GROUPS_over, c_LONG_GROUPS_over, d_LONG_GROUPS_over, z_LONG_GROUPS_over, v_LONG_GROUPS_over⟩, a_LONG_GROUPS_cell := a_LONG_GROUPS_cell, k_LONG_GROUPS_cell := ⟨o_LONG_GROUPS_cell, l_LONG_GROUPS_cell, c_LONG_GROUPS_cell, e_LONG_GROUPS_cell⟩, p_LONG_GROUPS_cell := fun H => .inr ⟨o_LONG_GROUPS_cell, i_LONG_GROUPS_cell, n_LONG_GROUPS_cell, l_LONG_GROUPS_cell, c_LONG_GROUPS_cell, d_LONG_GROUPS_cell, z_LONG_GROUPS_cell, v_LONG_GROUPS_cell⟩, a_LONG_GROUPS_none := a_LONG_GROUPS_none, k_LONG_GROUPS_none := ⟨o_LONG_GROUPS_none, l_LONG_GROUPS_none, c_LONG_GROUPS_none, e_LONG_GROUPS_none⟩, p_LONG_GROUPS_none := fun H => .inr ⟨o_LONG_GROUPS_none, i_LONG_GROUPS_none, n_LONG_GROUPS_none, l_LONG_GROUPS_none, c_LONG_GROUPS_none, d_LONG_GROUPS_none, z_LONG_GROUPS_none, v_LONG_GROUPS_none⟩ }⟩
theorem walk {l : PySem.W.OpenLaw} {q : Program} {loose : List Str} {XP : (Str → Option Value) → Heap → Prop} {YP : World → Heap → Prop} {d : DefRec} {K : Params → PySem.W.Frag} (hn : l.most = some 63) (hdf : d.params.defaults = [])
    (hY : ∀ (w : World) (h : Heap), YP w h → (K w.params).In h)
    (F : ∀ (w : World) (mg : Str → Option Value) (fa : Addr) (h : Heap), (K w.params).In h → h.Ns mainGlobals mg → mg d.name = some (.ref fa) →
      ∃ fd : FuncData, (∀ (s : Shared) (u : Value), BindsTo s fd ⟨[u], []⟩ [("_law_script", u)]) ∧ ∀ base : Heap, (K w.params).In base → base.Ns mainGlobals mg → FnOk l.prog w (K w.params) mg base CX0 6 fa fd ["_law_script"] (sp_law (K w.params))) :
    PySem.W.WalkO q loose XP YP l.row.toRowW d [] (fun f vs => PySem.call f vs) :=
  L2.walk_of (n := 63) (k := 6) (x := "_law_script") (CX := fun _ => CX0) (sp := fun w => sp_law (K w.params)) hn (by decide) hdf ⟨rfl, by decide, by decide⟩ hY F (fun _ _ a ns hl _ hS => ⟨a, ns, rfl, hS, hl, fun _ => rfl⟩) fun _ _ _ _ _ z => z
end Law
open PySem PySem.W PyProof.Rows
set_option maxRecDepth 100000 in
set_option maxHeartbeats 0 in
theorem PySem.Challenge.cw_nearloops_k21_loops_that_never_fit_holds : PySem.Challenge.rw_nearloops_k21_loops_that_never_fit.Holds := by
  w_on; o_law; k_head; (case hw => w_witness2)
  k_fill
  refine Law.walk (l := PySem.Challenge.rw_nearloops_k21_loops_that_never_fit) rfl rfl (fun w h Y => PySem.W.kIn_of Y) ?F
  case F =>
    intro w mg fa h KX G hmg
    refine' Law.all_mk KX G hmg ?gc_Loop ?pg_Loop ?hd_Loop ?po_Loop ?sa_Loop ?mk_Loop ?kc_Loop ?no_Loop_own_rules ?no_Loop_own_answers ?no_Loop_table ?gc_Run ?pg_Run ?hd_Run ?po_Run ?sa_Run ?mk_Run ?kc_Run ?no_Run_words ?no_Run_keeps ?no_Run_kept ?no_Run_state ?no_Run_answer ?a_is_name ?l_is_name ?c_is_name ?k_is_name ?a_is_number ?l_is_number ?c_is_number ?k_is_number ?a_check_number ?l_check_number ?c_check_number ?k_check_number ?a_check_tolerance ?l_check_tolerance ?c_check_tolerance ?k_check_tolerance ?a_check_row ?l_check_row ?c_check_row ?k_check_row ?a_sign_of ?l_sign_of ?c_sign_of ?k_sign_of ?a_place_of ?l_place_of ?c_place_of ?k_place_of ?a_place ?l_place ?c_place ?k_place ?a_is_group ?l_is_group ?c_is_group ?k_is_group ?a_group ?l_group ?c_group ?k_group ?a_is_rule ?l_is_rule ?c_is_rule ?k_is_rule ?a_states_of ?l_states_of ?c_states_of ?k_states_of ?a_invalid_rule ?l_invalid_rule ?c_invalid_rule ?k_invalid_rule ?u_Loop___init__ ?ud_Loop___init__ ?uv_Loop___init__ ?a_Loop___init__ ?i_Loop___init__ ?l_Loop___init__ ?c_Loop___init__ ?k_Loop___init__ ?q1_Loop_start ?q2_Loop_start ?q3_Loop_start ?q4_Loop_start ?l_Loop_start ?c_Loop_start ?k_Loop_start ?q1_Loop_answers ?q2_Loop_answers ?q3_Loop_answers ?q4_Loop_answers ?l_Loop_answers ?c_Loop_answers ?k_Loop_answers ?a_used ?l_used ?c_used ?k_used ?a_Run___init__ ?i_Run___init__ ?l_Run___init__ ?c_Run___init__ ?k_Run___init__ ?q1_Run_last ?q2_Run_last ?q3_Run_last ?q4_Run_last ?l_Run_last ?c_Run_last ?k_Run_last ?a_run ?l_run ?c_run ?k_run ?a__law_source ?l__law_source ?c__law_source ?k__law_source ?a__law_draw ?l__law_draw ?c__law_draw ?k__law_draw ?a__law_subset ?l__law_subset ?c__law_subset ?k__law_subset ?a__law_name ?l__law_name ?c__law_name ?k__law_name ?a__law_names ?l__law_names ?c__law_names ?k__law_names ?a__law_places ?l__law_places ?c__law_places ?k__law_places ?a__law_group_names ?l__law_group_names ?c__law_group_names ?k__law_group_names ?a__law_tolerance ?l__law_tolerance ?c__law_tolerance ?k__law_tolerance ?a__law_row ?l__law_row ?c__law_row ?k__law_row ?a_law ?l_law ?c_law ?k_law ?m_len ?m_int ?m_bool ?m_str ?m_list ?m_tuple ?m_dict ?m_range ?m_enumerate ?m_isinstance ?m_min ?m_all ?m_sorted ?m_super ?m_ValueError ?g_BOUND ?g_MOST_NUMBERS ?g_MOST_LETTERS ?g_PLACES ?l_PLACES ?c_PLACES ?e_PLACES ?d_PLACES ?z_PLACES ?v_PLACES ?g_LONG_GROUPS ?l_LONG_GROUPS ?y_LONG_GROUPS ?x_LONG_GROUPS ?l_LONG_GROUPS_any ?c_LONG_GROUPS_any ?e_LONG_GROUPS_any ?d_LONG_GROUPS_any ?z_LONG_GROUPS_any ?v_LONG_GROUPS_any ?l_LONG_GROUPS_near ?c_LONG_GROUPS_near ?e_LONG_GROUPS_near ?d_LONG_GROUPS_near ?z_LONG_GROUPS_near ?v_LONG_GROUPS_near ?l_LONG_GROUPS_far ?c_LONG_GROUPS_far ?e_LONG_GROUPS_far ?d_LONG_GROUPS_far ?z_LONG_GROUPS_far ?v_LONG_GROUPS_far ?l_LONG_GROUPS_less ?c_LONG_GROUPS_less ?e_LONG_GROUPS_less ?d_LONG_GROUPS_less ?z_LONG_GROUPS_less ?v_LONG_GROUPS_less ?l_LONG_GROUPS_more ?c_LONG_GROUPS_more ?e_LONG_GROUPS_more ?d_LONG_GROUPS_more ?z_LONG_GROUPS_more ?v_LONG_GROUPS_more ?l_LONG_GROUPS_under ?c_LONG_GROUPS_under ?e_LONG_GROUPS_under ?d_LONG_GROUPS_under ?z_LONG_GROUPS_under ?v_LONG_GROUPS_under ?l_LONG_GROUPS_over ?c_LONG_GROUPS_over ?e_LONG_GROUPS_over ?d_LONG_GROUPS_over ?z_LONG_GROUPS_over ?v_LONG_GROUPS_over ?l_LONG_GROUPS_cell ?c_LONG_GROUPS_cell ?e_LONG_GROUPS_cell ?d_LONG_GROUPS_cell ?z_LONG_GROUPS_cell ?v_LONG_GROUPS_cell ?l_LONG_GROUPS_none ?c_LONG_GROUPS_none ?e_LONG_GROUPS_none ?d_LONG_GROUPS_none ?z_LONG_GROUPS_none ?v_LONG_GROUPS_none ?g_MOST_RULES ?g_MOST_STATES
    (case gc_Loop => k_is)
    (case pg_Loop => k_is)
    (case hd_Loop => k_is)
    (case po_Loop => k_is)
    (case sa_Loop => k_is)
    (case mk_Loop => k_is)
    (case kc_Loop => k_is)
    (case no_Loop_own_rules => k_is)
    (case no_Loop_own_answers => k_is)
    (case no_Loop_table => k_is)
    (case gc_Run => k_is)
    (case pg_Run => k_is)
    (case hd_Run => k_is)
    (case po_Run => k_is)
    (case sa_Run => k_is)
    (case mk_Run => k_is)
    (case kc_Run => k_is)
    (case no_Run_words => k_is)
    (case no_Run_keeps => k_is)
    (case no_Run_kept => k_is)
    (case no_Run_state => k_is)
    (case no_Run_answer => k_is)
    (case a_is_name => k_is)
    (case l_is_name => k_is)
    (case c_is_name => k_is)
    (case k_is_name => k_is)
    (case a_is_number => k_is)
    (case l_is_number => k_is)
    (case c_is_number => k_is)
    (case k_is_number => k_is)
    (case a_check_number => k_is)
    (case l_check_number => k_is)
    (case c_check_number => k_is)
    (case k_check_number => k_is)
    (case a_check_tolerance => k_is)
    (case l_check_tolerance => k_is)
    (case c_check_tolerance => k_is)
    (case k_check_tolerance => k_is)
    (case a_check_row => k_is)
    (case l_check_row => k_is)
    (case c_check_row => k_is)
    (case k_check_row => k_is)
    (case a_sign_of => k_is)
    (case l_sign_of => k_is)
    (case c_sign_of => k_is)
    (case k_sign_of => k_is)
    (case a_place_of => k_is)
    (case l_place_of => k_is)
    (case c_place_of => k_is)
    (case k_place_of => k_is)
    (case a_place => k_is)
    (case l_place => k_is)
    (case c_place => k_is)
    (case k_place => k_is)
    (case a_is_group => k_is)
    (case l_is_group => k_is)
    (case c_is_group => k_is)
    (case k_is_group => k_is)
    (case a_group => k_is)
    (case l_group => k_is)
    (case c_group => k_is)
    (case k_group => k_is)
    (case a_is_rule => k_is)
    (case l_is_rule => k_is)
    (case c_is_rule => k_is)
    (case k_is_rule => k_is)
    (case a_states_of => k_is)
    (case l_states_of => k_is)
    (case c_states_of => k_is)
    (case k_states_of => k_is)
    (case a_invalid_rule => k_is)
    (case l_invalid_rule => k_is)
    (case c_invalid_rule => k_is)
    (case k_invalid_rule => k_is)
    (case a_Loop___init__ => k_is)
    (case i_Loop___init__ => k_is)
    (case l_Loop___init__ => k_is)
    (case c_Loop___init__ => k_is)
    (case k_Loop___init__ => k_is)
    (case q1_Loop_start => k_is)
    (case q2_Loop_start => k_is)
    (case q3_Loop_start => k_is)
    (case q4_Loop_start => k_is)
    (case l_Loop_start => k_is)
    (case c_Loop_start => k_is)
    (case k_Loop_start => k_is)
    (case q1_Loop_answers => k_is)
    (case q2_Loop_answers => k_is)
    (case q3_Loop_answers => k_is)
    (case q4_Loop_answers => k_is)
    (case l_Loop_answers => k_is)
    (case c_Loop_answers => k_is)
    (case k_Loop_answers => k_is)
    (case a_used => k_is)
    (case l_used => k_is)
    (case c_used => k_is)
    (case k_used => k_is)
    (case a_Run___init__ => k_is)
    (case i_Run___init__ => k_is)
    (case l_Run___init__ => k_is)
    (case c_Run___init__ => k_is)
    (case k_Run___init__ => k_is)
    (case q1_Run_last => k_is)
    (case q2_Run_last => k_is)
    (case q3_Run_last => k_is)
    (case q4_Run_last => k_is)
    (case l_Run_last => k_is)
    (case c_Run_last => k_is)
    (case k_Run_last => k_is)
    (case a_run => k_is)
    (case l_run => k_is)
    (case c_run => k_is)
    (case k_run => k_is)
    (case a__law_source => k_is)
    (case l__law_source => k_is)
    (case c__law_source => k_is)
    (case k__law_source => k_is)
    (case a__law_draw => k_is)
    (case l__law_draw => k_is)
    (case c__law_draw => k_is)
    (case k__law_draw => k_is)
    (case a__law_subset => k_is)
    (case l__law_subset => k_is)
    (case c__law_subset => k_is)
    (case k__law_subset => k_is)
    (case a__law_name => k_is)
    (case l__law_name => k_is)
    (case c__law_name => k_is)
    (case k__law_name => k_is)
    (case a__law_names => k_is)
    (case l__law_names => k_is)
    (case c__law_names => k_is)
    (case k__law_names => k_is)
    (case a__law_places => k_is)
    (case l__law_places => k_is)
    (case c__law_places => k_is)
    (case k__law_places => k_is)
    (case a__law_group_names => k_is)
    (case l__law_group_names => k_is)
    (case c__law_group_names => k_is)
    (case k__law_group_names => k_is)
    (case a__law_tolerance => k_is)
    (case l__law_tolerance => k_is)
    (case c__law_tolerance => k_is)
    (case k__law_tolerance => k_is)
    (case a__law_row => k_is)
    (case l__law_row => k_is)
    (case c__law_row => k_is)
    (case k__law_row => k_is)
    (case a_law => k_is)
    (case l_law => k_is)
    (case c_law => k_is)
    (case k_law => k_is)
    (case m_len => k_is)
    (case m_int => k_is)
    (case m_bool => k_is)
    (case m_str => k_is)
    (case m_list => k_is)
    (case m_tuple => k_is)
    (case m_dict => k_is)
    (case m_range => k_is)
    (case m_enumerate => k_is)
    (case m_isinstance => k_is)
    (case m_min => k_is)
    (case m_all => k_is)
    (case m_sorted => k_is)
    (case m_super => k_is)
    (case m_ValueError => k_is)
    (case g_BOUND => k_is)
    (case g_MOST_NUMBERS => k_is)
    (case g_MOST_LETTERS => k_is)
    (case g_PLACES => k_is)
    (case l_PLACES => k_is)
    (case c_PLACES => rfl)
    (case e_PLACES => rfl)
    (case d_PLACES => rfl)
    (case z_PLACES => decide)
    (case v_PLACES => exact .cons ⟨_, rfl⟩ (.cons ⟨_, rfl⟩ (.cons ⟨_, rfl⟩ (.cons ⟨_, rfl⟩ (.cons ⟨_, rfl⟩ (.cons ⟨_, rfl⟩ (.cons ⟨_, rfl⟩ (.cons ⟨_, rfl⟩ (.cons ⟨_, rfl⟩ (.cons ⟨_, rfl⟩ (.cons ⟨_, rfl⟩ (.nil))))))))))))
    (case g_LONG_GROUPS => k_is)
    (case l_LONG_GROUPS => k_is)
    (case y_LONG_GROUPS => first | rfl | decide)
    (case x_LONG_GROUPS => exact ⟨⟨_, rfl⟩, rfl, rfl, ⟨⟨_, rfl⟩, rfl, rfl, ⟨⟨_, rfl⟩, rfl, rfl, ⟨⟨_, rfl⟩, rfl, rfl, ⟨⟨_, rfl⟩, rfl, rfl, ⟨⟨_, rfl⟩, rfl, rfl, ⟨⟨_, rfl⟩, rfl, rfl, ⟨⟨_, rfl⟩, rfl, rfl, ⟨⟨_, rfl⟩, rfl, rfl, True.intro⟩⟩⟩⟩⟩⟩⟩⟩⟩)
    (case l_LONG_GROUPS_any => k_is)
    (case c_LONG_GROUPS_any => rfl)
    (case e_LONG_GROUPS_any => rfl)
    (case d_LONG_GROUPS_any => rfl)
    (case z_LONG_GROUPS_any => decide)
    (case v_LONG_GROUPS_any => exact .cons ⟨_, rfl⟩ (.cons ⟨_, rfl⟩ (.cons ⟨_, rfl⟩ (.cons ⟨_, rfl⟩ (.cons ⟨_, rfl⟩ (.cons ⟨_, rfl⟩ (.cons ⟨_, rfl⟩ (.cons ⟨_, rfl⟩ (.cons ⟨_, rfl⟩ (.cons ⟨_, rfl⟩ (.cons ⟨_, rfl⟩ (.nil))))))))))))
    (case l_LONG_GROUPS_near => k_is)
    (case c_LONG_GROUPS_near => rfl)
    (case e_LONG_GROUPS_near => rfl)
    (case d_LONG_GROUPS_near => rfl)
    (case z_LONG_GROUPS_near => decide)
    (case v_LONG_GROUPS_near => exact .cons ⟨_, rfl⟩ (.cons ⟨_, rfl⟩ (.cons ⟨_, rfl⟩ (.cons ⟨_, rfl⟩ (.cons ⟨_, rfl⟩ (.cons ⟨_, rfl⟩ (.cons ⟨_, rfl⟩ (.nil))))))))
    (case l_LONG_GROUPS_far => k_is)
    (case c_LONG_GROUPS_far => rfl)
    (case e_LONG_GROUPS_far => rfl)
    (case d_LONG_GROUPS_far => rfl)
    (case z_LONG_GROUPS_far => decide)
    (case v_LONG_GROUPS_far => exact .cons ⟨_, rfl⟩ (.cons ⟨_, rfl⟩ (.cons ⟨_, rfl⟩ (.cons ⟨_, rfl⟩ (.nil)))))
    (case l_LONG_GROUPS_less => k_is)
    (case c_LONG_GROUPS_less => rfl)
    (case e_LONG_GROUPS_less => rfl)
    (case d_LONG_GROUPS_less => rfl)
    (case z_LONG_GROUPS_less => decide)
    (case v_LONG_GROUPS_less => exact .cons ⟨_, rfl⟩ (.cons ⟨_, rfl⟩ (.cons ⟨_, rfl⟩ (.cons ⟨_, rfl⟩ (.cons ⟨_, rfl⟩ (.nil))))))
    (case l_LONG_GROUPS_more => k_is)
    (case c_LONG_GROUPS_more => rfl)
    (case e_LONG_GROUPS_more => rfl)
    (case d_LONG_GROUPS_more => rfl)
    (case z_LONG_GROUPS_more => decide)
    (case v_LONG_GROUPS_more => exact .cons ⟨_, rfl⟩ (.cons ⟨_, rfl⟩ (.cons ⟨_, rfl⟩ (.cons ⟨_, rfl⟩ (.cons ⟨_, rfl⟩ (.nil))))))
    (case l_LONG_GROUPS_under => k_is)
    (case c_LONG_GROUPS_under => rfl)
    (case e_LONG_GROUPS_under => rfl)
    (case d_LONG_GROUPS_under => rfl)
    (case z_LONG_GROUPS_under => decide)
    (case v_LONG_GROUPS_under => exact .cons ⟨_, rfl⟩ (.cons ⟨_, rfl⟩ (.nil)))
    (case l_LONG_GROUPS_over => k_is)
    (case c_LONG_GROUPS_over => rfl)
    (case e_LONG_GROUPS_over => rfl)
    (case d_LONG_GROUPS_over => rfl)
    (case z_LONG_GROUPS_over => decide)
    (case v_LONG_GROUPS_over => exact .cons ⟨_, rfl⟩ (.cons ⟨_, rfl⟩ (.nil)))
    (case l_LONG_GROUPS_cell => k_is)
    (case c_LONG_GROUPS_cell => rfl)
    (case e_LONG_GROUPS_cell => rfl)
    (case d_LONG_GROUPS_cell => rfl)
    (case z_LONG_GROUPS_cell => decide)
    (case v_LONG_GROUPS_cell => exact .cons ⟨_, rfl⟩ (.cons ⟨_, rfl⟩ (.cons ⟨_, rfl⟩ (.nil))))
    (case l_LONG_GROUPS_none => k_is)
    (case c_LONG_GROUPS_none => rfl)
    (case e_LONG_GROUPS_none => rfl)
    (case d_LONG_GROUPS_none => rfl)
    (case z_LONG_GROUPS_none => decide)
    (case v_LONG_GROUPS_none => exact .nil)
    (case g_MOST_RULES => k_is)
    (case g_MOST_STATES => k_is)
    (case u_Loop___init__ => k_is)
    (case ud_Loop___init__ => rfl)
    (case uv_Loop___init__ => exact .cons rfl (.nil))
#print axioms PySem.Challenge.cw_nearloops_k21_loops_that_never_fit_holds

