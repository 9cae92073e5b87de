import PyProof.Rows.All
import Wide.All
import OpenK.AllK
import Wide.FinOn
import HandS.ForMost
import HandS.ForExc
import HandS.Wide
import HandS.IsInst
import HandS.Flow
import HandS.Style
import HandS.Strs
import HandS.More
import HandS.TupAny
import HandS.SortInts
import HandS.Evl
import HandS.Zip
import HandS.NoneIn
import HandS.SetKeys
import HandS.DictComp
import HandS.Star
import HandS.Property
import HandS.Defaults
import HandS.Walk
import HandS.Deep
import HandS.DeepEq
import HandS.FStr
import HandS.RaiseMore
import PyProof.DictMoreH
import KE.KDictWalk
import KE.KeyNested
import PyProof.DictRoadsH
import KE.GoesEnum
import KE.GoesMore
import HandS.OwnEq
import OpenK.KOps
import PyProof.DictUpdate
import HandS.Lambda
import HandS.SetBool
import HandS.Set
import HandS.Conv
import PyProof.InstEq
import KE.GoesEnumKw
import HandS.SortKw
import HandS.Text
import HandS.ClsMeth
import HandS.ExcInit
import HandS.ExcSuper
import HandS.ExcField
import KE.KExcSuper
import HandS.WordsExc
import HandS.TryMany
import HandS.TryOnly
import HandS.ExcOwn
import PyProof.Rows.StrMeet
import PyProof.NeKinds
import HandS.ListEq
import PyProof.Rows.SetFrom
import PyProof.StrOps2
import KE.KDictDisplayH
import PySem.Challenge.RW_nearloops_k77_whole_steps_far_apart
set_option Elab.async false
set_option linter.all false
set_option maxRecDepth 100000
set_option maxHeartbeats 4000000
/-! own words and lemmas over the layer: heaps, tests, items -/
namespace NL
open PySem L2
section
variable {H H' : Hp} {a b p q : Addr} {o u : HO}
theorem upd_keep (h : H b = some u) (n : H a = none) : upd H a o b = some u := by
  rw [upd_ne (ne_of_none h n)]; exact h
theorem upd_skip (h : b ≠ a) (hb : H b = some u) : upd H a o b = some u := by
  rw [upd_ne h]; exact hb
theorem same_new (n : H a = none) : Same H (upd H a o) := fun c x e => upd_keep e n
theorem upd_no (h : upd H p o q = none) : H q = none := by
  unfold upd at h; split at h
  · cases h
  · exact h
theorem upd_none_ne (h : upd H p o q = none) : q ≠ p := by
  intro e; subst e; rw [upd_same] at h; cases h
/-- all but p stands -/
def But (p : Addr) (H H' : Hp) : Prop := ∀ c x, c ≠ p → H c = some x → H' c = some x
theorem But.refl : But p H H := fun _ _ _ h => h
theorem But.trans {H1 H2 H3 : Hp} (x : But p H1 H2) (y : But p H2 H3) : But p H1 H3 := fun c z n h => y c z n (x c z n h)
theorem But.upd (x : But p H H') : But p H (upd H' p o) := fun c z n h => upd_skip n (x c z n h)
theorem But.new (x : But p H H') (n : H' a = none) : But p H (L2.upd H' a o) := fun c z m h => upd_keep (x c z m h) n
theorem But.of_same (x : Same H H') : But p H H' := fun c z _ h => x c z h
theorem But.at (x : But p H H') (n : a ≠ p) (h : H a = some o) : H' a = some o := x a o n h
theorem But.same (x : But p H H') (n : H p = none) : Same H H' := fun c z h => x c z (ne_of_none h n) h
end
theorem ifD {c A B : Prop} [Decidable c] (h1 : c → A) (h2 : ¬ c → B) : if decide c = true then A else B := by
  by_cases h : c
  · rw [if_pos (decide_eq_true h)]; exact h1 h
  · rw [if_neg (by rw [decide_eq_false h]; decide)]; exact h2 h
theorem ifB {A B : Prop} (b : Bool) (h1 : b = true → A) (h2 : b = false → B) : if b = true then A else B := by
  cases b with
  | true => rw [if_pos rfl]; exact h1 rfl
  | false => rw [if_neg (by decide)]; exact h2 rfl
theorem ifT {A B : Prop} {b : Bool} (hb : b = true) (h : A) : if b = true then A else B := by rw [if_pos hb]; exact h
theorem ifF {A B : Prop} {b : Bool} (hb : b = false) (h : B) : if b = true then A else B := by rw [if_neg (by rw [hb]; decide)]; exact h
theorem atI_mem {α : Type} {xs : List α} {i : Int} (h0 : 0 ≤ i) (h1 : i < (xs.length : Int)) : ∃ v, atI xs i = some v ∧ v ∈ xs := by
  have hl : i.toNat < xs.length := by omega
  refine ⟨xs[i.toNat], ?_, List.getElem_mem hl⟩
  have e : ((i.toNat : Nat) : Int) = i := Int.toNat_of_nonneg h0
  have := atI_nat (xs := xs) (j := i.toNat) (v := xs[i.toNat]) (List.getElem?_eq_getElem hl)
  rw [e] at this; exact this
theorem sz1000 {n : Nat} (h : n ≤ 1000) : n ≤ sizeLine := Nat.le_of_lt (small1000 h)
theorem sz100k {n : Nat} (h : n ≤ 100000) : n ≤ sizeLine := Nat.le_trans h (by decide)
theorem sz100k_lt {n : Nat} (h : n < 100000) : n < sizeLine := Nat.lt_of_lt_of_le h (by decide)
/-! comprehensions whose elements are values that do not hang on the heap -/
theorem wipe_set (σ : L2.St) (j : Nat) (x : Option V) : wipe ((wipe σ [j]).set j x) [j] = wipe σ [j] := by
  show (((σ.set j none).set j x).set j none) = σ.set j none
  rw [List.set_set, List.set_set]
theorem take_snoc {α : Type} : ∀ {l : List α} {i : Nat} {x : α}, l[i]? = some x → l.take (i + 1) = l.take i ++ [x]
  | [], i, x, h => by simp at h
  | a :: l, 0, x, h => by
    have e : a = x := Option.some.inj h
    subst e; rfl
  | a :: l, i + 1, x, h => by
    show a :: l.take (i + 1) = a :: l.take i ++ [x]
    rw [take_snoc (l := l) (i := i) h]; rfl
theorem filt_snoc {p : V → Bool} {f : V → V} {xs : List V} {i : Nat} {x : V} (h : xs[i]? = some x) :
    ((xs.take (i + 1)).filter p).map f = if p x = true then ((xs.take i).filter p).map f ++ [f x] else ((xs.take i).filter p).map f := by
  rw [take_snoc h, List.filter_append, List.map_append]
  by_cases hp : p x = true
  · rw [if_pos hp]; simp [List.filter, hp]
  · rw [if_neg hp]
    have hp : p x = false := by simpa using hp
    simp [List.filter, hp]
section
variable {K : PySem.W.Frag} {a : Addr} {xs : List V} {tt : TT} {te : TE} {j : Nat} {σ : L2.St} {H : Hp} {D : Addr} {Qd : Hp → Prop} {p : V → Bool} {f : V → V}
/-- one turn, whatever is walked -/
theorem lc_turn {x : V} {acc : List V} {H' : Hp} {N : Hp → Prop} (nD : H D = none) (sm : Same H H') (hD : H' D = some (.lst acc)) (hb : acc.length ≤ 10000)
    (ht : ∀ (k : Bool → Hp → Prop), (∀ H'', Same H' H'' → k (p x) H'') → tt ((wipe σ [j]).set j (some x)) H' k)
    (he : ∀ (H1 : Hp) (k : VK), Same H' H1 → p x = true → (∀ H'', Same H1 H'' → k (f x) H'') → te ((wipe σ [j]).set j (some x)) H1 k)
    (hN : ∀ H'', Same H H'' → H'' D = some (.lst (if p x = true then acc ++ [f x] else acc)) → N H'') :
    gName j x (wipe σ [j]) H' fun σ2 H2 => wipe σ2 [j] = wipe σ [j] ∧ tt σ2 H2 fun b H3 => if b = true then te σ2 H3 fun y H4 => ∃ acc, H4 D = some (.lst acc) ∧ acc.length < sizeLine ∧ N (upd H4 D (.lst (acc ++ [y]))) else N H3 := by
  refine ⟨wipe_set σ j (some x), ht _ fun H1 s1 => ?_⟩
  refine ifB _ (fun hp => ?_) (fun hp => ?_)
  · refine he H1 _ s1 hp fun H2 s2 => ?_
    refine ⟨acc, s2 _ _ (s1 _ _ hD), Nat.lt_of_le_of_lt hb (by decide), hN _ (fun c o e => ?_) ?_⟩
    · exact upd_skip (ne_of_none e nD) (s2 _ _ (s1 _ _ (sm _ _ e)))
    · rw [if_pos hp]; exact upd_same
  · refine hN _ (sm.trans s1) ?_
    rw [if_neg (by rw [hp]; decide)]; exact s1 _ _ hD
theorem filt_len (n : Nat) : (((xs.take n).filter p).map f).length ≤ xs.length := by
  rw [List.length_map]
  exact Nat.le_trans (List.length_filter_le _ _) (by rw [List.length_take]; omega)
theorem filt_all {xs : List V} {f : V → V} : (xs.filter fun _ => true).map f = xs.map f := by rw [List.filter_eq_self.mpr (fun _ _ => rfl)]
end
theorem SqT_same {K : PySem.W.Frag} {H H' : Hp} {a : Addr} {xs : List V} (sm : Same H H') (hl : SqT K H a xs) : SqT K H' a xs := by
  rcases hl with (h | ⟨o, h⟩) | h
  · exact .inl (.inl (sm _ _ h))
  · exact .inl (.inr ⟨o, sm _ _ h⟩)
  · exact .inr h
/-! data -/
theorem shaped_of {d : PyData} (h : d.canLay0 = true) (h2 : d.depth ≤ 64) : SeqAt.shaped d = true := by
  unfold SeqAt.shaped; rw [h, decide_eq_true h2]; rfl
theorem flats_str (zs : List Str) : (zs.map V.str).all flatV = true := by
  rw [List.all_eq_true]; intro x hx
  obtain ⟨z, _, rfl⟩ := List.mem_map.mp hx; rfl
theorem inV_strs (z : Str) : ∀ zs : List Str, inV (.str z) (zs.map V.str) = decide (z ∈ zs)
  | [] => by simp [inV]
  | y :: zs => by
    show (eqV (.str y) (.str z) || inV (.str z) (zs.map V.str)) = _
    rw [inV_strs z zs]
    have e : eqV (.str y) (.str z) = decide (y = z) := by
      show (y == z) = _
      by_cases h : y = z
      · subst h; simp
      · simp [h]
    rw [e]
    by_cases h : y = z
    · subst h; simp
    · have h2 : ¬ z = y := fun q => h q.symm
      simp [h, h2]
/-! a dict of the module with texts as keys -/
/-- the entries of a written dict, one by one -/
def KPairs (P : Params) : List (Str × V) → List DictEntry → Prop
  | [], [] => True
  | (x, v) :: r, e :: es => (∃ t, e.key = .str x t) ∧ e.hash = PyData.keyHash P x ∧ RelV v e.val ∧ KPairs P r es
  | _, _ => False
theorem KPairs.keys {P : Params} : ∀ {tab : List (Str × V)} {es : List DictEntry}, KPairs P tab es → PySem.W.KeysLit P es
  | [], [], _ => True.intro
  | (x, v) :: r, e :: es, ⟨⟨t, h1⟩, h2, _, h4⟩ => ⟨⟨x, t, h1, h2⟩, KPairs.keys h4⟩
theorem KPairs.find {P : Params} {z : Str} : ∀ {tab : List (Str × V)} {es : List DictEntry}, KPairs P tab es → RelO (tab.lookup z) ((es.find? fun d => Value.isStrOf z d.key).map (·.val))
  | [], [], _ => True.intro
  | (x, v) :: r, e :: es, ⟨⟨t, h1⟩, h2, h3, h4⟩ => by
    rw [List.lookup_cons, List.find?_cons, h1]
    by_cases hz : z = x
    · subst hz
      have e1 : (z == z) = true := by simp
      have e2 : Value.isStrOf z (.str z t) = true := by simp [Value.isStrOf]
      rw [e1, e2]; exact h3
    · have e1 : (z == x) = false := by simpa using hz
      have e2 : Value.isStrOf z (.str x t) = false := by simp [Value.isStrOf, hz]; intro q; exact hz q.symm
      rw [e1, e2]; exact KPairs.find h4
def KDt (w : World) (K : PySem.W.Frag) (a : Addr) (tab : List (Str × V)) : Prop :=
  ∃ es n, K.lookup a = some ⟨.type "dict", none, .dict es n, #[]⟩ ∧ (a == sysModules) = false ∧ KPairs w.params tab es.toList
theorem find_arr {es : Array DictEntry} {z : Str} : PySem.findBy Value.isStrOf es z = (es.toList.find? fun d => Value.isStrOf z d.key).map (·.val) := by
  obtain ⟨l⟩ := es
  unfold PySem.findBy
  rw [List.find?_toArray] <;> rfl
def rInKD (w : World) (K : PySem.W.Frag) : R2 := fun x y H Q => ∃ p z tab, x = .str z ∧ y = .ref p ∧ KDt w K p tab ∧ Q (.bl (tab.lookup z).isSome) H
def rIxKD (w : World) (K : PySem.W.Frag) : R2 := fun x y H Q => ∃ p z tab v, x = .ref p ∧ y = .str z ∧ KDt w K p tab ∧ tab.lookup z = some v ∧ Q v H
theorem op_inKD {X : Cx} : OpR X (compareOp .In) (rInKD X.w X.K) := by
  intro pins s σ H x y v u Q I rx ry h
  obtain ⟨p, z, tab, rfl, rfl, ⟨es, n, hl, lo, kp⟩, q⟩ := h
  obtain ⟨t, rfl⟩ := rx
  obtain rfl : u = Value.ref p := ry
  have hm := PySem.W.mapOf_K (prog := X.prog) (w := X.w) I.kIn hl kp.keys
  refine wpAny_in_of (PySem.strKind_is X.prog X.w z t) lo hm ?_
  have e := kp.find (z := z)
  rw [← find_arr] at e
  refine ⟨.bl (tab.lookup z).isSome, H, I.tok _, ?_, q⟩
  show Value.bool _ = Value.bool _
  generalize PySem.findBy Value.isStrOf es z = o1 at e
  generalize tab.lookup z = o2 at e
  cases o1 <;> cases o2 <;> first | rfl | exact e.elim
theorem ix_KD {X : Cx} : IxR X (rIxKD X.w X.K) := by
  intro value slice pins s σ H x y v u Q I rx ry h hs
  obtain ⟨p, z, tab, r, rfl, rfl, ⟨es, n, hl, lo, kp⟩, hr, q⟩ := h
  obtain rfl : v = Value.ref p := rx
  obtain ⟨t, rfl⟩ := ry
  have hm := PySem.W.mapOf_K (prog := X.prog) (w := X.w) I.kIn hl kp.keys
  have e := kp.find (z := z)
  rw [← find_arr, hr] at e
  cases o1 : PySem.findBy Value.isStrOf es z with
  | none => rw [o1] at e; exact e.elim
  | some u0 =>
    rw [o1] at e
    exact PyProof.Rows.tail_any hm.typeIs slot_dict_getitem.lookup (wpAny_getItem_of (PySem.strKind_is X.prog X.w z t) hm o1 ⟨r, H, I.tok _, e, q⟩) hs
theorem dl0 (more : List (Key × V)) (h : more.length ≤ 50) : (mergeK [] more).length ≤ 50 := by
  have := length_mergeK more []
  simp only [List.length_nil] at this; omega
theorem dl1 {kvs : List (Key × V)} {k : Key} {v : V} {n : Nat} (h : kvs.length ≤ n) : (putK kvs k v).length ≤ n + 1 := Nat.le_trans (length_putK _ _ _) (Nat.succ_le_succ h)
/-! the source -/
/-- at p stands a source that has been drawn from c times -/
def Src (H : Hp) (p : Addr) (c : Int) : Prop := ∃ g s : Int, H p = some (.lst [.int g, .int s, .int c]) ∧ 0 ≤ s ∧ s < 2147483647 ∧ 0 ≤ c
section
variable {H H' : Hp} {p q : Addr} {c : Int} {o : HO}
theorem Src.keep (h : Src H p c) (n : H q = none) : Src (L2.upd H q o) p c := by
  obtain ⟨g, s, e, r⟩ := h; exact ⟨g, s, upd_keep e n, r⟩
theorem Src.skip (h : Src H p c) (n : p ≠ q) : Src (L2.upd H q o) p c := by
  obtain ⟨g, s, e, r⟩ := h; exact ⟨g, s, upd_skip n e, r⟩
theorem Src.same (h : Src H p c) (s : Same H H') : Src H' p c := by
  obtain ⟨g, z, e, r⟩ := h; exact ⟨g, z, s _ _ e, r⟩
end
/-! places -/
def signS (i j : Int) : Str := if i = j then "=" else if i < j then "<" else ">"
def placeOfS (d : Int) (z : Str) : Str := if d < -1 then "below" else if 1 < d then "above" else (if d = -1 then "-" else if d = 1 then "+" else "") ++ z
def placeS (x k e : Int) : Str := placeOfS (x / e - k / e) (signS (x % e) (k % e))
end NL
namespace NL
open PySem L2
/-! ### an expression's value, told by a word of one's own -/
def tCutE (t : TE) : TE := fun σ H Q => ∃ M : V → Hp → Prop, t σ H M ∧ ∀ v H', M v H' → Q v H'
theorem pe_cut {X : Cx} {e : Expr} {t : TE} (h : PE X e t) : PE X e (tCutE t) := by
  refine ⟨fun pins s σ H Q I hw => ?_⟩
  obtain ⟨M, hM, hQ⟩ := hw
  exact thn (h.run pins s σ H M I hM) fun v s1 ⟨x, H1, I1, r, q⟩ => ⟨x, H1, I1, r, hQ x H1 q⟩
/-! ### a list or a tuple -/
def Sq (K : PySem.W.Frag) (H : Hp) (a : Addr) (xs : List V) : Prop := SqL K H a xs ∨ SqT K H a xs
section
variable {K : PySem.W.Frag} {H H' : Hp} {a b : Addr} {xs : List V}
theorem Sq.same (s : Same H H') (h : Sq K H a xs) : Sq K H' a xs := by
  rcases h with h | h
  · exact .inl (s.seq h)
  · exact .inr (SqT_same s h)
theorem Sq.lst (h : H a = some (.lst xs)) : Sq K H a xs := .inl (SqL.of h)
theorem Sq.tup (h : H a = some (.tup xs)) : Sq K H a xs := .inr (SqT.of h)
/-- its type is list or tuple -/
theorem SqL.tyx (h : SqL K H a xs) : TyX K H (.ref a) (.type "list") := by
  rcases h with (h | ⟨o, h⟩) | ⟨o, its, n, h1, h2, _⟩
  · exact .base (.lst h)
  · exact .base (.frz h)
  · exact .kList h1 h2
theorem SqT.tyx (h : SqT K H a xs) : TyX K H (.ref a) (.type "tuple") := by
  rcases h with (h | ⟨o, h⟩) | ⟨o, its, n, h1, h2, _⟩
  · exact .base (.tup h)
  · exact .fTuple h
  · exact .kTuple h1 h2
theorem Sq.len (h : Sq K H a xs) : LenV K (.ref a) H xs.length := by
  rcases h with h | h
  · exact .inl ⟨xs, h, rfl⟩
  · exact .inr ⟨xs, h, rfl⟩
/-- isinstance(x, (list, tuple)): true -/
theorem isLT (h : Sq K H a xs) : ∃ t us, Paired ClsV [.ty "list", .ty "tuple"] us ∧ TyX K H (.ref a) t ∧ PySem.W.kitAny K t us = some true := by
  rcases h with h | h
  · exact ⟨_, [.type "list", .type "tuple"], .cons (.ty _) (.cons (.ty _) .nil), SqL.tyx h, kitAny_cons (b := true) (kit_ty (by decide +kernel)) (fun z => nomatch z) (fun _ => rfl)⟩
  · exact ⟨_, [.type "list", .type "tuple"], .cons (.ty _) (.cons (.ty _) .nil), SqT.tyx h, kitAny_cons (b := false) (kit_ty (by decide +kernel)) (fun _ => kitAny_cons (b := true) (kit_ty (by decide +kernel)) (fun z => nomatch z) (fun _ => rfl)) (fun z => nomatch z)⟩
theorem rIx_seq (h : Sq K H a xs) {i : Int} {v : V} (hv : atI xs i = some v) {Q : VK} (q : Q v H) : rIx K (.ref a) (.int i) H Q := by
  rcases h with h | h
  · exact .inl ⟨_, _, _, _, rfl, rfl, h, hv, q⟩
  · exact .inr (.inl ⟨_, _, _, _, rfl, rfl, h, hv, q⟩)
end
/-- a list or a tuple of xs, locked or not -/
def isSeqO (xs : List V) (o : HO) : Prop := o = .lst xs ∨ o = .tup xs ∨ ∃ ob, o = .frz ob (.lst xs) ∨ o = .frz ob (.tup xs)
theorem seqL_at {K : PySem.W.Frag} {H H' : Hp} {a : Addr} {xs : List V} (e : ∀ o, H a = some o → isSeqO xs o → H' a = some o) (h : SqL K H a xs) : SqL K H' a xs := by
  rcases h with (h | ⟨o, h⟩) | h
  · exact .inl (.inl (e _ h (.inl rfl)))
  · exact .inl (.inr ⟨o, e _ h (.inr (.inr ⟨o, .inl rfl⟩))⟩)
  · exact .inr h
theorem seqT_at {K : PySem.W.Frag} {H H' : Hp} {a : Addr} {xs : List V} (e : ∀ o, H a = some o → isSeqO xs o → H' a = some o) (h : SqT K H a xs) : SqT K H' a xs := by
  rcases h with (h | ⟨o, h⟩) | h
  · exact .inl (.inl (e _ h (.inr (.inl rfl))))
  · exact .inl (.inr ⟨o, e _ h (.inr (.inr ⟨o, .inr rfl⟩))⟩)
  · exact .inr h
theorem isSeqO_dK {xs : List V} {kvs : List (Key × V)} (h : isSeqO xs (.dK kvs)) : False := by
  rcases h with h | h | ⟨o, h | h⟩ <;> cases h
/-! ### rules that take either -/
section
variable {X : Cx}
theorem PG.or {tg : Expr} {t u : TG} (h1 : PG X tg t) (h2 : PG X tg u) : PG X tg (fun v σ H Q => t v σ H Q ∨ u v σ H Q) := by
  refine ⟨fun pins s σ H v w Q I r hw => ?_⟩
  rcases hw with hw | hw
  · exact h1.run pins s σ H v w Q I r hw
  · exact h2.run pins s σ H v w Q I r hw
def gSeq (K : PySem.W.Frag) (n : Nat) (t : TGs) : TG := fun v σ H Q => ∃ a xs, v = .ref a ∧ Sq K H a xs ∧ xs.length = n ∧ t xs σ H Q
/-- a, b, .. = a list or a tuple -/
theorem pg_seq {es : List Expr} {k : Nat} {t : TGs} {n : Nat} {pos : Pos} (hc : X.calm = true) (h : PGs X es t)
    (hn : (assignEach es X.env).length = n := by rfl) (hst : (assignEach es X.env).findIdx? (·.1) = none := by rfl) : PG X (.Tuple es k pos) (gSeq X.K n t) := by
  have h1 := pg_tup (k := k) (pos := pos) hc h hn hst
  have h2 := pg_unl (k := k) (pos := pos) hc h hn hst
  refine ⟨fun pins s σ H v u Q I r hw => ?_⟩
  obtain ⟨a, xs, rfl, hq, hl, hw⟩ := hw
  rcases hq with hq | hq
  · exact h2.run pins s σ H _ u Q I r ⟨a, xs, rfl, hq, hl, hw⟩
  · exact h1.run pins s σ H _ u Q I r ⟨a, xs, rfl, hq, hl, hw⟩
/-- what a for or a comprehension over a list or a tuple asks: said for any walk over its items while what stands stands -/
def iSeq (K : PySem.W.Frag) (tl : TE) : TI := fun σ H R => tl σ H fun x H1 => ∃ a xs, x = .ref a ∧ Sq K H1 a xs ∧ ∀ J, Walk J xs.length (fun H => ∀ o, H1 a = some o → isSeqO xs o → H a = some o) (YAt xs) → R J H1
theorem pi_seq {tg l : Expr} {tl : TE} (hl : PE X l tl) : PI X tg l (iSeq X.K tl) := by
  refine ⟨fun pins s σ H R I h => ?_⟩
  refine thn (hl.run pins s σ H _ I h) fun v s1 ⟨x, H1, I1, r1, q1⟩ => ?_
  obtain ⟨a, xs, e, hq, q⟩ := q1
  subst e
  cases r1
  rcases hq with hq | hq
  · obtain ⟨its, rv, p, hz⟩ := I1.list hq
    refine wpAny_pyIter_list p.isList ?_
    refine ⟨s1.heap.objs.size, [s1.heap.objs.size], _, _, H1, rfl, I1.kept (t' := s1.toks) fun b o e => Heap.get?_push_of_some _ e, turn_list a _, ⟨_, Heap.get?_push_size _ rfl, rfl, rfl⟩, fun b hb => ?_, q _ (walk_list.mono (fun H2 sm => seqL_at sm hq) fun _ _ _ _ _ _ y => y)⟩
    have e : b = s1.heap.objs.size := by simpa using hb
    subst e
    exact I1.fpOk (Nat.le_refl _) (I1.hok.fresh (Nat.le_refl _))
  · obtain ⟨its, rv, p, hz⟩ := I1.tuple hq
    refine wpAny_pyIter_tuple (show s1.heap.IsTuple a its.toArray from p) ?_
    refine ⟨s1.heap.objs.size, [s1.heap.objs.size], _, _, H1, rfl, I1.kept (t' := s1.toks) fun b o e => Heap.get?_push_of_some _ e, turn_tuple a _, ⟨_, Heap.get?_push_size _ rfl, rfl, rfl⟩, fun b hb => ?_, q _ (walk_tup.mono (fun H2 sm => seqT_at sm hq) fun _ _ _ _ _ _ y => y)⟩
    have e : b = s1.heap.objs.size := by simpa using hb
    subst e
    exact I1.fpOk (Nat.le_refl _) (I1.hok.fresh (Nat.le_refl _))
end
/-- the signs of a text as texts -/
def signsV (z : Str) : List V := z.cps.toList.map fun c => V.str ⟨#[c]⟩
theorem walk_signs {z : Str} {G : Hp → Prop} : Walk (Its z) (signsV z).length G (YAt (signsV z)) := by
  have el : (signsV z).length = z.cps.size := by unfold signsV; simp
  rw [el]
  refine (walk_str (z := z)).mono (fun _ _ => True.intro) fun i H x H' hi _ h => ?_
  obtain ⟨e, c, hc, hx⟩ := h
  refine ⟨e, ?_⟩
  unfold signsV
  rw [List.getElem?_map]
  have : z.cps.toList[i]? = some c := by simpa using hc
  rw [this, hx]; rfl
/-- a comprehension whose elements are values: over any walk of xs -/
theorem lcW_filt {J : It} {xs : List V} {tt : TT} {te : TE} {j : Nat} {σ : L2.St} {H : Hp} {D : Addr} {Qd : Hp → Prop} {p : V → Bool} {f : V → V}
    {G : Hp → Prop} (w : Walk J xs.length G (YAt xs)) (hG : ∀ H', Same H H' → G H') (nD : H D = none) (hb : xs.length ≤ 10000)
    (ht : ∀ (i : Nat) (x : V) (H' : Hp) (k : Bool → Hp → Prop), xs[i]? = some x → Same H H' → (∀ H'', Same H' H'' → k (p x) H'') → tt ((wipe σ [j]).set j (some x)) H' k)
    (he : ∀ (i : Nat) (x : V) (H' : Hp) (k : VK), xs[i]? = some x → p x = true → Same H H' → (∀ H'', Same H' H'' → k (f x) H'') → te ((wipe σ [j]).set j (some x)) H' k)
    (hd : ∀ H', Same H H' → H' D = some (.lst ((xs.filter p).map f)) → Qd H') :
    ∃ W : Nat → Nat → Hp → Prop, (∃ m, W 0 m (upd H D (.lst []))) ∧ ∀ i m H, W i m H →
      (J.stop i H ∧ Qd H) ∨ (J.go i H ∧ ∃ Nx : Hp → Prop, (∀ H', Nx H' → ∃ m', m' < m ∧ W (i + 1) m' H') ∧ ∀ x H', J.yld i H x H' → gName j x (wipe σ [j]) H' fun σ2 H2 => wipe σ2 [j] = wipe σ [j] ∧ tt σ2 H2 fun b H3 =>
        if b = true then te σ2 H3 fun y H4 => ∃ acc, H4 D = some (.lst acc) ∧ acc.length < sizeLine ∧ Nx (upd H4 D (.lst (acc ++ [y]))) else Nx H3) := by
  refine lc_it w (fun i H' => Same H H' ∧ H' D = some (.lst (((xs.take i).filter p).map f))) ⟨same_new nD, upd_same⟩ (fun i H' _ h => hG H' h.1) ?_ ?_
  · rintro i x H' H'' hi ⟨sm, hD⟩ ⟨rfl, hx⟩
    refine lc_turn nD sm hD (Nat.le_trans (filt_len i) hb) (fun k hk => ht i x _ k hx sm hk) (fun H1 k s1 hp hk => he i x H1 k hx hp (sm.trans s1) hk) fun H3 s2 e => ⟨s2, ?_⟩
    rw [filt_snoc hx]; exact e
  · rintro H' ⟨sm, hD⟩
    rw [List.take_length] at hD
    exact hd H' sm hD
/-! ### d.setdefault((a, b), v): keys that are tuples -/
section
variable {X : Cx} {pins : List (Addr × Obj)} {σ : L2.St} {H : Hp} {s : Shared} {a b : Addr} {r : Value} {d : V} {k : List Key} {A : Around} {E : Value → Shared → Prop}
theorem d_setdT {kvs : List (List Key × V)} {Q : Value → Shared → Prop} (hu : A.units + 1 < cLine) (I : Inv X pins σ H s) (e : H a = some (.dT kvs)) (eb : H b = some (.tup (k.map kV))) (rd : RelV d r) (hl : kvs.length < sizeLine)
    (h1 : ∀ v, valV kvs k = some v → ∀ (w' : Value) (s' : Shared), Inv X pins σ H s' → RelV v w' → Q w' s') (h2 : valV kvs k = none → ∀ (w' : Value) (s' : Shared), Inv X pins σ (upd H a (.dT (putK kvs k d))) s' → RelV d w' → Q w' s') :
    wpAny (model X.prog X.w) A (call (.builtin "dict.setdefault") [.ref a, .ref b, r]) Q E s := by
  obtain ⟨z, hd, xs, rel, dd⟩ := dt_of I.hok e
  have hz : xs.length ≤ sizeLine := by rw [← Paired.length rel]; exact z
  have q := rel.val k
  refine call_setdefault_heap (hsz := hz) (tupleKind_room_in1 hu) (key_of I.hok eb) hd dd (fun p hp => ?_) (fun hn h' dd' hs => ?_)
  · rw [hp] at q
    cases q0 : valV kvs k with
    | none => rw [q0] at q; exact (show False from q).elim
    | some v0 => rw [q0] at q; exact h1 v0 q0 _ _ (I.tok _) q
  · rw [hn] at q
    cases q0 : valV kvs k with
    | some v0 => rw [q0] at q; exact (show False from q).elim
    | none =>
      have hl2 : (putK kvs k d).length ≤ sizeLine := by have := length_putK kvs k d; omega
      obtain ⟨o, es, ep, hq, h2', h3, h4, _, h5⟩ := dd'
      refine h2 q0 _ _ (d_write (t' := _) I (by rw [e]; exact True.intro) hs ⟨o, hq⟩ ⟨hl2, hd, _, (rel.put k eb rd).keeps fun c ys ec => ?_, o, es, ep, hq, h2', h3, h4, h5⟩) rd
      rw [upd_ne (ne_of ec e (fun z => nomatch z))]
      exact ec
end
def tDSetdT (td ty tx : TE) : TE := fun σ H Q => td σ H fun x H1 => ∃ a, x = .ref a ∧ IsD H1 a ∧ ty σ H1 fun y H2 => tx σ H2 fun z H3 => ∃ (kvs : List (List Key × V)) (k : List Key) (b : Addr), H3 a = some (.dT kvs) ∧ y = .ref b ∧ H3 b = some (.tup (k.map kV)) ∧ kvs.length < sizeLine ∧
  (∀ v, valV kvs k = some v → Q v H3) ∧ (valV kvs k = none → Q z (upd H3 a (.dT (putK kvs k z))))
section
variable {X : Cx} {o e f : Expr} {td ty tx : TE} {apos cpos : Pos}
theorem pe_dsetdT (hu : X.A.units + 1 < cLine) (ho : PE X o td) (he : PE X e ty) (hf : PE X f tx) (m : M2 X o "setdefault" apos e f cpos) : PE X (.Call (.Attribute o "setdefault" apos) [e, f] [] cpos) (tDSetdT td ty tx) := by
  refine ⟨fun pins s σ H Q I h => ?_⟩
  refine wpAny_Call_method m.base m.few m.line PySem.F.plainAttrs_dict PySem.F.slot_dict_setdefault PySem.F.type_dict_setdefault (thn (ho.run pins s σ H _ I h) fun u s1 ⟨x, H1, I1, rx, a, ex, d, q1⟩ => ?_)
  subst ex
  obtain rfl : u = Value.ref a := rx
  obtain ⟨t1, t2, _⟩ := isD_at I1 d
  refine ⟨t1, t2, ?_⟩
  rw [m.trees]
  refine Calls.callWith_builtin rfl (Calls.evalArgs_plain (Calls.spliced_cons (thn (he.run pins s1 σ H1 _ I1 q1) fun iv s2 ⟨y, H2, I2, ry, q2⟩ =>
    Calls.spliced_cons (thn (hf.run pins s2 σ H2 _ I2 q2) fun fv s3 ⟨z, H3, I3, rz, kvs, k, b, ea, ey, eb, hl, q3, q4⟩ => Calls.spliced_nil ?_))))
  subst ey
  obtain rfl : iv = Value.ref b := ry
  exact d_setdT hu I3 ea eb rz hl (fun v hv w' s4 I4 rw' => ⟨v, _, I4, rw', q3 v hv⟩) fun hn w' s4 I4 rw' => ⟨z, _, I4, rw', q4 hn⟩
end
/-! ### what stands beside the source -/
def hide (H : Hp) (p : Addr) : Hp := fun c => if c = p then none else H c
section
variable {H H' : Hp} {p q : Addr} {o : HO}
theorem hide_at (h : q ≠ p) : hide H p q = H q := if_neg h
theorem hide_self : hide H p p = none := if_pos rfl
theorem But.hide (b : But p H H') : Same (hide H p) (NL.hide H' p) := fun c x h => by
  by_cases e : c = p
  · rw [e, hide_self] at h; cases h
  · rw [hide_at e] at h ⊢; exact b c x e h
theorem hide_put (h : H q = some o) (e : q ≠ p) : NL.hide H p q = some o := by rw [hide_at e]; exact h
end
end NL
/-! ### dicts whose keys are of any kind: texts, ints, bools, None, tuples of such, beside one another -/
namespace NL
open PySem PySem.Spec PyProof.Rows
section
variable {P : Program} {w : World} {A : Around} {E : Value → Shared → Prop} {s : Shared}
/-- an entry with the key k -/
def EnK (w : World) (h : Heap) (k : NestedKey) (e : DictEntry) : Prop := e.hash = k.hash w ∧ NestedIs h k e.key ∧ k.depth ≤ 8
abbrev EnKs (w : World) (h : Heap) (ks : List NestedKey) (es : List DictEntry) : Prop := Paired (EnK w h) ks es
theorem EnKs.at : ∀ {h : Heap} {ks : List NestedKey} {es : List DictEntry} {i : Nat} {e : DictEntry}, EnKs w h ks es → es[i]? = some e → ∃ k, ks[i]? = some k ∧ EnK w h k e
  | _, _, _, _, _, .nil, q => by simp at q
  | _, _, _, 0, _, .cons r _, q => by simp at q; subst q; exact ⟨_, rfl, r⟩
  | _, _, _, i + 1, e, .cons _ t, q => by
    obtain ⟨k, h1, h2⟩ := EnKs.at (i := i) (e := e) t (by simpa using q)
    exact ⟨k, by simpa using h1, h2⟩
theorem EnKs.of : ∀ {h : Heap} {ks : List NestedKey} {es : List DictEntry} {i : Nat} {k : NestedKey}, EnKs w h ks es → ks[i]? = some k → ∃ e, es[i]? = some e ∧ EnK w h k e
  | _, _, _, _, _, .nil, q => by simp at q
  | _, _, _, 0, _, .cons r _, q => by simp at q; subst q; exact ⟨_, rfl, r⟩
  | _, _, _, i + 1, e, .cons _ t, q => by
    obtain ⟨k, h1, h2⟩ := EnKs.of (i := i) t (by simpa using q)
    exact ⟨k, by simpa using h1, h2⟩
/-- what a search must tell -/
def FoundK (ks : List NestedKey) (k : NestedKey) : Option Nat → Prop
  | none => k ∉ ks
  | some j => ks[j]? = some k
theorem nodup_at {α : Type} {l : List α} (hn : l.Nodup) {i j : Nat} {x : α} (hi : l[i]? = some x) (hj : l[j]? = some x) : i = j :=
  (List.getElem?_inj (List.getElem?_eq_some_iff.mp hi).1 hn).mp (hi.trans hj.symm)
theorem tell_quiet {u : Value} {k : NestedKey} {stored : List Value} {Q : Bool → Shared → Prop} (hk : NestedIs s.heap k u) (h8 : k.depth ≤ 8) (hst : ∀ v ∈ stored, ∃ k', NestedIs s.heap k' v ∧ k'.depth ≤ 8) (h : Q false s) :
    wpAny (model P w) A (tableMayTell u stored) Q E s := by
  unfold tableMayTell
  by_cases he : stored.isEmpty = true
  · rw [if_pos he]; exact wpAny_pure h
  rw [if_neg he]
  refine wpAny_bind (quiet_key k u 8 s hk h8 A E _ ?_)
  show wpAny _ _ (if (!true) = true then _ else _) _ _ _
  rw [if_neg (by decide)]
  refine wpAny_bind ?_
  refine wpAny_forIn_list _ (fun l b s' => s' = s ∧ b = (none, ()) ∧ ∀ v ∈ l, ∃ k', NestedIs s.heap k' v ∧ k'.depth ≤ 8) _ ?_ ?_ _ _ ⟨rfl, rfl, hst⟩
  · rintro x l b s' ⟨e1, e2, hl⟩
    subst e1; subst e2
    obtain ⟨k', hx, h8'⟩ := hl x (List.mem_cons_self ..)
    refine wpAny_bind (quiet_key k' x 8 s' hx h8' A E _ ?_)
    show wpAny _ _ (if (!true) = true then _ else _) _ _ _
    rw [if_neg (by decide)]
    exact wpAny_pure ⟨rfl, rfl, fun v hv => hl v (List.mem_cons_of_mem _ hv)⟩
  · rintro b s' ⟨e1, e2, _⟩
    subst e1; subst e2
    exact wpAny_pure h
/-- how far a search has come -/
def SeekK (ks : List NestedKey) (k : NestedKey) (whole rest : List Nat) (hit : Option Nat) : Prop := ∃ done, whole = done ++ rest ∧ match hit with
  | none => ∀ i ∈ done, ks[i]? ≠ some k
  | some j => ks[j]? = some k ∧ j ∈ done
theorem SeekK.fin {ks : List NestedKey} {k : NestedKey} {whole : List Nat} {hit : Option Nat} (h : SeekK ks k whole [] hit) (hw : ∀ i, ks[i]? = some k → i ∈ whole) : FoundK ks k hit := by
  obtain ⟨done, e, hd⟩ := h
  rw [List.append_nil] at e
  subst e
  cases hit with
  | some j => exact hd.1
  | none =>
    intro hm
    obtain ⟨i, hi⟩ := List.mem_iff_getElem?.mp hm
    exact hd i (hw i hi) hi
theorem dict_find {d : Addr} {u : Value} {k : NestedKey} {o : Obj} {es : Array DictEntry} {ep : Nat} {ks : List NestedKey} {Q : Option Nat → Shared → Prop} (hu : A.units + 8 < cLine) (hk : NestedIs s.heap k u) (h8 : k.depth ≤ 8)
    (ho : s.heap.get? d = some o) (hd : o.data = .dict es ep) (hes : EnKs w s.heap ks es.toList) (hn : ks.Nodup) (h : ∀ r, FoundK ks k r → Q r s) : wpAny (model P w) A (dictFind d u (k.hash w)) Q E s := by
  have hplaces : ∀ i, i ∈ placesWithHash es.size (fun i => es[i]?.map (·.hash)) (k.hash w) ↔ ∃ e, es[i]? = some e ∧ e.hash = k.hash w := fun i => by
    unfold placesWithHash
    rw [List.mem_filter, List.mem_range]
    constructor
    · rintro ⟨h1, h2⟩
      refine ⟨es[i], by simp [h1], ?_⟩
      simpa [h1] using h2
    · rintro ⟨e, h1, h2⟩
      have : i < es.size := by
        rcases Nat.lt_or_ge i es.size with c | c
        · exact c
        · rw [Array.getElem?_eq_none c] at h1; cases h1
      refine ⟨this, ?_⟩
      show (Option.map (fun x => x.hash) es[i]? == _) = true
      rw [h1]; simp [h2]
  have hwhole : ∀ i, ks[i]? = some k → i ∈ placesWithHash es.size (fun i => es[i]?.map (·.hash)) (k.hash w) := fun i hi => by
    obtain ⟨e, h1, h2⟩ := EnKs.of hes hi
    rw [Array.getElem?_toList] at h1
    exact (hplaces i).mpr ⟨e, h1, h2.1⟩
  have hat : ∀ {i : Nat} {e : DictEntry}, es[i]? = some e → ∃ k', ks[i]? = some k' ∧ EnK w s.heap k' e := fun {i e} q => EnKs.at hes (by rw [Array.getElem?_toList]; exact q)
  have hst : ∀ v ∈ (placesWithHash es.size (fun i => es[i]?.map (·.hash)) (k.hash w)).filterMap (fun i => es[i]?.map (·.key)), ∃ k', NestedIs s.heap k' v ∧ k'.depth ≤ 8 := fun v hv => by
    obtain ⟨i, _, hi⟩ := List.mem_filterMap.mp hv
    obtain ⟨e, h1, rfl⟩ := Option.map_eq_some_iff.mp hi
    obtain ⟨k', _, _, h3, h4⟩ := hat h1
    exact ⟨k', h3, h4⟩
  generalize hpl : placesWithHash es.size (fun i => es[i]?.map (·.hash)) (k.hash w) = places at hplaces hwhole hst
  /- one step of either walk -/
  have eqk : ∀ {i : Nat} {e : DictEntry} {R : Bool → Shared → Prop}, es[i]? = some e → R (decide (ks[i]? = some k)) s → wpAny (model P w) A (eqBool e.key u) R E s := fun {i e R} q hR => by
    obtain ⟨k', h1, _, h3, h4⟩ := hat q
    refine eqAt_key k' k A s e.key u h3 hk (by omega) P w E R ?_
    rw [← NestedKey.decide_eq]
    have : decide (k' = k) = decide (ks[i]? = some k) := by rw [h1]; simp
    rw [this]; exact hR
  have step : ∀ {x : Nat} {rest : List Nat} {hit : Option Nat}, SeekK ks k places (x :: rest) hit → ks[x]? ≠ some k → SeekK ks k places rest hit := fun {x rest hit} ⟨done, e, hd⟩ hx => by
    refine ⟨done ++ [x], by rw [e]; simp, ?_⟩
    cases hit with
    | none =>
      intro i hi
      rcases List.mem_append.mp hi with q | q
      · exact hd i q
      · rw [List.mem_singleton.mp q]; exact hx
    | some j => exact ⟨hd.1, List.mem_append_left _ hd.2⟩
  have hit1 : ∀ {x : Nat} {rest : List Nat} {hit : Option Nat}, SeekK ks k places (x :: rest) hit → ks[x]? = some k → (∀ i, i ∈ (placesWithHash es.size (fun i => es[i]?.map (·.hash)) (k.hash w)) → True) → hit = none ∧ SeekK ks k places rest (some x) := fun {x rest hit} ⟨done, e, hd⟩ hx _ => by
    have nd : places.Nodup := by
      rw [← hpl]; unfold placesWithHash
      exact List.Nodup.sublist List.filter_sublist List.nodup_range
    cases hit with
    | none => exact ⟨rfl, done ++ [x], by rw [e]; simp, hx, by simp⟩
    | some j =>
      have : j = x := nodup_at hn hd.1 hx
      subst this
      rw [e, List.nodup_append] at nd
      exact absurd rfl (nd.2.2 j hd.2 j List.mem_cons_self)
  unfold dictFind
  try with_reducible refine wpAny_holding ?_
  refine wpAny_bind (wpAny_dictEntries ho hd ?_)
  have plain : (u :: (places.filterMap fun i => es[i]?.map (·.key))).all carriedByValue = true → wpAny (model P w) A (dictWalkPlain d u (k.hash w) es places) Q E s := fun _ => by
    unfold dictWalkPlain
    refine wpAny_bind ?_
    refine wpAny_forIn_list _ (fun l b s' => s' = s ∧ b = (none, ()) ∧ SeekK ks k places l none) _ ?_ ?_ _ _ ⟨rfl, rfl, [], rfl, fun i hi => nomatch hi⟩
    · rintro x l b s' ⟨e1, e2, hl⟩
      subst e1; subst e2
      have hx : x ∈ places := by obtain ⟨done, e, _⟩ := hl; rw [e]; simp
      obtain ⟨e, he, hh⟩ := (hplaces x).mp hx
      rw [he]
      dsimp only
      rw [if_pos (by rw [hh]; simp)]
      refine wpAny_bind (wpAny_dictEpoch ho hd (wpAny_bind (eqk he (wpAny_bind (wpAny_dictEpoch ho hd ?_)))))
      rw [if_neg (by simp)]
      by_cases hm : ks[x]? = some k
      · rw [decide_eq_true hm]
        refine wpAny_bind (wpAny_rule ?_)
        exact wpAny_pure (wpAny_pure (h _ hm))
      · rw [decide_eq_false hm]
        refine wpAny_bind (wpAny_rule ?_)
        exact wpAny_pure ⟨rfl, rfl, step hl hm⟩
    · rintro b s' ⟨e1, e2, hl⟩
      subst e1; subst e2
      exact wpAny_pure (h _ (hl.fin hwhole))
  rw [hpl]
  generalize hstored : (places.filterMap fun i => es[i]?.map (·.key)) = stored at hst plain
  have nref : ∀ a, u = .ref a → ¬ (es.any fun e => e.key == u && e.hash != k.hash w) = true := fun a ea hany => by
    rw [← Array.any_toList, List.any_eq_true] at hany
    obtain ⟨e, he, hc⟩ := hany
    obtain ⟨i, hi⟩ := List.mem_iff_getElem?.mp he
    rw [Array.getElem?_toList] at hi
    obtain ⟨k', _, q1, q2, _⟩ := hat hi
    simp only [Bool.and_eq_true, beq_iff_eq, bne_iff_ne, ne_eq] at hc
    rw [hc.1] at q2
    exact hc.2 (by rw [q1, NestedIs.inj _ _ _ q2 hk])
  have byStr : ∀ z t, u = .str z t → (es.all fun e => isExactStrKey e.key) = true → wpAny (model P w) A (foundByValue d u es z) Q E s := fun z t eu hall => by
    unfold foundByValue
    have ek : k = .text z := by subst eu; cases hk; rfl
    have keys : ∀ {i : Nat} {e : DictEntry}, es[i]? = some e → e.key.isStr z = decide (ks[i]? = some k) := fun {i e} q => by
      obtain ⟨k', h1, _, h3, _⟩ := hat q
      have hs : isExactStrKey e.key = true := by
        have := Array.all_eq_true.mp hall
        obtain ⟨hi, e2⟩ := Array.getElem?_eq_some_iff.mp q
        have := this i hi
        rw [e2] at this; exact this
      rw [h1, ek]
      generalize e.key = y at h3 hs
      cases h3 with
      | text x t' => by_cases hx : x = z <;> simp [Value.isStr, hx]
      | _ => cases hs
    cases hf : es.findIdx? (fun e => e.key.isStr z) with
    | none =>
      refine wpAny_pure (h none fun hm => ?_)
      obtain ⟨i, hi⟩ := List.mem_iff_getElem?.mp hm
      obtain ⟨e, h1, _⟩ := EnKs.of hes hi
      rw [Array.getElem?_toList] at h1
      have := keys h1
      rw [decide_eq_true hi] at this
      have hn := Array.findIdx?_eq_none_iff.mp hf e (Array.mem_of_getElem? h1)
      rw [this] at hn; cases hn
    | some i =>
      obtain ⟨hi, h1, _⟩ := Array.findIdx?_eq_some_iff_getElem.mp hf
      have he : es[i]? = some es[i] := Array.getElem?_eq_getElem hi
      have hki : ks[i]? = some k := of_decide_eq_true (by rw [← keys he]; exact h1)
      dsimp only
      rw [he]
      dsimp only
      refine wpAny_bind (wpAny_dictEpoch ho hd (wpAny_bind (eqk he (wpAny_bind (wpAny_dictEpoch ho hd ?_)))))
      rw [if_neg (by simp)]
      rw [decide_eq_true hki]
      refine wpAny_bind (wpAny_rule ?_)
      exact wpAny_pure (h _ hki)
  have hk0 := hk
  cases hk0 with
  | none =>
    dsimp only
    rw [hstored]
    by_cases hb : (Value.none :: stored).all carriedByValue = true
    · rw [if_pos hb]; exact plain hb
    · rw [if_neg hb]
      by_cases hs : (stored == [Value.none]) = true
      · rw [if_pos hs]
        refine wpAny_bind (wpAny_pure ?_)
        rw [if_neg (by simp)]
        refine wpAny_bind ?_
        refine wpAny_forIn_list _ (fun l b s' => s' = s ∧ b.1 = none ∧ SeekK ks NestedKey.none places l b.2) _ ?_ ?_ _ _ ⟨rfl, rfl, [], rfl, fun i hi => nomatch hi⟩
        · rintro x l ⟨b1, b2⟩ s' ⟨e1, e2, hl⟩
          have e2 : b1 = none := e2
          subst e1; subst e2
          have hx : x ∈ places := by obtain ⟨done, e, _⟩ := hl; rw [e]; simp
          obtain ⟨e, he, hh⟩ := (hplaces x).mp hx
          rw [he]
          dsimp only
          rw [if_pos (by rw [hh]; simp)]
          refine wpAny_bind (wpAny_dictEpoch ho hd (wpAny_bind (eqk he (wpAny_bind (wpAny_dictEpoch ho hd ?_)))))
          rw [if_neg (by simp)]
          by_cases hm : ks[x]? = some NestedKey.none
          · rw [decide_eq_true hm, if_pos rfl]
            obtain ⟨hb, hl'⟩ := hit1 hl hm fun _ _ => trivial
            have hb : b2 = none := hb
            subst hb
            rw [if_neg (by decide)]
            refine wpAny_bind (wpAny_rule ?_)
            split
            · exact wpAny_pure (wpAny_pure (h _ hm))
            · exact wpAny_pure ⟨rfl, rfl, hl'⟩
          · rw [decide_eq_false hm, if_neg (by decide)]
            refine wpAny_bind (wpAny_rule ?_)
            rw [Bool.false_and, if_neg (by decide)]
            exact wpAny_pure ⟨rfl, rfl, step hl hm⟩
        · rintro ⟨b1, b2⟩ s' ⟨e1, e2, hl⟩
          have e2 : b1 = none := e2
          subst e1; subst e2
          exact wpAny_pure (h _ (hl.fin hwhole))
      · rw [if_neg hs]
        refine wpAny_bind (tell_quiet hk h8 hst ?_)
        rw [if_neg (by simp)]
        refine wpAny_bind ?_
        refine wpAny_forIn_list _ (fun l b s' => s' = s ∧ b.1 = none ∧ SeekK ks NestedKey.none places l b.2) _ ?_ ?_ _ _ ⟨rfl, rfl, [], rfl, fun i hi => nomatch hi⟩
        · rintro x l ⟨b1, b2⟩ s' ⟨e1, e2, hl⟩
          have e2 : b1 = none := e2
          subst e1; subst e2
          have hx : x ∈ places := by obtain ⟨done, e, _⟩ := hl; rw [e]; simp
          obtain ⟨e, he, hh⟩ := (hplaces x).mp hx
          rw [he]
          dsimp only
          rw [if_pos (by rw [hh]; simp)]
          refine wpAny_bind (wpAny_dictEpoch ho hd (wpAny_bind (eqk he (wpAny_bind (wpAny_dictEpoch ho hd ?_)))))
          rw [if_neg (by simp)]
          by_cases hm : ks[x]? = some NestedKey.none
          · rw [decide_eq_true hm, if_pos rfl]
            obtain ⟨hb, hl'⟩ := hit1 hl hm fun _ _ => trivial
            have hb : b2 = none := hb
            subst hb
            rw [if_neg (by decide)]
            refine wpAny_bind (wpAny_rule ?_)
            split
            · exact wpAny_pure (wpAny_pure (h _ hm))
            · exact wpAny_pure ⟨rfl, rfl, hl'⟩
          · rw [decide_eq_false hm, if_neg (by decide)]
            refine wpAny_bind (wpAny_rule ?_)
            rw [Bool.false_and, if_neg (by decide)]
            exact wpAny_pure ⟨rfl, rfl, step hl hm⟩
        · rintro ⟨b1, b2⟩ s' ⟨e1, e2, hl⟩
          have e2 : b1 = none := e2
          subst e1; subst e2
          exact wpAny_pure (h _ (hl.fin hwhole))
  | @bool b i e =>
    dsimp only
    rw [hstored]
    by_cases hb : (Value.bool b :: stored).all carriedByValue = true
    · rw [if_pos hb]; exact plain hb
    · rw [if_neg hb]
      by_cases hs : (stored == [Value.bool b]) = true
      · rw [if_pos hs]
        refine wpAny_bind (wpAny_pure ?_)
        rw [if_neg (by simp)]
        refine wpAny_bind ?_
        refine wpAny_forIn_list _ (fun l b s' => s' = s ∧ b.1 = none ∧ SeekK ks (NestedKey.num i) places l b.2) _ ?_ ?_ _ _ ⟨rfl, rfl, [], rfl, fun i hi => nomatch hi⟩
        · rintro x l ⟨b1, b2⟩ s' ⟨e1, e2, hl⟩
          have e2 : b1 = none := e2
          subst e1; subst e2
          have hx : x ∈ places := by obtain ⟨done, e, _⟩ := hl; rw [e]; simp
          obtain ⟨e, he, hh⟩ := (hplaces x).mp hx
          rw [he]
          dsimp only
          rw [if_pos (by rw [hh]; simp)]
          refine wpAny_bind (wpAny_dictEpoch ho hd (wpAny_bind (eqk he (wpAny_bind (wpAny_dictEpoch ho hd ?_)))))
          rw [if_neg (by simp)]
          by_cases hm : ks[x]? = some (NestedKey.num i)
          · rw [decide_eq_true hm, if_pos rfl]
            obtain ⟨hb, hl'⟩ := hit1 hl hm fun _ _ => trivial
            have hb : b2 = none := hb
            subst hb
            rw [if_neg (by decide)]
            refine wpAny_bind (wpAny_rule ?_)
            split
            · exact wpAny_pure (wpAny_pure (h _ hm))
            · exact wpAny_pure ⟨rfl, rfl, hl'⟩
          · rw [decide_eq_false hm, if_neg (by decide)]
            refine wpAny_bind (wpAny_rule ?_)
            rw [Bool.false_and, if_neg (by decide)]
            exact wpAny_pure ⟨rfl, rfl, step hl hm⟩
        · rintro ⟨b1, b2⟩ s' ⟨e1, e2, hl⟩
          have e2 : b1 = none := e2
          subst e1; subst e2
          exact wpAny_pure (h _ (hl.fin hwhole))
      · rw [if_neg hs]
        refine wpAny_bind (tell_quiet hk h8 hst ?_)
        rw [if_neg (by simp)]
        refine wpAny_bind ?_
        refine wpAny_forIn_list _ (fun l b s' => s' = s ∧ b.1 = none ∧ SeekK ks (NestedKey.num i) places l b.2) _ ?_ ?_ _ _ ⟨rfl, rfl, [], rfl, fun i hi => nomatch hi⟩
        · rintro x l ⟨b1, b2⟩ s' ⟨e1, e2, hl⟩
          have e2 : b1 = none := e2
          subst e1; subst e2
          have hx : x ∈ places := by obtain ⟨done, e, _⟩ := hl; rw [e]; simp
          obtain ⟨e, he, hh⟩ := (hplaces x).mp hx
          rw [he]
          dsimp only
          rw [if_pos (by rw [hh]; simp)]
          refine wpAny_bind (wpAny_dictEpoch ho hd (wpAny_bind (eqk he (wpAny_bind (wpAny_dictEpoch ho hd ?_)))))
          rw [if_neg (by simp)]
          by_cases hm : ks[x]? = some (NestedKey.num i)
          · rw [decide_eq_true hm, if_pos rfl]
            obtain ⟨hb, hl'⟩ := hit1 hl hm fun _ _ => trivial
            have hb : b2 = none := hb
            subst hb
            rw [if_neg (by decide)]
            refine wpAny_bind (wpAny_rule ?_)
            split
            · exact wpAny_pure (wpAny_pure (h _ hm))
            · exact wpAny_pure ⟨rfl, rfl, hl'⟩
          · rw [decide_eq_false hm, if_neg (by decide)]
            refine wpAny_bind (wpAny_rule ?_)
            rw [Bool.false_and, if_neg (by decide)]
            exact wpAny_pure ⟨rfl, rfl, step hl hm⟩
        · rintro ⟨b1, b2⟩ s' ⟨e1, e2, hl⟩
          have e2 : b1 = none := e2
          subst e1; subst e2
          exact wpAny_pure (h _ (hl.fin hwhole))
  | int i t =>
    dsimp only
    rw [hstored]
    by_cases hb : (Value.int i t :: stored).all carriedByValue = true
    · rw [if_pos hb]; exact plain hb
    · rw [if_neg hb]
      by_cases hs : (stored == [Value.int i t]) = true
      · rw [if_pos hs]
        refine wpAny_bind (wpAny_pure ?_)
        rw [if_neg (by simp)]
        refine wpAny_bind ?_
        refine wpAny_forIn_list _ (fun l b s' => s' = s ∧ b.1 = none ∧ SeekK ks (NestedKey.num i) places l b.2) _ ?_ ?_ _ _ ⟨rfl, rfl, [], rfl, fun i hi => nomatch hi⟩
        · rintro x l ⟨b1, b2⟩ s' ⟨e1, e2, hl⟩
          have e2 : b1 = none := e2
          subst e1; subst e2
          have hx : x ∈ places := by obtain ⟨done, e, _⟩ := hl; rw [e]; simp
          obtain ⟨e, he, hh⟩ := (hplaces x).mp hx
          rw [he]
          dsimp only
          rw [if_pos (by rw [hh]; simp)]
          refine wpAny_bind (wpAny_dictEpoch ho hd (wpAny_bind (eqk he (wpAny_bind (wpAny_dictEpoch ho hd ?_)))))
          rw [if_neg (by simp)]
          by_cases hm : ks[x]? = some (NestedKey.num i)
          · rw [decide_eq_true hm, if_pos rfl]
            obtain ⟨hb, hl'⟩ := hit1 hl hm fun _ _ => trivial
            have hb : b2 = none := hb
            subst hb
            rw [if_neg (by decide)]
            refine wpAny_bind (wpAny_rule ?_)
            split
            · exact wpAny_pure (wpAny_pure (h _ hm))
            · exact wpAny_pure ⟨rfl, rfl, hl'⟩
          · rw [decide_eq_false hm, if_neg (by decide)]
            refine wpAny_bind (wpAny_rule ?_)
            rw [Bool.false_and, if_neg (by decide)]
            exact wpAny_pure ⟨rfl, rfl, step hl hm⟩
        · rintro ⟨b1, b2⟩ s' ⟨e1, e2, hl⟩
          have e2 : b1 = none := e2
          subst e1; subst e2
          exact wpAny_pure (h _ (hl.fin hwhole))
      · rw [if_neg hs]
        refine wpAny_bind (tell_quiet hk h8 hst ?_)
        rw [if_neg (by simp)]
        refine wpAny_bind ?_
        refine wpAny_forIn_list _ (fun l b s' => s' = s ∧ b.1 = none ∧ SeekK ks (NestedKey.num i) places l b.2) _ ?_ ?_ _ _ ⟨rfl, rfl, [], rfl, fun i hi => nomatch hi⟩
        · rintro x l ⟨b1, b2⟩ s' ⟨e1, e2, hl⟩
          have e2 : b1 = none := e2
          subst e1; subst e2
          have hx : x ∈ places := by obtain ⟨done, e, _⟩ := hl; rw [e]; simp
          obtain ⟨e, he, hh⟩ := (hplaces x).mp hx
          rw [he]
          dsimp only
          rw [if_pos (by rw [hh]; simp)]
          refine wpAny_bind (wpAny_dictEpoch ho hd (wpAny_bind (eqk he (wpAny_bind (wpAny_dictEpoch ho hd ?_)))))
          rw [if_neg (by simp)]
          by_cases hm : ks[x]? = some (NestedKey.num i)
          · rw [decide_eq_true hm, if_pos rfl]
            obtain ⟨hb, hl'⟩ := hit1 hl hm fun _ _ => trivial
            have hb : b2 = none := hb
            subst hb
            rw [if_neg (by decide)]
            refine wpAny_bind (wpAny_rule ?_)
            split
            · exact wpAny_pure (wpAny_pure (h _ hm))
            · exact wpAny_pure ⟨rfl, rfl, hl'⟩
          · rw [decide_eq_false hm, if_neg (by decide)]
            refine wpAny_bind (wpAny_rule ?_)
            rw [Bool.false_and, if_neg (by decide)]
            exact wpAny_pure ⟨rfl, rfl, step hl hm⟩
        · rintro ⟨b1, b2⟩ s' ⟨e1, e2, hl⟩
          have e2 : b1 = none := e2
          subst e1; subst e2
          exact wpAny_pure (h _ (hl.fin hwhole))
  | text z t =>
    dsimp only
    rw [hstored]
    by_cases ha : (es.all fun e => isExactStrKey e.key) = true
    · rw [if_pos ha]
      exact byStr z t rfl ha
    rw [if_neg ha]
    by_cases hb : (Value.str z t :: stored).all carriedByValue = true
    · rw [if_pos hb]; exact plain hb
    · rw [if_neg hb]
      by_cases hs : (stored == [Value.str z t]) = true
      · rw [if_pos hs]
        refine wpAny_bind (wpAny_pure ?_)
        rw [if_neg (by simp)]
        refine wpAny_bind ?_
        refine wpAny_forIn_list _ (fun l b s' => s' = s ∧ b.1 = none ∧ SeekK ks (NestedKey.text z) places l b.2) _ ?_ ?_ _ _ ⟨rfl, rfl, [], rfl, fun i hi => nomatch hi⟩
        · rintro x l ⟨b1, b2⟩ s' ⟨e1, e2, hl⟩
          have e2 : b1 = none := e2
          subst e1; subst e2
          have hx : x ∈ places := by obtain ⟨done, e, _⟩ := hl; rw [e]; simp
          obtain ⟨e, he, hh⟩ := (hplaces x).mp hx
          rw [he]
          dsimp only
          rw [if_pos (by rw [hh]; simp)]
          refine wpAny_bind (wpAny_dictEpoch ho hd (wpAny_bind (eqk he (wpAny_bind (wpAny_dictEpoch ho hd ?_)))))
          rw [if_neg (by simp)]
          by_cases hm : ks[x]? = some (NestedKey.text z)
          · rw [decide_eq_true hm, if_pos rfl]
            obtain ⟨hb, hl'⟩ := hit1 hl hm fun _ _ => trivial
            have hb : b2 = none := hb
            subst hb
            rw [if_neg (by decide)]
            refine wpAny_bind (wpAny_rule ?_)
            split
            · exact wpAny_pure (wpAny_pure (h _ hm))
            · exact wpAny_pure ⟨rfl, rfl, hl'⟩
          · rw [decide_eq_false hm, if_neg (by decide)]
            refine wpAny_bind (wpAny_rule ?_)
            rw [Bool.false_and, if_neg (by decide)]
            exact wpAny_pure ⟨rfl, rfl, step hl hm⟩
        · rintro ⟨b1, b2⟩ s' ⟨e1, e2, hl⟩
          have e2 : b1 = none := e2
          subst e1; subst e2
          exact wpAny_pure (h _ (hl.fin hwhole))
      · rw [if_neg hs]
        refine wpAny_bind (tell_quiet hk h8 hst ?_)
        rw [if_neg (by simp)]
        refine wpAny_bind ?_
        refine wpAny_forIn_list _ (fun l b s' => s' = s ∧ b.1 = none ∧ SeekK ks (NestedKey.text z) places l b.2) _ ?_ ?_ _ _ ⟨rfl, rfl, [], rfl, fun i hi => nomatch hi⟩
        · rintro x l ⟨b1, b2⟩ s' ⟨e1, e2, hl⟩
          have e2 : b1 = none := e2
          subst e1; subst e2
          have hx : x ∈ places := by obtain ⟨done, e, _⟩ := hl; rw [e]; simp
          obtain ⟨e, he, hh⟩ := (hplaces x).mp hx
          rw [he]
          dsimp only
          rw [if_pos (by rw [hh]; simp)]
          refine wpAny_bind (wpAny_dictEpoch ho hd (wpAny_bind (eqk he (wpAny_bind (wpAny_dictEpoch ho hd ?_)))))
          rw [if_neg (by simp)]
          by_cases hm : ks[x]? = some (NestedKey.text z)
          · rw [decide_eq_true hm, if_pos rfl]
            obtain ⟨hb, hl'⟩ := hit1 hl hm fun _ _ => trivial
            have hb : b2 = none := hb
            subst hb
            rw [if_neg (by decide)]
            refine wpAny_bind (wpAny_rule ?_)
            split
            · exact wpAny_pure (wpAny_pure (h _ hm))
            · exact wpAny_pure ⟨rfl, rfl, hl'⟩
          · rw [decide_eq_false hm, if_neg (by decide)]
            refine wpAny_bind (wpAny_rule ?_)
            rw [Bool.false_and, if_neg (by decide)]
            exact wpAny_pure ⟨rfl, rfl, step hl hm⟩
        · rintro ⟨b1, b2⟩ s' ⟨e1, e2, hl⟩
          have e2 : b1 = none := e2
          subst e1; subst e2
          exact wpAny_pure (h _ (hl.fin hwhole))
  | @tup a o2 vs2 n2 ks2 h1 h2 h3 h4 =>
    dsimp only
    rw [hstored]
    by_cases hb : (Value.ref a :: stored).all carriedByValue = true
    · rw [if_pos hb]; exact plain hb
    · rw [if_neg hb]
      rw [if_neg (nref _ rfl)]
      by_cases hs : (stored == [Value.ref a]) = true
      · rw [if_pos hs]
        refine wpAny_bind (wpAny_pure ?_)
        rw [if_neg (by simp)]
        refine wpAny_bind ?_
        refine wpAny_forIn_list _ (fun l b s' => s' = s ∧ b.1 = none ∧ SeekK ks (NestedKey.tup ks2) places l b.2) _ ?_ ?_ _ _ ⟨rfl, rfl, [], rfl, fun i hi => nomatch hi⟩
        · rintro x l ⟨b1, b2⟩ s' ⟨e1, e2, hl⟩
          have e2 : b1 = none := e2
          subst e1; subst e2
          have hx : x ∈ places := by obtain ⟨done, e, _⟩ := hl; rw [e]; simp
          obtain ⟨e, he, hh⟩ := (hplaces x).mp hx
          rw [he]
          dsimp only
          rw [if_pos (by rw [hh]; simp)]
          refine wpAny_bind (wpAny_dictEpoch ho hd (wpAny_bind (eqk he (wpAny_bind (wpAny_dictEpoch ho hd ?_)))))
          rw [if_neg (by simp)]
          by_cases hm : ks[x]? = some (NestedKey.tup ks2)
          · rw [decide_eq_true hm, if_pos rfl]
            obtain ⟨hb, hl'⟩ := hit1 hl hm fun _ _ => trivial
            have hb : b2 = none := hb
            subst hb
            rw [if_neg (by decide)]
            refine wpAny_bind (wpAny_rule ?_)
            split
            · exact wpAny_pure (wpAny_pure (h _ hm))
            · exact wpAny_pure ⟨rfl, rfl, hl'⟩
          · rw [decide_eq_false hm, if_neg (by decide)]
            refine wpAny_bind (wpAny_rule ?_)
            rw [Bool.false_and, if_neg (by decide)]
            exact wpAny_pure ⟨rfl, rfl, step hl hm⟩
        · rintro ⟨b1, b2⟩ s' ⟨e1, e2, hl⟩
          have e2 : b1 = none := e2
          subst e1; subst e2
          exact wpAny_pure (h _ (hl.fin hwhole))
      · rw [if_neg hs]
        refine wpAny_bind (tell_quiet hk h8 hst ?_)
        rw [if_neg (by simp)]
        refine wpAny_bind ?_
        refine wpAny_forIn_list _ (fun l b s' => s' = s ∧ b.1 = none ∧ SeekK ks (NestedKey.tup ks2) places l b.2) _ ?_ ?_ _ _ ⟨rfl, rfl, [], rfl, fun i hi => nomatch hi⟩
        · rintro x l ⟨b1, b2⟩ s' ⟨e1, e2, hl⟩
          have e2 : b1 = none := e2
          subst e1; subst e2
          have hx : x ∈ places := by obtain ⟨done, e, _⟩ := hl; rw [e]; simp
          obtain ⟨e, he, hh⟩ := (hplaces x).mp hx
          rw [he]
          dsimp only
          rw [if_pos (by rw [hh]; simp)]
          refine wpAny_bind (wpAny_dictEpoch ho hd (wpAny_bind (eqk he (wpAny_bind (wpAny_dictEpoch ho hd ?_)))))
          rw [if_neg (by simp)]
          by_cases hm : ks[x]? = some (NestedKey.tup ks2)
          · rw [decide_eq_true hm, if_pos rfl]
            obtain ⟨hb, hl'⟩ := hit1 hl hm fun _ _ => trivial
            have hb : b2 = none := hb
            subst hb
            rw [if_neg (by decide)]
            refine wpAny_bind (wpAny_rule ?_)
            split
            · exact wpAny_pure (wpAny_pure (h _ hm))
            · exact wpAny_pure ⟨rfl, rfl, hl'⟩
          · rw [decide_eq_false hm, if_neg (by decide)]
            refine wpAny_bind (wpAny_rule ?_)
            rw [Bool.false_and, if_neg (by decide)]
            exact wpAny_pure ⟨rfl, rfl, step hl hm⟩
        · rintro ⟨b1, b2⟩ s' ⟨e1, e2, hl⟩
          have e2 : b1 = none := e2
          subst e1; subst e2
          exact wpAny_pure (h _ (hl.fin hwhole))
end
/-! ### the dict at an address -/
section
variable {P : Program} {w : World}
/-- a dict's entries, with their keys -/
structure DX (w : World) (h : Heap) (d : Addr) (ks : List NestedKey) (es : Array DictEntry) : Prop where
  at_ : ∃ o ep, h.get? d = some o ∧ o.ExactDict ∧ o.data = .dict es ep
  en : EnKs w h ks es.toList
  nd : ks.Nodup
  sz : ks.length ≤ sizeLine
theorem EnKs.len {h : Heap} {ks : List NestedKey} {es : List DictEntry} (x : EnKs w h ks es) : ks.length = es.length := Paired.length x
theorem FoundK.idx {ks : List NestedKey} {k : NestedKey} {r : Option Nat} (hn : ks.Nodup) (h : FoundK ks k r) : r = ks.idxOf? k := by
  cases r with
  | none => exact (List.idxOf?_eq_none_iff.mpr h).symm
  | some j =>
    have h : ks[j]? = some k := h
    obtain ⟨hj, e⟩ := List.getElem?_eq_some_iff.mp h
    cases q : ks.idxOf? k with
    | none => exact absurd (List.mem_of_getElem? h) (List.idxOf?_eq_none_iff.mp q)
    | some i =>
      have hi : ks[i]? = some k := by
        rw [List.idxOf?, List.findIdx?_eq_some_iff_getElem] at q
        obtain ⟨hi, e, _⟩ := q
        rw [List.getElem?_eq_getElem hi, eq_of_beq e]
      rw [nodup_at hn h hi]
variable {A : Around} {E : Value → Shared → Prop} {s : Shared} {d : Addr} {u : Value} {k : NestedKey} {ks : List NestedKey} {es : Array DictEntry}
theorem DX.typeIs (x : DX w s.heap d ks es) : s.TypeIs (.ref d) "dict" := let ⟨o, _, ho, hc, _⟩ := x.at_; ⟨o, ho, hc.1⟩
theorem dx_get {Q : Option Value → Shared → Prop} (hu : A.units + 16 < cLine) (hk : NestedIs s.heap k u) (h8 : k.depth ≤ 8) (x : DX w s.heap d ks es)
    (h : ∀ t, Q ((ks.idxOf? k).bind fun j => es[j]?.map (·.val)) { s with toks := t }) : wpAny (model P w) A (dictGet d u) Q E s := by
  obtain ⟨o, ep, ho, _, hd⟩ := x.at_
  unfold dictGet
  try with_reducible refine wpAny_holding ?_
  refine wpAny_bind (pyHash_key k u A s _ hk (by omega) (wpAny_bind (dict_find (s := { s with toks := s.toks + k.draws }) (by omega) hk h8 ho hd x.en x.nd fun r hr => ?_)))
  rw [← hr.idx x.nd] at h
  cases r with
  | none => exact wpAny_pure (h _)
  | some j =>
    refine wpAny_bind (wpAny_dictEntries (s := { s with toks := s.toks + k.draws }) ho hd ?_)
    exact wpAny_pure (h _)
theorem dx_at (x : DX w s.heap d ks es) {j : Nat} (h : ks.idxOf? k = some j) : ∃ e, es[j]? = some e ∧ ks[j]? = some k := by
  have hi : ks[j]? = some k := by
    rw [List.idxOf?, List.findIdx?_eq_some_iff_getElem] at h
    obtain ⟨hi, e, _⟩ := h
    rw [List.getElem?_eq_getElem hi, eq_of_beq e]
  obtain ⟨e, h1, _⟩ := EnKs.of x.en hi
  exact ⟨e, by rw [← Array.getElem?_toList]; exact h1, hi⟩
/-- the keys behind d[k] = v -/
def keysPut (ks : List NestedKey) (k : NestedKey) : List NestedKey := match ks.idxOf? k with
  | none => ks ++ [k]
  | some _ => ks
def entsPut (w : World) (ks : List NestedKey) (es : Array DictEntry) (k : NestedKey) (u v : Value) : Array DictEntry := match ks.idxOf? k with
  | none => es.push ⟨k.hash w, u, v⟩
  | some j => es.modify j fun e => { e with val := v }
theorem EnKs.keep {h h' : Heap} {es : List DictEntry} (hk : ∀ a o vs n, h.get? a = some o → o.data = .seq vs n → h'.get? a = some o) (x : EnKs w h ks es) : EnKs w h' ks es := by
  induction x with
  | nil => exact .nil
  | cons r _ ih => exact .cons ⟨r.1, NestedIs.at hk _ _ r.2.1, r.2.2⟩ ih
theorem EnKs.modify {h : Heap} {v : Value} : ∀ {ks : List NestedKey} {es : List DictEntry} (j : Nat), EnKs w h ks es → EnKs w h ks (es.modify j fun e => { e with val := v })
  | _, _, _, .nil => by simpa using (Paired.nil : EnKs w h [] [])
  | _, _, 0, .cons r t => by rw [List.modify_zero_cons]; exact .cons r t
  | _, _, j + 1, .cons r t => by rw [List.modify_succ_cons]; exact .cons r (EnKs.modify j t)
theorem dx_put {v : Value} {Q : Unit → Shared → Prop} (hu : A.units + 16 < cLine) (hk : NestedIs s.heap k u) (h8 : k.depth ≤ 8) (x : DX w s.heap d ks es) (hl : ks.length < sizeLine)
    (h : ∀ h' t, DX w h' d (keysPut ks k) (entsPut w ks es k u v) → Heap.SameBut d s.heap h' → Q () { s with heap := h', toks := t }) : wpAny (model P w) A (dictSet d u v) Q E s := by
  obtain ⟨o, ep, ho, hc, hd⟩ := x.at_
  have stay : ∀ {h' : Heap}, Heap.SameBut d s.heap h' → ∀ a o' vs n, s.heap.get? a = some o' → o'.data = .seq vs n → h'.get? a = some o' := fun {h'} hs a o' vs n q1 q2 => by
    refine (hs.2 a fun e => ?_).trans q1
    subst e
    rw [ho] at q1; cases q1
    rw [hd] at q2; cases q2
  have hsz : es.size = ks.length := by rw [x.en.len, Array.length_toList]
  unfold dictSet
  try with_reducible refine wpAny_holding ?_
  refine wpAny_bind (pyHash_key k u A s _ hk (by omega) ?_)
  unfold dictSetHashed
  try with_reducible refine wpAny_holding ?_
  refine wpAny_bind (dict_find (s := { s with toks := s.toks + k.draws }) (by omega) hk h8 ho hd x.en x.nd fun r hr => ?_)
  have hr' := hr.idx x.nd
  unfold keysPut entsPut at h
  rw [← hr'] at h
  cases r with
  | none =>
    have hr : k ∉ ks := hr
    have hs : Heap.SameBut d s.heap (s.heap.update d (Obj.mapDictKeys (·.push ⟨k.hash w, u, v⟩))) := Heap.SameBut.update ..
    refine wpAny_bind (wpAny_rule (wpAny_updateDictKeys (hz := by rw [hsz]; omega) (s := { s with toks := s.toks + k.draws }) ho hd (h _ _ ⟨⟨_, ep + 1, Heap.get?_update_self _ ho (Obj.isFreed_of_dict (Obj.data_mapDictKeys hd _)), hc.mapDictKeys _, Obj.data_mapDictKeys hd _⟩, ?_, ?_, ?_⟩ hs)))
    · rw [Array.toList_push]
      exact Paired.snoc (x.en.keep (stay hs)) ⟨rfl, NestedIs.at (stay hs) _ _ hk, h8⟩
    · rw [List.nodup_append]
      exact ⟨x.nd, by simp, fun a ha b hb e => hr (by rw [List.mem_singleton] at hb; rw [← hb, ← e]; exact ha)⟩
    · rw [List.length_append]; exact hl
  | some j =>
    have hs : Heap.SameBut d s.heap (s.heap.update d (Obj.mapDict (·.modify j fun e => { e with val := v }))) := Heap.SameBut.update ..
    refine wpAny_bind (wpAny_rule (wpAny_bind (wpAny_updateDict (s := { s with toks := s.toks + k.draws }) ho hd (wpAny_point (h _ _ ⟨⟨_, ep, Heap.get?_update_self _ ho (Obj.isFreed_of_dict (Obj.data_mapDict hd _)), hc.mapDict _, Obj.data_mapDict hd _⟩, ?_, x.nd, x.sz⟩ hs)))))
    have e : (es.modify j fun e => { e with val := v }).toList = es.toList.modify j fun e => { e with val := v } := by simp
    rw [e]
    exact EnKs.modify j (x.en.keep (stay hs))
theorem dx_setdef {v : Value} {Q : Value → Shared → Prop} (hu : A.units + 16 < cLine) (hk : NestedIs s.heap k u) (h8 : k.depth ≤ 8) (x : DX w s.heap d ks es) (hl : ks.length < sizeLine)
    (h1 : ∀ j e t, ks.idxOf? k = some j → es[j]? = some e → Q e.val { s with toks := t })
    (h2 : ks.idxOf? k = none → ∀ h' t, DX w h' d (keysPut ks k) (entsPut w ks es k u v) → Heap.SameBut d s.heap h' → Q v { s with heap := h', toks := t }) : wpAny (model P w) A (dictSetDefault d u v) Q E s := by
  obtain ⟨o, ep, ho, hc, hd⟩ := x.at_
  have stay : ∀ {h' : Heap}, Heap.SameBut d s.heap h' → ∀ a o' vs n, s.heap.get? a = some o' → o'.data = .seq vs n → h'.get? a = some o' := fun {h'} hs a o' vs n q1 q2 => by
    refine (hs.2 a fun e => ?_).trans q1
    subst e
    rw [ho] at q1; cases q1
    rw [hd] at q2; cases q2
  have hsz : es.size = ks.length := by rw [x.en.len, Array.length_toList]
  unfold dictSetDefault
  try with_reducible refine wpAny_holding ?_
  refine wpAny_bind (pyHash_key k u A s _ hk (by omega) ?_)
  refine wpAny_bind (dict_find (s := { s with toks := s.toks + k.draws }) (by omega) hk h8 ho hd x.en x.nd fun r hr => ?_)
  have hr' := hr.idx x.nd
  cases r with
  | none =>
    have h2 := h2 hr'.symm
    unfold keysPut entsPut at h2
    rw [← hr'] at h2
    have hr : k ∉ ks := hr
    have hs : Heap.SameBut d s.heap (s.heap.update d (Obj.mapDictKeys (·.push ⟨k.hash w, u, v⟩))) := Heap.SameBut.update ..
    refine wpAny_bind (wpAny_rule (wpAny_bind (wpAny_updateDictKeys (hz := by rw [hsz]; omega) (s := { s with toks := s.toks + k.draws }) ho hd (wpAny_pure (h2 _ _ ⟨⟨_, ep + 1, Heap.get?_update_self _ ho (Obj.isFreed_of_dict (Obj.data_mapDictKeys hd _)), hc.mapDictKeys _, Obj.data_mapDictKeys hd _⟩, ?_, ?_, ?_⟩ hs)))))
    · rw [Array.toList_push]
      exact Paired.snoc (x.en.keep (stay hs)) ⟨rfl, NestedIs.at (stay hs) _ _ hk, h8⟩
    · rw [List.nodup_append]
      exact ⟨x.nd, by simp, fun a ha b hb e => hr (by rw [List.mem_singleton] at hb; rw [← hb, ← e]; exact ha)⟩
    · rw [List.length_append]; exact hl
  | some j =>
    obtain ⟨e, he, _⟩ := dx_at x hr'.symm
    refine wpAny_bind (wpAny_dictEntries (s := { s with toks := s.toks + k.draws }) ho hd ?_)
    rw [he]
    refine wpAny_bind (wpAny_rule ?_)
    exact wpAny_pure (h1 j e _ hr'.symm he)
end
end NL
/-! ### .. over the hand layer -/
namespace NL
open PySem PySem.Spec PyProof.Rows
section
variable {P : Program} {w : World} {A : Around} {E : Value → Shared → Prop} {s : Shared} {d : Addr} {u : Value} {k : NestedKey} {ks : List NestedKey} {es : Array DictEntry}
abbrev valKE (ks : List NestedKey) (es : Array DictEntry) (k : NestedKey) : Option Value := (ks.idxOf? k).bind fun j => es[j]?.map (·.val)
theorem dx_contains {Q : Bool → Shared → Prop} (hu : A.units + 40 < cLine) (hk : NestedIs s.heap k u) (h8 : k.depth ≤ 8) (hd : (d == sysModules) = false) (x : DX w s.heap d ks es)
    (h : ∀ t, Q (valKE ks es k).isSome { s with toks := t }) : wpAny (model P w) A (contains (.ref d) u) Q E s := by
  refine wpAny_contains_slot x.typeIs PySem.F.slot_dict_contains (wpAny_call_entry PySem.F.slot_dict_contains x.typeIs PySem.F.entry_dict_contains ?_ (PySem.F.args_dict_contains_2 _ _))
  show wpAny _ _ (dictGet d u >>= _) _ _ s
  refine wpAny_bind (dx_get (A := A.in1) (by rw [Around.in1_units]; omega) hk h8 x fun t => ?_)
  have h := h t
  unfold valKE at h
  generalize (ks.idxOf? k).bind (fun j => es[j]?.map (·.val)) = ov at h ⊢
  cases ov with
  | some v =>
    show wpAny _ _ (ret (.bool true)) _ _ _
    exact wpAny_pure ⟨_, rfl, wpAny_truthy_bool h⟩
  | none =>
    show wpAny _ _ (Builtin.Dict.pendingKey? d u >>= _) _ _ _
    exact wpAny_bind (wpAny_pendingKey_other hd (wpAny_pure ⟨_, rfl, wpAny_truthy_bool h⟩))
theorem dx_getItem {v : Value} {Q : Value → Shared → Prop} (hu : A.units + 40 < cLine) (hk : NestedIs s.heap k u) (h8 : k.depth ≤ 8) (x : DX w s.heap d ks es) (hv : valKE ks es k = some v)
    (h : ∀ t, Q v { s with toks := t }) : wpAny (model P w) A (getItem (.ref d) u) Q E s := by
  unfold getItem
  try with_reducible refine wpAny_holding ?_
  refine wpAny_bind (wpAny_sequenceKey x.typeIs (by decide) (wpAny_bind (wpAny_callSpecial?_slot (name := Str.ofString "__getitem__") x.typeIs slot_dict_getitem (wpAny_call_entry slot_dict_getitem x.typeIs entry_dict_getitem ?_ (args_dict_getitem _ _)))))
  show wpAny _ _ (dictGet d u >>= _) _ _ s
  refine wpAny_bind (dx_get (A := A.in1) (by rw [Around.in1_units]; omega) hk h8 x fun t => ?_)
  rw [show ((ks.idxOf? k).bind fun j => es[j]?.map (·.val)) = some v from hv]
  exact wpAny_pure ⟨v, rfl, wpAny_pure (h t)⟩
theorem dx_setItem {v : Value} {Q : Unit → Shared → Prop} (hu : A.units + 40 < cLine) (hk : NestedIs s.heap k u) (h8 : k.depth ≤ 8) (x : DX w s.heap d ks es) (hl : ks.length < sizeLine)
    (h : ∀ h' t, DX w h' d (keysPut ks k) (entsPut w ks es k u v) → Heap.SameBut d s.heap h' → Q () { s with heap := h', toks := t }) : wpAny (model P w) A (setItem (.ref d) u v) Q E s := by
  unfold setItem
  try with_reducible refine wpAny_holding ?_
  refine wpAny_bind (wpAny_sequenceKey x.typeIs (by decide) (wpAny_bind (wpAny_callSpecial?_slot (name := Str.ofString "__setitem__") x.typeIs slot_dict_setitem (wpAny_call_entry slot_dict_setitem x.typeIs entry_dict_setitem ?_ (args_dict_setitem _ _ _)))))
  show wpAny _ _ (Builtin.Dict.notOrdered "__setitem__" ⟨[.ref d, u, v], []⟩ >>= _) _ _ s
  refine wpAny_bind (wpAny_notOrdered_dict x.typeIs ?_)
  show wpAny _ _ (dictSet d u v >>= _) _ _ s
  exact wpAny_bind (dx_put (A := A.in1) (by rw [Around.in1_units]; omega) hk h8 x hl fun h' t y hs => wpAny_pure ⟨.none, rfl, wpAny_pure (h h' t y hs)⟩)
theorem dx_sd {r : Value} {Q : Value → Shared → Prop} (hu : A.units + 40 < cLine) (hk : NestedIs s.heap k u) (h8 : k.depth ≤ 8) (hd : (d == sysModules) = false) (x : DX w s.heap d ks es) (hl : ks.length < sizeLine)
    (h1 : ∀ v t, valKE ks es k = some v → Q v { s with toks := t })
    (h2 : valKE ks es k = none → ∀ h' t, DX w h' d (keysPut ks k) (entsPut w ks es k u r) → Heap.SameBut d s.heap h' → Q r { s with heap := h', toks := t }) : wpAny (model P w) A (call (.builtin "dict.setdefault") [.ref d, u, r]) Q E s := by
  refine wpAny_call_entry PySem.F.slot_dict_setdefault x.typeIs PySem.F.entry_dict_setdefault ?_ (PySem.F.args_dict_setdefault_3 _ _ _)
  unfold Builtin.«dict.setdefault»
  refine wpAny_bind ?_
  unfold Builtin.Dict.keyAndDefault
  refine wpAny_bind (wpAny_notOrdered_dict x.typeIs (wpAny_pure ?_))
  show wpAny _ _ (if (d == sysModules) = true then _ else (dictSetDefault d u r >>= _)) _ _ s
  rw [if_neg (by rw [hd]; exact Bool.false_ne_true)]
  refine wpAny_bind (dx_setdef (A := A.in1) (by rw [Around.in1_units]; omega) hk h8 x hl (fun j e t hj he => wpAny_pure ⟨_, rfl, h1 _ _ ?_⟩) fun hn h' t y hs => wpAny_pure ⟨_, rfl, h2 ?_ h' t y hs⟩)
  · unfold valKE; rw [hj, Option.bind_some, he]; rfl
  · unfold valKE; rw [hn]; rfl
end
open L2
/-! what is a key over the abstract heap -/
mutual
inductive KyAt (K : PySem.W.Frag) (H : Hp) : V → NestedKey → Prop
  | non : KyAt K H .non .none
  | bl (b : Bool) : KyAt K H (.bl b) (.num (if b = true then 1 else 0))
  | int (i : Int) : KyAt K H (.int i) (.num i)
  | str (z : Str) : KyAt K H (.str z) (.text z)
  | tup {a : Addr} {vs : List V} {ks : List NestedKey} : SqT K H a vs → KysAt K H vs ks → KyAt K H (.ref a) (.tup ks)
inductive KysAt (K : PySem.W.Frag) (H : Hp) : List V → List NestedKey → Prop
  | nil : KysAt K H [] []
  | cons {v : V} {vs : List V} {k : NestedKey} {ks : List NestedKey} : KyAt K H v k → KysAt K H vs ks → KysAt K H (v :: vs) (k :: ks)
end
mutual
theorem KyAt.is {X : Cx} {pins : List (Addr × Obj)} {σ : L2.St} {H : Hp} {s : Shared} (I : Inv X pins σ H s) : ∀ {v : V} {k : NestedKey} {u : Value}, KyAt X.K H v k → RelV v u → NestedIs s.heap k u
  | _, _, u, .non, r => by cases (show u = Value.none from r); exact .none
  | _, _, u, .bl b, r => by cases (show u = Value.bool b from r); exact .bool rfl
  | _, _, u, .int i, r => by obtain ⟨t, q⟩ := (show ∃ t, u = Value.int i t from r); subst q; exact .int i t
  | _, _, u, .str z, r => by obtain ⟨t, q⟩ := (show ∃ t, u = Value.str z t from r); subst q; exact .text z t
  | _, _, u, .tup (a := a) (vs := vs) e hs, r => by
    cases (show u = Value.ref a from r)
    obtain ⟨its, q, ⟨o, h1, h2, n, h3⟩, _⟩ := I.tuple e
    exact .tup h1 h2 h3 (by simpa using KysAt.is I hs q)
theorem KysAt.is {X : Cx} {pins : List (Addr × Obj)} {σ : L2.St} {H : Hp} {s : Shared} (I : Inv X pins σ H s) : ∀ {vs : List V} {ks : List NestedKey} {us : List Value}, KysAt X.K H vs ks → Vals vs us → NestedAll s.heap ks us
  | _, _, _, .nil, r => by cases r; exact .nil
  | _, _, _, .cons h1 h2, r => by cases r with | cons r1 r2 => exact .cons (KyAt.is I h1 r1) (KysAt.is I h2 r2)
end
mutual
theorem KyAt.same {K : PySem.W.Frag} {H H' : Hp} (s : Same H H') : ∀ {v : V} {k : NestedKey}, KyAt K H v k → KyAt K H' v k
  | _, _, .non => .non
  | _, _, .bl b => .bl b
  | _, _, .int i => .int i
  | _, _, .str z => .str z
  | _, _, .tup e hs => .tup (SqT_same s e) (KysAt.same s hs)
theorem KysAt.same {K : PySem.W.Frag} {H H' : Hp} (s : Same H H') : ∀ {vs : List V} {ks : List NestedKey}, KysAt K H vs ks → KysAt K H' vs ks
  | _, _, .nil => .nil
  | _, _, .cons h1 h2 => .cons (KyAt.same s h1) (KysAt.same s h2)
end
/-! the abstract dict -/
abbrev XE := NestedKey × V × V
def GXR (w : World) (a : Addr) (ep : Nat) (xs : List XE) (h : Heap) : Prop := (∃ o es, h.get? a = some o ∧ o.ExactDict ∧ o.data = .dict es ep ∧ Paired (fun (x : XE) (e : DictEntry) => (e.hash = x.1.hash w ∧ x.1.depth ≤ 8) ∧ RelV x.2.1 e.key ∧ RelV x.2.2 e.val) xs es.toList) ∧ (xs.map (·.1)).Nodup ∧ xs.length ≤ sizeLine ∧ (a == sysModules) = false
def GX (w : World) (a : Addr) (ep : Nat) (xs : List XE) : HO := .ext (GXR w a ep xs)
def valX : List XE → NestedKey → Option V
  | [], _ => none
  | x :: r, k => if x.1 = k then some x.2.2 else valX r k
def putX : List XE → NestedKey → V → V → List XE
  | [], k, y, v => [(k, y, v)]
  | x :: r, k, y, v => if x.1 = k then (x.1, x.2.1, v) :: r else x :: putX r k y v
def KeysX (K : PySem.W.Frag) (H : Hp) (xs : List XE) : Prop := ∀ x ∈ xs, KyAt K H x.2.1 x.1
theorem KeysX.same {K : PySem.W.Frag} {H H' : Hp} {xs : List XE} (s : Same H H') (h : KeysX K H xs) : KeysX K H' xs := fun x hx => (h x hx).same s
theorem putX_keys (xs : List XE) (k : NestedKey) (y v : V) : (putX xs k y v).map (·.1) = keysPut (xs.map (·.1)) k := by
  induction xs with
  | nil => rfl
  | cons x r ih =>
    unfold putX keysPut
    rw [List.map_cons, List.idxOf?_cons]
    by_cases e : x.1 = k
    · rw [if_pos e, if_pos (by simpa using e)]; rfl
    · rw [if_neg e, if_neg (by simpa using e), List.map_cons, ih]
      unfold keysPut
      cases (r.map (·.1)).idxOf? k <;> rfl
theorem putX_len (xs : List XE) (k : NestedKey) (y v : V) : (putX xs k y v).length ≤ xs.length + 1 := by
  induction xs with
  | nil => exact Nat.le_refl _
  | cons x r ih =>
    unfold putX
    split
    · simp
    · simp; exact ih
abbrev XRel (w : World) : List XE → List DictEntry → Prop := Paired fun (x : XE) (e : DictEntry) => (e.hash = x.1.hash w ∧ x.1.depth ≤ 8) ∧ RelV x.2.1 e.key ∧ RelV x.2.2 e.val
theorem XRel.val {w : World} : ∀ {xs : List XE} {es : List DictEntry} (k : NestedKey), XRel w xs es → RelO (valX xs k) (((xs.map (·.1)).idxOf? k).bind fun j => es[j]?.map (·.val))
  | _, _, k, .nil => by simp [valX, RelO]
  | x :: xs, e :: es, k, .cons r t => by
    unfold valX
    rw [List.map_cons, List.idxOf?_cons]
    by_cases q : x.1 = k
    · rw [if_pos q, if_pos (by simpa using q)]; exact r.2.2
    · rw [if_neg q, if_neg (by simpa using q)]
      have ih := XRel.val k t
      cases z : (xs.map (·.1)).idxOf? k with
      | none => rw [z] at ih; exact ih
      | some j => rw [z] at ih; simpa using ih
theorem XRel.put {w : World} {k : NestedKey} {y v : V} {u r' : Value} (h8 : k.depth ≤ 8) (ry : RelV y u) (rv : RelV v r') : ∀ {xs : List XE} {es : List DictEntry}, XRel w xs es →
    XRel w (putX xs k y v) (match (xs.map (·.1)).idxOf? k with
      | none => es ++ [⟨k.hash w, u, r'⟩]
      | some j => es.modify j fun e => { e with val := r' })
  | _, _, .nil => .cons ⟨⟨rfl, h8⟩, ry, rv⟩ .nil
  | x :: xs, e :: es, .cons r t => by
    unfold putX
    rw [List.map_cons, List.idxOf?_cons]
    by_cases q : x.1 = k
    · rw [if_pos q, if_pos (by simpa using q)]
      show XRel w _ ((e :: es).modify 0 _)
      rw [List.modify_zero_cons]
      exact .cons ⟨r.1, r.2.1, rv⟩ t
    · rw [if_neg q, if_neg (by simpa using q)]
      have ih := XRel.put h8 ry rv t
      cases z : (xs.map (·.1)).idxOf? k with
      | none => rw [z] at ih; exact .cons r ih
      | some j =>
        rw [z] at ih
        show XRel w _ ((e :: es).modify (j + 1) _)
        rw [List.modify_succ_cons]
        exact .cons r ih
theorem XRel.en {X : Cx} {pins : List (Addr × Obj)} {σ : L2.St} {H : Hp} {s : Shared} (I : Inv X pins σ H s) {w : World} : ∀ {xs : List XE} {es : List DictEntry}, XRel w xs es → KeysX X.K H xs → EnKs w s.heap (xs.map (·.1)) es
  | _, _, .nil, _ => .nil
  | x :: xs, e :: es, .cons r t, hk => .cons ⟨r.1.1, (hk x List.mem_cons_self).is I r.2.1, r.1.2⟩ (XRel.en I t fun z hz => hk z (List.mem_cons_of_mem _ hz))
theorem gx_ok {P : Program} {w : World} {H : Hp} {h : Heap} {a : Addr} {ep : Nat} {xs : List XE} (x : GXR w a ep xs h) : ObjOk P w H h a (GX w a ep xs) := by
  refine ⟨x, ?_, fun h1 h2 y st => ?_⟩
  · obtain ⟨⟨o, _, ho, _⟩, _⟩ := x; exact ⟨o, ho⟩
  · obtain ⟨⟨o, es, ho, rest⟩, q⟩ := y
    exact ⟨⟨o, es, st o ho, rest⟩, q⟩
/-- a is such a dict, at least to look at -/
abbrev RdX (w : World) (H : Hp) (a : Addr) (xs : List XE) : Prop := ∃ ep, Rd H a (GX w a ep xs)
section
variable {X : Cx} {pins : List (Addr × Obj)} {σ : L2.St} {H : Hp} {s : Shared} {a : Addr} {y v : V} {u r : Value} {k : NestedKey} {xs : List XE} {A : Around} {E : Value → Shared → Prop}
theorem gx_dx (I : Inv X pins σ H s) (e : RdX X.w H a xs) (hk : KeysX X.K H xs) : ∃ es, DX X.w s.heap a (xs.map (·.1)) es ∧ XRel X.w xs es.toList ∧ (a == sysModules) = false := by
  obtain ⟨ep, e⟩ := e
  obtain ⟨⟨⟨o, es, ho, hc, hd, rel⟩, hn, hz, hm⟩, _, _⟩ := (show ObjOk X.prog X.w H s.heap a (GX X.w a ep xs) from e.ok I.hok)
  exact ⟨es, ⟨⟨o, ep, ho, hc, hd⟩, XRel.en I rel hk, hn, by rw [List.length_map]; exact hz⟩, rel, hm⟩
theorem gx_typeIs (I : Inv X pins σ H s) (e : RdX X.w H a xs) : s.TypeIs (.ref a) "dict" ∧ ∀ b, Value.ref a = .ref b → ∃ ob, s.heap.get? b = some ob ∧ ob.dict = none := by
  obtain ⟨ep, e⟩ := e
  obtain ⟨⟨⟨o, es, ho, hc, hd, rel⟩, hn, hz, hm⟩, _, _⟩ := (show ObjOk X.prog X.w H s.heap a (GX X.w a ep xs) from e.ok I.hok)
  exact ⟨⟨o, ho, hc.1⟩, fun b q => by cases q; exact ⟨o, ho, hc.2.1⟩⟩
theorem gx_getItem {Q : Value → Shared → Prop} (hu : A.units + 40 < cLine) (I : Inv X pins σ H s) (e : RdX X.w H a xs) (hk : KeysX X.K H xs) (ky : KyAt X.K H y k) (h8 : k.depth ≤ 8) (ry : RelV y u) (hv : valX xs k = some v) (h : ∀ w' s', Inv X pins σ H s' → RelV v w' → Q w' s') :
    wpAny (model X.prog X.w) A (getItem (.ref a) u) Q E s := by
  obtain ⟨es, x, rel, _⟩ := gx_dx I e hk
  have q := rel.val k
  simp only [Array.getElem?_toList] at q
  rw [hv] at q
  obtain ⟨w', hw, rw'⟩ := RelO.some_of (v := v) (o := valKE (xs.map (·.1)) es k) q
  exact dx_getItem hu (ky.is I ry) h8 x hw fun t => h w' _ (I.tok _) rw'
theorem gx_contains {Q : Bool → Shared → Prop} (hu : A.units + 40 < cLine) (I : Inv X pins σ H s) (e : RdX X.w H a xs) (hk : KeysX X.K H xs) (ky : KyAt X.K H y k) (h8 : k.depth ≤ 8) (ry : RelV y u) (h : ∀ s', Inv X pins σ H s' → Q (valX xs k).isSome s') :
    wpAny (model X.prog X.w) A (contains (.ref a) u) Q E s := by
  obtain ⟨es, x, rel, hd⟩ := gx_dx I e hk
  have q := rel.val k
  simp only [Array.getElem?_toList] at q
  have q2 : (valX xs k).isSome = (valKE (xs.map (·.1)) es k).isSome := RelO.isSome_eq q
  exact dx_contains hu (ky.is I ry) h8 hd x fun t => by rw [← q2]; exact h _ (I.tok _)
theorem gx_write {h' : Heap} {t' ep : Nat} {es : Array DictEntry} (I : Inv X pins σ H s) (e : H a = some (GX X.w a ep xs)) (rel : XRel X.w xs es.toList) (hl : xs.length < sizeLine) (h8 : k.depth ≤ 8) (ry : RelV y u) (rv : RelV v r)
    (x : DX X.w h' a (keysPut (xs.map (·.1)) k) (entsPut X.w (xs.map (·.1)) es k u r)) (hs : Heap.SameBut a s.heap h') : ∃ ep', Inv X pins σ (upd H a (GX X.w a ep' (putX xs k y v))) { s with heap := h', toks := t' } := by
  obtain ⟨_, _, hm⟩ : (∃ o, s.heap.get? a = some o) ∧ True ∧ (a == sysModules) = false := by
    obtain ⟨⟨⟨o, es, ho, _⟩, _, _, hm⟩, _, _⟩ := (show ObjOk X.prog X.w H s.heap a (GX X.w a ep xs) from (Rd.of e).ok I.hok)
    exact ⟨⟨o, ho⟩, trivial, hm⟩
  obtain ⟨o, ep', ho, hc, hd⟩ := x.at_
  refine ⟨ep', d_write I (by rw [e]; exact True.intro) hs ⟨o, ho⟩ (gx_ok ⟨⟨o, _, ho, hc, hd, ?_⟩, ?_, ?_, hm⟩)⟩
  · have := rel.put h8 ry rv
    unfold entsPut
    cases q : (xs.map (·.1)).idxOf? k with
    | none => rw [q] at this; rw [Array.toList_push]; exact this
    | some j => rw [q] at this; simpa using this
  · rw [putX_keys]; exact x.nd
  · have := putX_len xs k y v; omega
theorem gx_setItem {ep : Nat} {Q : Unit → Shared → Prop} (hu : A.units + 40 < cLine) (I : Inv X pins σ H s) (e : H a = some (GX X.w a ep xs)) (hk : KeysX X.K H xs) (ky : KyAt X.K H y k) (h8 : k.depth ≤ 8) (ry : RelV y u) (rv : RelV v r) (hl : xs.length < sizeLine)
    (h : ∀ ep' s', Inv X pins σ (upd H a (GX X.w a ep' (putX xs k y v))) s' → Q () s') : wpAny (model X.prog X.w) A (setItem (.ref a) u r) Q E s := by
  obtain ⟨es, x, rel, _⟩ := gx_dx I ⟨ep, .of e⟩ hk
  exact dx_setItem hu (ky.is I ry) h8 x (by rw [List.length_map]; exact hl) fun h' t x' hs => let ⟨ep', q⟩ := gx_write I e rel hl h8 ry rv x' hs; h ep' _ q
theorem gx_sd {ep : Nat} {Q : Value → Shared → Prop} (hu : A.units + 40 < cLine) (I : Inv X pins σ H s) (e : H a = some (GX X.w a ep xs)) (hk : KeysX X.K H xs) (ky : KyAt X.K H y k) (h8 : k.depth ≤ 8) (ry : RelV y u) (rv : RelV v r) (hl : xs.length < sizeLine)
    (h1 : ∀ z, valX xs k = some z → ∀ w' s', Inv X pins σ H s' → RelV z w' → Q w' s')
    (h2 : valX xs k = none → ∀ ep' w' s', Inv X pins σ (upd H a (GX X.w a ep' (putX xs k y v))) s' → RelV v w' → Q w' s') : wpAny (model X.prog X.w) A (call (.builtin "dict.setdefault") [.ref a, u, r]) Q E s := by
  obtain ⟨es, x, rel, hd⟩ := gx_dx I ⟨ep, .of e⟩ hk
  have q := rel.val k
  simp only [Array.getElem?_toList] at q
  have q : RelO (valX xs k) (valKE (xs.map (·.1)) es k) := q
  refine dx_sd hu (ky.is I ry) h8 hd x (by rw [List.length_map]; exact hl) (fun z' t hz => ?_) fun hn h' t x' hs => ?_
  · rw [hz] at q
    cases hv : valX xs k with
    | none => rw [hv] at q; exact (show False from q).elim
    | some z => rw [hv] at q; exact h1 z hv _ _ (I.tok _) q
  · rw [hn] at q
    cases hv : valX xs k with
    | some z => rw [hv] at q; exact (show False from q).elim
    | none =>
      obtain ⟨ep', q⟩ := gx_write I e rel hl h8 ry rv x' hs
      exact h2 hv ep' _ _ q rv
end
/-! rules -/
/-- {}, to be a dict with keys of any kind -/
def tDNewX (w : World) : TE := fun _ H Q => ∀ p, H p = none → Q (.ref p) (upd H p (GX w p 0 []))
def tXGet (K : PySem.W.Frag) (w : World) (td ty : TE) : TE := fun σ H Q => td σ H fun x H1 => ty σ H1 fun y H2 => ∃ a xs k v, x = .ref a ∧ RdX w H2 a xs ∧ KeysX K H2 xs ∧ KyAt K H2 y k ∧ k.depth ≤ 8 ∧ valX xs k = some v ∧ Q v H2
def tXIn (K : PySem.W.Frag) (w : World) (neg : Bool) (ty td : TE) : TE := fun σ H Q => ty σ H fun y H1 => td σ H1 fun x H2 => ∃ a xs k, x = .ref a ∧ RdX w H2 a xs ∧ KeysX K H2 xs ∧ KyAt K H2 y k ∧ k.depth ≤ 8 ∧ Q (.bl (neg ^^ (valX xs k).isSome)) H2
def sXPut (K : PySem.W.Frag) (w : World) (td ty tv : TE) : TS := fun D σ H => tv σ H fun v H1 => td σ H1 fun x H2 => ty σ H2 fun y H3 => ∃ a ep xs k, x = .ref a ∧ H3 a = some (GX w a ep xs) ∧ KeysX K H3 xs ∧ KyAt K H3 y k ∧ k.depth ≤ 8 ∧ xs.length < sizeLine ∧ ∀ ep', D.nx σ (upd H3 a (GX w a ep' (putX xs k y v)))
def tXSd (K : PySem.W.Frag) (w : World) (td ty tx : TE) : TE := fun σ H Q => td σ H fun x H1 => ∃ a xs0, x = .ref a ∧ RdX w H1 a xs0 ∧ ty σ H1 fun y H2 => tx σ H2 fun z H3 => ∃ ep xs k, H3 a = some (GX w a ep xs) ∧ KeysX K H3 xs ∧ KyAt K H3 y k ∧ k.depth ≤ 8 ∧ xs.length < sizeLine ∧
  (∀ v, valX xs k = some v → Q v H3) ∧ (valX xs k = none → ∀ ep', Q z (upd H3 a (GX w a ep' (putX xs k y z))))
section
variable {X : Cx} {o i e f value : Expr} {pos pos' tpos apos cpos : Pos} {td ty tv tx : TE}
theorem pe_dnewX : PE X (.Dict [] [] pos) (tDNewX X.w) := ⟨fun pins s σ H Q I h => by
  have hn := I.hok.fresh (a := s.heap.objs.size) (Nat.le_refl _)
  have hb := I.big
  refine wpAny_Dict_empty ⟨.ref s.heap.objs.size, _, I.laid (a := s.heap.objs.size) (o := GX X.w s.heap.objs.size 0 []) (t' := s.toks) (fun _ _ q => Heap.get?_push_of_some _ q) (Nat.le_refl _) (gx_ok ⟨⟨_, #[], Heap.get?_push_size _ rfl, ⟨rfl, rfl, rfl⟩, rfl, .nil⟩, List.nodup_nil, Nat.zero_le _, beq_eq_false_iff_ne.mpr (Ne.symm (Nat.ne_of_lt hb))⟩), rfl, h _ hn⟩⟩
theorem pe_xget (hu : X.A.units + 41 < cLine) (ho : PE X o td) (hi : PE X i ty) (hs : NoSl i) : PE X (.Subscript o i pos) (tXGet X.K X.w td ty) := by
  refine ⟨fun pins s σ H Q I h => ?_⟩
  refine subD_of PySem.F.slot_dict_getitem.lookup hs (thn (ho.run pins s σ H _ I h) fun u s1 ⟨x, H1, I1, rx, q1⟩ => thn (hi.run pins s1 σ H1 _ I1 q1) fun iv s2 ⟨y, H2, I2, ry, a, xs, k, v, ex, e, hk, ky, h8, hv, q2⟩ => ?_)
  subst ex
  obtain rfl : u = Value.ref a := rx
  exact ⟨(gx_typeIs I2 e).1, gx_getItem (by omega) I2 e hk ky h8 ry hv fun w' s3 I3 rw' => ⟨v, H2, I3, rw', q2⟩⟩
theorem pc_xnotin (hu : X.A.units + 41 < cLine) (hi : PE X i ty) (ho : PE X o td) : PC X .NotIn i o (tXIn X.K X.w true ty td) := by
  refine ⟨fun pins s σ H Q I h => ?_⟩
  refine thn (hi.run pins s σ H _ I h) fun iv s1 ⟨y, H1, I1, ry, q1⟩ => thn (ho.run pins s1 σ H1 _ I1 q1) fun u s2 ⟨x, H2, I2, rx, a, xs, k, ex, e, hk, ky, h8, q2⟩ => ?_
  subst ex
  obtain rfl : u = Value.ref a := rx
  show wpAny _ _ (do return Value.bool (!(← contains (.ref a) iv))) _ _ s2
  exact wpAny_bind (gx_contains (by omega) I2 e hk ky h8 ry fun s3 I3 => wpAny_pure ⟨.bl _, H2, I3, rfl, by rw [Bool.true_xor] at q2; exact q2⟩)
theorem ps_xput (hu : X.A.units + 41 < cLine) (ho : PE X o td) (hi : PE X i ty) (hv : PE X value tv) (hs : swapsWith value (some (.Subscript o i pos')) pos.line X.env = pure false) :
    PS X (.Assign [.Subscript o i pos'] value pos) (sXPut X.K X.w td ty tv) := by
  refine ⟨fun pins s σ H D I h => ?_⟩
  refine wpAny_Assign_Subscript (thn (hv.run pins s σ H _ I h) fun r s1 ⟨v, H1, I1, rv, q1⟩ => thn (ho.run pins s1 σ H1 _ I1 q1) fun u s2 ⟨x, H2, I2, rx, q2⟩ => thn (hi.run pins s2 σ H2 _ I2 q2) fun iv s3 ⟨y, H3, I3, ry, a, ep, xs, k, ex, e, hk, ky, h8, hl, q3⟩ => ?_) hs
  subst ex
  obtain rfl : u = Value.ref a := rx
  exact gx_setItem (by omega) I3 e hk ky h8 ry rv hl fun ep' s4 I4 => ⟨σ, _, I4, q3 ep'⟩
theorem pe_xsd (hu : X.A.units + 41 < cLine) (ho : PE X o td) (he : PE X e ty) (hf : PE X f tx) (m : M2 X o "setdefault" apos e f cpos) : PE X (.Call (.Attribute o "setdefault" apos) [e, f] [] cpos) (tXSd X.K X.w td ty tx) := by
  refine ⟨fun pins s σ H Q I h => ?_⟩
  refine wpAny_Call_method m.base m.few m.line PySem.F.plainAttrs_dict PySem.F.slot_dict_setdefault PySem.F.type_dict_setdefault (thn (ho.run pins s σ H _ I h) fun u s1 ⟨x, H1, I1, rx, a, xs0, ex, e0, q1⟩ => ?_)
  subst ex
  obtain rfl : u = Value.ref a := rx
  obtain ⟨t1, t2⟩ := gx_typeIs I1 e0
  refine ⟨t1, t2, ?_⟩
  rw [m.trees]
  refine Calls.callWith_builtin rfl (Calls.evalArgs_plain (Calls.spliced_cons (thn (he.run pins s1 σ H1 _ I1 q1) fun iv s2 ⟨y, H2, I2, ry, q2⟩ =>
    Calls.spliced_cons (thn (hf.run pins s2 σ H2 _ I2 q2) fun fv s3 ⟨z, H3, I3, rz, ep, xs, k, e, hk, ky, h8, hl, q3, q4⟩ => Calls.spliced_nil ?_))))
  exact gx_sd (by omega) I3 e hk ky h8 ry rz hl (fun v hv w' s4 I4 rw' => ⟨v, _, I4, rw', q3 v hv⟩) fun hn ep' w' s4 I4 rw' => ⟨z, _, I4, rw', q4 hn ep'⟩
end
/-! walks -/
/-- the i-th entry, as a tuple -/
def Itx (w : World) (d : Addr) (ep : Nat) (xs : List XE) : It :=
  ⟨fun i H => Rd H d (GX w d ep xs) ∧ i < xs.length, fun i H x H' => ∃ e q, xs[i]? = some e ∧ x = .ref q ∧ H q = none ∧ H' = upd H q (.tup [e.2.1, e.2.2]), fun i H => Rd H d (GX w d ep xs) ∧ xs.length ≤ i⟩
theorem XRel.get {w : World} : ∀ {xs : List XE} {es : List DictEntry} {i : Nat} {e : XE}, XRel w xs es → xs[i]? = some e → ∃ z, es[i]? = some z ∧ RelV e.2.1 z.key ∧ RelV e.2.2 z.val
  | _, _, _, _, .nil, q => by simp at q
  | _, _, 0, _, .cons r _, q => by simp at q; subst q; exact ⟨_, rfl, r.2⟩
  | _, _, i + 1, e, .cons _ t, q => by simpa using XRel.get (i := i) t (by simpa using q)
theorem gx_raw {X : Cx} {pins : List (Addr × Obj)} {σ : L2.St} {H : Hp} {s : Shared} {a : Addr} {ep : Nat} {xs : List XE} (I : Inv X pins σ H s) (e : Rd H a (GX X.w a ep xs)) : ∃ es, s.heap.DictRaw a es ep ∧ XRel X.w xs es.toList ∧ es.size = xs.length ∧ (a == sysModules) = false := by
  obtain ⟨⟨⟨o, es, ho, hc, hd, rel⟩, hn, hz, hm⟩, _, _⟩ := (show ObjOk X.prog X.w H s.heap a (GX X.w a ep xs) from e.ok I.hok)
  exact ⟨es, ⟨o, ho, hc, hd⟩, rel, by rw [← Array.length_toList]; exact (Paired.length rel).symm, hm⟩
section
variable {P : Program} {w : World} {K : PySem.W.Frag} {d : Addr} {ep : Nat} {xs : List XE}
theorem turn_itemsX {elts : List Expr} {kk : Nat} {tpos : Pos} (it : Addr) : Turn P w K (.Tuple elts kk tpos) (Itx w d ep xs) [it] it (fun i h => ∃ ok ov, IsItemIter h it d i xs.length ep ok ov) where
  mem := by simp
  obj := fun i h st b hb => by
    rw [List.mem_singleton.mp hb]
    obtain ⟨ok, ov, e⟩ := st
    exact ⟨_, e, fun v z => nomatch z⟩
  keep := fun i h h' st k => let ⟨ok, ov, e⟩ := st; ⟨ok, ov, k it (by simp) _ e⟩
  item := by
    intro X hP hw hK hc i pins s σ H E I hf st hg
    subst hP; subst hw; subst hK
    obtain ⟨hd, hi⟩ := hg
    obtain ⟨es, hm, rel, hsz, _⟩ := gx_raw I hd
    obtain ⟨e, he⟩ : ∃ e, xs[i]? = some e := ⟨xs[i], List.getElem?_eq_getElem hi⟩
    obtain ⟨z, hz, r1, r2⟩ := rel.get he
    have hlt' : i < es.size := by rw [hsz]; exact hi
    have ez : es[i] = z := by
      rw [Array.getElem?_toList, Array.getElem?_eq_getElem hlt'] at hz
      exact Option.some.inj hz
    subst ez
    obtain ⟨ok, ov, hit⟩ := st
    rw [← hsz] at hit
    have hlt : it < s.heap.objs.size := Heap.lt_size hit
    refine wpAny_pyNext_items_item_raw hit hm hlt' fun h' ho hT hz' hk => ⟨_, rfl, wpAny_letOwnedTupleGo_items (s := { s with heap := h' }) ho fun h'' he' sb => ?_⟩
    have hT2 := (sb.2 _ (Nat.ne_of_gt hlt)).trans hT
    have new : ObjOk X.prog X.w (upd H s.heap.objs.size (.tup [e.2.1, e.2.2])) h'' s.heap.objs.size (.tup [e.2.1, e.2.2]) :=
      ⟨by show 2 ≤ sizeLine; decide, [es[i].key, es[i].val], .cons r1 (.cons r2 .nil), ⟨_, hT2, rfl, _, rfl⟩⟩
    have I1 : Inv X pins σ (upd H s.heap.objs.size (.tup [e.2.1, e.2.2])) { s with heap := h'' } :=
      I.turnedNew (t' := s.toks) (ch := [it]) (fun b ob hb q => (sb.2 b (by simpa using hb)).trans (hk b ob (by simpa using hb) q)) hf (Nat.le_refl _) new
    refine ⟨.ref s.heap.objs.size, _, I1, rfl, ⟨e, _, he, rfl, I.hok.fresh (Nat.le_refl _), rfl⟩, ⟨es[i].key, es[i].val, ?_⟩, fun b hb => ?_⟩
    · rw [← hsz]; exact he'
    · rw [List.mem_singleton.mp hb, upd_ne (Nat.ne_of_lt hlt)]
      exact (hf it (by simp)).1
  done := by
    intro X hP hw hK hc i pins s σ H E I hf st hg
    subst hP; subst hw; subst hK
    obtain ⟨hd, hi⟩ := hg
    obtain ⟨es, hm, rel, hsz, _⟩ := gx_raw I hd
    obtain ⟨f0, f1, f2, f3, f4, f5⟩ := hf it (by simp)
    obtain ⟨ok, ov, hit⟩ := st
    rw [← hsz] at hit
    exact wpAny_pyNext_items_end_raw (I.ok.hd hc) hit hm (by omega) fun h' eb => ⟨rfl, I.turned (t' := s.toks) (fun b ob hb q => eb b ob hb q) f0 f1 f3 f4 f5⟩
  self := fun A i s Q E st h => let ⟨_, _, e⟩ := st; PySem.W.kcp_self e h
def iItemsX (w : World) (td : TE) : TI := fun σ H R => td σ H fun x H1 => ∃ d ep xs, x = .ref d ∧ Rd H1 d (GX w d ep xs) ∧ R (Itx w d ep xs) H1
theorem pi_itemsX {X : Cx} {e : Expr} {td : TE} {apos cpos : Pos} {elts : List Expr} {kk : Nat} {tpos : Pos} (he : PE X e td) (hbase : attributeBase e "items" X.env (eval e X.env) = eval e X.env := by rfl) (hline : (apos.endLine == cpos.line) = true := by rfl) :
    PI X (.Tuple elts kk tpos) (.Call (.Attribute e "items" apos) [] [] cpos) (iItemsX X.w td) := by
  refine ⟨fun pins s σ H R I h => ?_⟩
  refine wpAny_Call_method (T := "dict") (id := "dict.items") hbase rfl hline F.plainAttrs_dict F.slot_dict_items F.type_dict_items (thn (he.run pins s σ H _ I h) fun u s1 ⟨x, H1, I1, rx, d, ep, xs, ex, hd, q⟩ => ?_)
  subst ex
  obtain rfl : u = Value.ref d := rx
  obtain ⟨es, hm, rel, hsz, hs⟩ := gx_raw I1 hd
  obtain ⟨t1, t2⟩ := gx_typeIs I1 ⟨ep, hd⟩
  refine ⟨t1, t2, ?_⟩
  have I2 : Inv X pins σ H1 { s1 with heap := s1.heap.push { cls := .type "dict_items", data := .fields #[.ref d] } } := I1.kept (t' := s1.toks) fun b ob q => Heap.get?_push_of_some _ q
  have fin : wpAny (model X.prog X.w) X.A (pyIter (.ref s1.heap.objs.size)) (PIE X pins σ (.Tuple elts kk tpos) R) X.xe { s1 with heap := s1.heap.push { cls := .type "dict_items", data := .fields #[.ref d] } } := by
    refine wpAny_pyIter_items_raw (d := d) ⟨_, Heap.get?_push_size _ rfl, rfl, rfl⟩ (hm.at fun o q => Heap.get?_push_of_some _ q) (pi_one (tk := s1.toks) I2 _ (turn_itemsX _) ⟨.none, .none, ?_⟩ q)
    rw [← hsz]
    exact Heap.get?_push_size _ rfl
  show wpAny _ _ (callWith cpos (.builtin "dict.items") [.ref d] [] []) _ X.xe s1
  exact method_meetsIn F.slot_dict_items F.entry_dict_items rfl (PySem.evalArgs_none ⟨rfl, t1, F.args_dict_items_1 _, _, meets_dict_items_raw d hs, ⟨es, ep, hm⟩, fin⟩)
end
end NL
/-! for i, x in enumerate(t), t a tuple -/
namespace PySem
namespace NLE
theorem meets_enumerate_one {v : Value} {o : Obj} {H : Heap → Prop} (B : Begins v o H) :
    Meets (Builtin.«enumerate.__new__» ⟨[.type "enumerate", v], []⟩) (fun _ R s => H s.heap ∧
      R (.ok (.ret (.ref (s.heap.push o).objs.size))) { s with heap := (s.heap.push o).push { cls := .type "enumerate", data := .fields #[.none, .bool false, .ref s.heap.objs.size, rawInt 0, .none, .none] } }) :=
  .of_wp fun prog w A R s h => by
    obtain ⟨hp, g, d, tk, os⟩ := s; obtain ⟨h1, h⟩ := h
    have hsub := sub_enumerate
    have q1 : ∀ {A' : Around} {E : Value → Shared → Prop} {Q : Value → Shared → Prop}, Q (.ref hp.objs.size) ⟨hp.push o, g, d, tk, os⟩ → wpAny (model prog w) A' (pyIter v) Q E ⟨hp, g, d, tk, os⟩ :=
      fun q => B.iter prog w _ _ ⟨hp, g, d, tk, os⟩ _ h1 q
    wp_walk using q1
    refine wpAny_stack_any fun st => wpAny_pure ?_
    split
    · rename_i c _ _ _ _ _
      cases (c == Value.type "enumerate")
      · wp_walk using q1
        exact ⟨_, rfl, h⟩
      · wp_walk using q1
        exact ⟨_, rfl, h⟩
    · wp_walk using q1
      exact ⟨_, rfl, h⟩
section
variable {prog : Program} {w : World} {A : Around} {E : Value → Shared → Prop} {s : Shared}
theorem enum_one {v : Value} {o : Obj} {H : Heap → Prop} {Q : Value → Shared → Prop} (B : Begins v o H) (h1 : H s.heap)
    (h : ∀ h', IsEnum h' (s.heap.objs.size + 1) s.heap.objs.size 0 .none → h'.get? s.heap.objs.size = some o → h'.objs.size = s.heap.objs.size + 2 →
      (∀ b o, s.heap.get? b = some o → h'.get? b = some o) → Q (.ref (s.heap.objs.size + 1)) { s with heap := h' }) :
    wpAny (model prog w) A (call (.type "enumerate") [v]) Q E s := by
  refine callType_new F.called_enumerate (by decide) (F.typeCall_enumerate_1 _) (F.newCall_enumerate_1 _) (fun obj => F.args_object_init_2 obj _) F.entry_enumerate_new
    (meets_enumerate_one B) ⟨h1, ?_⟩
  have hz : (s.heap.push o).objs.size = s.heap.objs.size + 1 := Heap.size_push ..
  show _ ∧ _
  rw [hz]
  have he : IsEnum ((s.heap.push o).push { cls := .type "enumerate", data := .fields #[.none, .bool false, .ref s.heap.objs.size, rawInt 0, .none, .none] }) (s.heap.objs.size + 1) s.heap.objs.size 0 .none := by
    have := Heap.get?_push_size (s.heap.push o) (o := { cls := .type "enumerate", data := .fields #[.none, .bool false, .ref s.heap.objs.size, rawInt 0, .none, .none] }) rfl
    rw [hz] at this; exact this
  refine ⟨⟨_, he, rfl⟩, h _ he (Heap.get?_push_of_some _ (Heap.get?_push_size _ B.free)) (by rw [Heap.size_push, hz]) fun b o x => Heap.get?_push_of_some _ (Heap.get?_push_of_some _ x)⟩
theorem enum_endT {e it l : Addr} {i : Nat} {items : Array Value} {old : Value} {Q : Option Value → Shared → Prop} (hh : A.handled = none)
    (he : IsEnum s.heap e it i old) (hit : s.heap.IsTupleIter it l i) (hl : s.heap.IsTuple l items) (hx : items[i]? = none)
    (hQ : ∀ h', Heap.ExtBut it s.heap h' → Q none { s with heap := h' }) : wpAny (model prog w) A (pyNext (.ref e)) Q E s := by
  have hT : s.TypeIs (.ref e) "enumerate" := ⟨_, he, rfl⟩
  unfold pyNext
  refine wpAny_bind (wpAny_attempt (wpAny_callSpecial?_slot (name := Str.ofString "__next__") hT F.slot_enumerate_next
    (wpAny_call_entry F.slot_enumerate_next hT F.entry_enumerate_next ?_ (F.args_enumerate_next_1 _))))
  show wpAny _ _ (field (.ref e) 2 >>= _) _ _ _
  refine wpAny_bind (wpAny_field he rfl (x := .ref it) rfl ?_)
  refine wpAny_bind (wpAny_nextOf_tuple_end hh hit hl hx fun h' x he' hx' => ?_)
  obtain ⟨o, ho, hc⟩ := hx'
  refine wpAny_bind (wpAny_isInstance (T := "StopIteration") (b := true) ⟨o, ho, hc⟩ isSubtype_stop ?_)
  exact wpAny_pure (hQ _ he')
end
end NLE
end PySem
namespace NL
open PySem L2 PySem.Spec PyProof.Rows
/-- the tuple at a, each item in a new pair with its number -/
def IteT (K : PySem.W.Frag) (a : Addr) : It :=
  ⟨fun i H => ∃ (xs : List V) (x : V), SqT K H a xs ∧ xs[i]? = some x, fun i H v H' => ∃ T x, v = .ref T ∧ H T = none ∧ H' = upd H T (.tup [.int (i : Nat), x]) ∧ ∀ xs, SqT K H a xs → xs[i]? = some x, fun i H => ∃ xs : List V, SqT K H a xs ∧ xs.length ≤ i⟩
theorem turn_enumT {P : Program} {w : World} {K : PySem.W.Frag} {elts : List Expr} {kk : Nat} {tpos : Pos} (a e it : Addr) (hai : a ≠ it) (hae : a ≠ e) :
    Turn P w K (.Tuple elts kk tpos) (IteT K a) [e, it] e (fun i h => (∃ old, IsEnum h e it ((i : Nat) : Int) old) ∧ h.IsTupleIter it a i ∧ e ≠ it) where
  mem := by simp
  obj := fun i h st b hb => by
    obtain ⟨⟨old, he⟩, ⟨o, ho, hc, hd⟩, _⟩ := st
    have e' : b = e ∨ b = it := by simpa using hb
    rcases e' with z | z
    · rw [z]; exact ⟨_, he, fun v q => nomatch q⟩
    · rw [z]; exact ⟨o, ho, fun v q => by rw [hd] at q; cases q⟩
  keep := fun i h h' st k => let ⟨⟨old, he⟩, hi, hne⟩ := st; ⟨⟨old, k e (by simp) _ he⟩, hi.at fun o q => k it (by simp) o q, hne⟩
  item := by
    intro X hP hw hK hc i pins s σ H E I hf st hg
    subst hP hw hK
    obtain ⟨⟨old, he⟩, hit, hne⟩ := st
    obtain ⟨xs, x, hq, hx⟩ := hg
    obtain ⟨its, rv, p, hz⟩ := I.tuple hq
    obtain ⟨u, hu, ru⟩ := rv.get hx
    have hel : e < s.heap.objs.size := Heap.lt_size he
    have hil : it < s.heap.objs.size := by obtain ⟨_, q, _⟩ := hit; exact Heap.lt_size q
    have hh : X.A.in1.handled = none := I.ok.hd hc
    have hi : i < its.toArray.size := by
      have := (List.getElem?_eq_some_iff.mp hu).1
      simpa using this
    refine wpAny_pyNext_enum_itemD (Draws.tuple hh it a hai its.toArray) he ⟨hit, (show s.heap.IsTuple a its.toArray from p)⟩ hi hne (by simp [hne, Ne.symm hae]) fun x' h' tk hP ho hit' hT hsz hk => ?_
    have hxu : x' = u := by
      have h1 : its.toArray[i]? = some x' := hP
      have h2 : its.toArray[i]? = some u := by simpa using hu
      rw [h1] at h2; exact Option.some.inj h2
    subst hxu
    refine ⟨_, rfl, wpAny_letOwnedTupleGo_enum (s := { s with heap := h', toks := tk + 1 }) ho fun h'' he' sb => ?_⟩
    have hT2 : h''.get? s.heap.objs.size = some { cls := .type "tuple", data := .seq #[.int i tk, x'] } := (sb.2 _ (Nat.ne_of_gt hel)).trans hT
    have new : ObjOk X.prog X.w (upd H s.heap.objs.size (.tup [.int (i : Nat), x])) h'' s.heap.objs.size (.tup [.int (i : Nat), x]) :=
      ⟨by show 2 ≤ sizeLine; decide, [.int i tk, x'], .cons ⟨_, rfl⟩ (.cons ru .nil), ⟨_, hT2, rfl, _, rfl⟩⟩
    have I1 : Inv X pins σ (upd H s.heap.objs.size (.tup [.int (i : Nat), x])) { s with heap := h'', toks := tk + 1 } :=
      I.turnedNew (ch := [e, it]) (fun b ob hb q => (sb.2 b (fun z => hb (by simp [z]))).trans (hk b ob (fun z => hb (by simp [z])) (fun z => hb (by simp [z])) q)) hf (Nat.le_refl _) new
    refine ⟨.ref s.heap.objs.size, _, I1, rfl, ⟨_, x, rfl, I.hok.fresh (Nat.le_refl _), rfl, fun ys hy => by rw [I.tuple_inj hy hq]; exact hx⟩, ⟨⟨x', ?_⟩, hit'.1.at fun o q => (sb.2 it (Ne.symm hne)).trans q, hne⟩, fun b hb => ?_⟩
    · have e1 : ((i + 1 : Nat) : Int) = (i : Int) + 1 := by omega
      rw [e1]; exact he'
    · have hb' : b < s.heap.objs.size := by
        have e' : b = e ∨ b = it := by simpa using hb
        rcases e' with z | z
        · rw [z]; exact hel
        · rw [z]; exact hil
      rw [upd_ne (Nat.ne_of_lt hb')]
      exact (hf b hb).1
  done := by
    intro X hP hw hK hc i pins s σ H E I hf st hg
    subst hP hw hK
    obtain ⟨⟨old, he⟩, hit, hne⟩ := st
    obtain ⟨xs, hq, hx⟩ := hg
    obtain ⟨its, rv, p, hz⟩ := I.tuple hq
    obtain ⟨f0, f1, f2, f3, f4, f5⟩ := hf it (by simp)
    have hl := rv.length
    have hh : X.A.in1.handled = none := I.ok.hd hc
    exact PySem.NLE.enum_endT (I.ok.hd hc) he hit (show s.heap.IsTuple a its.toArray from p) (by simp; omega) fun h' eb => ⟨rfl, I.turned (t' := s.toks) (fun b o hb q => eb b o hb q) f0 f1 f3 f4 f5⟩
  self := fun A i s Q E st h => let ⟨⟨_, he⟩, _⟩ := st; wpAny_pyIter_enum he h
def iEnumT (K : PySem.W.Frag) (ta : TA) : TI := fun σ H R => ta σ H fun vs H1 => ∃ a xs, vs = [.ref a] ∧ SqT K H1 a xs ∧ R (IteT K a) H1
theorem pi_enumT {X : Cx} {e : Expr} {ta : TA} {p pos tpos : Pos} {elts : List Expr} {kk : Nat} (hg : Gl X "enumerate") (hm : X.mg "enumerate" = none) (ha : PA X [e] ta) (hs : starEach [e] X.env = [(false, eval e X.env)] := by rfl) :
    PI X (.Tuple elts kk tpos) (.Call (.Name "enumerate" p) [e] [] pos) (iEnumT X.K ta) := by
  refine ⟨fun pins s σ H R I h => ?_⟩
  refine Call_ (ld_blt I hg hm boot_enumerate (PyProof.Rows.callWith_type1 (thn (ha.run pos pins s σ H _ I h) fun us s1 ⟨vs, H1, I1, r1, q1⟩ => ?_) hs rfl))
  obtain ⟨a, xs, ex, hq, q⟩ := q1
  subst ex
  cases r1 with
  | cons r rr =>
    cases rr
    cases r
    obtain ⟨its, rv, p', hz⟩ := I1.tuple hq
    have pT : s1.heap.IsTuple a its.toArray := p'
    have hal : a < s1.heap.objs.size := by obtain ⟨_, q, _⟩ := p'; exact Heap.lt_size q
    refine PySem.NLE.enum_one (begins_tuple a its.toArray) pT fun h' he hit hsz hk => wpAny_pyIter_enum he ?_
    have I2 : Inv X pins σ H1 { s1 with heap := h' } := I1.kept (t' := s1.toks) hk
    refine ⟨s1.heap.objs.size + 1, [s1.heap.objs.size + 1, s1.heap.objs.size], _, _, H1, rfl, I2, turn_enumT a (s1.heap.objs.size + 1) s1.heap.objs.size (Nat.ne_of_lt hal) (Nat.ne_of_lt (Nat.lt_succ_of_lt hal)), ⟨⟨.none, he⟩, ⟨_, hit, rfl, rfl⟩, Nat.succ_ne_self _⟩, fun b hb => ?_, q⟩
    have e' : b = s1.heap.objs.size + 1 ∨ b = s1.heap.objs.size := by simpa using hb
    have hle : s1.heap.objs.size ≤ b := by
      rcases e' with z | z
      · rw [z]; exact Nat.le_add_right _ _
      · rw [z]; exact Nat.le_refl _
    exact I1.fpOk hle (I1.hok.fresh hle)
theorem walk_enumT {K : PySem.W.Frag} {a : Addr} {xs : List V} : Walk (IteT K a) xs.length (fun H => SqT K H a xs) (YPair (fun i => some (.int (i : Nat))) (fun i => xs[i]?)) where
  goes := fun i H hi h => ⟨xs, xs[i], h, List.getElem?_eq_getElem hi⟩
  stops := fun H h => ⟨xs, h, Nat.le_refl _⟩
  yields := fun i H x H' hi h ⟨T, y, h1, h2, h3, h4⟩ => ⟨T, .int i, y, h1, h2, h3, rfl, h4 xs h⟩
end NL
namespace NL
open PySem L2
/-! the place hangs on the difference of cells and the order of rests -/
/-! the eleven places in order, by ten bounds -/
def PL : List Str := ["below", "-<", "-=", "->", "<", "=", ">", "+<", "+=", "+>", "above"]
/-! turned places -/
end NL
namespace NL
open PySem L2
/-! groups -/
def LG : List (Str × List Str) := [("any", ["below", "-<", "-=", "->", "<", "=", ">", "+<", "+=", "+>", "above"]), ("near", ["-=", "->", "<", "=", ">", "+<", "+="]), ("far", ["below", "-<", "+>", "above"]), ("less", ["below", "-<", "-=", "->", "<"]), ("more", [">", "+<", "+=", "+>", "above"]), ("under", ["below", "-<"]), ("over", ["+>", "above"]), ("cell", ["<", "=", ">"]), ("none", [])]
def GN : List Str := ["any", "near", "far", "less", "more", "under", "over", "cell", "none"]
def isGroupB (z : Str) : Bool := decide (z ∈ PL) || (LG.lookup z).isSome
def groupS (z : Str) : List Str := if z ∈ PL then [z] else (LG.lookup z).getD []
/-- two tables whose values correspond -/
theorem lookup_paired {K : PySem.W.Frag} {z : Str} : ∀ {tab : List (Str × V)} {lg : List (Str × List Str)}, Paired (fun (p : Str × V) (q : Str × List Str) => p.1 = q.1 ∧ ∃ a, p.2 = .ref a ∧ ∀ H, SqT K H a (q.2.map V.str)) tab lg →
    (tab.lookup z).isSome = (lg.lookup z).isSome ∧ ∀ ys, lg.lookup z = some ys → ∃ a, tab.lookup z = some (.ref a) ∧ ∀ H, SqT K H a (ys.map V.str)
  | _, _, .nil => ⟨rfl, fun _ h => nomatch h⟩
  | (x, v) :: r, (x', ys0) :: r', .cons ⟨e, a, ev, hs⟩ t => by
    have e : x = x' := e
    subst e
    have ev : v = .ref a := ev
    subst ev
    rw [List.lookup_cons, List.lookup_cons]
    by_cases hz : z = x
    · have e1 : (z == x) = true := by simpa using hz
      rw [e1]
      exact ⟨rfl, fun ys h => ⟨a, rfl, by cases h; exact hs⟩⟩
    · have e1 : (z == x) = false := by simpa using hz
      rw [e1]
      exact lookup_paired t
end NL
namespace NL
open PySem L2
/-! ### loops as plain data -/
def ALPHA : List Nat := ("abcdefghijklmnopqrstuvwxyz" : Str).cps.toList
def isNameB (z : Str) : Bool := decide (1 ≤ z.length) && decide (z.length ≤ 8) && z.cps.toList.all fun c => decide (c ∈ ALPHA)
structure Rule where
  st : Str
  gs : List Str
  wd : Str
  kp : Bool
  nx : Str
def wfRule (r : Rule) : Bool := isNameB r.st && isNameB r.wd && isNameB r.nx && decide (0 < r.gs.length) && r.gs.all isGroupB
def addS (acc : List Str) (z : Str) : List Str := if z ∈ acc then acc else acc ++ [z]
def statesF (acc : List Str) (rs : List Rule) : List Str := rs.foldl (fun acc r => addS (addS acc r.st) r.nx) acc
def statesR (rs : List Rule) : List Str := statesF [] rs
theorem addS_len (acc : List Str) (z : Str) : acc.length ≤ (addS acc z).length ∧ (addS acc z).length ≤ acc.length + 1 := by
  unfold addS; split
  · omega
  · rw [List.length_append]; simp
theorem addS_nodup {acc : List Str} {z : Str} (h : acc.Nodup) : (addS acc z).Nodup := by
  unfold addS; split
  · exact h
  · rename_i hz; exact nd_snoc h hz
theorem addS_mem {acc : List Str} {z y : Str} : y ∈ addS acc z ↔ y ∈ acc ∨ y = z := by
  unfold addS; split
  · rename_i hz
    constructor
    · exact .inl
    · rintro (h | h)
      · exact h
      · rw [h]; exact hz
  · rw [List.mem_append, List.mem_singleton]
theorem statesF_snoc (acc : List Str) (rs : List Rule) (r : Rule) : statesF acc (rs ++ [r]) = addS (addS (statesF acc rs) r.st) r.nx := by
  unfold statesF; rw [List.foldl_append]; rfl
theorem statesF_nodup {acc : List Str} (h : acc.Nodup) : ∀ rs : List Rule, (statesF acc rs).Nodup := fun rs => by
  unfold statesF
  induction rs generalizing acc with
  | nil => exact h
  | cons r rs ih => exact ih (addS_nodup (addS_nodup h))
theorem statesR_nodup (rs : List Rule) : (statesR rs).Nodup := statesF_nodup List.nodup_nil rs
theorem statesF_le (acc : List Str) : ∀ rs : List Rule, acc.length ≤ (statesF acc rs).length := fun rs => by
  unfold statesF
  induction rs generalizing acc with
  | nil => exact Nat.le_refl _
  | cons r rs ih =>
    refine Nat.le_trans ?_ (ih _)
    exact Nat.le_trans (addS_len acc r.st).1 (addS_len _ r.nx).1
theorem statesR_take (rs : List Rule) (n : Nat) : (statesR (rs.take n)).length ≤ (statesR rs).length := by
  conv => rhs; rw [← List.take_append_drop n rs]
  unfold statesR statesF
  rw [List.foldl_append]
  exact statesF_le _ _
theorem statesF_bound (acc : List Str) : ∀ rs : List Rule, (statesF acc rs).length ≤ acc.length + 2 * rs.length := fun rs => by
  unfold statesF
  induction rs generalizing acc with
  | nil => simp
  | cons r rs ih =>
    have h1 := (addS_len acc r.st).2
    have h2 := (addS_len (addS acc r.st) r.nx).2
    have := ih (addS (addS acc r.st) r.nx)
    simp only [List.foldl_cons, List.length_cons] at *
    omega
theorem statesF_mem {z : Str} : ∀ {rs : List Rule} {acc : List Str}, z ∈ statesF acc rs ↔ z ∈ acc ∨ ∃ r ∈ rs, z = r.st ∨ z = r.nx := by
  intro rs
  induction rs with
  | nil => intro acc; simp [statesF]
  | cons r rs ih =>
    intro acc
    show z ∈ statesF (addS (addS acc r.st) r.nx) rs ↔ _
    rw [ih, addS_mem, addS_mem]
    constructor
    · rintro (((h | h) | h) | ⟨r', h1, h2⟩)
      · exact .inl h
      · exact .inr ⟨r, List.mem_cons_self, .inl h⟩
      · exact .inr ⟨r, List.mem_cons_self, .inr h⟩
      · exact .inr ⟨r', List.mem_cons_of_mem _ h1, h2⟩
    · rintro (h | ⟨r', h1, h2⟩)
      · exact .inl (.inl (.inl h))
      · rcases List.mem_cons.mp h1 with rfl | h1
        · rcases h2 with h2 | h2
          · exact .inl (.inl (.inr h2))
          · exact .inl (.inr h2)
        · exact .inr ⟨r', h1, h2⟩
/-- the loop's rules are right: there are some, at most 40, at most 6 states -/
def wfRules (rs : List Rule) : Prop := 0 < rs.length ∧ rs.length ≤ 40 ∧ (∀ r ∈ rs, wfRule r = true) ∧ (statesR rs).length ≤ 6
/-! ### which rule is used -/
def fitsG (p g : Str) : Bool := if g = "none" then decide (p = "none") else decide (p ∈ groupS g)
def Rule.fits (r : Rule) (p : Str) : Bool := r.gs.any (fitsG p)
def hitR (s p : Str) (r : Rule) : Bool := decide (r.st = s) && r.fits p
def fitIdx (rs : List Rule) (s p : Str) : Option Nat := rs.findIdx? (hitR s p)
def usedR (rs : List Rule) (s p : Str) : Str × Bool × Str := match rs.find? (hitR s p) with
  | none => (("pass" : Str), false, s)
  | some r => (r.wd, r.kp, r.nx)
theorem fitIdx_snoc (rs : List Rule) (r : Rule) (s p : Str) : fitIdx (rs ++ [r]) s p = match fitIdx rs s p with | some i => some i | none => if hitR s p r = true then some rs.length else none := by
  unfold fitIdx
  rw [List.findIdx?_append]
  cases rs.findIdx? (hitR s p) with
  | some i => rfl
  | none =>
    show Option.map _ (List.findIdx? (hitR s p) [r]) = _
    rw [List.findIdx?_cons]
    split <;> simp
theorem fit_some {rs : List Rule} {s p : Str} {i : Nat} (h : fitIdx rs s p = some i) : ∃ r, rs[i]? = some r ∧ usedR rs s p = (r.wd, r.kp, r.nx) := by
  unfold fitIdx at h
  obtain ⟨hi, h1, h2⟩ := List.findIdx?_eq_some_iff_getElem.mp h
  refine ⟨rs[i], List.getElem?_eq_getElem hi, ?_⟩
  have : rs.find? (hitR s p) = some rs[i] := by
    rw [List.find?_eq_some_iff_getElem]
    exact ⟨h1, i, hi, rfl, fun j hj => by simpa using h2 j hj⟩
  unfold usedR; rw [this]
theorem fit_none {rs : List Rule} {s p : Str} (h : fitIdx rs s p = none) : usedR rs s p = (("pass" : Str), false, s) := by
  unfold fitIdx at h
  have : rs.find? (hitR s p) = none := by
    rw [List.find?_eq_none]
    intro x hx
    have := List.findIdx?_eq_none_iff.mp h x hx
    simpa using this
  unfold usedR; rw [this]
theorem used_state {rs : List Rule} {s p : Str} (hs : s ∈ statesR rs) : (usedR rs s p).2.2 ∈ statesR rs := by
  unfold usedR
  cases h : rs.find? (hitR s p) with
  | none => exact hs
  | some r => exact statesF_mem.mpr (.inr ⟨r, List.mem_of_find?_eq_some h, .inr rfl⟩)
/-! ### runs -/
structure RS where
  st : Str
  words : List Str
  keeps : List Bool
  kept : List Int
def whereS (kept : List Int) (x e : Int) : Str := match kept.getLast? with
  | none => "none"
  | some k => placeS x k e
def runStep (rs : List Rule) (e : Int) (s : RS) (x : Int) : RS :=
  let u := usedR rs s.st (whereS s.kept x e)
  ⟨u.2.2, s.words ++ [u.1], s.keeps ++ [u.2.1], if u.2.1 = true then s.kept ++ [x] else s.kept⟩
def startR (rs : List Rule) : Str := match rs with
  | [] => ""
  | r :: _ => r.st
def runR (rs : List Rule) (e : Int) (row : List Int) : RS := row.foldl (runStep rs e) ⟨startR rs, [], [], []⟩
theorem run_state (rs : List Rule) (e : Int) (hr : 0 < rs.length) (row : List Int) : (runR rs e row).st ∈ statesR rs := by
  have h0 : startR rs ∈ statesR rs := by
    cases rs with
    | nil => simp at hr
    | cons r rs => exact statesF_mem.mpr (.inr ⟨r, List.mem_cons_self, .inl rfl⟩)
  suffices h : ∀ (s : RS), s.st ∈ statesR rs → (row.foldl (runStep rs e) s).st ∈ statesR rs by exact h _ h0
  induction row with
  | nil => intro s hs; exact hs
  | cons y row ih => intro s hs; exact ih _ (used_state hs)
/-! ### the law's own look at rules -/
end NL
namespace NL
open PySem L2
/-! ### slices of a list or a tuple -/
def rSlSeq (K : PySem.W.Frag) : V → Option Int → Option Int → Hp → VK → Prop := fun x lo hi H Q => ∃ a xs, x = .ref a ∧ Sq K H a xs ∧ ∀ p H', Same H H' → Sq K H' p (cutV xs lo hi) → Q (.ref p) H'
theorem sl_seq {X : Cx} : SlR X (rSlSeq X.K) := by
  intro pins s σ H x v vl vu lo hi sl Q I rx hs pl pu h
  obtain ⟨a, xs, rfl, hq, q⟩ := h
  rcases hq with hq | hq
  · exact sl_list pins s σ H _ v vl vu lo hi sl Q I rx hs pl pu ⟨a, xs, rfl, hq, fun p hp => q p _ (same_new hp) (Sq.lst upd_same)⟩
  · refine sl_tupA pins s σ H _ v vl vu lo hi sl Q I rx hs pl pu ⟨a, xs, rfl, hq, fun hw => q a H (Same.refl _) ?_, fun _ p hp => q p _ (same_new hp) (Sq.tup upd_same)⟩
    have e : cutV xs lo hi = xs := by unfold cutV; rw [hw.1, hw.2]; simp
    rw [e]; exact .inr hq
theorem cut_to (xs : List V) (n : Nat) : cutV xs none (some (n : Int)) = xs.take n := by
  unfold cutV
  rw [HT.sIx_none, HT.sIx_nat]
  simp [List.take_eq_take_iff]
theorem cut_from (xs : List V) (n : Nat) : cutV xs (some (n : Int)) none = xs.drop n := by
  unfold cutV
  rw [HT.sIx_none, HT.sIx_nat]
  apply List.ext_getElem?
  intro i
  rw [List.getElem?_take]
  simp only [List.getElem?_drop]
  split
  · by_cases h : n ≤ xs.length
    · rw [Nat.min_eq_left h]
    · rw [List.getElem?_eq_none (by omega), List.getElem?_eq_none (by omega)]
  · rw [List.getElem?_eq_none (by omega)]
/-! ### rules, in the heap -/
def RuleAt (K : PySem.W.Frag) (H : Hp) (v : V) (r : Rule) : Prop := ∃ t g, v = .ref t ∧ Sq K H t [.str r.st, .ref g, .str r.wd, .bl r.kp, .str r.nx] ∧ Sq K H g (r.gs.map V.str)
def RuleT (K : PySem.W.Frag) (H : Hp) (v : V) (r : Rule) : Prop := ∃ t g, v = .ref t ∧ SqT K H t [.str r.st, .ref g, .str r.wd, .bl r.kp, .str r.nx] ∧ SqT K H g (r.gs.map V.str)
def RulesAt (K : PySem.W.Frag) (H : Hp) (a : Addr) (rs : List Rule) : Prop := ∃ vs, Sq K H a vs ∧ Paired (RuleAt K H) vs rs
def RulesT (K : PySem.W.Frag) (H : Hp) (a : Addr) (rs : List Rule) : Prop := ∃ vs, SqT K H a vs ∧ Paired (RuleT K H) vs rs
section
variable {K : PySem.W.Frag} {H H' : Hp}
theorem RuleAt.same {v : V} {r : Rule} (s : Same H H') (h : RuleAt K H v r) : RuleAt K H' v r := by
  obtain ⟨t, g, e, h1, h2⟩ := h; exact ⟨t, g, e, h1.same s, h2.same s⟩
theorem RuleT.same {v : V} {r : Rule} (s : Same H H') (h : RuleT K H v r) : RuleT K H' v r := by
  obtain ⟨t, g, e, h1, h2⟩ := h; exact ⟨t, g, e, SqT_same s h1, SqT_same s h2⟩
theorem RuleT.at {v : V} {r : Rule} (h : RuleT K H v r) : RuleAt K H v r := by
  obtain ⟨t, g, e, h1, h2⟩ := h; exact ⟨t, g, e, .inr h1, .inr h2⟩
theorem RulesAt.same {a : Addr} {rs : List Rule} (s : Same H H') (h : RulesAt K H a rs) : RulesAt K H' a rs := by
  obtain ⟨vs, h1, h2⟩ := h; exact ⟨vs, h1.same s, Paired.mapP h2 fun _ _ => RuleAt.same s⟩
theorem RulesT.same {a : Addr} {rs : List Rule} (s : Same H H') (h : RulesT K H a rs) : RulesT K H' a rs := by
  obtain ⟨vs, h1, h2⟩ := h; exact ⟨vs, SqT_same s h1, Paired.mapP h2 fun _ _ => RuleT.same s⟩
theorem RulesT.at {a : Addr} {rs : List Rule} (h : RulesT K H a rs) : RulesAt K H a rs := by
  obtain ⟨vs, h1, h2⟩ := h; exact ⟨vs, .inr h1, Paired.mapP h2 fun _ _ => RuleT.at⟩
end
theorem paired_gety {α β : Type} {R : α → β → Prop} : ∀ {xs : List α} {ys : List β} {i : Nat} {y : β}, Paired R xs ys → ys[i]? = some y → ∃ x, xs[i]? = some x ∧ R x y
  | _, _, _, _, .nil, e => by simp at e
  | _, _, 0, _, .cons r _, e => by simp at e; subst e; exact ⟨_, rfl, r⟩
  | _, _, i + 1, x, .cons _ t, e => by
    obtain ⟨u, h1, h2⟩ := paired_gety (i := i) (y := x) t (by simpa using e)
    exact ⟨u, by simpa using h1, h2⟩
theorem paired_take {α β : Type} {R : α → β → Prop} : ∀ {xs : List α} {ys : List β} (n : Nat), Paired R xs ys → Paired R (xs.take n) (ys.take n)
  | _, _, 0, _ => .nil
  | _, _, _ + 1, .nil => .nil
  | _, _, n + 1, .cons r t => .cons r (paired_take n t)
theorem paired_snoc {α β : Type} {R : α → β → Prop} : ∀ {xs : List α} {ys : List β} {x : α} {y : β}, Paired R xs ys → R x y → Paired R (xs ++ [x]) (ys ++ [y])
  | _, _, _, _, .nil, h => .cons h .nil
  | _, _, _, _, .cons r t, h => .cons r (paired_snoc t h)
theorem lock_same {H H' : Hp} {d : Addr} {u o : HO} (h : H d = some u) (s : Same (upd H d o) H') : Same H (upd H' d u) := fun c x hc => by
  by_cases e : c = d
  · subst e; rw [h] at hc; rw [upd_same]; exact hc
  · rw [upd_ne e]; exact s c x (by rw [upd_ne e]; exact hc)
theorem nd_take {zs : List Str} {i : Nat} {z : Str} (h : zs.Nodup) (hz : zs[i]? = some z) : z ∉ zs.take i := by
  have e := take_snoc hz
  have h2 : (zs.take i ++ [z]).Nodup := by rw [← e]; exact h.sublist (List.take_sublist _ _)
  intro hm
  rw [List.nodup_append] at h2
  exact h2.2.2 z hm z (List.mem_singleton_self _) rfl
/-! ### the dict of states -/
def stD (zs : List Str) : List (Key × V) := zs.map fun z => (Sum.inr z, V.bl true)
theorem stD_val (zs : List Str) (z : Str) : valV (stD zs) (Sum.inr z) = if z ∈ zs then some (.bl true) else none := by
  induction zs with
  | nil => rfl
  | cons y zs ih =>
    show valV ((Sum.inr y, V.bl true) :: stD zs) _ = _
    by_cases h : y = z
    · subst h; rw [valV_pos rfl, if_pos List.mem_cons_self]
    · rw [valV_neg (fun e => h (Sum.inr.inj e)), ih]
      by_cases h2 : z ∈ zs
      · rw [if_pos h2, if_pos (List.mem_cons_of_mem _ h2)]
      · rw [if_neg h2, if_neg]
        intro hm
        rcases List.mem_cons.mp hm with e | e
        · exact h e.symm
        · exact h2 e
theorem stD_put (zs : List Str) (z : Str) : putK (stD zs) (Sum.inr z) (.bl true) = stD (addS zs z) := by
  unfold addS
  by_cases h : z ∈ zs
  · rw [if_pos h]
    unfold putK
    have e : ((stD zs).any fun kv => decide (kv.1 = Sum.inr z)) = true := by rw [valV_any, stD_val, if_pos h]; rfl
    rw [if_pos e]
    unfold stD
    rw [List.map_map]
    apply List.map_congr_left
    intro y _
    show (if Sum.inr y = (Sum.inr z : Key) then _ else _) = _
    split <;> rfl
  · rw [if_neg h, putK_new _ (by rw [stD_val, if_neg h])]
    unfold stD; rw [List.map_append]; rfl
/-! ### tuple(x), x a list or a tuple -/
def rTupSeq (K : PySem.W.Frag) : List V → Hp → VK → Prop := fun xs H Q => ∃ p ys, xs = [.ref p] ∧ Sq K H p ys ∧ ∀ l H', Same H H' → SqT K H' l ys → Q (.ref l) H'
def rTupOf (K : PySem.W.Frag) : List V → Hp → VK → Prop := fun xs H Q => ∃ p ys, xs = [.ref p] ∧ ((SqL K H p ys ∧ ∀ l, H l = none → Q (.ref l) (upd H l (.tup ys))) ∨ (SqT K H p ys ∧ Q (.ref p) H))
theorem call_tuple_seq {X : Cx} : CallR X (.type "tuple") (rTupSeq X.K) := by
  intro pins s σ H xs us Q I r h
  obtain ⟨p, ys, rfl, hq, q⟩ := h
  refine call_tuple_of pins s σ H _ us Q I r ⟨p, ys, rfl, ?_⟩
  rcases hq with hq | hq
  · exact .inl ⟨hq, fun l hl => q l _ (same_new hl) (SqT.of upd_same)⟩
  · exact .inr ⟨hq, q p H (Same.refl _) hq⟩
/-- no tuple, locked or not -/
def noTup (u : HO) : Prop := (∀ xs, u ≠ .tup xs) ∧ ∀ o xs, u ≠ .frz o (.tup xs)
theorem noTup_lst {xs : List V} : noTup (.lst xs) := ⟨fun _ z => (nomatch z), fun _ _ z => (nomatch z)⟩
theorem noTup_ins {C dx : Addr} {fs : List (Str × V)} : noTup (.ins C dx fs) := ⟨fun _ z => (nomatch z), fun _ _ z => (nomatch z)⟩
section
variable {K : PySem.W.Frag} {H : Hp} {D : Addr} {u o : HO}
theorem SqT_skip {a : Addr} {xs : List V} (hD : H D = some u) (hu : noTup u) (h : SqT K H a xs) : SqT K (upd H D o) a xs := by
  rcases h with (h | ⟨ob, h⟩) | h
  · refine .inl (.inl (upd_skip (fun e => ?_) h))
    subst e; rw [hD] at h; exact hu.1 _ (Option.some.inj h)
  · refine .inl (.inr ⟨ob, upd_skip (fun e => ?_) h⟩)
    subst e; rw [hD] at h; exact hu.2 _ _ (Option.some.inj h)
  · exact .inr h
theorem RuleT.skip {v : V} {r : Rule} (hD : H D = some u) (hu : noTup u) (h : RuleT K H v r) : RuleT K (upd H D o) v r := by
  obtain ⟨t, g, e, h1, h2⟩ := h; exact ⟨t, g, e, SqT_skip hD hu h1, SqT_skip hD hu h2⟩
theorem RulesT.skip {a : Addr} {rs : List Rule} (hD : H D = some u) (hu : noTup u) (h : RulesT K H a rs) : RulesT K (upd H D o) a rs := by
  obtain ⟨vs, h1, h2⟩ := h; exact ⟨vs, SqT_skip hD hu h1, Paired.mapP h2 fun _ _ => RuleT.skip hD hu⟩
theorem But.skip {H' : Hp} {p q : Addr} (b : But p H H') (n : H q = none) : But p H (L2.upd H' q o) := fun c x hc h => upd_skip (ne_of_none h n) (b c x hc h)
end
/-! ### answers -/
def ansD (ans : List (Str × Str)) : List (Key × V) := ans.map fun p => (Sum.inr p.1, V.str p.2)
def ansOf (ans : List (Str × Str)) (s : Str) : Str := (ans.lookup s).getD ""
def ansV (rs : List Rule) (ans : List (Str × Str)) : List (Key × V) := (statesR rs).map fun s => (Sum.inr s, V.str (ansOf ans s))
theorem ansD_val (ans : List (Str × Str)) (z : Str) : valV (ansD ans) (Sum.inr z) = (ans.lookup z).map V.str := by
  induction ans with
  | nil => rfl
  | cons p ans ih =>
    obtain ⟨x, y⟩ := p
    show valV ((Sum.inr x, V.str y) :: ansD ans) _ = _
    rw [List.lookup_cons]
    by_cases h : z = x
    · subst h; rw [valV_pos rfl]; simp
    · rw [valV_neg (fun e => h (Sum.inr.inj e).symm), ih]
      have : (z == x) = false := by simpa using h
      rw [this]
theorem ansD_get (ans : List (Str × Str)) (z : Str) : ((ans.lookup z).map V.str).getD (.str "") = .str (ansOf ans z) := by
  unfold ansOf; cases ans.lookup z <;> rfl
theorem mapD_val (f : Str → Str) (zs : List Str) (z : Str) : valV (zs.map fun s => ((Sum.inr s : Key), V.str (f s))) (Sum.inr z) = if z ∈ zs then some (.str (f z)) else none := by
  induction zs with
  | nil => rfl
  | cons y zs ih =>
    rw [List.map_cons]
    by_cases h : y = z
    · subst h; rw [valV_pos rfl, if_pos List.mem_cons_self]
    · rw [valV_neg (fun e => h (Sum.inr.inj e)), ih]
      by_cases h2 : z ∈ zs
      · rw [if_pos h2, if_pos (List.mem_cons_of_mem _ h2)]
      · rw [if_neg h2, if_neg]
        intro hm
        rcases List.mem_cons.mp hm with e | e
        · exact h e.symm
        · exact h2 e
/-- the answers are right: for states alone, names or the empty text -/
def ansOk (rs : List Rule) (ans : List (Str × Str)) : Prop := (∀ p ∈ ans, p.1 ∈ statesR rs ∧ (p.2 = "" ∨ isNameB p.2 = true)) ∧ ans.length ≤ 50
theorem ansOk_of {rs : List Rule} {ans : List (Str × Str)} (h : ansOk rs ans) (z : Str) : ansOf ans z = "" ∨ isNameB (ansOf ans z) = true := by
  unfold ansOf
  cases e : ans.lookup z with
  | none => exact .inl rfl
  | some y =>
    have hm : (z, y) ∈ ans := by
      clear h
      induction ans with
      | nil => simp at e
      | cons p ans ih =>
        obtain ⟨a, b⟩ := p
        rw [List.lookup_cons] at e
        by_cases hz : (z == a) = true
        · rw [hz] at e
          have : b = y := Option.some.inj e
          rw [← this, eq_of_beq hz]; exact List.mem_cons_self
        · have hz : (z == a) = false := by simpa using hz
          rw [hz] at e
          exact List.mem_cons_of_mem _ (ih e)
    exact (h.1 _ hm).2
/-! ### the table of a loop -/
def placesG (g : Str) : List Str := if g = "none" then ["none"] else groupS g
theorem fitsG_places (p g : Str) : fitsG p g = decide (p ∈ placesG g) := by
  unfold fitsG placesG
  split
  · simp
  · rfl
def tabF (rs : List Rule) (i : Nat) (st : Str) (acc : List Str) (s p : Str) : Option Nat := match fitIdx (rs.take i) s p with
  | some k => some k
  | none => if s = st ∧ p ∈ acc then some i else none
def TabIs (tab : List (List Key × V)) (f : Str → Str → Option Nat) : Prop := ∀ s p : Str, valV tab [Sum.inr s, Sum.inr p] = (f s p).map fun (k : Nat) => V.int (k : Int)
theorem tabF_nil (rs : List Rule) (i : Nat) (st : Str) : tabF rs i st [] = fitIdx (rs.take i) := by
  funext s p; unfold tabF; cases fitIdx (rs.take i) s p <;> simp
theorem tab_end {rs : List Rule} {i : Nat} {r : Rule} (h : rs[i]? = some r) : tabF rs i r.st (r.gs.flatMap placesG) = fitIdx (rs.take (i + 1)) := by
  funext s p
  rw [take_snoc h, fitIdx_snoc]
  unfold tabF
  cases fitIdx (rs.take i) s p with
  | some k => rfl
  | none =>
    have hl : (rs.take i).length = i := by
      rw [List.length_take]
      have := (List.getElem?_eq_some_iff.mp h).1
      omega
    rw [hl]
    show (if _ then _ else _) = if _ then _ else _
    congr 1
    apply propext
    unfold hitR Rule.fits
    simp only [Bool.and_eq_true, decide_eq_true_eq, List.any_eq_true, List.mem_flatMap, fitsG_places]
    exact ⟨fun ⟨h1, h2⟩ => ⟨h1.symm, h2⟩, fun ⟨h1, h2⟩ => ⟨h1.symm, h2⟩⟩
theorem tab_some {tab : List (List Key × V)} {rs : List Rule} {i : Nat} {st : Str} {acc : List Str} {p : Str} {v : V} (h : TabIs tab (tabF rs i st acc)) (hv : valV tab [Sum.inr st, Sum.inr p] = some v) : TabIs tab (tabF rs i st (acc ++ [p])) := by
  intro s q
  rw [h s q]
  congr 1
  have := (h st p).symm.trans hv
  unfold tabF at this ⊢
  cases e : fitIdx (rs.take i) s q with
  | some k => rfl
  | none =>
    show (if _ then _ else _) = if _ then _ else _
    by_cases hs : s = st ∧ q = p
    · obtain ⟨rfl, rfl⟩ := hs
      rw [e] at this
      by_cases hm : q ∈ acc
      · rw [if_pos ⟨rfl, hm⟩, if_pos ⟨rfl, List.mem_append_left _ hm⟩]
      · exfalso
        rw [show (match (none : Option Nat) with | some k => some k | none => if s = s ∧ q ∈ acc then some i else none) = if s = s ∧ q ∈ acc then some i else none from rfl, if_neg (fun z => hm z.2)] at this
        exact nomatch this
    · congr 1
      apply propext
      rw [List.mem_append, List.mem_singleton]
      exact ⟨fun ⟨h1, h2⟩ => ⟨h1, .inl h2⟩, fun ⟨h1, h2⟩ => ⟨h1, h2.resolve_right fun z => hs ⟨h1, z⟩⟩⟩
theorem tab_none {tab : List (List Key × V)} {rs : List Rule} {i : Nat} {st : Str} {acc : List Str} {p : Str} (h : TabIs tab (tabF rs i st acc)) (hv : valV tab [Sum.inr st, Sum.inr p] = none) : TabIs (putK tab [Sum.inr st, Sum.inr p] (.int (i : Int))) (tabF rs i st (acc ++ [p])) := by
  intro s q
  rw [valV_put]
  have hn := (h st p).symm.trans hv
  by_cases hs : s = st ∧ q = p
  · obtain ⟨rfl, rfl⟩ := hs
    rw [if_pos rfl]
    unfold tabF at hn ⊢
    cases e : fitIdx (rs.take i) s q with
    | some k => rw [e] at hn; exact nomatch hn
    | none =>
      show _ = (if _ then _ else _ : Option Nat).map _
      rw [if_pos ⟨rfl, List.mem_append_right _ (List.mem_singleton_self _)⟩]; rfl
  · rw [if_neg (fun e => hs (by injection e with e1 e2; injection e2 with e2 _; exact ⟨(Sum.inr.inj e1), (Sum.inr.inj e2)⟩)), h s q]
    congr 1
    unfold tabF
    cases e : fitIdx (rs.take i) s q with
    | some k => rfl
    | none =>
      show (if _ then _ else _) = if _ then _ else _
      congr 1
      apply propext
      rw [List.mem_append, List.mem_singleton]
      exact ⟨fun ⟨h1, h2⟩ => ⟨h1, .inl h2⟩, fun ⟨h1, h2⟩ => ⟨h1, h2.resolve_right fun z => hs ⟨h1, z⟩⟩⟩
theorem placesG_len (g : Str) (h : isGroupB g = true) : (placesG g).length ≤ 11 := by
  unfold placesG
  split
  · decide
  · unfold groupS
    split
    · show 1 ≤ 11; decide
    · unfold isGroupB at h
      rename_i _ hz
      rw [decide_eq_false hz, Bool.false_or] at h
      obtain ⟨ys, hy⟩ := Option.isSome_iff_exists.mp h
      rw [hy]
      have : ∀ q ∈ LG, q.2.length ≤ 11 := by decide +kernel
      have hm : ∃ x, (x, ys) ∈ LG := by
        clear h this
        generalize LG = l at hy
        induction l with
        | nil => simp at hy
        | cons p l ih =>
          obtain ⟨a, b⟩ := p
          rw [List.lookup_cons] at hy
          split at hy
          · exact ⟨a, by rw [Option.some.inj hy]; exact List.mem_cons_self⟩
          · obtain ⟨x, hx⟩ := ih hy; exact ⟨x, List.mem_cons_of_mem _ hx⟩
      obtain ⟨x, hx⟩ := hm
      exact this _ hx
theorem flat_len {gs : List Str} (h : ∀ g ∈ gs, isGroupB g = true) : (gs.flatMap placesG).length ≤ 11 * gs.length := by
  induction gs with
  | nil => simp
  | cons g gs ih =>
    rw [List.flatMap_cons, List.length_append, List.length_cons]
    have h1 := placesG_len g (h g List.mem_cons_self)
    have h2 := ih fun x hx => h x (List.mem_cons_of_mem _ hx)
    omega
/-! ### a loop, in the heap -/
def LoopAt (K : PySem.W.Frag) (C : Addr) (H : Hp) (p : Addr) (rs : List Rule) (ans : List (Str × Str)) : Prop :=
  ∃ (dx ra rd rt : Addr) (tab : List (List Key × V)), H p = some (.ins C dx [("own_rules", .ref ra), ("own_answers", .ref rd), ("table", .ref rt)]) ∧ RulesT K H ra rs ∧ H rd = some (.dK (ansV rs ans)) ∧ H rt = some (.dT tab) ∧ TabIs tab (fitIdx rs)
theorem LoopAt.same {K : PySem.W.Frag} {C : Addr} {H H' : Hp} {p : Addr} {rs : List Rule} {ans : List (Str × Str)} (s : Same H H') (h : LoopAt K C H p rs ans) : LoopAt K C H' p rs ans := by
  obtain ⟨dx, ra, rd, rt, tab, h1, h2, h3, h4, h5⟩ := h
  exact ⟨dx, ra, rd, rt, tab, s _ _ h1, h2.same s, s _ _ h3, s _ _ h4, h5⟩
/-! ### a run, in the heap -/
def RunAt (K : PySem.W.Frag) (C : Addr) (H : Hp) (p : Addr) (r : RS) (an : Str) : Prop :=
  ∃ (dx a b c : Addr), H p = some (.ins C dx [("words", .ref a), ("keeps", .ref b), ("kept", .ref c), ("state", .str r.st), ("answer", .str an)]) ∧ H a = some (.tup (r.words.map V.str)) ∧ H b = some (.tup (r.keeps.map V.bl)) ∧ H c = some (.tup (r.kept.map V.int))
theorem RunAt.same {K : PySem.W.Frag} {C : Addr} {H H' : Hp} {p : Addr} {r : RS} {an : Str} (s : Same H H') (h : RunAt K C H p r an) : RunAt K C H' p r an := by
  obtain ⟨dx, a, b, c, h1, h2, h3, h4⟩ := h
  exact ⟨dx, a, b, c, s _ _ h1, s _ _ h2, s _ _ h3, s _ _ h4⟩
/-- a row that stands in the heap -/
def RowAt (H : Hp) (a : Addr) (xs : List V) : Prop := H a = some (.lst xs) ∨ H a = some (.tup xs)
theorem RowAt.same {H H' : Hp} {a : Addr} {xs : List V} (s : Same H H') (h : RowAt H a xs) : RowAt H' a xs := by
  rcases h with h | h
  · exact .inl (s _ _ h)
  · exact .inr (s _ _ h)
end NL
/-! len(x), x == y by a class's own methods -/
namespace NL
open PySem L2
end NL
/-! d.update(e), both with keys that are ints and texts -/
namespace NL
open PySem L2
end NL
namespace NL
open PySem L2
/-! ### drawn names -/
theorem isName_of {z : Str} (h1 : 1 ≤ z.cps.toList.length) (h2 : z.cps.toList.length ≤ 8) (h3 : ∀ c ∈ z.cps.toList, c ∈ ALPHA) : isNameB z = true := by
  unfold isNameB
  have e : z.length = z.cps.toList.length := by simp [Str.length]
  rw [e, decide_eq_true h1, decide_eq_true h2, Bool.true_and, Bool.true_and, List.all_eq_true]
  intro c hc; exact decide_eq_true (h3 c hc)
theorem name_len {z : Str} (h : isNameB z = true) : 1 ≤ z.length ∧ z.length ≤ 8 := by
  unfold isNameB at h
  simp only [Bool.and_eq_true, decide_eq_true_eq] at h
  exact h.1
def oneS (c : Nat) : Str := ⟨#[c]⟩
theorem joinL_ones : ∀ cs : List Nat, TL.joinL [] (cs.map fun c => [c]) = cs
  | [] => rfl
  | [c] => rfl
  | c :: d :: r => by
    show [c] ++ ([] ++ TL.joinL [] ((d :: r).map fun c => [c])) = c :: d :: r
    rw [joinL_ones (d :: r)]; rfl
theorem join_cps (cs : List Nat) : (Txt.join "" (cs.map oneS)).cps.toList = cs := by
  have e := TL.tl_join "" (cs.map oneS)
  rw [← TL.join_eq] at e
  have e2 : (cs.map oneS).map TL.tl = cs.map fun c => [c] := by rw [List.map_map]; rfl
  rw [e2] at e
  have e3 : TL.tl "" = [] := rfl
  rw [e3, joinL_ones] at e
  exact e
theorem ones_sum : ∀ cs : List Nat, ((cs.map oneS).map (·.length)).sum = cs.length
  | [] => rfl
  | c :: cs => by
    show 1 + ((cs.map oneS).map (·.length)).sum = cs.length + 1
    rw [ones_sum cs]; omega
theorem join_name {cs : List Nat} (h1 : 1 ≤ cs.length) (h2 : cs.length ≤ 8) (h3 : ∀ c ∈ cs, c ∈ ALPHA) : isNameB (Txt.join "" (cs.map oneS)) = true :=
  isName_of (by rw [join_cps]; exact h1) (by rw [join_cps]; exact h2) (by rw [join_cps]; exact h3)
theorem q_name {cs : List Nat} (h1 : 1 ≤ cs.length) (h2 : cs.length ≤ 8) (h3 : ∀ c ∈ cs, c ∈ ALPHA) : isNameB ("q" ++ cutS (Txt.join "" (cs.map oneS)) (some 1) none) = true := by
  have el : (Txt.join "" (cs.map oneS)).length = cs.length := by
    have := congrArg List.length (join_cps cs); simpa [Str.length] using this
  have e : ("q" ++ cutS (Txt.join "" (cs.map oneS)) (some 1) none : Str).cps.toList = 113 :: cs.drop 1 := by
    show ((("q" : Str).cps ++ (cutS (Txt.join "" (cs.map oneS)) (some 1) none).cps)).toList = _
    rw [Array.toList_append]
    unfold cutS
    rw [join_cps, el, HT.sIx_none, show (1 : Int) = ((1 : Nat) : Int) from rfl, HT.sIx_nat]
    show [113] ++ _ = _
    rw [Nat.min_eq_left (by omega)]
    simp only [List.singleton_append, List.cons.injEq, true_and]
    rw [List.take_of_length_le (by rw [List.length_drop]; omega)]
  refine isName_of ?_ ?_ ?_
  · rw [e]; simp
  · rw [e, List.length_cons, List.length_drop]; omega
  · rw [e]; intro c hc
    rcases List.mem_cons.mp hc with rfl | hc
    · decide +kernel
    · exact h3 c (List.mem_of_mem_drop hc)
def ZS : List Str := [("za" : Str), "zb", "zc", "zd", "ze", "zf", "zg", "zh", "zi", "zj", "zk", "zl", "zm", "zn", "zo", "zp", "zq"]
theorem ZS_names : ∀ z ∈ ZS, isNameB z = true := by decide +kernel
theorem ZS_nodup : ZS.Nodup := by decide +kernel
theorem nodup_len : ∀ {xs ys : List Str}, xs.Nodup → (∀ x ∈ xs, x ∈ ys) → xs.length ≤ ys.length
  | [], _, _, _ => Nat.zero_le _
  | x :: xs, ys, h, hs => by
    rw [List.nodup_cons] at h
    have hx := hs x List.mem_cons_self
    have := nodup_len (xs := xs) (ys := ys.erase x) h.2 fun y hy => by
      have hne : y ≠ x := fun e => h.1 (e ▸ hy)
      exact (List.mem_erase_of_ne hne).mpr (hs y (List.mem_cons_of_mem _ hy))
    rw [List.length_erase_of_mem hx] at this
    have hp : 0 < ys.length := List.length_pos_of_mem hx
    rw [List.length_cons]; omega
theorem z_free {ts : List Str} (h : ts.length ≤ 16) : ∃ z r, ZS.filter (fun z => !decide (z ∈ ts)) = z :: r ∧ isNameB z = true ∧ z ∉ ts := by
  cases e : ZS.filter (fun z => !decide (z ∈ ts)) with
  | nil =>
    exfalso
    have := nodup_len ZS_nodup (ys := ts) fun x hx => by
      have := List.filter_eq_nil_iff.mp e x hx
      simpa using this
    have hz : ZS.length = 17 := rfl
    omega
  | cons z r =>
    have hm : z ∈ ZS.filter (fun z => !decide (z ∈ ts)) := by rw [e]; exact List.mem_cons_self
    obtain ⟨h1, h2⟩ := List.mem_filter.mp hm
    exact ⟨z, r, rfl, ZS_names z h1, by simpa using h2⟩
/-! ### the law's own groups -/
/-! ### the law's own rules: a list of tuples, with lists of groups -/
def RuleL (H : Hp) (v : V) (r : Rule) : Prop := ∃ t g, v = .ref t ∧ H t = some (.tup [.str r.st, .ref g, .str r.wd, .bl r.kp, .str r.nx]) ∧ H g = some (.lst (r.gs.map V.str))
def RulesL (H : Hp) (a : Addr) (rs : List Rule) : Prop := ∃ vs, H a = some (.lst vs) ∧ Paired (RuleL H) vs rs
section
variable {K : PySem.W.Frag} {H H' : Hp}
theorem RuleL.same {v : V} {r : Rule} (s : Same H H') (h : RuleL H v r) : RuleL H' v r := by
  obtain ⟨t, g, e, h1, h2⟩ := h; exact ⟨t, g, e, s _ _ h1, s _ _ h2⟩
theorem RuleL.at {v : V} {r : Rule} (h : RuleL H v r) : RuleAt K H v r := by
  obtain ⟨t, g, e, h1, h2⟩ := h; exact ⟨t, g, e, Sq.tup h1, Sq.lst h2⟩
theorem RulesL.same {a : Addr} {rs : List Rule} (s : Same H H') (h : RulesL H a rs) : RulesL H' a rs := by
  obtain ⟨vs, h1, h2⟩ := h; exact ⟨vs, s _ _ h1, Paired.mapP h2 fun _ _ => RuleL.same s⟩
theorem RulesL.at {a : Addr} {rs : List Rule} (h : RulesL H a rs) : RulesAt K H a rs := by
  obtain ⟨vs, h1, h2⟩ := h; exact ⟨vs, Sq.lst h1, Paired.mapP h2 fun _ _ => RuleL.at⟩
end
/-! ### dicts of lists -/
def PartR (H : Hp) (kv : Key × V) (q : Str × List Str) : Prop := kv.1 = Sum.inr q.1 ∧ ∃ a, kv.2 = .ref a ∧ H a = some (.lst (q.2.map V.str))
theorem PartR.same {H H' : Hp} {kv : Key × V} {q : Str × List Str} (s : Same H H') (h : PartR H kv q) : PartR H' kv q := by
  obtain ⟨e, a, h1, h2⟩ := h; exact ⟨e, a, h1, s _ _ h2⟩
/-! ### ints and bools as data -/
theorem name_ok {z : Str} (h : isNameB z = true) : PyData.strOk z = true := by
  unfold isNameB at h
  simp only [Bool.and_eq_true, List.all_eq_true, decide_eq_true_eq] at h
  unfold PyData.strOk
  rw [Array.all_eq_true_iff_forall_mem]
  intro c hc
  have h1 := h.2 c (by simpa using hc)
  have : ∀ c ∈ ALPHA, decide (c < 0x110000) = true := by decide +kernel
  exact this c h1
/-! ### drawn rules -/
def N19 : List Str := GN.take 8 ++ PL
theorem N19_group : ∀ z ∈ N19, isGroupB z = true := by decide +kernel
def W3 : List Str := [("new" : Str), "old", "pass"]
theorem W3_name : ∀ z ∈ W3, isNameB z = true := by decide +kernel
/-- rules as the law draws them: of at most `many` states, at most `most` rules -/
structure Drawn (rs : List Rule) (many most : Int) : Prop where
  pos : 0 < rs.length
  few : (rs.length : Int) ≤ most
  wf : ∀ r ∈ rs, wfRule r = true
  gs : ∀ r ∈ rs, r.gs.length ≤ 4
  wd : ∀ r ∈ rs, r.wd ∈ W3
  st : ((statesR rs).length : Int) ≤ many
theorem Drawn.rules {rs : List Rule} {many most : Int} (h : Drawn rs many most) (h1 : many ≤ 6) (h2 : most ≤ 40) : wfRules rs :=
  ⟨h.pos, by have := h.few; omega, h.wf, by have := h.st; omega⟩
theorem Drawn.groups {rs : List Rule} {many most : Int} (h : Drawn rs many most) : ∀ r ∈ rs, r.gs.length ≤ 100 ∧ ∀ g ∈ r.gs, isGroupB g = true := fun r hr => by
  have h1 := h.gs r hr
  have h2 := h.wf r hr
  unfold wfRule at h2
  simp only [Bool.and_eq_true] at h2
  exact ⟨by omega, List.all_eq_true.mp h2.2⟩
theorem wfRule_of {r : Rule} (h1 : isNameB r.st = true) (h2 : isNameB r.wd = true) (h3 : isNameB r.nx = true) (h4 : 0 < r.gs.length) (h5 : ∀ g ∈ r.gs, isGroupB g = true) : wfRule r = true := by
  unfold wfRule
  rw [h1, h2, h3, decide_eq_true h4, List.all_eq_true.mpr h5]; rfl
theorem states_sub {rs : List Rule} {zs : List Str} (h : ∀ r ∈ rs, r.st ∈ zs ∧ r.nx ∈ zs) : (statesR rs).length ≤ zs.length := by
  refine nodup_len (statesR_nodup rs) fun x hx => ?_
  rcases statesF_mem.mp hx with h0 | ⟨r, hr, e | e⟩
  · exact nomatch h0
  · rw [e]; exact (h r hr).1
  · rw [e]; exact (h r hr).2
/-! ### facts beside the source -/
theorem SqT_hide {K : PySem.W.Frag} {H : Hp} {p a : Addr} {xs : List V} {u : HO} (hp : H p = some u) (hu : noTup u) (h : SqT K H a xs) : SqT K (NL.hide H p) a xs := by
  rcases h with (h | ⟨o, h⟩) | h
  · exact .inl (.inl (hide_put h fun e => by subst e; rw [hp] at h; exact hu.1 _ (Option.some.inj h)))
  · exact .inl (.inr ⟨o, hide_put h fun e => by subst e; rw [hp] at h; exact hu.2 _ _ (Option.some.inj h)⟩)
  · exact .inr h
theorem LoopAt.hide {K : PySem.W.Frag} {C : Addr} {H : Hp} {p q : Addr} {ys : List V} {rs : List Rule} {ans : List (Str × Str)} (hp : H p = some (.lst ys)) (h : LoopAt K C H q rs ans) : LoopAt K C (NL.hide H p) q rs ans := by
  obtain ⟨dx, ra, rd, rt, tab, h1, ⟨vs, h2, h3⟩, h4, h5, h6⟩ := h
  refine ⟨dx, ra, rd, rt, tab, hide_put h1 (ne_of h1 hp fun z => nomatch z), ⟨vs, SqT_hide hp noTup_lst h2, Paired.mapP h3 fun _ _ ⟨t, g, e, k1, k2⟩ => ⟨t, g, e, SqT_hide hp noTup_lst k1, SqT_hide hp noTup_lst k2⟩⟩, hide_put h4 (ne_of h4 hp fun z => nomatch z), hide_put h5 (ne_of h5 hp fun z => nomatch z), h6⟩
theorem RunAt.hide {K : PySem.W.Frag} {C : Addr} {H : Hp} {p q : Addr} {ys : List V} {r : RS} {an : Str} (hp : H p = some (.lst ys)) (h : RunAt K C H q r an) : RunAt K C (NL.hide H p) q r an := by
  obtain ⟨dx, a, b, c, h1, h2, h3, h4⟩ := h
  exact ⟨dx, a, b, c, hide_put h1 (ne_of h1 hp fun z => nomatch z), hide_put h2 (ne_of h2 hp fun z => nomatch z), hide_put h3 (ne_of h3 hp fun z => nomatch z), hide_put h4 (ne_of h4 hp fun z => nomatch z)⟩
theorem Src.lst {H : Hp} {p : Addr} {c : Int} (h : Src H p c) : ∃ ys, H p = some (.lst ys) := by obtain ⟨_, _, e, _⟩ := h; exact ⟨_, e⟩
theorem run_words (rs : List Rule) (e : Int) (row : List Int) : ∀ w ∈ (runR rs e row).words, w = ("pass" : Str) ∨ ∃ r ∈ rs, w = r.wd := by
  suffices h : ∀ (s : RS), ∀ w ∈ (row.foldl (runStep rs e) s).words, w ∈ s.words ∨ w = ("pass" : Str) ∨ ∃ r ∈ rs, w = r.wd by
    intro w hw
    rcases h _ w hw with h | h
    · exact nomatch h
    · exact h
  induction row with
  | nil => intro s w hw; exact .inl hw
  | cons y row ih =>
    intro s w hw
    rcases ih _ w hw with h | h
    · simp only [runStep] at h
      rcases List.mem_append.mp h with h | h
      · exact .inl h
      · refine .inr ?_
        have e2 := List.mem_singleton.mp h
        unfold usedR at e2
        cases hf : rs.find? (hitR s.st (whereS s.kept y e)) with
        | none => rw [hf] at e2; exact .inl e2
        | some r => rw [hf] at e2; exact .inr ⟨r, List.mem_of_find?_eq_some hf, e2⟩
    · exact .inr h
theorem Drawn.words {rs : List Rule} {many most : Int} (h : Drawn rs many most) (e : Int) (row : List Int) : ∀ w ∈ (runR rs e row).words, PyData.strOk w = true := fun w hw => by
  rcases run_words rs e row w hw with rfl | ⟨r, hr, rfl⟩
  · decide +kernel
  · exact name_ok (W3_name _ (h.wd r hr))
/-! ### lists of data -/
def fineD (d : PyData) : Prop := d.canLay0 = true ∧ d.depth ≤ 10
theorem fine_all : ∀ {ds : List PyData}, (∀ d ∈ ds, fineD d) → PyData.canLayAll0 ds = true ∧ PyData.depthAll ds ≤ 10
  | [], _ => ⟨rfl, Nat.zero_le _⟩
  | d :: ds, h => by
    obtain ⟨h1, h2⟩ := fine_all fun x hx => h x (List.mem_cons_of_mem _ hx)
    obtain ⟨h3, h4⟩ := h d List.mem_cons_self
    refine ⟨?_, ?_⟩
    · show (d.canLay0 && PyData.canLayAll0 ds) = true
      rw [h3, h1]; rfl
    · show max d.depth (PyData.depthAll ds) ≤ 10
      omega
end NL
/-! ### the data layer: defs read as plain functions over data, no heap in sight -/
namespace NL
open PySem L2
inductive D where
  | non
  | bl (b : Bool)
  | int (i : Int)
  | str (z : Str)
  | lst (ds : List D)
  | tup (ds : List D)
  | dct (kvs : List (Key × D))
  | dcT (kvs : List (List Key × D))
  | loop (rs : List Rule) (ans : List (Str × Str))
  | run (r : RS) (an : Str)
  | src
  | set (ns : List Int)
  | cls
  | obj (c : Str) (fs : List (Str × D))
  | loc (a : Addr)
/-- cells that are changed by whoever knows their place -/
inductive MC where
  | lst (ds : List D)
  | dK (es : List (Key × D))
  | dT (es : List (List Key × D))
  | obj (c : Str) (dx : Addr) (fs : List (Str × D))
  | tab (q : Str)
  | dX (es : List (D × D))
/-- the source's state, and what is known of the cells that are changed -/
structure SrcT where
  g : Int
  s : Int
  c : Int
  m : Addr → Option MC := fun _ => none
/-- the source's place; what a def began with -/
structure Fr where
  p : Option Addr
  B0 : Hp
  H0 : Hp
  v : Bool := false
  M0 : Addr → Option MC := fun _ => none
/-- what is written: the classes' places -/
structure Gm where
  K : PySem.W.Frag
  cl : Addr
  cr : Addr
  ec : Nat → Addr
  ef : Nat → Str
  w : World
  oc : Str → Addr
  v : Bool := false
  fx : Option Fr := none
def SrcAt (H : Hp) (q : Addr) (S : SrcT) : Prop := H q = some (.lst [.int S.g, .int S.s, .int S.c]) ∧ 0 ≤ S.s ∧ S.s < 2147483647 ∧ 0 ≤ S.c
mutual
inductive DV (G : Gm) (p : Option Addr) (B : Hp) : V → D → Prop
  | non : DV G p B .non .non
  | bl (b : Bool) : DV G p B (.bl b) (.bl b)
  | int (i : Int) : DV G p B (.int i) (.int i)
  | str (z : Str) : DV G p B (.str z) (.str z)
  | lst {a : Addr} {xs : List V} {ds : List D} : B a = some (.lst xs) → DVs G p B xs ds → DV G p B (.ref a) (.lst ds)
  | tup {a : Addr} {xs : List V} {ds : List D} : SqT G.K B a xs → DVs G p B xs ds → DV G p B (.ref a) (.tup ds)
  | dct {a : Addr} {kvs : List (Key × V)} {es : List (Key × D)} : B a = some (.dK kvs) → kvs.map Prod.fst = es.map Prod.fst → DVs G p B (kvs.map Prod.snd) (es.map Prod.snd) → DV G p B (.ref a) (.dct es)
  | dcT {a : Addr} {kvs : List (List Key × V)} {es : List (List Key × D)} : B a = some (.dT kvs) → kvs.map Prod.fst = es.map Prod.fst → DVs G p B (kvs.map Prod.snd) (es.map Prod.snd) → DV G p B (.ref a) (.dcT es)
  | loop {a : Addr} {rs : List Rule} {ans : List (Str × Str)} : LoopAt G.K G.cl B a rs ans → DV G p B (.ref a) (.loop rs ans)
  | run {a : Addr} {r : RS} {an : Str} : RunAt G.K G.cr B a r an → DV G p B (.ref a) (.run r an)
  | src {q : Addr} : p = some q → DV G p B (.ref q) .src
  | set {a : Addr} {M : Int → Bool} {ns : List Int} : B a = some (SetO G.w a M ns.length) → (∀ k, M k = true ↔ k ∈ ns) → ns.Nodup → DV G p B (.ref a) (.set ns)
  | cls : DV G p B (.ref G.cl) .cls
  | obj {a dx : Addr} {c : Str} {kvs : List (Str × V)} {fs : List (Str × D)} : B a = some (.ins (G.oc c) dx kvs) → kvs.map Prod.fst = fs.map Prod.fst → DVs G p B (kvs.map Prod.snd) (fs.map Prod.snd) → DV G p B (.ref a) (.obj c fs)
  | loc (a : Addr) : DV G p B (.ref a) (.loc a)
inductive DVs (G : Gm) (p : Option Addr) (B : Hp) : List V → List D → Prop
  | nil : DVs G p B [] []
  | cons {v : V} {vs : List V} {d : D} {ds : List D} : DV G p B v d → DVs G p B vs ds → DVs G p B (v :: vs) (d :: ds)
end
section
variable {G : Gm} {p : Option Addr} {B B' : Hp}
mutual
theorem DV.same (s : Same B B') : ∀ {v : V} {d : D}, DV G p B v d → DV G p B' v d
  | _, _, .non => .non
  | _, _, .bl b => .bl b
  | _, _, .int i => .int i
  | _, _, .str z => .str z
  | _, _, .lst h hs => .lst (s _ _ h) (DVs.same s hs)
  | _, _, .tup h hs => .tup (SqT_same s h) (DVs.same s hs)
  | _, _, .dct h e hs => .dct (s _ _ h) e (DVs.same s hs)
  | _, _, .dcT h e hs => .dcT (s _ _ h) e (DVs.same s hs)
  | _, _, .loop h => .loop (h.same s)
  | _, _, .run h => .run (h.same s)
  | _, _, .src h => .src h
  | _, _, .set h h2 h3 => .set (s _ _ h) h2 h3
  | _, _, .cls => .cls
  | _, _, .obj h e hs => .obj (s _ _ h) e (DVs.same s hs)
  | _, _, .loc a => .loc a
theorem DVs.same (s : Same B B') : ∀ {vs : List V} {ds : List D}, DVs G p B vs ds → DVs G p B' vs ds
  | _, _, .nil => .nil
  | _, _, .cons h hs => .cons (DV.same s h) (DVs.same s hs)
end
theorem DVs.len {vs : List V} {ds : List D} (h : DVs G p B vs ds) : vs.length = ds.length := by
  induction ds generalizing vs with
  | nil => cases h; rfl
  | cons d ds ih => cases h with | cons h hs => simp [ih hs]
theorem DVs.get {i : Nat} {d : D} : ∀ {vs : List V} {ds : List D}, DVs G p B vs ds → ds[i]? = some d → ∃ v, vs[i]? = some v ∧ DV G p B v d := by
  induction i with
  | zero => intro vs ds h e; cases h with | nil => simp at e | cons h hs => simp at e; subst e; exact ⟨_, rfl, h⟩
  | succ i ih => intro vs ds h e; cases h with | nil => simp at e | cons h hs => simpa using ih hs (by simpa using e)
theorem DVs.getV {i : Nat} {v : V} : ∀ {vs : List V} {ds : List D}, DVs G p B vs ds → vs[i]? = some v → ∃ d, ds[i]? = some d ∧ DV G p B v d := by
  induction i with
  | zero => intro vs ds h e; cases h with | nil => simp at e | cons h hs => simp at e; subst e; exact ⟨_, rfl, h⟩
  | succ i ih => intro vs ds h e; cases h with | nil => simp at e | cons h hs => simpa using ih hs (by simpa using e)
theorem DVs.append {vs us : List V} {ds es : List D} (h : DVs G p B vs ds) (h2 : DVs G p B us es) : DVs G p B (vs ++ us) (ds ++ es) := by
  induction ds generalizing vs with
  | nil => cases h; exact h2
  | cons d ds ih => cases h with | cons h hs => exact .cons h (ih hs)
theorem DVs.drop {vs : List V} {ds : List D} (n : Nat) (h : DVs G p B vs ds) : DVs G p B (vs.drop n) (ds.drop n) := by
  induction n generalizing vs ds with
  | zero => exact h
  | succ n ih => cases h with | nil => exact .nil | cons h hs => exact ih hs
theorem DVs.take {vs : List V} {ds : List D} (n : Nat) (h : DVs G p B vs ds) : DVs G p B (vs.take n) (ds.take n) := by
  induction n generalizing vs ds with
  | zero => exact .nil
  | succ n ih => cases h with | nil => exact .nil | cons h hs => exact .cons h (ih hs)
end
/-! ### where one stands -/
/-- what is changed in place -/
def mutO : HO → Prop
  | .lst _ => True
  | .dK _ => True
  | .dT _ => True
  | .set _ _ => True
  | .ext _ => True
  | .ins _ _ _ => True
  | .tbl _ => True
  | _ => False
/-- kinds of things that cells are -/
def mutM : HO → Bool
  | .lst _ => true
  | .dK _ => true
  | .dT _ => true
  | .ins _ _ _ => true
  | .tbl _ => true
  | .ext _ => true
  | _ => false
abbrev Env := List (Option D)
/-- an owned thing's content -/
def DO (G : Gm) (p : Option Addr) (B : Hp) (o : HO) (d : D) : Prop := match o, d with
  | .lst vs, .lst ds => DVs G p B vs ds
  | .dK kvs, .dct es => kvs.map Prod.fst = es.map Prod.fst ∧ DVs G p B (kvs.map Prod.snd) (es.map Prod.snd)
  | .dT kvs, .dcT es => kvs.map Prod.fst = es.map Prod.fst ∧ DVs G p B (kvs.map Prod.snd) (es.map Prod.snd)
  | _, _ => False
theorem DO.same {G : Gm} {p : Option Addr} {B B' : Hp} {o : HO} {d : D} (s : Same B B') (h : DO G p B o d) : DO G p B' o d := by
  unfold DO at h ⊢
  split at h
  · exact DVs.same s h
  · exact ⟨h.1, DVs.same s h.2⟩
  · exact ⟨h.1, DVs.same s h.2⟩
  · exact h.elim
theorem DO.dv {G : Gm} {p : Option Addr} {B : Hp} {o : HO} {d : D} {a : Addr} (h : DO G p B o d) (e : B a = some o) : DV G p B (.ref a) d := by
  unfold DO at h
  split at h
  · exact .lst e h
  · exact .dct e h.1 h.2
  · exact .dcT e h.1 h.2
  · exact h.elim
theorem DO.mut {G : Gm} {p : Option Addr} {B : Hp} {o : HO} {d : D} (h : DO G p B o d) : mutO o := by
  unfold DO at h
  split at h
  · exact True.intro
  · exact True.intro
  · exact True.intro
  · exact h.elim
/-! data as keys -/
def keyB : D → Option NestedKey
  | .non => some .none
  | .bl b => some (.num (if b = true then 1 else 0))
  | .int i => some (.num i)
  | .str z => some (.text z)
  | _ => none
def tupsD : D → Option (List D)
  | .tup ds => some ds
  | _ => none
def keyM (f : D → Option NestedKey) : List D → Option (List NestedKey)
  | [] => some []
  | d :: ds => (f d).bind fun k => (keyM f ds).bind fun ks => some (k :: ks)
def keyL : Nat → D → Option NestedKey
  | 0, d => keyB d
  | n + 1, d => if (tupsD d).isSome = true then ((tupsD d).bind fun ds => keyM (keyL n) ds).map .tup else keyB d
def keyN (d : D) : Option NestedKey := keyL 6 d
theorem keyB_at {G : Gm} {p : Option Addr} {B : Hp} {v : V} {d : D} {k : NestedKey} (h : DV G p B v d) (e : keyB d = some k) : KyAt G.K B v k ∧ k.depth = 0 := by
  cases h with
  | non => cases e; exact ⟨.non, rfl⟩
  | bl b => cases e; exact ⟨.bl b, rfl⟩
  | int i => cases e; exact ⟨.int i, rfl⟩
  | str z => cases e; exact ⟨.str z, rfl⟩
  | _ => cases e
theorem keyM_at {G : Gm} {p : Option Addr} {B : Hp} {f : D → Option NestedKey} {n : Nat} (hf : ∀ v d k, DV G p B v d → f d = some k → KyAt G.K B v k ∧ k.depth ≤ n) : ∀ {vs : List V} {ds : List D} {ks : List NestedKey}, DVs G p B vs ds → keyM f ds = some ks → KysAt G.K B vs ks ∧ NestedKey.depthAll ks ≤ n
  | _, _, _, .nil, e => by cases e; exact ⟨.nil, Nat.zero_le _⟩
  | _, _, _, .cons h hs, e => by
    unfold keyM at e
    obtain ⟨k, h1, e⟩ := Option.bind_eq_some_iff.mp e
    obtain ⟨ks, h2, e⟩ := Option.bind_eq_some_iff.mp e
    cases e
    obtain ⟨q1, q2⟩ := hf _ _ _ h h1
    obtain ⟨q3, q4⟩ := keyM_at hf hs h2
    refine ⟨.cons q1 q3, ?_⟩
    rw [NestedKey.depthAll]; omega
theorem keyL_at {G : Gm} {p : Option Addr} {B : Hp} : ∀ (n : Nat) {v : V} {d : D} {k : NestedKey}, DV G p B v d → keyL n d = some k → KyAt G.K B v k ∧ k.depth ≤ n
  | 0, v, d, k, h, e => by
    unfold keyL at e
    obtain ⟨q1, q2⟩ := keyB_at h e
    exact ⟨q1, by omega⟩
  | n + 1, v, d, k, h, e => by
    unfold keyL at e
    split at e
    · obtain ⟨ks, e, e2⟩ := Option.map_eq_some_iff.mp e
      obtain ⟨ds, h1, h2⟩ := Option.bind_eq_some_iff.mp e
      subst e2
      cases h with
      | tup ha hs =>
        cases h1
        obtain ⟨q1, q2⟩ := keyM_at (fun v d k h e => keyL_at n h e) hs h2
        refine ⟨.tup ha q1, ?_⟩
        rw [NestedKey.depth]; omega
      | _ => cases h1
    · obtain ⟨q1, q2⟩ := keyB_at h e
      exact ⟨q1, by omega⟩
theorem keyN_at {G : Gm} {p : Option Addr} {B : Hp} {v : V} {d : D} {k : NestedKey} (h : DV G p B v d) (e : keyN d = some k) : KyAt G.K B v k := (keyL_at 6 h e).1
theorem keyN_8 {G : Gm} {p : Option Addr} {B : Hp} {v : V} {d : D} {k : NestedKey} (h : DV G p B v d) (e : keyN d = some k) : k.depth ≤ 8 := by have := (keyL_at 6 h e).2; omega
/-- entries as data -/
abbrev ERel (G : Gm) (p : Option Addr) (B : Hp) : List XE → List (D × D) → Prop := Paired fun (x : XE) (e : D × D) => keyN e.1 = some x.1 ∧ DV G p B x.2.1 e.1 ∧ DV G p B x.2.2 e.2
theorem ERel.same {G : Gm} {p : Option Addr} {B B' : Hp} (s : Same B B') {xs : List XE} {es : List (D × D)} (h : ERel G p B xs es) : ERel G p B' xs es := Paired.mapP h fun _ _ q => ⟨q.1, q.2.1.same s, q.2.2.same s⟩
theorem ERel.keys {G : Gm} {p : Option Addr} {B : Hp} : ∀ {xs : List XE} {es : List (D × D)}, ERel G p B xs es → KeysX G.K B xs
  | _, _, .nil => fun _ h => nomatch h
  | _, _, .cons r t => fun z hz => by
    rcases List.mem_cons.mp hz with e | q
    · rw [e]; exact keyN_at r.2.1 r.1
    · exact ERel.keys t z q
/-- what stands in a cell -/
def MemAt (G : Gm) (p : Option Addr) (B H : Hp) (a : Addr) : MC → Prop
  | .lst ds => ∃ vs, H a = some (.lst vs) ∧ DVs G p B vs ds
  | .dK es => ∃ kvs, H a = some (.dK kvs) ∧ kvs.map Prod.fst = es.map Prod.fst ∧ DVs G p B (kvs.map Prod.snd) (es.map Prod.snd)
  | .dT es => ∃ kvs, H a = some (.dT kvs) ∧ kvs.map Prod.fst = es.map Prod.fst ∧ DVs G p B (kvs.map Prod.snd) (es.map Prod.snd)
  | .obj c dx fs => ∃ kvs, H a = some (.ins (G.oc c) dx kvs) ∧ kvs.map Prod.fst = fs.map Prod.fst ∧ DVs G p B (kvs.map Prod.snd) (fs.map Prod.snd)
  | .dX es => ∃ ep xs, H a = some (GX G.w a ep xs) ∧ ERel G p B xs es
  | .tab q => ∃ ps : Array PySem.Value, H a = some (.tbl ps) ∧ PySem.TriplesOk ps.toList ∧ ∀ (pos : PySem.Pos) (cv : PySem.Value), PySem.codeAmong pos ps.toList = some cv → ∃ c, cv = .ref c ∧ B c = some (LamX.CodeO c q)
theorem MemAt.move {G : Gm} {p : Option Addr} {B H B' H' : Hp} {a : Addr} {c : MC} (s : Same B B') (e : ∀ o, H a = some o → H' a = some o) (h : MemAt G p B H a c) : MemAt G p B' H' a c := by
  cases c with
  | lst ds => obtain ⟨vs, h1, h2⟩ := h; exact ⟨vs, e _ h1, DVs.same s h2⟩
  | dK es => obtain ⟨vs, h1, h2, h3⟩ := h; exact ⟨vs, e _ h1, h2, DVs.same s h3⟩
  | dT es => obtain ⟨vs, h1, h2, h3⟩ := h; exact ⟨vs, e _ h1, h2, DVs.same s h3⟩
  | obj c dx fs => obtain ⟨vs, h1, h2, h3⟩ := h; exact ⟨vs, e _ h1, h2, DVs.same s h3⟩
  | dX es => obtain ⟨ep, xs, h1, h2⟩ := h; exact ⟨ep, xs, e _ h1, h2.same s⟩
  | tab q => obtain ⟨ps, h1, h2, h3⟩ := h; exact ⟨ps, e _ h1, h2, fun pos cv hc => let ⟨c, e1, e2⟩ := h3 pos cv hc; ⟨c, e1, s _ _ e2⟩⟩
theorem MemAt.some {G : Gm} {p : Option Addr} {B H : Hp} {a : Addr} {c : MC} (h : MemAt G p B H a c) : ∃ o, H a = some o ∧ mutM o = true := by
  cases c with
  | lst ds => obtain ⟨vs, h1, _⟩ := h; exact ⟨_, h1, rfl⟩
  | dK es => obtain ⟨vs, h1, _⟩ := h; exact ⟨_, h1, rfl⟩
  | dT es => obtain ⟨vs, h1, _⟩ := h; exact ⟨_, h1, rfl⟩
  | obj c dx fs => obtain ⟨vs, h1, _⟩ := h; exact ⟨_, h1, rfl⟩
  | dX es => obtain ⟨ep, xs, h1, _⟩ := h; exact ⟨_, h1, rfl⟩
  | tab q => obtain ⟨vs, h1, _⟩ := h; exact ⟨_, h1, rfl⟩
/-- the cells: they stand apart from all that is shared -/
def MemOk (G : Gm) (φ : Fr) (B H : Hp) (S : SrcT) : Prop := G.v = true → ∀ a c, S.m a = some c → MemAt G φ.p B H a c ∧ B a = none ∧ φ.p ≠ some a ∧ (φ.M0 a ≠ none ∨ φ.H0 a = none)
structure Rep (G : Gm) (φ : Fr) (O : List Nat) (σ : L2.St) (B H : Hp) (ρ : Env) (S : SrcT) : Prop where
  sub : Same B H
  fr : ∀ a o, φ.p ≠ some a → φ.M0 a = none → φ.H0 a = some o → H a = some o
  cl : ∀ a o, B a = some o → mutO o → φ.B0 a = some o ∨ φ.H0 a = none
  src : ∀ q, φ.p = some q → B q = none ∧ SrcAt H q S
  b0 : Same φ.B0 B
  len : σ.length = ρ.length
  val : ∀ i d, i ∉ O → ρ[i]? = some (some d) → ∃ v, σ[i]? = some (some v) ∧ DV G φ.p B v d
  own : ∀ i, i ∈ O → ∃ a o d, ρ[i]? = some (some d) ∧ σ[i]? = some (some (.ref a)) ∧ H a = some o ∧ B a = none ∧ φ.H0 a = none ∧ φ.p ≠ some a ∧ DO G φ.p B o d
  dis : ∀ i j, i ∈ O → j ∈ O → i ≠ j → σ[i]? ≠ σ[j]?
  al : ∀ a, H a = none → φ.H0 a = none
  mem : MemOk G φ B H S
  vv : φ.v = G.v ∧ (G.v = false → ∀ f, G.fx = some f → φ = f)
  nov : ∀ i, i ∈ O → G.v = false
def hideP (p : Option Addr) (H : Hp) : Hp := fun c => if p = some c then none else H c
theorem hideP_same {p : Option Addr} {H : Hp} : Same (hideP p H) H := fun c x h => by
  unfold hideP at h; split at h
  · cases h
  · exact h
theorem hideP_at {p : Option Addr} {H : Hp} {a : Addr} (h : p ≠ some a) : hideP p H a = H a := if_neg h
/-- from one place of a def to a later one -/
structure Go (φ : Fr) (B H B' H' : Hp) : Prop where
  b : Same B B'
  h : φ.v = false → Same (hideP φ.p H) (hideP φ.p H')
  n : ∀ a o, B' a = some o → mutO o → B a = some o ∨ H a = none
  d : ∀ a, H' a = none → H a = none
theorem Go.refl {φ : Fr} {B H : Hp} : Go φ B H B H := ⟨Same.refl _, fun _ => Same.refl _, fun _ _ h _ => .inl h, fun _ h => h⟩
theorem Go.trans {φ : Fr} {B H B1 H1 B2 H2 : Hp} (x : Go φ B H B1 H1) (y : Go φ B1 H1 B2 H2) : Go φ B H B2 H2 := by
  refine ⟨x.b.trans y.b, fun v => (x.h v).trans (y.h v), fun a o h hm => ?_, fun a h => x.d a (y.d a h)⟩
  rcases y.n a o h hm with k | k
  · exact x.n a o k hm
  · exact .inr (x.d a k)
/-- the heap that a value's data is told over: true: as it is now, the owned ones among it -/
def bs (m : Bool) (φ : Fr) (B H : Hp) : Hp := if (m && !φ.v) = true then hideP φ.p H else B
theorem Go.bs {φ : Fr} {B H B' H' : Hp} (m : Bool) (g : Go φ B H B' H') : Same (bs m φ B H) (NL.bs m φ B' H') := by
  unfold NL.bs; split
  · rename_i hm
    simp only [Bool.and_eq_true, Bool.not_eq_true'] at hm
    exact g.h hm.2
  · exact g.b
section
variable {G : Gm} {φ : Fr} {O : List Nat} {σ : L2.St} {B H : Hp} {ρ : Env} {S : SrcT}
theorem Rep.bh (R : Rep G φ O σ B H ρ S) : Same B (hideP φ.p H) := fun c x h => by
  by_cases e : φ.p = some c
  · rw [(R.src c e).1] at h; cases h
  · rw [hideP_at e]; exact R.sub c x h
theorem Rep.bsH (R : Rep G φ O σ B H ρ S) (m : Bool) : Same (bs m φ B H) H := by
  unfold bs; split
  · exact hideP_same
  · exact R.sub
theorem Rep.bbs (R : Rep G φ O σ B H ρ S) (m : Bool) : Same B (bs m φ B H) := by
  unfold bs; split
  · exact R.bh
  · exact Same.refl _
theorem Rep.bs_p (R : Rep G φ O σ B H ρ S) (m : Bool) {q : Addr} (e : φ.p = some q) : bs m φ B H q = none := by
  unfold bs; split
  · unfold hideP; rw [if_pos e]
  · exact (R.src q e).1
/-- a new object, put among what is shared -/
theorem Rep.new (R : Rep G φ O σ B H ρ S) {a : Addr} {o : HO} (n : H a = none) : Rep G φ O σ (upd B a o) (upd H a o) ρ S ∧ Go φ B H (upd B a o) (upd H a o) ∧ φ.p ≠ some a := by
  have np : φ.p ≠ some a := fun e => by have := (R.src a e).2.1; rw [n] at this; cases this
  have nB : B a = none := by
    cases h : B a with
    | none => rfl
    | some x => rw [R.sub _ _ h] at n; cases n
  have n0 : φ.H0 a = none := R.al a n
  refine ⟨⟨?_, ?_, ?_, ?_, ?_, R.len, ?_, ?_, R.dis, fun c h => R.al c (upd_no h), ?_, R.vv, R.nov⟩, ⟨same_new nB, fun _ => ?_, fun c x h hm => ?_, fun c h => upd_no h⟩, np⟩
  · intro c x h
    by_cases e : c = a
    · subst e; rw [upd_same] at h ⊢; exact h
    · rw [upd_ne e] at h ⊢; exact R.sub _ _ h
  · exact fun c x hp hm h => upd_keep (R.fr c x hp hm h) n
  · intro c x h hm
    by_cases e : c = a
    · subst e; exact .inr n0
    · rw [upd_ne e] at h; exact R.cl _ _ h hm
  · intro q hq
    have e : q ≠ a := fun e => np (e ▸ hq)
    obtain ⟨h1, h2, h3⟩ := R.src q hq
    exact ⟨by rw [upd_ne e]; exact h1, by rw [upd_ne e]; exact h2, h3⟩
  · exact R.b0.trans (same_new nB)
  · intro i d hi h
    obtain ⟨v, h1, h2⟩ := R.val i d hi h
    exact ⟨v, h1, h2.same (same_new nB)⟩
  · intro i hi
    obtain ⟨b, o', d, h1, h2, h3, h4, h5, h6, h7⟩ := R.own i hi
    have e : b ≠ a := fun e => by rw [e, n] at h3; cases h3
    exact ⟨b, o', d, h1, h2, by rw [upd_ne e]; exact h3, by rw [upd_ne e]; exact h4, h5, h6, h7.same (same_new nB)⟩
  · intro hv b c hc
    obtain ⟨h1, h2, h3, h4⟩ := R.mem hv b c hc
    obtain ⟨x, hx, _⟩ := h1.some
    have e : b ≠ a := fun e => by rw [e, n] at hx; cases hx
    exact ⟨h1.move (same_new nB) fun o h => upd_keep h n, by rw [upd_ne e]; exact h2, h3, h4⟩
  · intro c x h
    by_cases e : c = a
    · subst e
      rw [hideP_at np, n] at h; cases h
    · unfold hideP at h ⊢
      rw [upd_ne e]; exact h
  · by_cases e : c = a
    · subst e; exact .inr n
    · rw [upd_ne e] at h; exact .inl h
theorem bs_new (m : Bool) {a : Addr} {o : HO} (np : φ.p ≠ some a) : bs m φ (upd B a o) (upd H a o) a = some o := by
  unfold bs; split
  · rw [hideP_at np]; exact upd_same
  · exact upd_same
/-- a new object that nothing shares -/
theorem Rep.newN (R : Rep G φ O σ B H ρ S) {a : Addr} {o : HO} (n : H a = none) : Rep G φ O σ B (upd H a o) ρ S ∧ Go φ B H B (upd H a o) ∧ B a = none ∧ φ.H0 a = none ∧ φ.p ≠ some a := by
  obtain ⟨r, g, np⟩ := R.new (o := o) n
  have nB : B a = none := by
    cases h : B a with
    | none => rfl
    | some x => rw [R.sub _ _ h] at n; cases n
  have n0 : φ.H0 a = none := R.al a n
  refine ⟨⟨?_, r.fr, R.cl, fun q hq => ⟨(R.src q hq).1, (r.src q hq).2⟩, R.b0, R.len, R.val, ?_, R.dis, r.al, ?_, R.vv, R.nov⟩, ⟨Same.refl _, g.h, fun _ _ h _ => .inl h, g.d⟩, nB, n0, np⟩
  · exact fun c x h => upd_keep (R.sub _ _ h) n
  · intro i hi
    obtain ⟨b, o', d, h1, h2, h3, h4, h5, h6, h7⟩ := R.own i hi
    exact ⟨b, o', d, h1, h2, upd_keep h3 n, h4, h5, h6, h7⟩
  · intro hv b c hc
    obtain ⟨h1, h2, h3, h4⟩ := R.mem hv b c hc
    exact ⟨h1.move (Same.refl _) fun o h => upd_keep h n, h2, h3, h4⟩
end
/-! ### results -/
inductive Rs (α : Type) where
  | bad
  | exc (c : Nat) (d : Option D) (S : SrcT)
  | ok (a : α) (S : SrcT)
  | all (p : Addr → Prop) (k : Addr → Rs α)
noncomputable def Rs.bind {α β : Type} (r : Rs α) (k : α → SrcT → Rs β) : Rs β := Rs.rec (motive := fun _ => Rs β) .bad (fun c d S => .exc c d S) (fun a S => k a S) (fun p _ ih => .all p ih) r
/-- an exception's class and dict -/
def ExnAt (G : Gm) (p : Option Addr) (B H : Hp) (c : Nat) (d : Option D) (cv : Value) (od : Option Addr) : Prop := cv = .ref (G.ec c) ∧ match d with
  | none => True
  | some d => ∃ dx v, od = some dx ∧ H dx = some (.xd [(G.ef c, v)]) ∧ DV G p B v d
def XP (G : Gm) (φ : Fr) (E : XK) (B H : Hp) (c : Nat) (d : Option D) (S : SrcT) : Prop := ∀ B' H' cv od, Go φ B H B' H' → Rep G φ [] [] B' H' [] S → ExnAt G φ.p B' H' c d cv od → E cv od H'
theorem XP.go {G : Gm} {φ : Fr} {E : XK} {B H B1 H1 : Hp} {c : Nat} {d : Option D} {S : SrcT} (g : Go φ B H B1 H1) (h : XP G φ E B H c d S) : XP G φ E B1 H1 c d S := fun B' H' cv od g' => h B' H' cv od (g.trans g')
section
variable {ω α β : Type}
abbrev Rel (ω α : Type) := Option Addr → Hp → ω → α → Prop
def Pg (G : Gm) (φ : Fr) (m : Bool) (O : List Nat) (E : XK) (σ : L2.St) (ρ : Env) (rel : Rel ω α) (B H : Hp) (r : Rs α) (Q : ω → Hp → Prop) : Prop := match r with
  | .bad => False
  | .exc c d S => XP G φ E B H c d S
  | .ok a S => ∀ w B' H', Go φ B H B' H' → Rep G φ O σ B' H' ρ S → rel φ.p (bs m φ B' H') w a → Q w H'
  | .all p k => ∀ x, p x → Pg G φ m O E σ ρ rel B H (k x) Q
def tG (G : Gm) (m : Bool) (O : List Nat) (E : XK) (rel : Rel ω α) (F : Env → SrcT → Rs α) : L2.St → Hp → (ω → Hp → Prop) → Prop := fun σ H Q => ∃ φ B ρ S, Rep G φ O σ B H ρ S ∧ Pg G φ m O E σ ρ rel B H (F ρ S) Q
variable {G : Gm} {φ : Fr} {m m' : Bool} {O : List Nat} {E : XK} {σ : L2.St} {ρ : Env} {rel : Rel ω α} {B H B1 H1 : Hp}
theorem Pg.go {r : Rs α} {Q : ω → Hp → Prop} (g : Go φ B H B1 H1) (h : Pg G φ m O E σ ρ rel B H r Q) : Pg G φ m O E σ ρ rel B1 H1 r Q := by
  induction r with
  | bad => exact h
  | exc c d S => exact XP.go g h
  | ok a S => exact fun w B' H' g' => h w B' H' (g.trans g')
  | all p k ih => exact fun x px => ih x (h x px)
theorem Pg.bind {ω' : Type} {rel' : Rel ω' β} {r : Rs β} {k : β → SrcT → Rs α} {Q : ω → Hp → Prop} {Q' : ω' → Hp → Prop} (h : Pg G φ m O E σ ρ rel B H (r.bind k) Q)
    (hk : ∀ d S w B1 H1, Go φ B H B1 H1 → Rep G φ O σ B1 H1 ρ S → rel' φ.p (bs m' φ B1 H1) w d → Pg G φ m O E σ ρ rel B1 H1 (k d S) Q → Q' w H1) : Pg G φ m' O E σ ρ rel' B H r Q' := by
  induction r with
  | bad => exact h
  | exc c d S => exact h
  | ok a S => exact fun w B' H' g R hw => hk a S w B' H' g R hw (Pg.go g h)
  | all p f ih => exact fun x px => ih x (h x px)
/-- a weaker wish -/
theorem Pg.imp {ω' : Type} {rel' : Rel ω' α} {r : Rs α} {Q : ω → Hp → Prop} {Q' : ω' → Hp → Prop} (h : Pg G φ m O E σ ρ rel B H r Q)
    (hk : ∀ d S w B1 H1, Go φ B H B1 H1 → Rep G φ O σ B1 H1 ρ S → rel' φ.p (bs m' φ B1 H1) w d → (∀ w' B' H', Go φ B H B' H' → Rep G φ O σ B' H' ρ S → rel φ.p (bs m φ B' H') w' d → Q w' H') → Q' w H1) : Pg G φ m' O E σ ρ rel' B H r Q' := by
  induction r with
  | bad => exact h
  | exc c d S => exact h
  | ok a S => exact fun w B' H' g R hw => hk a S w B' H' g R hw h
  | all p f ih => exact fun x px => ih x (h x px)
theorem Pg.ok {a : α} {S : SrcT} {Q : ω → Hp → Prop} {w : ω} (h : Pg G φ m O E σ ρ rel B H (.ok a S) Q) (R : Rep G φ O σ B H ρ S) (hw : rel φ.p (bs m φ B H) w a) : Q w H := h w B H Go.refl R hw
theorem Rep.ownv {S : SrcT} {i : Nat} (R : Rep G φ O σ B H ρ S) (hi : i ∈ O) : φ.v = false := R.vv.1.trans (R.nov i hi)
theorem bs_true (hv : φ.v = false) : bs true φ B H = hideP φ.p H := by unfold bs; rw [hv]; rfl
/-- what a plain function gives -/
def Rs.sat {α : Type} (r : Rs α) (P : α → SrcT → Prop) : Prop := match r with
  | .ok a S => P a S
  | .all p k => ∀ x, p x → (k x).sat P
  | _ => False
/-- all ends are so -/
def Rs.each {α : Type} (r : Rs α) (P : α → Prop) : Prop := match r with
  | .bad => True
  | .exc _ _ _ => True
  | .ok a _ => P a
  | .all _ k => ∀ x, (k x).each P
theorem Rs.each.bind {α β : Type} {P : β → Prop} {r : Rs α} {k : α → SrcT → Rs β} {P0 : α → Prop} (h : r.each P0) (hk : ∀ a S, P0 a → (k a S).each P) : (r.bind k).each P := by
  induction r with
  | bad => exact True.intro
  | exc c d S => exact True.intro
  | ok a S => exact hk a S h
  | all p f ih => exact fun x => ih x (h x)
theorem Rs.each.triv {α : Type} (r : Rs α) : r.each fun _ => True := by
  induction r with
  | bad => exact True.intro
  | exc c d S => exact True.intro
  | ok a S => exact True.intro
  | all p f ih => exact fun x => ih x
theorem Pg.bindE {ω' : Type} {rel' : Rel ω' β} {r : Rs β} {k : β → SrcT → Rs α} {Q : ω → Hp → Prop} {Q' : ω' → Hp → Prop} {P0 : β → Prop} (he : r.each P0) (h : Pg G φ m O E σ ρ rel B H (r.bind k) Q)
    (hk : ∀ d S w B1 H1, P0 d → Go φ B H B1 H1 → Rep G φ O σ B1 H1 ρ S → rel' φ.p (bs m' φ B1 H1) w d → Pg G φ m O E σ ρ rel B1 H1 (k d S) Q → Q' w H1) : Pg G φ m' O E σ ρ rel' B H r Q' := by
  induction r with
  | bad => exact h
  | exc c d S => exact h
  | ok a S => exact fun w B' H' g R hw => hk a S w B' H' he g R hw (Pg.go g h)
  | all p f ih => exact fun x px => ih x (he x) (h x px)
end
abbrev Ex := Env → SrcT → Rs D
abbrev Exs := Env → SrcT → Rs (List D)
abbrev Tst := Env → SrcT → Rs Bool
abbrev tD (G : Gm) (m : Bool) (O : List Nat) (E : XK) (F : Ex) : TE := tG G m O E (DV G) F
abbrev tDs (G : Gm) (m : Bool) (O : List Nat) (E : XK) (F : Exs) : TA := tG G m O E (DVs G) F
abbrev tBt (G : Gm) (O : List Nat) (E : XK) (F : Tst) : TT := tG G true O E (fun _ _ b a => b = a) F
theorem _root_.L2.PE.mono {X : Cx} {e : Expr} {t t' : TE} (h : PE X e t) (s : ∀ σ H Q, t' σ H Q → t σ H Q) : PE X e t' := ⟨fun pins s0 σ H Q I hw => h.run pins s0 σ H Q I (s σ H Q hw)⟩
theorem _root_.L2.PT.mono {X : Cx} {e : Expr} {t t' : TT} (h : PT X e t) (s : ∀ σ H Q, t' σ H Q → t σ H Q) : PT X e t' := ⟨fun pins s0 σ H Q I hw => h.run pins s0 σ H Q I (s σ H Q hw)⟩
theorem _root_.L2.PW.mono {X : Cx} {e : Expr} {t t' : TT} (h : PW X e t) (s : ∀ σ H Q, t' σ H Q → t σ H Q) : PW X e t' := ⟨fun wh pins s0 σ H Q I hw => h.run wh pins s0 σ H Q I (s σ H Q hw)⟩
theorem _root_.L2.PA.mono {X : Cx} {es : List Expr} {t t' : TA} (h : PA X es t) (s : ∀ σ H Q, t' σ H Q → t σ H Q) : PA X es t' := ⟨fun pos pins s0 σ H Q I hw => h.run pos pins s0 σ H Q I (s σ H Q hw)⟩
theorem _root_.L2.PS.mono {X : Cx} {st : Stmt} {t t' : TS} (h : PS X st t) (s : ∀ E σ H, t' E σ H → t E σ H) : PS X st t' := ⟨fun pins s0 σ H D I hw => h.run pins s0 σ H D I (s D σ H hw)⟩
theorem _root_.L2.PSs.mono {X : Cx} {st : List Stmt} {t t' : TS} (h : PSs X st t) (s : ∀ E σ H, t' E σ H → t E σ H) : PSs X st t' := ⟨fun pins s0 σ H D I hw => h.run pins s0 σ H D I (s D σ H hw)⟩
end NL
/-! ### the data layer: expressions -/
namespace NL
noncomputable section
open PySem L2
def isSc : D → Bool
  | .non => true
  | .bl _ => true
  | .int _ => true
  | .str _ => true
  | _ => false
def cF (d : D) : Ex := fun _ S => .ok d S
def vF (i : Nat) : Ex := fun ρ S => match ρ[i]? with
  | some (some d) => .ok d S
  | _ => .bad
def nilF : Exs := fun _ S => .ok [] S
def consF (F : Ex) (Fs : Exs) : Exs := fun ρ S => (F ρ S).bind fun d S1 => (Fs ρ S1).bind fun ds S2 => .ok (d :: ds) S2
def optF (o : Option D) (S : SrcT) : Rs D := match o with
  | none => .bad
  | some d => .ok d S
def scF (F : Ex) : Ex := fun ρ S => (F ρ S).bind fun d S1 => if isSc d = true then .ok d S1 else .bad
def binF (op : D → D → Option D) (F1 F2 : Ex) : Ex := fun ρ S => (F1 ρ S).bind fun d1 S1 => (F2 ρ S1).bind fun d2 S2 => optF (op d1 d2) S2
def unF (op : D → Option D) (F : Ex) : Ex := fun ρ S => (F ρ S).bind fun d1 S1 => optF (op d1) S1
def argF (f : List D → Option D) (Fs : Exs) : Ex := fun ρ S => (Fs ρ S).bind fun ds S1 => optF (f ds) S1
def lstF (Fs : Exs) : Ex := fun ρ S => (Fs ρ S).bind fun ds S1 => .ok (.lst ds) S1
def tupF (Fs : Exs) : Ex := fun ρ S => (Fs ρ S).bind fun ds S1 => .ok (.tup ds) S1
def callF (f : List D → SrcT → Rs D) (Fs : Exs) : Ex := fun ρ S => (Fs ρ S).bind f
def iteF (c : Tst) (F1 F2 : Ex) : Ex := fun ρ S => (c ρ S).bind fun b S1 => if b = true then F1 ρ S1 else F2 ρ S1
section
variable {G : Gm} {p p' : Option Addr} {B B' H : Hp}
theorem DV.sc {v : V} {d : D} (hs : isSc d = true) (h : DV G p B v d) : DV G p' B' v d := by
  cases h with
  | non => exact .non
  | bl b => exact .bl b
  | int i => exact .int i
  | str z => exact .str z
  | _ => cases hs
end
section
variable {X : Cx} {G : Gm} {m m' : Bool} {O : List Nat} {E : XK} {e : Expr} {es : List Expr} {F F1 F2 : Ex} {Fs : Exs}
theorem de_const {v : V} {d : D} (h : PE X e (tC v)) (hd : ∀ p B, DV G p B v d) : PE X e (tD G m O E (cF d)) :=
  h.mono fun σ H Q ⟨φ, B, ρ, S, R, hp⟩ => Pg.ok hp R (hd _ _)
theorem de_int {i : Int} {j pos} : PE X (.Constant (.int i) j pos) (tD G m O E (cF (.int i))) := de_const pe_int fun _ _ => .int i
theorem de_str {z : Str} {j pos} : PE X (.Constant (.str z) j pos) (tD G m O E (cF (.str z))) := de_const pe_str fun _ _ => .str z
theorem de_bl {b : Bool} {j pos} : PE X (.Constant (.bool b) j pos) (tD G m O E (cF (.bl b))) := de_const pe_bl fun _ _ => .bl b
theorem de_non {j pos} : PE X (.Constant .none j pos) (tD G m O E (cF .non)) := de_const pe_non fun _ _ => .non
theorem de_var {i : Nat} (h : PE X e (tVar i)) (hi : m = true ∨ i ∉ O) : PE X e (tD G m O E (vF i)) := by
  refine h.mono fun σ H Q ⟨φ, B, ρ, S, R, hp⟩ => ?_
  unfold vF at hp
  split at hp
  · rename_i d hd
    by_cases ho : i ∈ O
    · obtain ⟨a, o, d', h1, h2, h3, h4, h5, h6, h7⟩ := R.own i ho
      have e1 : d' = d := by rw [hd] at h1; exact (Option.some.inj (Option.some.inj h1)).symm
      subst e1
      refine ⟨.ref a, h2, Pg.ok hp R ?_⟩
      rcases hi with hi | hi
      · subst hi
        rw [bs_true (R.ownv ho)]
        exact (h7.same R.bh).dv (by rw [hideP_at h6]; exact h3)
      · exact absurd ho hi
    · obtain ⟨v, h1, h2⟩ := R.val i d ho hd
      exact ⟨v, h1, Pg.ok hp R (h2.same (R.bbs m))⟩
  · exact hp.elim
theorem de_coe (h : PE X e (tD G false O E F)) : PE X e (tD G true O E F) := by
  refine h.mono fun σ H Q ⟨φ, B, ρ, S, R, hp⟩ => ⟨φ, B, ρ, S, R, ?_⟩
  exact Pg.imp hp fun d S1 w B' H' g R' hw q => q w B' H' g R' (DV.same (R'.bbs true) hw)
theorem de_sc (h : PE X e (tD G true O E F)) : PE X e (tD G m O E (scF F)) := by
  refine h.mono fun σ H Q ⟨φ, B, ρ, S, R, hp⟩ => ⟨φ, B, ρ, S, R, ?_⟩
  refine Pg.bind hp fun d S1 w B1 H1 g R1 hw h1 => ?_
  split at h1
  · rename_i hs; exact Pg.ok h1 R1 (hw.sc hs)
  · exact h1.elim
/-- written lists of arguments -/
structure DA (X : Cx) (es : List Expr) (G : Gm) (m : Bool) (O : List Nat) (E : XK) (Fs : Exs) : Prop where
  pa : PA X es (tDs G m O E Fs)
  len : ∀ ρ S, (Fs ρ S).each fun ds => ds.length = es.length
theorem da_nil : DA X [] G m O E nilF := ⟨pa_nil.mono fun σ H Q ⟨φ, B, ρ, S, R, hp⟩ => Pg.ok hp R .nil, fun ρ S => rfl⟩
theorem da_cons (ha : PE X e (tD G m O E F)) (hr : DA X es G m O E Fs) (hs : starEach (e :: es) X.env = (false, eval e X.env) :: starEach es X.env := by rfl) : DA X (e :: es) G m O E (consF F Fs) := by
  refine ⟨(pa_cons ha hr.pa hs).mono fun σ H Q ⟨φ, B, ρ, S, R, hp⟩ => ⟨φ, B, ρ, S, R, ?_⟩, fun ρ S => ?_⟩
  · refine Pg.bind hp fun d S1 w B1 H1 g R1 hw h1 => ⟨φ, B1, ρ, S1, R1, ?_⟩
    refine Pg.bind h1 fun ds S2 ws B2 H2 g2 R2 hws h2 => Pg.ok h2 R2 (.cons (hw.same (g2.bs m)) hws)
  · unfold consF
    refine (Rs.each.triv (F ρ S)).bind fun d S1 _ => (hr.len ρ S1).bind fun ds S2 hl => ?_
    show (d :: ds).length = _
    rw [List.length_cons, List.length_cons, hl]
/-- what a two-place rule must give -/
def Bin2 (G : Gm) (m m' : Bool) (r : R2) (op : D → D → Option D) : Prop := ∀ {φ : Fr} {O : List Nat} {σ : L2.St} {B H : Hp} {ρ : Env} {S : SrcT} {v1 v2 : V} {d1 d2 d : D} {Q : VK}, Rep G φ O σ B H ρ S → DV G φ.p (bs m φ B H) v1 d1 → DV G φ.p (bs m φ B H) v2 d2 → op d1 d2 = some d →
  (∀ v B' H', Go φ B H B' H' → Rep G φ O σ B' H' ρ S → DV G φ.p (bs m' φ B' H') v d → Q v H') → r v1 v2 H Q
theorem Pg.opt {φ : Fr} {σ : L2.St} {ρ : Env} {B H : Hp} {o : Option D} {S : SrcT} {Q : VK} (h : Pg G φ m O E σ ρ (DV G) B H (optF o S) Q) : ∃ d, o = some d ∧ ∀ v B' H', Go φ B H B' H' → Rep G φ O σ B' H' ρ S → DV G φ.p (bs m φ B' H') v d → Q v H' := by
  cases o with
  | none => exact h.elim
  | some d => exact ⟨d, rfl, h⟩
theorem de_bin {r : R2} {op : D → D → Option D} (hb : Bin2 G m m' r op) (h : PE X e (tOp r (tD G m O E F1) (tD G m O E F2))) : PE X e (tD G m' O E (binF op F1 F2)) := by
  refine h.mono fun σ H Q ⟨φ, B, ρ, S, R, hp⟩ => ⟨φ, B, ρ, S, R, ?_⟩
  refine Pg.bind hp fun d1 S1 v1 B1 H1 g R1 hw h1 => ⟨φ, B1, ρ, S1, R1, ?_⟩
  refine Pg.bind h1 fun d2 S2 v2 B2 H2 g2 R2 hw2 h2 => ?_
  obtain ⟨d, e, q⟩ := h2.opt
  exact hb R2 (hw.same (g2.bs m)) hw2 e q
def Un1 (G : Gm) (m m' : Bool) (r : V → Hp → VK → Prop) (op : D → Option D) : Prop := ∀ {φ : Fr} {O : List Nat} {σ : L2.St} {B H : Hp} {ρ : Env} {S : SrcT} {v1 : V} {d1 d : D} {Q : VK}, Rep G φ O σ B H ρ S → DV G φ.p (bs m φ B H) v1 d1 → op d1 = some d →
  (∀ v B' H', Go φ B H B' H' → Rep G φ O σ B' H' ρ S → DV G φ.p (bs m' φ B' H') v d → Q v H') → r v1 H Q
theorem de_un {r : V → Hp → VK → Prop} {op : D → Option D} (hb : Un1 G m m' r op) (h : PE X e (tUn r (tD G m O E F1))) : PE X e (tD G m' O E (unF op F1)) := by
  refine h.mono fun σ H Q ⟨φ, B, ρ, S, R, hp⟩ => ⟨φ, B, ρ, S, R, ?_⟩
  refine Pg.bind hp fun d1 S1 v1 B1 H1 g R1 hw h1 => ?_
  obtain ⟨d, e, q⟩ := h1.opt
  exact hb R1 hw e q
def ArgN (G : Gm) (m m' : Bool) (r : List V → Hp → VK → Prop) (f : List D → Option D) : Prop := ∀ {φ : Fr} {O : List Nat} {σ : L2.St} {B H : Hp} {ρ : Env} {S : SrcT} {vs : List V} {ds : List D} {d : D} {Q : VK}, Rep G φ O σ B H ρ S → DVs G φ.p (bs m φ B H) vs ds → f ds = some d →
  (∀ v B' H', Go φ B H B' H' → Rep G φ O σ B' H' ρ S → DV G φ.p (bs m' φ B' H') v d → Q v H') → r vs H Q
theorem de_arg {r : List V → Hp → VK → Prop} {f : List D → Option D} (hb : ArgN G m m' r f) (h : PE X e (tCB r (tDs G m O E Fs))) : PE X e (tD G m' O E (argF f Fs)) := by
  refine h.mono fun σ H Q ⟨φ, B, ρ, S, R, hp⟩ => ⟨φ, B, ρ, S, R, ?_⟩
  refine Pg.bind hp fun d1 S1 v1 B1 H1 g R1 hw h1 => ?_
  obtain ⟨d, e, q⟩ := h1.opt
  exact hb R1 hw e q
/-! ints, texts, sequences -/
def okI (i : Int) : Bool := decide (-1000000000000000000000000000000000000000000000000000000000000 ≤ i) && decide (i ≤ 1000000000000000000000000000000000000000000000000000000000000)
theorem okI_lt {i : Int} (h : okI i = true) : i.natAbs < 2 ^ 250 := by
  unfold okI at h
  simp only [Bool.and_eq_true, decide_eq_true_eq] at h
  have : i.natAbs ≤ 1000000000000000000000000000000000000000000000000000000000000 := by omega
  exact Nat.lt_of_le_of_lt this (by decide +kernel)
def addD : D → D → Option D
  | .int a, .int b => some (.int (a + b))
  | .str a, .str b => if a.length + b.length ≤ 100000 then some (.str (a ++ b)) else none
  | .lst a, .lst b => if a.length + b.length ≤ 100000 then some (.lst (a ++ b)) else none
  | .tup a, .tup b => if a.length + b.length ≤ 100000 then some (.tup (a ++ b)) else none
  | _, _ => none
def subD : D → D → Option D
  | .int a, .int b => some (.int (a - b))
  | _, _ => none
def mulD : D → D → Option D
  | .int a, .int b => if (okI a && okI b) = true then some (.int (a * b)) else none
  | _, _ => none
def powD : D → D → Option D
  | .int a, .int b => if 0 ≤ b ∧ b ≤ 1000 ∧ -1000000000 ≤ a ∧ a ≤ 1000000000 then some (.int (a ^ b.toNat)) else none
  | _, _ => none
theorem OpR.or {f : Value → Value → Sem Value} {r r' : R2} (h : OpR X f r) (h' : OpR X f r') : OpR X f (fun x y H Q => r x y H Q ∨ r' x y H Q) := by
  intro pins s σ H x y v u Q I rx ry q
  rcases q with q | q
  · exact h pins s σ H x y v u Q I rx ry q
  · exact h' pins s σ H x y v u Q I rx ry q
theorem CallR.or {f : Value} {r r' : List V → Hp → VK → Prop} (h : CallR X f r) (h' : CallR X f r') : CallR X f (fun xs H Q => r xs H Q ∨ r' xs H Q) := by
  intro pins s σ H xs us Q I rx q
  rcases q with q | q
  · exact h pins s σ H xs us Q I rx q
  · exact h' pins s σ H xs us Q I rx q
abbrev rAddS : R2 := fun x y H Q => ∃ i j, x = .str i ∧ y = .str j ∧ i.length + j.length ≤ sizeLine ∧ Q (.str (i ++ j)) H
def rAddA (K : PySem.W.Frag) : R2 := fun x y H Q => (rI0 (fun i j => .int (i + j)) x y H Q ∨ rAddS x y H Q) ∨ (rCat x y H Q ∨ rCatA K x y H Q)
theorem op_addA (hK : X.K = G.K := by rfl) : OpR X (binaryOp .Add) (rAddA G.K) := by
  rw [← hK]
  exact ((op_add (X := X)).or op_add_str).or ((op_cat (X := X)).or op_catA)
theorem sq_bs {φ : Fr} {O : List Nat} {σ : L2.St} {B H : Hp} {ρ : Env} {S : SrcT} (R : Rep G φ O σ B H ρ S) {K : PySem.W.Frag} {a : Addr} {xs : List V} (h : SqT K (bs m φ B H) a xs) : SqT K H a xs := SqT_same (R.bsH m) h
theorem bin_add : Bin2 G m m (rAddA G.K) addD := by
  intro φ O σ B H ρ S v1 v2 d1 d2 d Q R h1 h2 e q
  unfold addD at e
  split at e
  · cases h1; cases h2; cases e
    exact .inl (.inl ⟨_, _, rfl, rfl, q _ _ _ Go.refl R (.int _)⟩)
  · split at e
    · rename_i hl
      cases h1; cases h2; cases e
      exact .inl (.inr ⟨_, _, rfl, rfl, sz100k hl, q _ _ _ Go.refl R (.str _)⟩)
    · cases e
  · split at e
    · rename_i hl
      cases h1 with | lst ha hs => cases h2 with | lst hb ht =>
      cases e
      refine .inr (.inl ⟨_, _, _, _, rfl, rfl, R.bsH m _ _ ha, R.bsH m _ _ hb, sz100k (by rw [hs.len, ht.len]; exact hl), fun a na => ?_⟩)
      obtain ⟨R', g, np⟩ := R.new na
      exact q _ _ _ g R' (.lst (bs_new m np) ((hs.append ht).same (g.bs m)))
    · cases e
  · split at e
    · rename_i hl
      cases h1 with | tup ha hs => cases h2 with | tup hb ht =>
      cases e
      refine .inr (.inr ⟨_, _, _, _, rfl, rfl, sq_bs R ha, sq_bs R hb, sz100k (by rw [hs.len, ht.len]; exact hl), fun hx => ?_, fun hx hy => ?_, fun hx hy a na => ?_⟩)
      · subst hx
        cases hs
        exact q _ _ _ Go.refl R (.tup hb ht)
      · subst hy
        cases ht
        rw [List.append_nil] at *
        exact q _ _ _ Go.refl R (.tup ha hs)
      · obtain ⟨R', g, np⟩ := R.new na
        exact q _ _ _ g R' (.tup (SqT.of (bs_new m np)) ((hs.append ht).same (g.bs m)))
    · cases e
  · cases e
theorem bin_sub : Bin2 G m m' (rI0 fun i j => .int (i - j)) subD := by
  intro φ O σ B H ρ S v1 v2 d1 d2 d Q R h1 h2 e q
  unfold subD at e
  split at e
  · cases h1; cases h2; cases e
    exact ⟨_, _, rfl, rfl, q _ _ _ Go.refl R (.int _)⟩
  · cases e
theorem bin_mul : Bin2 G m m' (rI CMulW fun i j => .int (i * j)) mulD := by
  intro φ O σ B H ρ S v1 v2 d1 d2 d Q R h1 h2 e q
  unfold mulD at e
  split at e
  · split at e
    · rename_i hc
      simp only [Bool.and_eq_true] at hc
      cases h1; cases h2; cases e
      exact ⟨_, _, rfl, rfl, wide_mul (okI_lt hc.1) (okI_lt hc.2) (by decide) (by decide) (by decide), q _ _ _ Go.refl R (.int _)⟩
    · cases e
  · cases e
theorem bin_pow : Bin2 G m m' (rI CPow fun i j => .int (i ^ j.toNat)) powD := by
  intro φ O σ B H ρ S v1 v2 d1 d2 d Q R h1 h2 e q
  unfold powD at e
  split at e
  · split at e
    · rename_i hc
      cases h1; cases h2; cases e
      exact ⟨_, _, rfl, rfl, ⟨hc.1, by omega, by omega⟩, q _ _ _ Go.refl R (.int _)⟩
    · cases e
  · cases e
/-! displays -/
theorem de_tup {x1} {pos : Pos} (h : DA X es G m O E Fs) (hl : es.length ≤ 1000) : PE X (.Tuple es x1 pos) (tD G m O E (tupF Fs)) := by
  refine (pe_tup h.pa).mono fun σ H Q ⟨φ, B, ρ, S, R, hp⟩ => ⟨φ, B, ρ, S, R, ?_⟩
  unfold tupF at hp
  refine Pg.bindE (h.len ρ S) hp fun ds S1 ws B1 H1 hlen g R1 hws h1 => ?_
  have hlw : ws.length ≤ 1000 := by rw [hws.len, hlen]; exact hl
  refine ⟨sz1000 hlw, fun a na => ?_⟩
  obtain ⟨R', g', np⟩ := R1.new na
  exact (Pg.go g' h1).ok R' (.tup (SqT.of (bs_new m np)) (hws.same (g'.bs m)))
end
end
end NL
/-! ### the data layer: comparisons, tests, items, slices, built-ins, calls -/
namespace NL
noncomputable section
open PySem L2
mutual
def toP : D → Option PyData
  | .non => some .none
  | .bl b => some (.bool b)
  | .int i => some (.int i)
  | .str z => some (.str z)
  | .lst ds => (toPs ds).map .list
  | .tup ds => (toPs ds).map .tuple
  | .dct _ => none
  | .dcT _ => none
  | .loop _ _ => none
  | .run _ _ => none
  | .src => none
  | .set _ => none
  | .cls => none
  | .obj _ _ => none
  | .loc _ => none
def toPs : List D → Option (List PyData)
  | [] => some []
  | d :: ds => match toP d, toPs ds with
    | some p, some ps => some (p :: ps)
    | _, _ => none
end
section
variable {G : Gm} {p : Option Addr} {B : Hp}
mutual
theorem DV.dp : ∀ {v : V} {d : D}, DV G p B v d → ∀ {e : PyData}, toP d = some e → Dp G.K B v e
  | _, _, .non, e, h => by rw [toP] at h; cases h; exact .non
  | _, _, .bl b, e, h => by rw [toP] at h; cases h; exact .bl b
  | _, _, .int i, e, h => by rw [toP] at h; cases h; exact .int i
  | _, _, .str z, e, h => by rw [toP] at h; cases h; exact .str z
  | _, _, .lst h1 hs, e, h => by
    rw [toP] at h
    obtain ⟨ps, h2, rfl⟩ := Option.map_eq_some_iff.mp h
    exact .lst (SqL.of h1) (DVs.dp hs h2)
  | _, _, .tup h1 hs, e, h => by
    rw [toP] at h
    obtain ⟨ps, h2, rfl⟩ := Option.map_eq_some_iff.mp h
    exact .tup h1 (DVs.dp hs h2)
  | _, _, .dct _ _ _, e, h => by rw [toP] at h; exact nomatch h
  | _, _, .dcT _ _ _, e, h => by rw [toP] at h; exact nomatch h
  | _, _, .loop _, e, h => by rw [toP] at h; exact nomatch h
  | _, _, .run _, e, h => by rw [toP] at h; exact nomatch h
  | _, _, .src _, e, h => by rw [toP] at h; exact nomatch h
  | _, _, .set _ _ _, e, h => by rw [toP] at h; exact nomatch h
  | _, _, .cls, e, h => by rw [toP] at h; exact nomatch h
  | _, _, .obj _ _ _, e, h => by rw [toP] at h; exact nomatch h
  | _, _, .loc _, e, h => by rw [toP] at h; exact nomatch h
theorem DVs.dp : ∀ {vs : List V} {ds : List D}, DVs G p B vs ds → ∀ {es : List PyData}, toPs ds = some es → DpAll G.K B vs es
  | _, _, .nil, es, h => by rw [toPs] at h; cases h; exact .nil
  | _, _, .cons h1 hs, es, h => by
    rw [toPs] at h
    split at h
    · rename_i q qs h2 h3
      cases h
      exact .cons (DV.dp h1 h2) (DVs.dp hs h3)
    · cases h
end
end
def eqD (neg : Bool) (d1 d2 : D) : Option D := match toP d1, toP d2 with
  | some p1, some p2 => if (SeqAt.shaped p1 && SeqAt.shaped p2) = true then some (.bl (if neg then !PyData.eqv p1 p2 else PyData.eqv p1 p2)) else none
  | _, _ => none
def cmpD (fi : Int → Int → Bool) (fs : List Nat → List Nat → Bool) : D → D → Option D
  | .int a, .int b => some (.bl (fi a b))
  | .str a, .str b => some (.bl (fs a.cps.toList b.cps.toList))
  | _, _ => none
def ltD : D → D → Option D := cmpD (fun a b => decide (a < b)) (fun a b => decide (a < b))
def leD : D → D → Option D := cmpD (fun a b => decide (a ≤ b)) (fun a b => !decide (b < a))
def gtD : D → D → Option D := cmpD (fun a b => decide (b < a)) (fun a b => decide (b < a))
def isNon : D → Bool
  | .non => true
  | _ => false
def isND (neg : Bool) : D → D → Option D
  | d, .non => some (.bl (if neg then !isNon d else isNon d))
  | _, _ => none
def vOf : D → V
  | .bl b => .bl b
  | .int i => .int i
  | .str z => .str z
  | _ => .non
def seqD : D → Option (List D)
  | .lst ds => some ds
  | .tup ds => some ds
  | _ => none
def inD (neg : Bool) (x c : D) : Option D := match seqD c with
  | some ds => if (isSc x && ds.all isSc) = true then some (.bl (if neg then !inV (vOf x) (ds.map vOf) else inV (vOf x) (ds.map vOf))) else none
  | none => none
def idxD : D → D → Option D
  | .lst ds, .int i => atI ds i
  | .tup ds, .int i => atI ds i
  | .str z, .int i => if z.length ≤ 100000 then (atI z.cps.toList i).map fun c => .str ⟨#[c]⟩ else none
  | _, _ => none
section
variable {X : Cx} {G : Gm} {m m' : Bool} {O : List Nat} {E : XK} {e : Expr} {es : List Expr} {F F1 F2 : Ex} {Fs : Exs}
section
variable {φ : Fr} {σ : L2.St} {B H : Hp} {ρ : Env} {S : SrcT}
theorem dv_H (R : Rep G φ O σ B H ρ S) {v : V} {d : D} (h : DV G φ.p (bs m φ B H) v d) : DV G φ.p H v d := h.same (R.bsH m)
end
theorem op_eqG (hu : X.A.units + 64 < cLine) (hK : X.K = G.K := by rfl) : OpR X (compareOp .Eq) (rEqD G.K) := by rw [← hK]; exact op_eqD hu
theorem op_neG (hu : X.A.units + 64 < cLine) (hK : X.K = G.K := by rfl) : OpR X (compareOp .NotEq) (rNeD G.K) := by rw [← hK]; exact op_neD hu
theorem bin_eq : Bin2 G m m' (rEqD G.K) (eqD false) := by
  intro φ O σ B H ρ S v1 v2 d1 d2 d Q R h1 h2 e q
  unfold eqD at e
  split at e
  · rename_i p1 p2 e1 e2
    split at e
    · rename_i hs
      simp only [Bool.and_eq_true] at hs
      cases e
      exact ⟨p1, p2, (dv_H R h1).dp e1, (dv_H R h2).dp e2, hs.1, hs.2, q _ _ _ Go.refl R (.bl _)⟩
    · cases e
  · cases e
theorem bin_ne : Bin2 G m m' (rNeD G.K) (eqD true) := by
  intro φ O σ B H ρ S v1 v2 d1 d2 d Q R h1 h2 e q
  unfold eqD at e
  split at e
  · rename_i p1 p2 e1 e2
    split at e
    · rename_i hs
      simp only [Bool.and_eq_true] at hs
      cases e
      exact ⟨p1, p2, (dv_H R h1).dp e1, (dv_H R h2).dp e2, hs.1, hs.2, q _ _ _ Go.refl R (.bl _)⟩
    · cases e
  · cases e
abbrev rCmpS (fs : List Nat → List Nat → Bool) : R2 := fun x y H Q => ∃ i j, x = .str i ∧ y = .str j ∧ Q (.bl (fs i.cps.toList j.cps.toList)) H
def rCmpA (fi : Int → Int → Bool) (fs : List Nat → List Nat → Bool) : R2 := fun x y H Q => rI0 (fun i j => .bl (fi i j)) x y H Q ∨ rCmpS fs x y H Q
theorem bin_cmp {fi : Int → Int → Bool} {fs : List Nat → List Nat → Bool} : Bin2 G m m' (rCmpA fi fs) (cmpD fi fs) := by
  intro φ O σ B H ρ S v1 v2 d1 d2 d Q R h1 h2 e q
  unfold cmpD at e
  split at e
  · cases h1; cases h2; cases e
    exact .inl ⟨_, _, rfl, rfl, q _ _ _ Go.refl R (.bl _)⟩
  · cases h1; cases h2; cases e
    exact .inr ⟨_, _, rfl, rfl, q _ _ _ Go.refl R (.bl _)⟩
  · cases e
theorem op_ltA : OpR X (compareOp .Lt) (rCmpA (fun a b => decide (a < b)) (fun a b => decide (a < b))) := (op_lt (X := X)).or op_lt_str
theorem op_leA : OpR X (compareOp .LtE) (rCmpA (fun a b => decide (a ≤ b)) (fun a b => !decide (b < a))) := (op_le (X := X)).or op_le_str
theorem op_gtA : OpR X (compareOp .Gt) (rCmpA (fun a b => decide (b < a)) (fun a b => decide (b < a))) := (op_gt (X := X)).or op_gt_str
theorem non_iff {p : Option Addr} {B : Hp} {v : V} {d : D} (h : DV G p B v d) : decide (v = .non) = isNon d := by
  cases h <;> first | rfl | exact decide_eq_false (fun z => nomatch z)
theorem bin_isN : Bin2 G m m' (fun x y H Q => y = .non ∧ Q (.bl (decide (x = .non))) H) (isND false) := by
  intro φ O σ B H ρ S v1 v2 d1 d2 d Q R h1 h2 e q
  unfold isND at e
  split at e
  · cases h2; cases e
    refine ⟨rfl, ?_⟩
    rw [non_iff h1]
    exact q _ _ _ Go.refl R (.bl _)
  · cases e
theorem vOf_of {p : Option Addr} {B : Hp} {v : V} {d : D} (hs : isSc d = true) (h : DV G p B v d) : v = vOf d ∧ flatV v = true := by
  cases h <;> first | exact ⟨rfl, rfl⟩ | cases hs
theorem vOfs_of {p : Option Addr} {B : Hp} {vs : List V} {ds : List D} (hs : ds.all isSc = true) (h : DVs G p B vs ds) : vs = ds.map vOf ∧ vs.all flatV = true := by
  induction ds generalizing vs with
  | nil => cases h; exact ⟨rfl, rfl⟩
  | cons d ds ih =>
    cases h with
    | cons h1 h2 =>
      simp only [List.all_cons, Bool.and_eq_true] at hs
      obtain ⟨a1, a2⟩ := vOf_of hs.1 h1
      obtain ⟨b1, b2⟩ := ih hs.2 h2
      refine ⟨by rw [List.map_cons, ← a1, ← b1], ?_⟩
      rw [List.all_cons, a2, b2]; rfl
theorem sq_of {p : Option Addr} {B : Hp} {v : V} {c : D} {ds : List D} (hc : seqD c = some ds) (h : DV G p B v c) : ∃ a xs, v = .ref a ∧ (SqL G.K B a xs ∨ SqT G.K B a xs) ∧ DVs G p B xs ds := by
  cases h <;> first | (unfold seqD at hc; cases hc; done) | skip
  · rename_i a xs ds' h1 h2
    cases hc
    exact ⟨a, xs, rfl, .inl (SqL.of h1), h2⟩
  · rename_i a xs ds' h1 h2
    cases hc
    exact ⟨a, xs, rfl, .inr h1, h2⟩
theorem bin_in {neg : Bool} : Bin2 G m m' (rIn G.K neg) (inD neg) := by
  intro φ O σ B H ρ S v1 v2 d1 d2 d Q R h1 h2 e q
  unfold inD at e
  split at e
  · rename_i ds hc
    split at e
    · rename_i hs
      simp only [Bool.and_eq_true] at hs
      cases e
      obtain ⟨a, xs, rfl, hq, hd⟩ := sq_of hc (dv_H R h2)
      obtain ⟨e1, f1⟩ := vOf_of hs.1 h1
      obtain ⟨e2, f2⟩ := vOfs_of hs.2 hd
      refine ⟨a, xs, rfl, hq, f1, f2, ?_⟩
      rw [e1, e2]
      exact q _ _ _ Go.refl R (.bl _)
    · cases e
  · cases e
theorem op_inG (hK : X.K = G.K := by rfl) : OpR X (compareOp .In) (rIn G.K false) := by rw [← hK]; exact op_in_seq
theorem op_notInG (hK : X.K = G.K := by rfl) : OpR X (compareOp .NotIn) (rIn G.K true) := by rw [← hK]; exact op_notIn_seq
theorem ix_G (hK : X.K = G.K := by rfl) : IxR X (rIx G.K) := by rw [← hK]; exact ix_seq
theorem dvs_at {p : Option Addr} {B : Hp} {vs : List V} {ds : List D} {i : Int} {d : D} (h : DVs G p B vs ds) (e : atI ds i = some d) : ∃ v, atI vs i = some v ∧ DV G p B v d := by
  unfold atI at e ⊢
  rw [h.len]
  cases hj : ixN ds.length i with
  | none => rw [hj] at e; cases e
  | some j =>
    rw [hj] at e
    exact h.get e
theorem bin_ix : Bin2 G m m (rIx G.K) idxD := by
  intro φ O σ B H ρ S v1 v2 d1 d2 d Q R h1 h2 e q
  unfold idxD at e
  split at e
  · cases h1 with | lst ha hs =>
    cases h2
    obtain ⟨v, hv, dv⟩ := dvs_at hs e
    exact .inl ⟨_, _, _, _, rfl, rfl, SqL.of (R.bsH m _ _ ha), hv, q _ _ _ Go.refl R dv⟩
  · cases h1 with | tup ha hs =>
    cases h2
    obtain ⟨v, hv, dv⟩ := dvs_at hs e
    exact .inr (.inl ⟨_, _, _, _, rfl, rfl, sq_bs R ha, hv, q _ _ _ Go.refl R dv⟩)
  · split at e
    · rename_i hl
      cases h1; cases h2
      obtain ⟨c, hc, rfl⟩ := Option.map_eq_some_iff.mp e
      exact .inr (.inr ⟨_, _, _, rfl, rfl, sz100k hl, hc, q _ _ _ Go.refl R (.str _)⟩)
    · cases e
  · cases e
/-- xs[i], xs a list of this def's own: its items are shared ones -/
def idxOF (i : Nat) (F : Ex) : Ex := fun ρ S => (F ρ S).bind fun d S1 => match ρ[i]? with
  | some (some c) => optF (idxD c d) S1
  | _ => .bad
/-! bools, tests -/
def andF (F1 F2 : Ex) : Ex := fun ρ S => (F1 ρ S).bind fun d S1 => match d with
  | .bl true => F2 ρ S1
  | .bl false => .ok (.bl false) S1
  | _ => .bad
def orF (F1 F2 : Ex) : Ex := fun ρ S => (F1 ρ S).bind fun d S1 => match d with
  | .bl true => .ok (.bl true) S1
  | .bl false => F2 ρ S1
  | _ => .bad
def notD : D → Option D
  | .bl b => some (.bl !b)
  | _ => none
def truD : D → Option Bool
  | .non => some false
  | .bl b => some b
  | .int i => some (i != 0)
  | .str z => if z.length ≤ 100000 then some ((z.length : Int) != 0) else none
  | .lst ds => some (!ds.isEmpty)
  | .tup ds => some (!ds.isEmpty)
  | .dct ds => some (!ds.isEmpty)
  | _ => none
def tstF (F : Ex) : Tst := fun ρ S => (F ρ S).bind fun d S1 => match truD d with
  | some b => .ok b S1
  | none => .bad
def andT (c1 c2 : Tst) : Tst := fun ρ S => (c1 ρ S).bind fun b S1 => if b = true then c2 ρ S1 else .ok false S1
def orT (c1 c2 : Tst) : Tst := fun ρ S => (c1 ρ S).bind fun b S1 => if b = true then .ok true S1 else c2 ρ S1
def notT (c : Tst) : Tst := fun ρ S => (c ρ S).bind fun b S1 => .ok (!b) S1
theorem de_and (h : PE X e (tAndV (tD G true O E F1) (tD G m O E F2))) : PE X e (tD G m O E (andF F1 F2)) := by
  refine h.mono fun σ H Q ⟨φ, B, ρ, S, R, hp⟩ => ⟨φ, B, ρ, S, R, ?_⟩
  refine Pg.bind hp fun d S1 w B1 H1 g R1 hw h1 => ?_
  cases hw with
  | bl b =>
    refine ⟨b, rfl, ?_⟩
    cases b with
    | true => rw [if_pos rfl]; exact ⟨φ, B1, ρ, S1, R1, h1⟩
    | false => rw [if_neg (by decide)]; exact Pg.ok h1 R1 (.bl _)
  | _ => exact h1.elim
theorem de_or (h : PE X e (tOrV (tD G true O E F1) (tD G m O E F2))) : PE X e (tD G m O E (orF F1 F2)) := by
  refine h.mono fun σ H Q ⟨φ, B, ρ, S, R, hp⟩ => ⟨φ, B, ρ, S, R, ?_⟩
  refine Pg.bind hp fun d S1 w B1 H1 g R1 hw h1 => ?_
  cases hw with
  | bl b =>
    refine ⟨b, rfl, ?_⟩
    cases b with
    | true => rw [if_pos rfl]; exact Pg.ok h1 R1 (.bl _)
    | false => rw [if_neg (by decide)]; exact ⟨φ, B1, ρ, S1, R1, h1⟩
  | _ => exact h1.elim
theorem de_not (h : PE X e (tNotV (tD G true O E F))) : PE X e (tD G m O E (unF notD F)) := by
  refine h.mono fun σ H Q ⟨φ, B, ρ, S, R, hp⟩ => ⟨φ, B, ρ, S, R, ?_⟩
  refine Pg.bind hp fun d S1 w B1 H1 g R1 hw h1 => ?_
  obtain ⟨r, hr, q⟩ := h1.opt
  cases hw with
  | bl b => cases hr; exact ⟨b, rfl, q _ _ _ Go.refl R1 (.bl _)⟩
  | _ => cases hr
theorem tru_dv {p : Option Addr} {H : Hp} {v : V} {d : D} {b : Bool} (h : DV G p H v d) (e : truD d = some b) : TruV G.K v H b := by
  cases h with
  | non => cases e; rfl
  | bl b => cases e; rfl
  | int i => cases e; rfl
  | str z =>
    unfold truD at e
    dsimp only at e
    split at e
    · rename_i hl; cases e; exact ⟨sz100k hl, rfl⟩
    · cases e
  | lst h1 h2 =>
    cases e
    refine .inl ⟨_, SqL.of h1, ?_⟩
    cases h2 <;> rfl
  | tup h1 h2 =>
    cases e
    refine .inr (.inl ⟨_, h1, ?_⟩)
    cases h2 <;> rfl
  | dct h1 he h2 =>
    cases e
    refine .inr (.inr ⟨_, h1, ?_⟩)
    rename_i a kvs es
    cases kvs <;> cases es <;> first | rfl | (simp at he; done)
  | _ => cases e
theorem dt_val (h : PE X e (tD G true O E F)) (he : ∀ whole, isTrue e X.env whole = (do let v ← whole; standAt e.pos; holding [v] (truthy v)) := by intro _; rfl) (hK : X.K = G.K := by rfl) : PT X e (tBt G O E (tstF F)) := by
  refine (pt_truth h he).mono fun σ H Q ⟨φ, B, ρ, S, R, hp⟩ => ⟨φ, B, ρ, S, R, ?_⟩
  refine Pg.bind hp fun d S1 w B1 H1 g R1 hw h1 => ?_
  split at h1
  · rename_i b hb
    rw [hK]
    exact ⟨b, tru_dv (dv_H R1 hw) hb, Pg.ok h1 R1 rfl⟩
  · exact h1.elim
section
variable {c1 c2 : Tst}
theorem dw_and {pos : Pos} {a b : Expr} {rest : List Expr} (ha : PT X a (tBt G O E c1)) (hb : PW X (.BoolOp .And (b :: rest) pos) (tBt G O E c2)) : PW X (.BoolOp .And (a :: b :: rest) pos) (tBt G O E (andT c1 c2)) := by
  refine (pw_and ha hb).mono fun σ H Q ⟨φ, B, ρ, S, R, hp⟩ => ⟨φ, B, ρ, S, R, ?_⟩
  refine Pg.bind hp fun d S1 w B1 H1 g R1 hw h1 => ?_
  have hw : w = d := hw
  subst hw
  cases w with
  | true => exact ⟨φ, B1, ρ, S1, R1, h1⟩
  | false => exact Pg.ok h1 R1 rfl
theorem dw_or {pos : Pos} {a b : Expr} {rest : List Expr} (ha : PT X a (tBt G O E c1)) (hb : PW X (.BoolOp .Or (b :: rest) pos) (tBt G O E c2)) : PW X (.BoolOp .Or (a :: b :: rest) pos) (tBt G O E (orT c1 c2)) := by
  refine (pw_or ha hb).mono fun σ H Q ⟨φ, B, ρ, S, R, hp⟩ => ⟨φ, B, ρ, S, R, ?_⟩
  refine Pg.bind hp fun d S1 w B1 H1 g R1 hw h1 => ?_
  have hw : w = d := hw
  subst hw
  cases w with
  | true => exact Pg.ok h1 R1 rfl
  | false => exact ⟨φ, B1, ρ, S1, R1, h1⟩
theorem dt_not {pos : Pos} {a : Expr} (ha : PT X a (tBt G O E c1)) : PT X (.UnaryOp .Not a pos) (tBt G O E (notT c1)) := by
  refine (pt_not ha).mono fun σ H Q ⟨φ, B, ρ, S, R, hp⟩ => ⟨φ, B, ρ, S, R, ?_⟩
  refine Pg.bind hp fun d S1 w B1 H1 g R1 hw h1 => ?_
  have hw : w = d := hw
  subst hw
  exact Pg.ok h1 R1 rfl
theorem de_if {pos : Pos} {c a b : Expr} (hc : PT X c (tBt G O E c1)) (ha : PE X a (tD G m O E F1)) (hb : PE X b (tD G m O E F2)) : PE X (.IfExp c a b pos) (tD G m O E (iteF c1 F1 F2)) := by
  refine (pe_ifExp hc ha hb).mono fun σ H Q ⟨φ, B, ρ, S, R, hp⟩ => ⟨φ, B, ρ, S, R, ?_⟩
  refine Pg.bind hp fun d S1 w B1 H1 g R1 hw h1 => ?_
  have hw : w = d := hw
  subst hw
  split at h1
  · rename_i hb; rw [if_pos hb]; exact ⟨φ, B1, ρ, S1, R1, h1⟩
  · rename_i hb; rw [if_neg hb]; exact ⟨φ, B1, ρ, S1, R1, h1⟩
end
/-! a call of a def of the program -/
def spPost (G : Gm) (p : Option Addr) (B H : Hp) (Q : VK) (E : XK) : Rs D → Prop
  | .bad => False
  | .exc c d S' => ∀ B' H' cv od, Same B B' → Same B' H' → (∀ a o, p ≠ some a → H a = some o → H' a = some o) → (∀ a o, B' a = some o → mutO o → B a = some o ∨ H a = none) → (∀ q, p = some q → B' q = none ∧ SrcAt H' q S') → ExnAt G p B' H' c d cv od → E cv od H'
  | .ok d S' => ∀ v B' H', Same B B' → Same B' H' → (∀ a o, p ≠ some a → H a = some o → H' a = some o) → (∀ a o, B' a = some o → mutO o → B a = some o ∨ H a = none) → (∀ q, p = some q → B' q = none ∧ SrcAt H' q S') → DV G p B' v d → Q v H'
  | .all p0 k => ∀ x, p0 x → spPost G p B H Q E (k x)
def spD (G : Gm) (f : List D → SrcT → Rs D) : Sp := fun vs H Q E => ∃ p B ds S, Same B H ∧ (∀ q, p = some q → B q = none ∧ SrcAt H q S) ∧ DVs G p B vs ds ∧ spPost G p B H Q E (f ds S)
/-- behind a call -/
theorem Rep.after {φ : Fr} {σ : L2.St} {B H : Hp} {ρ : Env} {S S' : SrcT} (R : Rep G φ O σ B H ρ S) (m : Bool) {Bc H' : Hp} (h1 : Same (bs m φ B H) Bc) (h2 : Same Bc H') (h3 : ∀ a o, φ.p ≠ some a → H a = some o → H' a = some o)
    (h4 : ∀ a o, Bc a = some o → mutO o → bs m φ B H a = some o ∨ H a = none) (h5 : ∀ q, φ.p = some q → Bc q = none ∧ SrcAt H' q S') (hv : G.v = false := by rfl) : ∃ B', Go φ B H B' H' ∧ Rep G φ O σ B' H' ρ S' ∧ Same Bc (bs m φ B' H') := by
  have hv2 : φ.v = false := R.vv.1.trans hv
  have gh : Same (hideP φ.p H) (hideP φ.p H') := fun c x h => by
    by_cases e : φ.p = some c
    · unfold hideP at h; rw [if_pos e] at h; cases h
    · rw [hideP_at e] at h ⊢; exact h3 c x e h
  have gd : ∀ a, H' a = none → H a = none := fun a h => by
    cases k : H a with
    | none => rfl
    | some x =>
      by_cases e : φ.p = some a
      · rw [(h5 a e).2.1] at h; cases h
      · rw [h3 a x e k] at h; cases h
  have hm : ∀ {B' : Hp}, MemOk G φ B' H' S' := fun hv3 => by rw [hv] at hv3; cases hv3
  cases m with
  | true =>
    rw [bs_true hv2] at h1 h4
    refine ⟨B, ⟨Same.refl _, fun _ => gh, fun _ _ h _ => .inl h, gd⟩, ⟨?_, fun a o hp hm h => h3 a o hp (R.fr a o hp hm h), R.cl, fun q hq => ⟨(R.src q hq).1, (h5 q hq).2⟩, R.b0, R.len, R.val, ?_, R.dis, fun a h => R.al a (gd a h), hm, R.vv, R.nov⟩, ?_⟩
    · exact fun c x h => h2 c x (h1 c x (R.bh c x h))
    · intro i hi
      obtain ⟨a, o, d, k1, k2, k3, k4, k5, k6, k7⟩ := R.own i hi
      exact ⟨a, o, d, k1, k2, h3 a o k6 k3, k4, k5, k6, k7⟩
    · rw [bs_true hv2]
      intro c x h
      by_cases e : φ.p = some c
      · rw [(h5 c e).1] at h; cases h
      · show hideP φ.p H' c = some x
        rw [hideP_at e]; exact h2 c x h
  | false =>
    have h1 : Same B Bc := h1
    have h4 : ∀ a o, Bc a = some o → mutO o → B a = some o ∨ H a = none := h4
    refine ⟨Bc, ⟨h1, fun _ => gh, h4, gd⟩, ⟨h2, fun a o hp hm h => h3 a o hp (R.fr a o hp hm h), ?_, h5, R.b0.trans h1, R.len, ?_, ?_, R.dis, fun a h => R.al a (gd a h), hm, R.vv, R.nov⟩, Same.refl _⟩
    · intro a o h hm
      rcases h4 a o h hm with k | k
      · exact R.cl a o k hm
      · exact .inr (R.al a k)
    · intro i d hi h
      obtain ⟨v, k1, k2⟩ := R.val i d hi h
      exact ⟨v, k1, k2.same h1⟩
    · intro i hi
      obtain ⟨a, o, d, k1, k2, k3, k4, k5, k6, k7⟩ := R.own i hi
      have hH' := h3 a o k6 k3
      refine ⟨a, o, d, k1, k2, hH', ?_, k5, k6, k7.same h1⟩
      cases h : Bc a with
      | none => rfl
      | some x =>
        have hx : x = o := by
          have := h2 a x h
          rw [hH'] at this; exact (Option.some.inj this).symm
        rcases h4 a x h (hx ▸ k7.mut) with k | k
        · rw [k4] at k; cases k
        · rw [k3] at k; cases k
theorem Rep.bare {φ : Fr} {σ : L2.St} {B H : Hp} {ρ : Env} {S : SrcT} (R : Rep G φ O σ B H ρ S) : Rep G φ [] [] B H [] S :=
  ⟨R.sub, R.fr, R.cl, R.src, R.b0, rfl, fun i d _ h => (by simp at h), fun i h => (nomatch h), fun i j h => (nomatch h), R.al, R.mem, R.vv, fun i h => (nomatch h)⟩
def noX {α : Type} : Rs α → Rs α
  | .ok a S => .ok a S
  | .all p k => .all p fun x => noX (k x)
  | _ => .bad
def callN (f : List D → SrcT → Rs D) (Fs : Exs) : Ex := fun ρ S => (Fs ρ S).bind fun ds S1 => noX (f ds S1)
theorem sp_call {φ : Fr} {σ : L2.St} {B H : Hp} {ρ : Env} {S : SrcT} {f : List D → SrcT → Rs D} {vs : List V} {ds : List D} {Q : VK} (R : Rep G φ O σ B H ρ S) (hv : DVs G φ.p (bs false φ B H) vs ds) (h : Pg G φ false O E σ ρ (DV G) B H (f ds S) Q) (hv0 : G.v = false := by rfl) : spD G f vs H Q E := by
  refine ⟨φ.p, bs false φ B H, ds, S, R.bsH false, fun q hq => ⟨R.bs_p false hq, (R.src q hq).2⟩, hv, ?_⟩
  generalize f ds S = r at h ⊢
  induction r with
  | bad => exact h
  | exc c d S' =>
    intro B' H' cv od h1 h2 h3 h4 h5 hx
    obtain ⟨B2, g, R2, hb⟩ := R.after false h1 h2 h3 h4 h5 hv0
    exact h B2 H' cv od g R2.bare (by
        obtain ⟨e1, e2⟩ := hx
        refine ⟨e1, ?_⟩
        cases d with
        | none => trivial
        | some d =>
          obtain ⟨dx, v, k1, k2, k3⟩ := e2
          exact ⟨dx, v, k1, k2, k3.same hb⟩)
  | ok d S' =>
    intro v B' H' h1 h2 h3 h4 h5 hd
    obtain ⟨B2, g, R2, hb⟩ := R.after false h1 h2 h3 h4 h5 hv0
    exact h v B2 H' g R2 (hd.same hb)
  | all p k ih => exact fun x px => ih x (h x px)
theorem sp_callN {φ : Fr} {σ : L2.St} {B H : Hp} {ρ : Env} {S : SrcT} {f : List D → SrcT → Rs D} {vs : List V} {ds : List D} {Q : VK} {E' : XK} (R : Rep G φ O σ B H ρ S) (hv : DVs G φ.p (bs true φ B H) vs ds) (h : Pg G φ true O E σ ρ (DV G) B H (noX (f ds S)) Q) (hv0 : G.v = false := by rfl) : spD G f vs H Q E' := by
  refine ⟨φ.p, bs true φ B H, ds, S, R.bsH true, fun q hq => ⟨R.bs_p true hq, (R.src q hq).2⟩, hv, ?_⟩
  generalize f ds S = r at h ⊢
  induction r with
  | bad => exact h
  | exc c d S' => exact h.elim
  | ok d S' =>
    intro v B' H' h1 h2 h3 h4 h5 hd
    obtain ⟨B2, g, R2, hb⟩ := R.after true h1 h2 h3 h4 h5 hv0
    exact h v B2 H' g R2 (hd.same hb)
  | all p k ih => exact fun x px => ih x (h x px)
theorem de_call {f : List D → SrcT → Rs D} (h : PE X e (tCall (spD G f) [] E (tDs G false O E Fs))) (hv0 : G.v = false := by rfl) : PE X e (tD G false O E (callF f Fs)) := by
  refine h.mono fun σ H Q ⟨φ, B, ρ, S, R, hp⟩ => ⟨φ, B, ρ, S, R, ?_⟩
  refine Pg.bind hp fun d S1 w B1 H1 g R1 hw h1 => ?_
  rw [List.append_nil]
  exact sp_call R1 hw h1 hv0
theorem de_callN {f : List D → SrcT → Rs D} {E' : XK} (h : PE X e (tCall (spD G f) [] E' (tDs G true O E Fs))) (hv0 : G.v = false := by rfl) : PE X e (tD G true O E (callN f Fs)) := by
  refine h.mono fun σ H Q ⟨φ, B, ρ, S, R, hp⟩ => ⟨φ, B, ρ, S, R, ?_⟩
  refine Pg.bind hp fun d S1 w B1 H1 g R1 hw h1 => ?_
  rw [List.append_nil]
  exact sp_callN R1 hw h1 hv0
end
end
end NL
/-! ### the data layer: slices, built-ins, new lists, walks, comprehensions -/
namespace NL
noncomputable section
open PySem L2
/-! slices -/
def cutD (ds : List D) (lo hi : Option Int) : List D := (ds.drop (HT.sIx ds.length 0 lo)).take (HT.sIx ds.length ds.length hi - HT.sIx ds.length 0 lo)
def sliceD : D → Option Int → Option Int → Option D
  | .lst ds, lo, hi => some (.lst (cutD ds lo hi))
  | .tup ds, lo, hi => some (.tup (cutD ds lo hi))
  | .str z, lo, hi => if z.length ≤ 100000 then some (.str (cutS z lo hi)) else none
  | _, _, _ => none
abbrev Exo := Env → SrcT → Rs (Option Int)
def noF : Exo := fun _ S => .ok none S
def someF (F : Ex) : Exo := fun ρ S => (F ρ S).bind fun d S1 => match d with
  | .int i => .ok (some i) S1
  | _ => .bad
def slF (F : Ex) (L U : Exo) : Ex := fun ρ S => (F ρ S).bind fun d S1 => (L ρ S1).bind fun lo S2 => (U ρ S2).bind fun hi S3 => optF (sliceD d lo hi) S3
section
variable {X : Cx} {G : Gm} {m m' : Bool} {O : List Nat} {E : XK} {e : Expr} {es : List Expr} {F F1 F2 : Ex} {Fs : Exs} {L U : Exo}
abbrev tO (G : Gm) (O : List Nat) (E : XK) (F : Exo) : TO := tG G true O E (fun _ _ b a => b = a) F
theorem _root_.L2.PO.mono {X : Cx} {e : Option Expr} {t t' : TO} (h : PO X e t) (s : ∀ σ H Q, t' σ H Q → t σ H Q) : PO X e t' := ⟨fun pins s0 σ H Q I hw => h.run pins s0 σ H Q I (s σ H Q hw)⟩
theorem do_none : PO X none (tO G O E noF) := po_none.mono fun σ H Q ⟨φ, B, ρ, S, R, hp⟩ => Pg.ok hp R rfl
theorem do_some (h : PE X e (tD G true O E F)) : PO X (some e) (tO G O E (someF F)) := by
  refine (po_some h).mono fun σ H Q ⟨φ, B, ρ, S, R, hp⟩ => ⟨φ, B, ρ, S, R, ?_⟩
  refine Pg.bind hp fun d S1 w B1 H1 g R1 hw h1 => ?_
  cases hw with
  | int i => exact ⟨i, rfl, Pg.ok h1 R1 rfl⟩
  | _ => exact h1.elim
theorem dvs_cut {p : Option Addr} {B : Hp} {vs : List V} {ds : List D} (lo hi : Option Int) (h : DVs G p B vs ds) : DVs G p B (cutV vs lo hi) (cutD ds lo hi) := by
  unfold cutV cutD
  rw [h.len]
  exact (h.drop _).take _
def rSlG (K : PySem.W.Frag) : V → Option Int → Option Int → Hp → VK → Prop := fun x lo hi H Q => rSlL K x lo hi H Q ∨ (rSlA K x lo hi H Q ∨ rSlS x lo hi H Q)
theorem sl_G (hK : X.K = G.K := by rfl) : SlR X (rSlG G.K) := by rw [← hK]; exact (sl_list (X := X)).or ((sl_tupA (X := X)).or sl_str)
theorem de_slice {pos p2 : Pos} {lo hi : Option Expr} (h : PE X (.Subscript e (.Slice lo hi none p2) pos) (tSl (rSlG G.K) (tD G m O E F) (tO G O E L) (tO G O E U))) : PE X (.Subscript e (.Slice lo hi none p2) pos) (tD G m O E (slF F L U)) := by
  refine h.mono fun σ H Q ⟨φ, B, ρ, S, R, hp⟩ => ⟨φ, B, ρ, S, R, ?_⟩
  refine Pg.bind hp fun d S1 w B1 H1 g1 R1 hw h1 => ⟨φ, B1, ρ, S1, R1, ?_⟩
  refine Pg.bind h1 fun l S2 wl B2 H2 g2 R2 hwl h2 => ⟨φ, B2, ρ, S2, R2, ?_⟩
  refine Pg.bind h2 fun u S3 wu B3 H3 g3 R3 hwu h3 => ?_
  have hwl : wl = l := hwl
  have hwu : wu = u := hwu
  subst hwl; subst hwu
  obtain ⟨r, hr, q⟩ := h3.opt
  have hw := hw.same ((g2.trans g3).bs m)
  unfold sliceD at hr
  split at hr
  · cases hw with | lst ha hs =>
    cases hr
    refine .inl ⟨_, _, rfl, SqL.of (R3.bsH m _ _ ha), fun a na => ?_⟩
    obtain ⟨R', g, np⟩ := R3.new na
    exact q _ _ _ g R' (.lst (bs_new m np) ((dvs_cut _ _ hs).same (g.bs m)))
  · cases hw with | tup ha hs =>
    cases hr
    refine .inr (.inl ⟨_, _, rfl, sq_bs R3 ha, fun hw => ?_, fun _ a na => ?_⟩)
    · have hc := dvs_cut (lo := wl) (hi := wu) hs
      have e1 : ∀ xs : List V, (HT.sIx xs.length 0 wl = 0 ∧ HT.sIx xs.length xs.length wu = xs.length) → cutV xs wl wu = xs := fun xs hx => by
        unfold cutV; rw [hx.1, hx.2]; simp
      rw [e1 _ hw] at hc
      exact q _ _ _ Go.refl R3 (.tup ha hc)
    · obtain ⟨R', g, np⟩ := R3.new na
      exact q _ _ _ g R' (.tup (SqT.of (bs_new m np)) ((dvs_cut _ _ hs).same (g.bs m)))
  · split at hr
    · rename_i hl
      cases hw; cases hr
      exact .inr (.inr ⟨_, rfl, sz100k hl, q _ _ _ Go.refl R3 (.str _)⟩)
    · cases hr
  · cases hr
/-! built-ins -/
def lenD : List D → Option D
  | [.lst ds] => some (.int ds.length)
  | [.tup ds] => some (.int ds.length)
  | [.str z] => if z.length ≤ 100000 then some (.int z.length) else none
  | [.dct kvs] => some (.int kvs.length)
  | _ => none
def rLenG (K : PySem.W.Frag) : List V → Hp → VK → Prop := fun xs H Q => (∃ x n, xs = [x] ∧ LenV K x H n ∧ Q (.int n) H) ∨ (∃ a kvs, xs = [V.ref a] ∧ H a = some (.dK kvs) ∧ Q (.int kvs.length) H)
theorem call_lenG (hK : X.K = G.K := by rfl) : CallR X (.builtin "len") (rLenG G.K) := by rw [← hK]; exact (call_len (X := X)).or call_lenD
theorem arg_len : ArgN G m m' (rLenG G.K) lenD := by
  intro φ O σ B H ρ S vs ds d Q R hv e q
  unfold lenD at e
  split at e
  · cases hv with | cons h1 h2 => cases h2; cases h1 with | lst ha hs =>
    cases e
    refine .inl ⟨_, _, rfl, .inl ⟨_, SqL.of (R.bsH m _ _ ha), rfl⟩, ?_⟩
    rw [hs.len]; exact q _ _ _ Go.refl R (.int _)
  · cases hv with | cons h1 h2 => cases h2; cases h1 with | tup ha hs =>
    cases e
    refine .inl ⟨_, _, rfl, .inr ⟨_, sq_bs R ha, rfl⟩, ?_⟩
    rw [hs.len]; exact q _ _ _ Go.refl R (.int _)
  · split at e
    · rename_i hl
      cases hv with | cons h1 h2 =>
      cases h2; cases h1
      cases e
      exact .inl ⟨_, _, rfl, ⟨sz100k hl, rfl⟩, q _ _ _ Go.refl R (.int _)⟩
    · cases e
  · cases hv with | cons h1 h2 => cases h2; cases h1 with | dct ha he hs =>
    cases e
    refine .inr ⟨_, _, rfl, R.bsH m _ _ ha, ?_⟩
    have : ∀ {α β γ : Type} (l1 : List (γ × α)) (l2 : List (γ × β)), l1.map Prod.fst = l2.map Prod.fst → l1.length = l2.length := fun l1 l2 h => by simpa using congrArg List.length h
    rw [this _ _ he]; exact q _ _ _ Go.refl R (.int _)
  · cases e
def absD : List D → Option D
  | [.int i] => some (.int (if i < 0 then -i else i))
  | _ => none
def max2D : List D → Option D
  | [.int i, .int j] => some (.int (if j > i then j else i))
  | _ => none
def min2D : List D → Option D
  | [.int i, .int j] => some (.int (if j < i then j else i))
  | _ => none
abbrev rAbs : List V → Hp → VK → Prop := fun xs H Q => ∃ i, xs = [.int i] ∧ Q (.int (if i < 0 then -i else i)) H
theorem arg_abs : ArgN G m m' rAbs absD := by
  intro φ O σ B H ρ S vs ds d Q R hv e q
  unfold absD at e
  split at e
  · cases hv with | cons h1 h2 => cases h2; cases h1; cases e; exact ⟨_, rfl, q _ _ _ Go.refl R (.int _)⟩
  · cases e
abbrev rMax2 : List V → Hp → VK → Prop := fun xs H Q => ∃ i j, xs = [.int i, .int j] ∧ Q (.int (if j > i then j else i)) H
abbrev rMin2 : List V → Hp → VK → Prop := fun xs H Q => ∃ i j, xs = [.int i, .int j] ∧ Q (.int (if j < i then j else i)) H
theorem arg_max2 : ArgN G m m' rMax2 max2D := by
  intro φ O σ B H ρ S vs ds d Q R hv e q
  unfold max2D at e
  split at e
  · cases hv with | cons h1 h2 => cases h2 with | cons h2 h3 => cases h3; cases h1; cases h2; cases e; exact ⟨_, _, rfl, q _ _ _ Go.refl R (.int _)⟩
  · cases e
theorem arg_min2 : ArgN G m m' rMin2 min2D := by
  intro φ O σ B H ρ S vs ds d Q R hv e q
  unfold min2D at e
  split at e
  · cases hv with | cons h1 h2 => cases h2 with | cons h2 h3 => cases h3; cases h1; cases h2; cases e; exact ⟨_, _, rfl, q _ _ _ Go.refl R (.int _)⟩
  · cases e
def boolsD : List D → Option (List Bool)
  | [] => some []
  | .bl b :: ds => (boolsD ds).map (b :: ·)
  | _ => none
def intsD : List D → Option (List Int)
  | [] => some []
  | .int i :: ds => (intsD ds).map (i :: ·)
  | _ => none
def strsD : List D → Option (List Str)
  | [] => some []
  | .str i :: ds => (strsD ds).map (i :: ·)
  | _ => none
theorem bools_of {p : Option Addr} {B : Hp} : ∀ {ds : List D} {vs : List V} {bs : List Bool}, boolsD ds = some bs → DVs G p B vs ds → vs = bs.map V.bl := by
  intro ds
  induction ds with
  | nil => intro vs bs h hv; cases hv; cases h; rfl
  | cons d ds ih =>
    intro vs bs h hv
    cases hv with | cons h1 h2 =>
    unfold boolsD at h
    split at h
    · rename_i heq; cases heq
    · rename_i b ds' heq
      cases heq
      obtain ⟨bs', h3, rfl⟩ := Option.map_eq_some_iff.mp h
      cases h1
      rw [ih h3 h2]; rfl
    · cases h
theorem strs_of {p : Option Addr} {B : Hp} : ∀ {ds : List D} {vs : List V} {bs : List Str}, strsD ds = some bs → DVs G p B vs ds → vs = bs.map V.str := by
  intro ds
  induction ds with
  | nil => intro vs bs h hv; cases hv; cases h; rfl
  | cons d ds ih =>
    intro vs bs h hv
    cases hv with | cons h1 h2 =>
    unfold strsD at h
    split at h
    · rename_i heq; cases heq
    · rename_i b ds' heq
      cases heq
      obtain ⟨bs', h3, rfl⟩ := Option.map_eq_some_iff.mp h
      cases h1
      rw [ih h3 h2]; rfl
    · cases h
theorem boolsD_map : ∀ bs : List Bool, boolsD (bs.map D.bl) = some bs
  | [] => rfl
  | b :: bs => by rw [List.map_cons, boolsD, boolsD_map bs]; rfl
theorem strsD_map : ∀ bs : List Str, strsD (bs.map D.str) = some bs
  | [] => rfl
  | b :: bs => by rw [List.map_cons, strsD, strsD_map bs]; rfl
def allD : List D → Option D
  | [.lst ds] => (boolsD ds).map fun bs => .bl (bs.all id)
  | _ => none
def anyD : List D → Option D
  | [.lst ds] => (boolsD ds).map fun bs => .bl (bs.any id)
  | _ => none
theorem arg_all : ArgN G m m' (rAll G.K) allD := by
  intro φ O σ B H ρ S vs ds d Q R hv e q
  unfold allD at e
  split at e
  · cases hv with | cons h1 h2 => cases h2; cases h1 with | lst ha hs =>
    obtain ⟨bl, h3, rfl⟩ := Option.map_eq_some_iff.mp e
    refine ⟨_, bl, rfl, ?_, q _ _ _ Go.refl R (.bl _)⟩
    rw [← bools_of h3 hs]; exact SqL.of (R.bsH m _ _ ha)
  · cases e
theorem arg_any : ArgN G m m' (rAny G.K) anyD := by
  intro φ O σ B H ρ S vs ds d Q R hv e q
  unfold anyD at e
  split at e
  · cases hv with | cons h1 h2 => cases h2; cases h1 with | lst ha hs =>
    obtain ⟨bl, h3, rfl⟩ := Option.map_eq_some_iff.mp e
    refine ⟨_, bl, rfl, ?_, q _ _ _ Go.refl R (.bl _)⟩
    rw [← bools_of h3 hs]; exact SqL.of (R.bsH m _ _ ha)
  · cases e
theorem call_allG (hc : X.calm = true) (hK : X.K = G.K := by rfl) : CallR X (.builtin "all") (rAll G.K) := by rw [← hK]; exact cr_all hc
theorem call_anyG (hc : X.calm = true) (hK : X.K = G.K := by rfl) : CallR X (.builtin "any") (rAny G.K) := by rw [← hK]; exact cr_any hc
end
end
end NL
/-! ### the data layer: new objects of one's own -/
namespace NL
noncomputable section
open PySem L2
section
variable {X : Cx} {G : Gm} {m m' : Bool} {O : List Nat} {E : XK} {e : Expr} {es : List Expr} {F F1 F2 : Ex} {Fs : Exs}
variable {φ : Fr} {σ : L2.St} {B H : Hp} {ρ : Env} {S : SrcT}
/-- a new object, not yet shared -/
structure New (G : Gm) (φ : Fr) (O : List Nat) (σ : L2.St) (m : Bool) (B H : Hp) (S : SrcT) (a : Addr) (o : HO) (d : D) : Prop where
  at' : H a = some o
  nB : B a = none
  n0 : φ.H0 a = none
  np : φ.p ≠ some a
  dis : ∀ i, i ∈ O → σ[i]? ≠ some (some (.ref a))
  dat : DO G φ.p (bs m φ B H) o d
  nm : G.v = true → S.m a = none
def PgN (G : Gm) (φ : Fr) (m : Bool) (O : List Nat) (E : XK) (σ : L2.St) (ρ : Env) (B H : Hp) (r : Rs D) (Q : VK) : Prop := match r with
  | .bad => False
  | .exc c d S => XP G φ E B H c d S
  | .ok d S => ∀ a o B' H', Go φ B H B' H' → Rep G φ O σ B' H' ρ S → New G φ O σ m B' H' S a o d → H a = none → Q (.ref a) H'
  | .all p k => ∀ x, p x → PgN G φ m O E σ ρ B H (k x) Q
def tN (G : Gm) (m : Bool) (O : List Nat) (E : XK) (F : Ex) : TE := fun σ H Q => ∃ φ B ρ S, Rep G φ O σ B H ρ S ∧ PgN G φ m O E σ ρ B H (F ρ S) Q
theorem PgN.go {B1 H1 : Hp} {r : Rs D} {Q : VK} (g : Go φ B H B1 H1) (h : PgN G φ m O E σ ρ B H r Q) : PgN G φ m O E σ ρ B1 H1 r Q := by
  induction r with
  | bad => exact h
  | exc c d S => exact XP.go g h
  | ok a S => exact fun w o B' H' g' R' n' hn => h w o B' H' (g.trans g') R' n' (g.d _ hn)
  | all p k ih => exact fun x px => ih x (h x px)
theorem PgN.bind {ω' β : Type} {rel' : Rel ω' β} {r : Rs β} {k : β → SrcT → Rs D} {Q : VK} {Q' : ω' → Hp → Prop} (h : PgN G φ m O E σ ρ B H (r.bind k) Q)
    (hk : ∀ d S w B1 H1, Go φ B H B1 H1 → Rep G φ O σ B1 H1 ρ S → rel' φ.p (bs m' φ B1 H1) w d → PgN G φ m O E σ ρ B1 H1 (k d S) Q → Q' w H1) : Pg G φ m' O E σ ρ rel' B H r Q' := by
  induction r with
  | bad => exact h
  | exc c d S => exact h
  | ok a S => exact fun w B' H' g R hw => hk a S w B' H' g R hw (PgN.go g h)
  | all p k ih => exact fun x px => ih x (h x px)
theorem PgN.bindE {ω' β : Type} {rel' : Rel ω' β} {r : Rs β} {k : β → SrcT → Rs D} {Q : VK} {Q' : ω' → Hp → Prop} {P0 : β → Prop} (he : r.each P0) (h : PgN G φ m O E σ ρ B H (r.bind k) Q)
    (hk : ∀ d S w B1 H1, P0 d → Go φ B H B1 H1 → Rep G φ O σ B1 H1 ρ S → rel' φ.p (bs m' φ B1 H1) w d → PgN G φ m O E σ ρ B1 H1 (k d S) Q → Q' w H1) : Pg G φ m' O E σ ρ rel' B H r Q' := by
  induction r with
  | bad => exact h
  | exc c d S => exact h
  | ok a S => exact fun w B' H' g R hw => hk a S w B' H' he g R hw (PgN.go g h)
  | all p k ih => exact fun x px => ih x (he x) (h x px)
theorem Rep.attach (R : Rep G φ O σ B H ρ S) {a : Addr} {o : HO} {d : D} (n : New G φ O σ m B H S a o d) : Rep G φ O σ (upd B a o) H ρ S ∧ DV G φ.p (bs m φ (upd B a o) H) (.ref a) d := by
  have sB : Same B (upd B a o) := same_new n.nB
  refine ⟨⟨?_, R.fr, ?_, ?_, R.b0.trans sB, R.len, ?_, ?_, R.dis, R.al, ?_, R.vv, R.nov⟩, ?_⟩
  · intro c x h
    by_cases e : c = a
    · subst e; rw [upd_same] at h; rw [← h]; exact n.at'
    · rw [upd_ne e] at h; exact R.sub c x h
  · intro c x h hm
    by_cases e : c = a
    · subst e; exact .inr n.n0
    · rw [upd_ne e] at h; exact R.cl c x h hm
  · intro q hq
    have e : q ≠ a := fun e => n.np (e ▸ hq)
    exact ⟨by rw [upd_ne e]; exact (R.src q hq).1, (R.src q hq).2⟩
  · intro i d hi h
    obtain ⟨v, k1, k2⟩ := R.val i d hi h
    exact ⟨v, k1, k2.same sB⟩
  · intro i hi
    obtain ⟨b, o', d', k1, k2, k3, k4, k5, k6, k7⟩ := R.own i hi
    have e : b ≠ a := fun e => n.dis i hi (e ▸ k2)
    exact ⟨b, o', d', k1, k2, k3, by rw [upd_ne e]; exact k4, k5, k6, k7.same sB⟩
  · intro hv b c hc
    obtain ⟨h1, h2, h3, h4⟩ := R.mem hv b c hc
    have e : b ≠ a := fun e => by rw [e, n.nm hv] at hc; cases hc
    exact ⟨h1.move sB fun o h => h, by rw [upd_ne e]; exact h2, h3, h4⟩
  · have hs : Same (bs m φ B H) (bs m φ (upd B a o) H) := by
      unfold bs; split
      · exact Same.refl _
      · exact sB
    refine (n.dat.same hs).dv ?_
    unfold bs; split
    · rw [hideP_at n.np]; exact n.at'
    · exact upd_same
theorem PgN.of {r : Rs D} {Q : VK} (h : Pg G φ m O E σ ρ (DV G) B H r Q) : PgN G φ m O E σ ρ B H r Q := by
  induction r with
  | bad => exact h
  | exc c d S => exact h
  | ok d S1 =>
    intro a o B' H' g R' n hn
    obtain ⟨R2, dv⟩ := R'.attach n
    refine h (.ref a) (upd B' a o) H' ⟨g.b.trans (same_new n.nB), g.h, fun c x h hm => ?_, g.d⟩ R2 dv
    by_cases e : c = a
    · subst e; exact .inr hn
    · rw [upd_ne e] at h; exact g.n c x h hm
  | all p k ih => exact fun x px => ih x (h x px)
theorem de_ofN (h : PE X e (tN G m O E F)) : PE X e (tD G m O E F) := h.mono fun σ H Q ⟨φ, B, ρ, S, R, hp⟩ => ⟨φ, B, ρ, S, R, PgN.of hp⟩
/-- a list (or dict) laid at a free place -/
theorem Rep.newO (R : Rep G φ O σ B H ρ S) {a : Addr} {o : HO} {d : D} (n : H a = none) (hd : DO G φ.p (bs m φ B H) o d) : Rep G φ O σ B (upd H a o) ρ S ∧ Go φ B H B (upd H a o) ∧ New G φ O σ m B (upd H a o) S a o d := by
  obtain ⟨R', g, nB, n0, np⟩ := R.newN (o := o) n
  refine ⟨R', g, ⟨upd_same, nB, n0, np, fun i hi h => ?_, hd.same (g.bs m), fun hv => ?_⟩⟩
  · obtain ⟨b, o', d', k1, k2, k3, _⟩ := R.own i hi
    rw [k2] at h
    have e : b = a := by injection h with h; injection h with h; injection h
    rw [e, n] at k3; cases k3
  · cases hc : S.m a with
    | none => rfl
    | some c =>
      obtain ⟨x, hx, _⟩ := (R.mem hv a c hc).1.some
      rw [n] at hx; cases hx
theorem de_lstN {pos : Pos} (h : DA X es G m O E Fs) (hl : es.length ≤ 1000) : PE X (.List es pos) (tN G m O E (lstF Fs)) := by
  refine (pe_lst h.pa).mono fun σ H Q ⟨φ, B, ρ, S, R, hp⟩ => ⟨φ, B, ρ, S, R, ?_⟩
  unfold lstF at hp
  refine PgN.bindE (h.len ρ S) hp fun ds S1 ws B1 H1 hlen g R1 hws h1 => ?_
  have hlw : ws.length ≤ 1000 := by rw [hws.len, hlen]; exact hl
  refine ⟨sz1000 hlw, fun a na => ?_⟩
  obtain ⟨R', g', n'⟩ := R1.newO (m := m) (o := .lst ws) (d := .lst ds) na hws
  exact h1 a _ B1 _ g' R' n' na
theorem de_lst {pos : Pos} (h : DA X es G m O E Fs) (hl : es.length ≤ 1000) : PE X (.List es pos) (tD G m O E (lstF Fs)) := de_ofN (de_lstN h hl)
theorem PgN.opt {o : Option D} {Q : VK} (h : PgN G φ m O E σ ρ B H (optF o S) Q) : ∃ d, o = some d ∧ ∀ a o B' H', Go φ B H B' H' → Rep G φ O σ B' H' ρ S → New G φ O σ m B' H' S a o d → H a = none → Q (.ref a) H' := by
  cases o with
  | none => exact h.elim
  | some d => exact ⟨d, rfl, h⟩
def ArgNN (G : Gm) (m m' : Bool) (r : List V → Hp → VK → Prop) (f : List D → Option D) : Prop := ∀ {φ : Fr} {O : List Nat} {σ : L2.St} {B H : Hp} {ρ : Env} {S : SrcT} {vs : List V} {ds : List D} {d : D} {Q : VK}, Rep G φ O σ B H ρ S → DVs G φ.p (bs m φ B H) vs ds → f ds = some d →
  (∀ a o B' H', Go φ B H B' H' → Rep G φ O σ B' H' ρ S → New G φ O σ m' B' H' S a o d → H a = none → Q (.ref a) H') → r vs H Q
theorem de_argN {r : List V → Hp → VK → Prop} {f : List D → Option D} (hb : ArgNN G m m' r f) (h : PE X e (tCB r (tDs G m O E Fs))) : PE X e (tN G m' O E (argF f Fs)) := by
  refine h.mono fun σ H Q ⟨φ, B, ρ, S, R, hp⟩ => ⟨φ, B, ρ, S, R, ?_⟩
  refine PgN.bind hp fun d1 S1 v1 B1 H1 g R1 hw h1 => ?_
  obtain ⟨d, e, q⟩ := h1.opt
  exact hb R1 hw e q
/-- tuple(x) -/
def tupleD : List D → Option D
  | [.lst ds] => some (.tup ds)
  | [.tup ds] => some (.tup ds)
  | _ => none
theorem call_tupleG (hK : X.K = G.K := by rfl) : CallR X (.type "tuple") (rTupOf G.K) := by rw [← hK]; exact call_tuple_of
theorem arg_tuple : ArgN G m m (rTupOf G.K) tupleD := by
  intro φ O σ B H ρ S vs ds d Q R hv e q
  unfold tupleD at e
  split at e
  · cases hv with | cons h1 h2 =>
    cases h2; cases h1 with | lst ha hs =>
    cases e
    refine ⟨_, _, rfl, .inl ⟨SqL.of (R.bsH m _ _ ha), fun a na => ?_⟩⟩
    obtain ⟨R', g, np⟩ := R.new na
    exact q _ _ _ g R' (.tup (SqT.of (bs_new m np)) (hs.same (g.bs m)))
  · cases hv with | cons h1 h2 =>
    cases h2; cases h1 with | tup ha hs =>
    cases e
    exact ⟨_, _, rfl, .inr ⟨sq_bs R ha, q _ _ _ Go.refl R (.tup ha hs)⟩⟩
  · cases e
/-! sorted -/
end
end
end NL
/-! ### the data layer: walks, targets, comprehensions -/
namespace NL
noncomputable section
open PySem L2
theorem _root_.L2.PI.mono {X : Cx} {tg e : Expr} {t t' : TI} (h : PI X tg e t) (s : ∀ σ H Q, t' σ H Q → t σ H Q) : PI X tg e t' := ⟨fun pins s0 σ H Q I hw => h.run pins s0 σ H Q I (s σ H Q hw)⟩
theorem _root_.L2.PG.mono {X : Cx} {tg : Expr} {t t' : TG} (h : PG X tg t) (s : ∀ v σ H Q, t' v σ H Q → t v σ H Q) : PG X tg t' := ⟨fun pins s0 σ H v u Q I r hw => h.run pins s0 σ H v u Q I r (s v σ H Q hw)⟩
theorem _root_.L2.PGs.mono {X : Cx} {tg : List Expr} {t t' : TGs} (h : PGs X tg t) (s : ∀ v σ H Q, t' v σ H Q → t v σ H Q) : PGs X tg t' := ⟨fun pins s0 σ H v u Q I r hw => h.run pins s0 σ H v u Q I r (s v σ H Q hw)⟩
theorem _root_.L2.PTs.mono {X : Cx} {e : List Expr} {t t' : TT} (h : PTs X e t) (s : ∀ σ H Q, t' σ H Q → t σ H Q) : PTs X e t' := ⟨fun pins s0 σ H Q I hw => h.run pins s0 σ H Q I (s σ H Q hw)⟩
/-- what a turn gives -/
def YD (G : Gm) (p : Option Addr) (B : Hp) (ds : List D) : Nat → Hp → V → Hp → Prop := fun i H x H' => ∃ d, ds[i]? = some d ∧ ((H' = H ∧ DV G p B x d) ∨ ∃ T o, x = .ref T ∧ H T = none ∧ H' = upd H T o ∧ ∀ B2, Same B B2 → B2 T = none → DV G p (upd B2 T o) x d)
structure DWalk (G : Gm) (p : Option Addr) (B : Hp) (J : It) (ds : List D) : Prop where
  ex : ∃ Gd : Hp → Prop, (∀ H, Same B H → Gd H) ∧ Walk J ds.length Gd (YD G p B ds)
abbrev tI (G : Gm) (O : List Nat) (E : XK) (F : Exs) : TI := tG G false O E (DWalk G) F
def iSeq2 (K : PySem.W.Frag) (tl : TE) : TI := fun σ H R => tl σ H fun x H1 => ∃ a xs, x = .ref a ∧ ((SqL K H1 a xs ∧ R (Itl K a) H1) ∨ (SqT K H1 a xs ∧ R (Itt K a) H1))
section
variable {X : Cx}
theorem pi_seq2 {tg l : Expr} {tl : TE} (hl : PE X l tl) : PI X tg l (iSeq2 X.K tl) := by
  refine ⟨fun pins s σ H R I h => ?_⟩
  refine thn (hl.run pins s σ H _ I h) fun v s1 ⟨x, H1, I1, r1, q1⟩ => ?_
  obtain ⟨a, xs, e, hq⟩ := q1
  subst e
  cases r1
  rcases hq with ⟨hq, q⟩ | ⟨hq, q⟩
  · obtain ⟨its, rv, p, hz⟩ := I1.list hq
    refine wpAny_pyIter_list p.isList ?_
    refine ⟨s1.heap.objs.size, [s1.heap.objs.size], _, _, H1, rfl, I1.kept (t' := s1.toks) fun b o e => Heap.get?_push_of_some _ e, turn_list a _, ⟨_, Heap.get?_push_size _ rfl, rfl, rfl⟩, fun b hb => ?_, q⟩
    have e : b = s1.heap.objs.size := by simpa using hb
    subst e
    exact I1.fpOk (Nat.le_refl _) (I1.hok.fresh (Nat.le_refl _))
  · obtain ⟨its, rv, p, hz⟩ := I1.tuple hq
    refine wpAny_pyIter_tuple (show s1.heap.IsTuple a its.toArray from p) ?_
    refine ⟨s1.heap.objs.size, [s1.heap.objs.size], _, _, H1, rfl, I1.kept (t' := s1.toks) fun b o e => Heap.get?_push_of_some _ e, turn_tuple a _, ⟨_, Heap.get?_push_size _ rfl, rfl, rfl⟩, fun b hb => ?_, q⟩
    have e : b = s1.heap.objs.size := by simpa using hb
    subst e
    exact I1.fpOk (Nat.le_refl _) (I1.hok.fresh (Nat.le_refl _))
end
def seqF (F : Ex) : Exs := fun ρ S => (F ρ S).bind fun d S1 => match seqD d with
  | some ds => .ok ds S1
  | none => .bad
def rngD (lo : Int) (n : Nat) : List D := (List.range n).map fun i : Nat => D.int (lo + (i : Int))
def okR (i : Int) : Bool := decide (-1000000000000 ≤ i) && decide (i ≤ 1000000000000)
def rng1F (Fs : Exs) : Exs := fun ρ S => (Fs ρ S).bind fun ds S1 => match ds with
  | [.int j] => if okR j = true then .ok (rngD 0 j.toNat) S1 else .bad
  | _ => .bad
def rng2F (Fs : Exs) : Exs := fun ρ S => (Fs ρ S).bind fun ds S1 => match ds with
  | [.int i, .int j] => if (okR i && okR j) = true then .ok (rngD i (j - i).toNat) S1 else .bad
  | _ => .bad
def signsD (z : Str) : List D := z.cps.toList.map fun c => D.str ⟨#[c]⟩
def strF (F : Ex) : Exs := fun ρ S => (F ρ S).bind fun d S1 => match d with
  | .str z => .ok (signsD z) S1
  | _ => .bad
section
variable {X : Cx} {G : Gm} {m m' : Bool} {O : List Nat} {E : XK} {e tg : Expr} {es : List Expr} {F F1 F2 : Ex} {Fs : Exs}
variable {φ : Fr} {σ : L2.St} {B H : Hp} {ρ : Env} {S : SrcT}
theorem di_seq (h : PE X e (tD G false O E F)) (hK : X.K = G.K := by rfl) : PI X tg e (tI G O E (seqF F)) := by
  refine (pi_seq2 h).mono fun σ H R' ⟨φ, B, ρ, S, R, hp⟩ => ⟨φ, B, ρ, S, R, ?_⟩
  rw [hK]
  refine Pg.bind hp fun d S1 w B1 H1 g1 R1 hw h1 => ?_
  have hw : DV G φ.p B1 w d := hw
  cases hw with
  | lst ha hs =>
    refine ⟨_, _, rfl, .inl ⟨SqL.of (R1.sub _ _ ha), Pg.ok h1 R1 ⟨fun H2 => SqL G.K H2 _ _, fun H2 s2 => SqL.of (s2 _ _ ha), ?_⟩⟩⟩
    rw [← hs.len]
    refine walk_list.mono (fun _ h => h) fun i H3 x H4 hi _ y => ?_
    obtain ⟨e1, e2⟩ := y
    obtain ⟨d', k1, k2⟩ := hs.getV e2
    exact ⟨d', k1, .inl ⟨e1, k2⟩⟩
  | tup ha hs =>
    refine ⟨_, _, rfl, .inr ⟨SqT_same R1.sub ha, Pg.ok h1 R1 ⟨fun H2 => SqT G.K H2 _ _, fun H2 s2 => SqT_same s2 ha, ?_⟩⟩⟩
    rw [← hs.len]
    refine walk_tup.mono (fun _ h => h) fun i H3 x H4 hi _ y => ?_
    obtain ⟨e1, e2⟩ := y
    obtain ⟨d', k1, k2⟩ := hs.getV e2
    exact ⟨d', k1, .inl ⟨e1, k2⟩⟩
  | _ => exact h1.elim
theorem rngD_get (lo : Int) (n i : Nat) (h : i < n) : (rngD lo n)[i]? = some (.int (lo + (i : Int))) := by
  unfold rngD; rw [List.getElem?_map, List.getElem?_range h]; rfl
theorem rng_walk {p : Option Addr} {lo : Int} {n : Nat} : DWalk G p B (Itr lo n) (rngD lo n) := by
  refine ⟨fun _ => True, fun _ _ => True.intro, ?_⟩
  have el : (rngD lo n).length = n := by unfold rngD; simp
  rw [el]
  refine walk_range.mono (fun _ h => h) fun i H3 x H4 hi _ y => ?_
  obtain ⟨e1, e2⟩ := y
  exact ⟨_, rngD_get lo n i hi, .inl ⟨e1, e2 ▸ .int _⟩⟩
theorem di_rng1 (h : PI X tg e (iRng1 (tDs G true O E Fs))) : PI X tg e (tI G O E (rng1F Fs)) := by
  refine h.mono fun σ H R' ⟨φ, B, ρ, S, R, hp⟩ => ⟨φ, B, ρ, S, R, ?_⟩
  refine Pg.bind hp fun d S1 w B1 H1 g1 R1 hw h1 => ?_
  split at h1
  · split at h1
    · rename_i j hj
      unfold okR at hj; simp only [Bool.and_eq_true, decide_eq_true_eq] at hj
      cases hw with | cons k1 k2 =>
      cases k2; cases k1
      exact ⟨j, rfl, by omega, by omega, Pg.ok h1 R1 rng_walk⟩
    · exact h1.elim
  · exact h1.elim
theorem di_str (h : PE X e (tD G true O E F)) : PI X tg e (tI G O E (strF F)) := by
  refine (pi_str h).mono fun σ H R' ⟨φ, B, ρ, S, R, hp⟩ => ⟨φ, B, ρ, S, R, ?_⟩
  refine Pg.bind hp fun d S1 w B1 H1 g1 R1 hw h1 => ?_
  cases hw with
  | str z =>
    refine ⟨z, rfl, Pg.ok h1 R1 ⟨fun _ => True, fun _ _ => True.intro, ?_⟩⟩
    have el : (signsD z).length = z.cps.size := by unfold signsD; simp
    rw [el]
    refine walk_str.mono (fun _ h => h) fun i H3 x H4 hi _ y => ?_
    obtain ⟨e1, c, e2, rfl⟩ := y
    refine ⟨.str ⟨#[c]⟩, ?_, .inl ⟨e1, .str _⟩⟩
    unfold signsD
    rw [List.getElem?_map]
    have : z.cps.toList[i]? = some c := by simpa using e2
    rw [this]; rfl
  | _ => exact h1.elim
/-! pairs -/
def enumD (ds : List D) : List D := (List.range ds.length).zipWith (fun (i : Nat) d => D.tup [.int (i : Int), d]) ds
def zipD (a b : List D) : List D := a.zipWith (fun x y => D.tup [x, y]) b
theorem pair_YD {p : Option Addr} {ds : List D} {i : Nat} {H H' : Hp} {x : V} {d1 d2 : D} {xs ys : Nat → Option V} (hd : ds[i]? = some (.tup [d1, d2])) (hx : ∀ v, xs i = some v → DV G p B v d1) (hy : ∀ v, ys i = some v → DV G p B v d2) (y : YPair xs ys i H x H') : YD G p B ds i H x H' := by
  obtain ⟨T, a, b, rfl, nT, e, h1, h2⟩ := y
  refine ⟨_, hd, .inr ⟨T, _, rfl, nT, e, fun B2 s2 n2 => ?_⟩⟩
  have s3 := s2.trans (same_new (o := .tup [a, b]) n2)
  exact .tup (SqT.of upd_same) (.cons ((hx a h1).same s3) (.cons ((hy b h2).same s3) .nil))
theorem zipD_get {a b : List D} {i : Nat} {x y : D} (h : a[i]? = some x) (h2 : b[i]? = some y) : (zipD a b)[i]? = some (.tup [x, y]) := by
  unfold zipD
  rw [List.getElem?_zipWith, h, h2]
theorem zipD_len (a b : List D) : (zipD a b).length = min a.length b.length := by unfold zipD; simp
def enumF (Fs : Exs) : Exs := fun ρ S => (Fs ρ S).bind fun ds S1 => match ds with
  | [.lst ds] => .ok (enumD ds) S1
  | _ => .bad
def zipF (Fs : Exs) : Exs := fun ρ S => (Fs ρ S).bind fun ds S1 => match ds with
  | [.lst a, .lst b] => .ok (zipD a b) S1
  | _ => .bad
theorem di_zip (h : PI X tg e (iZip X.K (tDs G false O E Fs))) (hK : X.K = G.K := by rfl) : PI X tg e (tI G O E (zipF Fs)) := by
  refine h.mono fun σ H R' ⟨φ, B, ρ, S, R, hp⟩ => ⟨φ, B, ρ, S, R, ?_⟩
  rw [hK]
  refine Pg.bind hp fun d S1 w B1 H1 g1 R1 hw h1 => ?_
  split at h1
  · cases hw with | cons k1 k2 =>
    cases k2 with | cons k2 k3 =>
    cases k3; cases k1 with | lst ha hs => cases k2 with | lst hb ht =>
    have ha : B1 _ = some _ := ha
    have hb : B1 _ = some _ := hb
    have hs : DVs G φ.p B1 _ _ := hs
    have ht : DVs G φ.p B1 _ _ := ht
    refine ⟨_, _, _, _, rfl, SqL.of (R1.sub _ _ ha), SqL.of (R1.sub _ _ hb), Pg.ok h1 R1 ⟨fun H2 => SqL G.K H2 _ _ ∧ SqL G.K H2 _ _, fun H2 s2 => ⟨SqL.of (s2 _ _ ha), SqL.of (s2 _ _ hb)⟩, ?_⟩⟩
    rw [zipD_len]
    refine (walk_zip (by rw [hs.len, ht.len])).mono (fun _ h => h) fun i H3 x H4 hi _ y => ?_
    obtain ⟨d1, hd1⟩ : ∃ d, (_ : List D)[i]? = some d := ⟨_, List.getElem?_eq_getElem (Nat.lt_of_lt_of_le hi (Nat.min_le_left _ _))⟩
    obtain ⟨d2, hd2⟩ : ∃ d, (_ : List D)[i]? = some d := ⟨_, List.getElem?_eq_getElem (Nat.lt_of_lt_of_le hi (Nat.min_le_right _ _))⟩
    refine pair_YD (zipD_get hd1 hd2) (fun v hv => ?_) (fun v hv => ?_) y
    · obtain ⟨d', k1, k2⟩ := hs.getV hv
      rw [hd1] at k1; cases k1; exact k2
    · obtain ⟨d', k1, k2⟩ := ht.getV hv
      rw [hd2] at k1; cases k1; exact k2
  · exact h1.elim
end
end
end NL
/-! ### the data layer: targets, comprehensions -/
namespace NL
noncomputable section
open PySem L2
section
variable {X : Cx} {G : Gm} {m m' : Bool} {O O2 : List Nat} {E : XK} {e tg : Expr} {es : List Expr} {F F1 F2 : Ex} {Fs : Exs}
variable {φ : Fr} {σ σ2 : L2.St} {B H B' H' : Hp} {ρ ρ2 : Env} {S S' : SrcT}
theorem Go.at {a : Addr} {o : HO} (g : Go φ B H B' H') (hv : φ.v = false) (np : φ.p ≠ some a) (h : H a = some o) : H' a = some o := by
  have := g.h hv a o (by rw [hideP_at np]; exact h)
  rw [hideP_at np] at this; exact this
/-- slots at a later place -/
theorem Rep.move (R : Rep G φ O σ B H ρ S) (g : Go φ B H B' H') (R' : Rep G φ O2 σ2 B' H' ρ2 S') : Rep G φ O σ B' H' ρ S' := by
  refine ⟨R'.sub, R'.fr, R'.cl, R'.src, R'.b0, R.len, ?_, ?_, R.dis, R'.al, R'.mem, R.vv, R.nov⟩
  · intro i d hi h
    obtain ⟨v, k1, k2⟩ := R.val i d hi h
    exact ⟨v, k1, k2.same g.b⟩
  · intro i hi
    obtain ⟨a, o, d, k1, k2, k3, k4, k5, k6, k7⟩ := R.own i hi
    have hH' := g.at (R.ownv hi) k6 k3
    refine ⟨a, o, d, k1, k2, hH', ?_, k5, k6, k7.same g.b⟩
    cases h : B' a with
    | none => rfl
    | some x =>
      have hx : x = o := by
        have := R'.sub a x h
        rw [hH'] at this; exact (Option.some.inj this).symm
      rcases g.n a x h (hx ▸ k7.mut) with k | k
      · rw [k4] at k; cases k
      · rw [k3] at k; cases k
/-- what no one shares is changed -/
theorem Rep.poke (R : Rep G φ O σ B H ρ S) {a : Addr} {o : HO} (nB : B a = none) (n0 : φ.H0 a = none) (np : φ.p ≠ some a) (hd : ∀ i, i ∈ O → σ[i]? ≠ some (some (.ref a))) (hm : G.v = true → S.m a = none) : Rep G φ O σ B (upd H a o) ρ S := by
  refine ⟨?_, ?_, R.cl, ?_, R.b0, R.len, R.val, ?_, R.dis, fun c h => R.al c (upd_no h), ?_, R.vv, R.nov⟩
  · intro c x h
    have e : c ≠ a := fun e => by rw [e, nB] at h; cases h
    rw [upd_ne e]; exact R.sub c x h
  · intro c x hp hm h
    have e : c ≠ a := fun e => by rw [e, n0] at h; cases h
    rw [upd_ne e]; exact R.fr c x hp hm h
  · intro q hq
    have e : q ≠ a := fun e => np (e ▸ hq)
    obtain ⟨h1, h2, h3⟩ := R.src q hq
    exact ⟨h1, by rw [upd_ne e]; exact h2, h3⟩
  · intro i hi
    obtain ⟨b, o', d, k1, k2, k3, k4, k5, k6, k7⟩ := R.own i hi
    have e : b ≠ a := fun e => hd i hi (e ▸ k2)
    exact ⟨b, o', d, k1, k2, by rw [upd_ne e]; exact k3, k4, k5, k6, k7⟩
  · intro hv b c hc
    obtain ⟨h1, h2, h3, h4⟩ := R.mem hv b c hc
    have e : b ≠ a := fun e => by rw [e, hm hv] at hc; cases hc
    exact ⟨h1.move (Same.refl _) fun o h => by rw [upd_ne e]; exact h, h2, h3, h4⟩
theorem Rep.set (R : Rep G φ O σ B H ρ S) {i : Nat} {v : V} {d : D} (hi : i ∉ O) (h : DV G φ.p B v d) : Rep G φ O (σ.set i (some v)) B H (ρ.set i (some d)) S := by
  refine ⟨R.sub, R.fr, R.cl, R.src, R.b0, by rw [List.length_set, List.length_set]; exact R.len, ?_, ?_, ?_, R.al, R.mem, R.vv, R.nov⟩
  · intro j d' hj hd
    by_cases e : i = j
    · subst e
      rw [List.getElem?_set] at hd ⊢
      rw [if_pos rfl] at hd ⊢
      split at hd
      · rename_i hl
        rw [if_pos (by rw [R.len]; exact hl)]
        cases hd
        exact ⟨v, rfl, h⟩
      · cases hd
    · rw [List.getElem?_set_ne e] at hd ⊢
      exact R.val j d' hj hd
  · intro j hj
    have e : i ≠ j := fun e => hi (e ▸ hj)
    rw [List.getElem?_set_ne e, List.getElem?_set_ne e]
    exact R.own j hj
  · intro j k hj hk
    have e : i ≠ j := fun e => hi (e ▸ hj)
    have e2 : i ≠ k := fun e => hi (e ▸ hk)
    rw [List.getElem?_set_ne e, List.getElem?_set_ne e2]
    exact R.dis j k hj hk
theorem Rep.unset (R : Rep G φ O σ B H ρ S) {i : Nat} (hi : i ∉ O) : Rep G φ O (σ.set i none) B H (ρ.set i none) S := by
  refine ⟨R.sub, R.fr, R.cl, R.src, R.b0, by rw [List.length_set, List.length_set]; exact R.len, ?_, ?_, ?_, R.al, R.mem, R.vv, R.nov⟩
  · intro j d' hj hd
    by_cases e : i = j
    · subst e
      rw [List.getElem?_set] at hd
      rw [if_pos rfl] at hd
      split at hd
      · cases hd
      · cases hd
    · rw [List.getElem?_set_ne e] at hd ⊢
      exact R.val j d' hj hd
  · intro j hj
    have e : i ≠ j := fun e => hi (e ▸ hj)
    rw [List.getElem?_set_ne e, List.getElem?_set_ne e]
    exact R.own j hj
  · intro j k hj hk
    have e : i ≠ j := fun e => hi (e ▸ hj)
    have e2 : i ≠ k := fun e => hi (e ▸ hk)
    rw [List.getElem?_set_ne e, List.getElem?_set_ne e2]
    exact R.dis j k hj hk
def wipeE (ρ : Env) : List Nat → Env
  | [] => ρ
  | v :: vs => (wipeE ρ vs).set v none
theorem Rep.wipe (R : Rep G φ O σ B H ρ S) : ∀ {vs : List Nat}, (∀ i, i ∈ vs → i ∉ O) → Rep G φ O (L2.wipe σ vs) B H (wipeE ρ vs) S
  | [], _ => R
  | v :: vs, h => (Rep.wipe R fun i hi => h i (List.mem_cons_of_mem _ hi)).unset (h v List.mem_cons_self)
theorem wipe_get (σ : L2.St) : ∀ (vs : List Nat) (k : Nat), (L2.wipe σ vs)[k]? = if k ∈ vs then (if k < σ.length then some none else none) else σ[k]?
  | [], k => by simp [L2.wipe]
  | v :: vs, k => by
    show ((L2.wipe σ vs).set v none)[k]? = _
    rw [List.getElem?_set]
    by_cases e : v = k
    · subst e
      rw [if_pos rfl, wipe_length, if_pos List.mem_cons_self]
    · rw [if_neg e, wipe_get σ vs k]
      have e2 : ¬ k = v := fun q => e q.symm
      simp [e2]
/-! targets -/
/-- the slots is may be other -/
def Frm (is : List Nat) (σ σ' : L2.St) : Prop := σ'.length = σ.length ∧ ∀ k, k ∉ is → σ'[k]? = σ[k]?
theorem Frm.wipe {is vs : List Nat} (h : Frm is (L2.wipe σ vs) σ2) (hs : ∀ k, k ∈ is → k ∈ vs) : L2.wipe σ2 vs = L2.wipe σ vs := by
  apply List.ext_getElem?
  intro k
  have hl : σ2.length = σ.length := by rw [h.1, wipe_length]
  rw [wipe_get, wipe_get, hl]
  split
  · rfl
  · rename_i hk
    rw [h.2 k (fun q => hk (hs k q)), wipe_get, if_neg hk]
abbrev Tgt := D → Env → Option Env
abbrev Tgts := List D → Env → Option Env
def tTg (G : Gm) (O is : List Nat) (g : Tgt) : TG := fun v σ H Q => ∃ φ B ρ S d ρ', Rep G φ O σ B H ρ S ∧ DV G φ.p B v d ∧ g d ρ = some ρ' ∧ ∀ σ', Rep G φ O σ' B H ρ' S → Frm is σ σ' → Q σ' H
def tTgs (G : Gm) (O is : List Nat) (g : Tgts) : TGs := fun vs σ H Q => ∃ φ B ρ S ds ρ', Rep G φ O σ B H ρ S ∧ DVs G φ.p B vs ds ∧ g ds ρ = some ρ' ∧ ∀ σ', Rep G φ O σ' B H ρ' S → Frm is σ σ' → Q σ' H
def gN (i : Nat) : Tgt := fun d ρ => some (ρ.set i (some d))
def gsNil : Tgts := fun ds ρ => match ds with
  | [] => some ρ
  | _ => none
def gsCons (g : Tgt) (gs : Tgts) : Tgts := fun ds ρ => match ds with
  | d :: ds => (g d ρ).bind fun ρ1 => gs ds ρ1
  | [] => none
def gT (n : Nat) (gs : Tgts) : Tgt := fun d ρ => match seqD d with
  | some ds => if ds.length = n then gs ds ρ else none
  | none => none
theorem dg_name {i : Nat} (h : PG X tg (gName i)) (hi : i ∉ O) : PG X tg (tTg G O [i] (gN i)) := by
  refine h.mono fun v σ H Q ⟨φ, B, ρ, S, d, ρ', R, hd, hg, q⟩ => ?_
  cases hg
  refine q _ (R.set hi hd) ⟨by rw [List.length_set], fun k hk => ?_⟩
  rw [List.getElem?_set_ne]
  intro e; exact hk (e ▸ List.mem_cons_self)
theorem Frm.trans {is js : List Nat} {σ1 σ2 σ3 : L2.St} (h : Frm is σ1 σ2) (h2 : Frm js σ2 σ3) : Frm (is ++ js) σ1 σ3 :=
  ⟨h2.1.trans h.1, fun k hk => by rw [h2.2 k (fun q => hk (List.mem_append_right _ q)), h.2 k (fun q => hk (List.mem_append_left _ q))]⟩
theorem dgs_nil : PGs X [] (tTgs G O [] gsNil) := by
  refine pgs_nil.mono fun vs σ H Q ⟨φ, B, ρ, S, ds, ρ', R, hd, hg, q⟩ => ?_
  unfold gsNil at hg
  split at hg
  · cases hg; cases hd; exact ⟨rfl, q _ R ⟨rfl, fun _ _ => rfl⟩⟩
  · cases hg
theorem dgs_cons {is js : List Nat} {g : Tgt} {gs : Tgts} (h1 : PG X e (tTg G O is g)) (h2 : PGs X es (tTgs G O js gs)) (hs : (assignEach (e :: es) X.env).map (·.2) = assign e X.env :: (assignEach es X.env).map (·.2) := by rfl) : PGs X (e :: es) (tTgs G O (is ++ js) (gsCons g gs)) := by
  refine (pgs_cons h1 h2 hs).mono fun vs σ H Q ⟨φ, B, ρ, S, ds, ρ', R, hd, hg, q⟩ => ?_
  unfold gsCons at hg
  split at hg
  · cases hd with | cons k1 k2 =>
    cases hg1 : g _ ρ with
    | none => rw [hg1] at hg; cases hg
    | some ρ1 =>
      rw [hg1] at hg
      refine ⟨_, _, rfl, φ, B, ρ, S, _, ρ1, R, k1, hg1, fun σ1 R1 f1 => ?_⟩
      exact ⟨φ, B, ρ1, S, _, ρ', R1, k2, hg, fun σ2 R2 f2 => q σ2 R2 (f1.trans f2)⟩
  · cases hg
theorem dg_tup {k n : Nat} {is : List Nat} {gs : Tgts} {pos : Pos} (hc : X.calm = true) (h : PGs X es (tTgs G O is gs)) (hn : (assignEach es X.env).length = n := by rfl) (hst : (assignEach es X.env).findIdx? (·.1) = none := by rfl) (hK : X.K = G.K := by rfl) : PG X (.Tuple es k pos) (tTg G O is (gT n gs)) := by
  refine (pg_seq hc h hn hst).mono fun v σ H Q ⟨φ, B, ρ, S, d, ρ', R, hd, hg, q⟩ => ?_
  rw [hK]
  unfold gT at hg
  split at hg
  · rename_i ds hds
    split at hg
    · rename_i hl
      obtain ⟨a, xs, rfl, hq, hs⟩ := sq_of hds hd
      refine ⟨a, xs, rfl, ?_, by rw [hs.len]; exact hl, φ, B, ρ, S, ds, ρ', R, hs, hg, q⟩
      rcases hq with hq | hq
      · exact .inl (R.sub.seq hq)
      · exact .inr (SqT_same R.sub hq)
    · cases hg
  · cases hg
/-! comprehensions -/
def yesT : Tst := fun _ S => .ok true S
theorem dts_nil : PTs X [] (tBt G O E yesT) := pts_nil.mono fun σ H Q ⟨φ, B, ρ, S, R, hp⟩ => Pg.ok hp R rfl
def lcGo (g : Tgt) (c : Tst) (Fe : Ex) (ρ : Env) : List D → SrcT → Rs (List D)
  | [], S => .ok [] S
  | d :: ds, S => match g d ρ with
    | none => .bad
    | some ρ' => (c ρ' S).bind fun b S1 => if b = true then (Fe ρ' S1).bind fun y S2 => (lcGo g c Fe ρ ds S2).bind fun ys S3 => .ok (y :: ys) S3 else lcGo g c Fe ρ ds S1
def lcF (is : List Nat) (FI : Exs) (g : Tgt) (c : Tst) (Fe : Ex) : Ex := fun ρ S => (FI ρ S).bind fun ds S1 => if ds.length ≤ 100000 then (lcGo g c Fe (wipeE ρ is) ds S1).bind fun ys S2 => .ok (.lst ys) S2 else .bad
theorem Rs.bind_assoc {α β γ : Type} (r : Rs α) (f : α → SrcT → Rs β) (g : β → SrcT → Rs γ) : (r.bind f).bind g = r.bind fun a S => (f a S).bind g := by
  induction r with
  | all p k ih => show Rs.all p _ = Rs.all p _; congr 1; funext x; exact ih x
  | _ => rfl
/-- the turn's item is put among what is shared -/
theorem yield_rep (R : Rep G φ O σ B H ρ S) {B1 : Hp} (hs : Same B1 B) {ds : List D} {i : Nat} {x : V} {H' : Hp} (y : YD G φ.p B1 ds i H x H') : ∃ d B', ds[i]? = some d ∧ Rep G φ O σ B' H' ρ S ∧ Go φ B H B' H' ∧ DV G φ.p B' x d := by
  obtain ⟨d, hd, h | ⟨T, o, rfl, nT, rfl, h⟩⟩ := y
  · obtain ⟨rfl, h⟩ := h
    exact ⟨d, B, hd, R, Go.refl, h.same hs⟩
  · obtain ⟨R', g, np⟩ := R.new (o := o) nT
    have nB : B T = none := by
      cases k : B T with
      | none => rfl
      | some x => rw [R.sub _ _ k] at nT; cases nT
    exact ⟨d, _, hd, R', g, h B hs nB⟩
theorem lc_imp {is js : List Nat} {FI : Exs} {g : Tgt} {c : Tst} {Fe : Ex} (hO : ∀ i, i ∈ is → i ∉ O) (hj : ∀ i, i ∈ js → i ∈ is) (σ : L2.St) (H : Hp) (Q : VK) (h : tN G m O E (lcF is FI g c Fe) σ H Q) (hv0 : G.v = false := by rfl) : tLc (tI G O E FI) (tTg G O js g) (tBt G O E c) (tD G false O E Fe) is σ H Q := by
  obtain ⟨φ, B, ρ, S, R, hp⟩ := h
  refine ⟨φ, B, ρ, S, R, ?_⟩
  refine PgN.bind hp fun ds S1 J B1 H1 g1 R1 hJ h1 => fun A nA => ?_
  split at h1
  case isFalse => exact h1.elim
  rename_i hdl
  have hJ : DWalk G φ.p B1 J ds := hJ
  obtain ⟨Gd, hGd, W⟩ := hJ
  have npA : φ.p ≠ some A := fun e => by have := (R1.src A e).2.1; rw [nA] at this; cases this
  have n0A : φ.H0 A = none := R1.al A nA
  have hv1 : φ.v = false := R1.vv.1.trans hv0
  have Rw := R1.wipe (vs := is) hO
  have disA : ∀ i, i ∈ O → σ[i]? ≠ some (some (.ref A)) := fun i hi hk => by
    obtain ⟨b, o', d', k1, k2, k3, _⟩ := R1.own i hi
    rw [k2] at hk
    have e : b = A := by injection hk with hk; injection hk with hk; injection hk
    rw [e, nA] at k3; cases k3
  have disW : ∀ i, i ∈ O → (L2.wipe σ is)[i]? ≠ some (some (.ref A)) := fun i hi hk => by
    obtain ⟨b, o', d', k1, k2, k3, _⟩ := Rw.own i hi
    rw [k2] at hk
    have e : b = A := by injection hk with hk; injection hk with hk; injection hk
    rw [e, nA] at k3; cases k3
  refine lc_it W (fun i H' => ∃ Bi Si acc vs, Rep G φ O (L2.wipe σ is) Bi H' (wipeE ρ is) Si ∧ Go φ B1 H1 Bi H' ∧ H' A = some (.lst vs) ∧ DVs G φ.p Bi vs acc ∧ acc.length ≤ i ∧ Bi A = none ∧ PgN G φ m O E σ ρ B1 H1 ((lcGo g c Fe (wipeE ρ is) (ds.drop i) Si).bind fun ys S => .ok (.lst (acc ++ ys)) S) Q) ?_ ?_ ?_ ?_
  · obtain ⟨Rn, gn, nB, _, _⟩ := Rw.newN (o := .lst []) nA
    exact ⟨B1, S1, [], [], Rn, gn, upd_same, .nil, Nat.le_refl _, nB, h1⟩
  · rintro i H' hi ⟨Bi, Si, acc, vs, Ri, gi, _⟩
    exact hGd H' (gi.b.trans Ri.sub)
  · rintro i x H2 H3 hi ⟨Bi, Si, acc, vs, Ri, gi, hA, hvs, hl, nBA, hp'⟩ y
    obtain ⟨d, B2, hd, R2, g2, dv⟩ := yield_rep Ri gi.b y
    have hdrop : ds.drop i = d :: ds.drop (i + 1) := by
      have hi' := (List.getElem?_eq_some_iff.mp hd)
      rw [List.drop_eq_getElem_cons hi'.1, hi'.2]
    rw [hdrop] at hp'
    rw [lcGo] at hp'
    have hp2 := hp'
    cases hg : g d (wipeE ρ is) with
    | none => rw [hg] at hp2; exact hp2.elim
    | some ρ' =>
      rw [hg] at hp2
      refine ⟨φ, B2, wipeE ρ is, Si, d, ρ', R2, dv, hg, fun σ' R' fr => ⟨fr.wipe hj, φ, B2, ρ', Si, R', ?_⟩⟩
      dsimp only at hp2
      rw [Rs.bind_assoc] at hp2
      have keepA : ∀ {Bx Hx By Hy : Hp} {Sy : SrcT} {Oy : List Nat} {σy : L2.St} {ρy : Env}, Go φ Bx Hx By Hy → Rep G φ Oy σy By Hy ρy Sy → ∀ {us : List V}, Hx A = some (.lst us) → Bx A = none → Hy A = some (.lst us) ∧ By A = none := fun {Bx Hx By Hy Sy Oy σy ρy} gx Ry {us} hx nx => by
        have h1 := gx.at hv1 npA hx
        refine ⟨h1, ?_⟩
        cases k : By A with
        | none => rfl
        | some z =>
          have hz := Ry.sub A z k
          rw [h1] at hz
          cases hz
          rcases gx.n A _ k True.intro with q | q
          · rw [nx] at q; cases q
          · rw [hx] at q; cases q
      obtain ⟨hA2, nA2⟩ := keepA g2 R2 hA nBA
      have hvs2 := hvs.same g2.b
      have g12 := gi.trans g2
      generalize c ρ' Si = rc at hp2
      induction rc with
      | bad => exact hp2.elim
      | exc cc dd SS => exact XP.go g12 hp2
      | all p0 k0 ih => exact fun x px => ih x (hp2 x px)
      | ok b S3 =>
        intro bw B3 H4 g3 R3 hbw
        have hbw : bw = b := hbw
        subst hbw
        obtain ⟨hA3, nA3⟩ := keepA g3 R3 hA2 nA2
        have hp3 := hp2
        have Rw3 : Rep G φ O (L2.wipe σ is) B3 H4 (wipeE ρ is) S3 := Rw.move (g12.trans g3) R3
        cases bw with
        | false =>
          rw [if_neg (by decide)]
          exact ⟨B3, S3, acc, vs, Rw3, g12.trans g3, hA3, hvs2.same g3.b, by omega, nA3, hp3⟩
        | true =>
          rw [if_pos rfl]
          simp only [Rs.bind, if_true] at hp3
          refine ⟨φ, B3, ρ', S3, R3, ?_⟩
          generalize Fe ρ' S3 = rf at hp3
          induction rf with
          | bad => exact hp3.elim
          | exc cc dd SS => exact XP.go (g12.trans g3) hp3
          | all p0 k0 ih => exact fun x px => ih x (hp3 x px)
          | ok yd S4 =>
            intro yv B4 H5 g4 R4 hyv
            have hyv : DV G φ.p B4 yv yd := hyv
            obtain ⟨hA4, nA4⟩ := keepA g4 R4 hA3 nA3
            have hp4 := hp3
            have hvs4 := (hvs2.same g3.b).same g4.b
            refine ⟨vs, hA4, sz100k_lt (by rw [hvs4.len]; omega), ?_⟩
            have Rw4 : Rep G φ O (L2.wipe σ is) B4 H5 (wipeE ρ is) S4 := Rw.move ((g12.trans g3).trans g4) R4
            have gA := (g12.trans g3).trans g4
            have g5 : Go φ B1 H1 B4 (upd H5 A (.lst (vs ++ [yv]))) := by
              refine ⟨gA.b, fun hv q z hz => ?_, gA.n, fun q hq => gA.d q (upd_no hq)⟩
              have hz2 := gA.h hv q z hz
              have e : q ≠ A := fun e => by rw [e, hideP_at npA, nA] at hz; cases hz
              unfold hideP at hz2 ⊢
              rw [upd_ne e]; exact hz2
            refine ⟨B4, S4, acc ++ [yd], vs ++ [yv], Rw4.poke nA4 n0A npA disW (fun hv => by rw [hv0] at hv; cases hv), g5, upd_same, hvs4.append (.cons hyv .nil), by rw [List.length_append]; simp; omega, nA4, ?_⟩
            have e5 : ((lcGo g c Fe (wipeE ρ is) (ds.drop (i + 1)) S4).bind fun ys S => Rs.ok (D.lst (acc ++ [yd] ++ ys)) S) = ((lcGo g c Fe (wipeE ρ is) (ds.drop (i + 1)) S4).bind fun ys S3 => Rs.ok (yd :: ys) S3).bind (fun ys S => Rs.ok (D.lst (acc ++ ys)) S) := by
              rw [Rs.bind_assoc]; congr 1; funext ys S; simp [Rs.bind]
            rw [e5]; exact hp4
  · rintro H' ⟨Bi, Si, acc, vs, Ri, gi, hA, hvs, hl, nBA, hp'⟩
    rw [List.drop_length] at hp'
    have hp' : PgN G φ m O E σ ρ B1 H1 (.ok (.lst (acc ++ [])) Si) Q := hp'
    rw [List.append_nil] at hp'
    exact hp' A _ Bi H' gi (R1.move gi Ri) ⟨hA, nBA, n0A, npA, disA, DVs.same (Ri.bbs m) hvs, fun hv => by rw [hv0] at hv; cases hv⟩ nA
theorem de_lcN {is js : List Nat} {FI : Exs} {g : Tgt} {c : Tst} {Fe : Ex} (hO : ∀ i, i ∈ is → i ∉ O) (hj : ∀ i, i ∈ js → i ∈ is) (h : PE X e (tLc (tI G O E FI) (tTg G O js g) (tBt G O E c) (tD G false O E Fe) is)) (hv0 : G.v = false := by rfl) : PE X e (tN G m O E (lcF is FI g c Fe)) := h.mono fun σ H Q hw => lc_imp hO hj σ H Q hw hv0
end
end
end NL
/-! ### the data layer: statements, defs -/
namespace NL
noncomputable section
open PySem L2
inductive Fl where
  | nx
  | brk
  | cont
  | ret (d : D)
abbrev Sx := Env → SrcT → Rs (Fl × Env)
def XS (G : Gm) (φ : Fr) (E : XK) (B : Hp) (c : Nat) (d : Option D) (S : SrcT) : Prop := ∀ B' H' cv od, Same B B' → Rep G φ [] [] B' H' [] S → ExnAt G φ.p B' H' c d cv od → E cv od H'
def PostS (G : Gm) (φ : Fr) (O' Ol : List Nat) (E : XK) (D : Ends) (B : Hp) (r : Rs (Fl × Env)) : Prop := match r with
  | .bad => False
  | .exc c d S => XS G φ E B c d S
  | .ok (.nx, ρ') S => ∀ σ' B' H', Same B B' → Rep G φ O' σ' B' H' ρ' S → D.nx σ' H'
  | .ok (.brk, ρ') S => ∀ σ' B' H', Same B B' → Rep G φ Ol σ' B' H' ρ' S → D.bk σ' H'
  | .ok (.cont, ρ') S => ∀ σ' B' H', Same B B' → Rep G φ Ol σ' B' H' ρ' S → D.ct σ' H'
  | .ok (.ret d, _) S => ∀ v B' H', Same B B' → Rep G φ [] [] B' H' [] S → DV G φ.p B' v d → D.rt v H'
  | .all p k => ∀ x, p x → PostS G φ O' Ol E D B (k x)
def tS (G : Gm) (O O' Ol : List Nat) (E : XK) (F : Sx) : TS := fun D σ H => ∃ φ B ρ S, Rep G φ O σ B H ρ S ∧ PostS G φ O' Ol E D B (F ρ S)
section
variable {X : Cx} {G : Gm} {m m' : Bool} {O O1 O2 O' Ol : List Nat} {E : XK} {e tg : Expr} {es : List Expr} {F F1 F2 : Ex} {Fs : Exs}
variable {φ : Fr} {σ σ2 : L2.St} {B H B' H' : Hp} {ρ ρ2 : Env} {S S' : SrcT} {st : Stmt} {sts rest : List Stmt} {A A1 A2 : Sx}
theorem PostS.same {D : Ends} {r : Rs (Fl × Env)} (s : Same B B') (h : PostS G φ O' Ol E D B r) : PostS G φ O' Ol E D B' r := by
  induction r with
  | bad => exact h
  | exc c d S => exact fun B2 H2 cv od s2 => h B2 H2 cv od (s.trans s2)
  | ok q S =>
    match q, h with
    | (.nx, ρ'), h => exact fun σ' B2 H2 s2 => h σ' B2 H2 (s.trans s2)
    | (.brk, ρ'), h => exact fun σ' B2 H2 s2 => h σ' B2 H2 (s.trans s2)
    | (.cont, ρ'), h => exact fun σ' B2 H2 s2 => h σ' B2 H2 (s.trans s2)
    | (.ret d, ρ'), h => exact fun v B2 H2 s2 => h v B2 H2 (s.trans s2)
  | all p k ih => exact fun x px => ih x (h x px)
/-- an expression ahead of a statement's end -/
theorem PostS.bind {ω β : Type} {rel : Rel ω β} {D : Ends} {r : Rs β} {k : β → SrcT → Rs (Fl × Env)} {Q : ω → Hp → Prop} (h : PostS G φ O' Ol E D B (r.bind k))
    (hk : ∀ d S w B1 H1, Go φ B H B1 H1 → Rep G φ O σ B1 H1 ρ S → rel φ.p (bs m φ B1 H1) w d → PostS G φ O' Ol E D B1 (k d S) → Q w H1) : Pg G φ m O E σ ρ rel B H r Q := by
  induction r with
  | bad => exact h
  | exc c d S => exact fun B2 H2 cv od g => h B2 H2 cv od g.b
  | ok a S => exact fun w B1 H1 g R hw => hk a S w B1 H1 g R hw (PostS.same g.b h)
  | all p f ih => exact fun x px => ih x (h x px)
theorem PostS.bindN {D : Ends} {r : Rs NL.D} {k : NL.D → SrcT → Rs (Fl × Env)} {Q : VK} (h : PostS G φ O' Ol E D B (r.bind k))
    (hk : ∀ d S a o B1 H1, Go φ B H B1 H1 → Rep G φ O σ B1 H1 ρ S → New G φ O σ m B1 H1 S a o d → PostS G φ O' Ol E D B1 (k d S) → Q (.ref a) H1) : PgN G φ m O E σ ρ B H r Q := by
  induction r with
  | bad => exact h
  | exc c d S => exact fun B2 H2 cv od g => h B2 H2 cv od g.b
  | ok d S => exact fun a o B1 H1 g R n _ => hk d S a o B1 H1 g R n (PostS.same g.b h)
  | all p f ih => exact fun x px => ih x (h x px)
/-- a block ahead of a block's end -/
theorem PostS.seq {β : Type} {D D' : Ends} {O1 Ol1 : List Nat} {r : Rs (Fl × Env)} {k : Fl × Env → SrcT → Rs (Fl × Env)} (h : PostS G φ O' Ol E D B (r.bind k))
    (hn : ∀ ρ' S σ' B' H', Same B B' → Rep G φ O1 σ' B' H' ρ' S → PostS G φ O' Ol E D B' (k (.nx, ρ') S) → D'.nx σ' H')
    (hb : ∀ ρ' S σ' B' H', Same B B' → Rep G φ Ol1 σ' B' H' ρ' S → PostS G φ O' Ol E D B' (k (.brk, ρ') S) → D'.bk σ' H')
    (hc : ∀ ρ' S σ' B' H', Same B B' → Rep G φ Ol1 σ' B' H' ρ' S → PostS G φ O' Ol E D B' (k (.cont, ρ') S) → D'.ct σ' H')
    (hr : ∀ ρ' d S v B' H', Same B B' → Rep G φ [] [] B' H' [] S → DV G φ.p B' v d → PostS G φ O' Ol E D B' (k (.ret d, ρ') S) → D'.rt v H') : PostS G φ O1 Ol1 E D' B r := by
  induction r with
  | bad => exact h
  | exc c d S => exact h
  | ok q S =>
    match q, h with
    | (.nx, ρ'), h => exact fun σ' B' H' s R => hn ρ' S σ' B' H' s R (PostS.same s h)
    | (.brk, ρ'), h => exact fun σ' B' H' s R => hb ρ' S σ' B' H' s R (PostS.same s h)
    | (.cont, ρ'), h => exact fun σ' B' H' s R => hc ρ' S σ' B' H' s R (PostS.same s h)
    | (.ret d, ρ'), h => exact fun v B' H' s R hv => hr ρ' d S v B' H' s R hv (PostS.same s h)
  | all p f ih => exact fun x px => ih x (h x px)
def nilS : Sx := fun ρ S => .ok (.nx, ρ) S
def brkS : Sx := fun ρ S => .ok (.brk, ρ) S
def contS : Sx := fun ρ S => .ok (.cont, ρ) S
def seqS (A1 A2 : Sx) : Sx := fun ρ S => (A1 ρ S).bind fun r S1 => match r with
  | (.nx, ρ1) => A2 ρ1 S1
  | r => .ok r S1
theorem ds_nil : PSs X [] (tS G O O Ol E nilS) := pss_nil.mono fun D σ H ⟨φ, B, ρ, S, R, hp⟩ => hp σ B H (Same.refl _) R
theorem ds_one (h : PS X st (tS G O O' Ol E A)) : PSs X [st] (tS G O O' Ol E A) := pss_one h
theorem ds_cons (h1 : PS X st (tS G O O1 Ol E A1)) (h2 : PSs X rest (tS G O1 O' Ol E A2)) : PSs X (st :: rest) (tS G O O' Ol E (seqS A1 A2)) := by
  refine (pss_cons h1 h2).mono fun D σ H ⟨φ, B, ρ, S, R, hp⟩ => ⟨φ, B, ρ, S, R, ?_⟩
  unfold seqS at hp
  exact PostS.seq (β := Unit) hp (fun ρ' S σ' B' H' s R' h => ⟨φ, B', ρ', S, R', h⟩) (fun ρ' S σ' B' H' s R' h => h σ' B' H' (Same.refl _) R') (fun ρ' S σ' B' H' s R' h => h σ' B' H' (Same.refl _) R') (fun ρ' d S v B' H' s R' hv h => h v B' H' (Same.refl _) R' hv)
def retS (F : Ex) : Sx := fun ρ S => (F ρ S).bind fun d S1 => .ok (.ret d, ρ) S1
theorem ds_ret {pos : Pos} (h : PE X e (tD G false O E F)) : PS X (.Return (some e) pos) (tS G O O' Ol E (retS F)) := by
  refine (ps_ret h).mono fun D σ H ⟨φ, B, ρ, S, R, hp⟩ => ⟨φ, B, ρ, S, R, ?_⟩
  exact PostS.bind hp fun d S1 w B1 H1 g R1 hw h1 => h1 w B1 H1 (Same.refl _) R1.bare hw
def exprS (F : Ex) : Sx := fun ρ S => (F ρ S).bind fun _ S1 => .ok (.nx, ρ) S1
theorem ds_expr (h : PS X st (tDrop (tD G true O E F))) : PS X st (tS G O O Ol E (exprS F)) := by
  refine h.mono fun D σ H ⟨φ, B, ρ, S, R, hp⟩ => ⟨φ, B, ρ, S, R, ?_⟩
  exact PostS.bind hp fun d S1 w B1 H1 g R1 hw h1 => h1 σ B1 H1 (Same.refl _) R1
/-! owned slots -/
def offO (O : List Nat) (i : Nat) : List Nat := O.filter fun j => j != i
theorem mem_off {i j : Nat} : j ∈ offO O i ↔ j ∈ O ∧ j ≠ i := by unfold offO; simp
theorem Rep.drop1 (R : Rep G φ O σ B H ρ S) (i : Nat) : ∃ B', Same B B' ∧ Rep G φ (offO O i) σ B' H ρ S := by
  by_cases hi : i ∈ O
  · obtain ⟨a, o, d, k1, k2, k3, k4, k5, k6, k7⟩ := R.own i hi
    have sB : Same B (upd B a o) := same_new k4
    refine ⟨upd B a o, sB, ⟨?_, R.fr, ?_, ?_, R.b0.trans sB, R.len, ?_, ?_, ?_, R.al, (fun hv => by rw [R.nov i hi] at hv; cases hv), R.vv, fun j hj => R.nov j (mem_off.mp hj).1⟩⟩
    · intro c x h
      by_cases e : c = a
      · subst e; rw [upd_same] at h; rw [← h]; exact k3
      · rw [upd_ne e] at h; exact R.sub c x h
    · intro c x h hm
      by_cases e : c = a
      · subst e; exact .inr k5
      · rw [upd_ne e] at h; exact R.cl c x h hm
    · intro q hq
      have e : q ≠ a := fun e => k6 (e ▸ hq)
      exact ⟨by rw [upd_ne e]; exact (R.src q hq).1, (R.src q hq).2⟩
    · intro j d' hj hd
      by_cases e : j = i
      · subst e
        rw [k1] at hd; cases hd
        exact ⟨.ref a, k2, (k7.same sB).dv upd_same⟩
      · obtain ⟨v, q1, q2⟩ := R.val j d' (fun q => hj (mem_off.mpr ⟨q, e⟩)) hd
        exact ⟨v, q1, q2.same sB⟩
    · intro j hj
      obtain ⟨hj, e⟩ := mem_off.mp hj
      obtain ⟨b, o', d', q1, q2, q3, q4, q5, q6, q7⟩ := R.own j hj
      have e2 : b ≠ a := fun e2 => R.dis j i hj hi e (by rw [q2, k2, e2])
      exact ⟨b, o', d', q1, q2, q3, by rw [upd_ne e2]; exact q4, q5, q6, q7.same sB⟩
    · intro j k hj hk
      exact R.dis j k (mem_off.mp hj).1 (mem_off.mp hk).1
  · refine ⟨B, Same.refl _, ⟨R.sub, R.fr, R.cl, R.src, R.b0, R.len, fun j d hj hd => R.val j d (fun q => hj (mem_off.mpr ⟨q, fun e => hi (e ▸ q)⟩)) hd, fun j hj => R.own j (mem_off.mp hj).1, fun j k hj hk => R.dis j k (mem_off.mp hj).1 (mem_off.mp hk).1, R.al, R.mem, R.vv, fun j hj => R.nov j (mem_off.mp hj).1⟩⟩
/-- from here on slot i's list is shared (it is changed no more) -/
theorem ds_frz (i : Nat) (hO : O2 = offO O i) (h : PSs X sts (tS G O2 O' Ol E A)) : PSs X sts (tS G O O' Ol E A) := by
  subst hO
  refine h.mono fun D σ H ⟨φ, B, ρ, S, R, hp⟩ => ?_
  obtain ⟨B', s, R'⟩ := R.drop1 i
  exact ⟨φ, B', ρ, S, R', hp.same s⟩
def setS (i : Nat) (F : Ex) : Sx := fun ρ S => (F ρ S).bind fun d S1 => .ok (.nx, ρ.set i (some d)) S1
theorem ds_set {i : Nat} (hO : O' = offO O i) (h : PS X st (tAsg (tD G false O E F) (gName i))) : PS X st (tS G O O' Ol E (setS i F)) := by
  subst hO
  refine h.mono fun D σ H ⟨φ, B, ρ, S, R, hp⟩ => ⟨φ, B, ρ, S, R, ?_⟩
  refine PostS.bind hp fun d S1 w B1 H1 g R1 hw h1 => ?_
  obtain ⟨B2, s2, R2⟩ := R1.drop1 i
  have hw : DV G φ.p B1 w d := hw
  exact h1 _ B2 H1 s2 (R2.set (fun q => (mem_off.mp q).2 rfl) (hw.same s2))
theorem Rep.setO (R : Rep G φ O σ B H ρ S) {i : Nat} {a : Addr} {o : HO} {d : NL.D} (hi : i ∉ O) (hl : i < ρ.length) (n : New G φ O σ false B H S a o d) (hv0 : G.v = false) : Rep G φ (i :: O) (σ.set i (some (.ref a))) B H (ρ.set i (some d)) S := by
  refine ⟨R.sub, R.fr, R.cl, R.src, R.b0, by rw [List.length_set, List.length_set]; exact R.len, ?_, ?_, ?_, R.al, R.mem, R.vv, fun _ _ => hv0⟩
  · intro j d' hj hd
    have e : i ≠ j := fun e => hj (e ▸ List.mem_cons_self)
    rw [List.getElem?_set_ne e] at hd ⊢
    exact R.val j d' (fun q => hj (List.mem_cons_of_mem _ q)) hd
  · intro j hj
    by_cases e : i = j
    · subst e
      rw [List.getElem?_set, List.getElem?_set, if_pos rfl, if_pos rfl, if_pos hl, if_pos (by rw [R.len]; exact hl)]
      exact ⟨a, o, d, rfl, rfl, n.at', n.nB, n.n0, n.np, n.dat⟩
    · rw [List.getElem?_set_ne e, List.getElem?_set_ne e]
      rcases List.mem_cons.mp hj with q | q
      · exact absurd q.symm e
      · exact R.own j q
  · intro j k hj hk hjk
    have ha : ∀ x, x ∈ O → i ≠ x → (σ.set i (some (V.ref a)))[i]? ≠ (σ.set i (some (V.ref a)))[x]? := fun x hx e => by
      rw [List.getElem?_set_ne e, List.getElem?_set, if_pos rfl, if_pos (by rw [R.len]; exact hl)]
      exact fun q => n.dis x hx q.symm
    rcases List.mem_cons.mp hj with rfl | hj'
    · rcases List.mem_cons.mp hk with rfl | hk'
      · exact absurd rfl hjk
      · exact ha k hk' hjk
    · rcases List.mem_cons.mp hk with rfl | hk'
      · exact fun q => ha j hj' (Ne.symm hjk) q.symm
      · by_cases e : i = j
        · subst e
          exact ha k hk' hjk
        · by_cases e2 : i = k
          · subst e2; exact fun q => ha j hj' e q.symm
          · rw [List.getElem?_set_ne e, List.getElem?_set_ne e2]; exact R.dis j k hj' hk' hjk
def setN (i : Nat) (F : Ex) : Sx := fun ρ S => (F ρ S).bind fun d S1 => if i < ρ.length then .ok (.nx, ρ.set i (some d)) S1 else .bad
theorem ds_setN {i : Nat} (hi : i ∉ O) (hO : O' = i :: O) (h : PS X st (tAsg (tN G false O E F) (gName i))) (hv0 : G.v = false := by rfl) : PS X st (tS G O O' Ol E (setN i F)) := by
  subst hO
  refine h.mono fun D σ H ⟨φ, B, ρ, S, R, hp⟩ => ⟨φ, B, ρ, S, R, ?_⟩
  refine PostS.bindN hp fun d S1 a o B1 H1 g R1 n h1 => ?_
  split at h1
  · rename_i hl; exact h1 _ B1 H1 (Same.refl _) (R1.setO hi hl n hv0)
  · exact h1.elim
theorem _root_.L2.PS.asg_mono {X : Cx} {st : Stmt} {t t' : TE} {g : TG} (h : PS X st (tAsg t g)) (s : ∀ σ H Q, t' σ H Q → t σ H Q) : PS X st (tAsg t' g) := h.mono fun D σ H hw => s σ H _ hw
def asgS (F : Ex) (g : Tgt) : Sx := fun ρ S => (F ρ S).bind fun d S1 => match g d ρ with
  | some ρ' => .ok (.nx, ρ') S1
  | none => .bad
theorem ds_asg {is : List Nat} {g : Tgt} (h : PS X st (tAsg (tD G false O E F) (tTg G O is g))) : PS X st (tS G O O Ol E (asgS F g)) := by
  refine h.mono fun D σ H ⟨φ, B, ρ, S, R, hp⟩ => ⟨φ, B, ρ, S, R, ?_⟩
  refine PostS.bind hp fun d S1 w B1 H1 g' R1 hw h1 => ?_
  split at h1
  · rename_i ρ' hg
    exact ⟨φ, B1, ρ, S1, d, ρ', R1, hw, hg, fun σ' R' _ => h1 σ' B1 H1 (Same.refl _) R'⟩
  · exact h1.elim
def parS (i j : Nat) (Fs : Exs) : Sx := fun ρ S => (Fs ρ S).bind fun ds S1 => match ds with
  | [a, b] => .ok (.nx, (ρ.set i (some a)).set j (some b)) S1
  | _ => .bad
theorem ds_par {i j : Nat} (hi : i ∉ O) (hj : j ∉ O) (h : PS X st (tPar i j (tDs G false O E Fs))) : PS X st (tS G O O Ol E (parS i j Fs)) := by
  refine h.mono fun D σ H ⟨φ, B, ρ, S, R, hp⟩ => ⟨φ, B, ρ, S, R, ?_⟩
  refine PostS.bind hp fun ds S1 w B1 H1 g' R1 hw h1 => ?_
  split at h1
  · cases hw with | cons k1 k2 =>
    cases k2 with | cons k2 k3 =>
    cases k3
    exact ⟨_, _, rfl, h1 _ B1 H1 (Same.refl _) ((R1.set hi k1).set hj k2)⟩
  · exact h1.elim
def iteS (c : Tst) (A1 A2 : Sx) : Sx := fun ρ S => (c ρ S).bind fun b S1 => if b = true then A1 ρ S1 else A2 ρ S1
theorem ds_if {c : Expr} {a b : List Stmt} {pos : Pos} {c1 : Tst} (hc : PT X c (tBt G O E c1)) (ha : PSs X a (tS G O O' Ol E A1)) (hb : PSs X b (tS G O O' Ol E A2)) : PS X (.If c a b pos) (tS G O O' Ol E (iteS c1 A1 A2)) := by
  refine (ps_if hc ha hb).mono fun D σ H ⟨φ, B, ρ, S, R, hp⟩ => ⟨φ, B, ρ, S, R, ?_⟩
  refine PostS.bind hp fun d S1 w B1 H1 g' R1 hw h1 => ?_
  have hw : w = d := hw
  subst hw
  split at h1
  · rename_i hb; rw [if_pos hb]; exact ⟨φ, B1, ρ, S1, R1, h1⟩
  · rename_i hb; rw [if_neg hb]; exact ⟨φ, B1, ρ, S1, R1, h1⟩
/-! loops -/
def forGo (g : Tgt) (A : Sx) : List NL.D → Env → SrcT → Rs (Fl × Env)
  | [], ρ, S => .ok (.nx, ρ) S
  | d :: ds, ρ, S => match g d ρ with
    | none => .bad
    | some ρ1 => (A ρ1 S).bind fun r S1 => match r with
      | (.nx, ρ2) => forGo g A ds ρ2 S1
      | (.cont, ρ2) => forGo g A ds ρ2 S1
      | (.brk, ρ2) => .ok (.nx, ρ2) S1
      | (.ret d, ρ2) => .ok (.ret d, ρ2) S1
def forS (FI : Exs) (g : Tgt) (A : Sx) : Sx := fun ρ S => (FI ρ S).bind fun ds S1 => forGo g A ds ρ S1
theorem ds_for {is : List Nat} {FI : Exs} {g : Tgt} (h : PS X st (tFor (tI G O E FI) (tTg G O is g) (tS G O O O E A))) : PS X st (tS G O O Ol E (forS FI g A)) := by
  refine h.mono fun D σ H ⟨φ, B, ρ, S, R, hp⟩ => ⟨φ, B, ρ, S, R, ?_⟩
  refine PostS.bind hp fun ds S1 J B1 H1 g1 R1 hJ h1 => ?_
  have hJ : DWalk G φ.p B1 J ds := hJ
  obtain ⟨Gd, hGd, W⟩ := hJ
  refine for_it W (fun i σ H => ∃ Bi ρi Si, Rep G φ O σ Bi H ρi Si ∧ Same B1 Bi ∧ PostS G φ O Ol E D Bi (forGo g A (ds.drop i) ρi Si)) ?_ ?_ ?_ ?_
  · exact ⟨B1, ρ, S1, R1, Same.refl _, h1⟩
  · rintro i σ H' hi ⟨Bi, ρi, Si, Ri, si, _⟩
    exact hGd H' (si.trans Ri.sub)
  · rintro i x σ H2 H3 hi ⟨Bi, ρi, Si, Ri, si, hp'⟩ y
    obtain ⟨d, B2, hd, R2, g2, dv⟩ := yield_rep Ri si y
    have hdrop : ds.drop i = d :: ds.drop (i + 1) := by
      have hi' := (List.getElem?_eq_some_iff.mp hd)
      rw [List.drop_eq_getElem_cons hi'.1, hi'.2]
    rw [hdrop, forGo] at hp'
    have hp2 := PostS.same g2.b hp'
    have s12 := si.trans g2.b
    cases hg : g d ρi with
    | none => rw [hg] at hp2; exact hp2.elim
    | some ρ' =>
      rw [hg] at hp2
      refine ⟨φ, B2, ρi, Si, d, ρ', R2, dv, hg, fun σ' R' fr => ⟨φ, B2, ρ', Si, R', ?_⟩⟩
      dsimp only at hp2
      exact PostS.seq (β := Unit) hp2 (fun ρ1 S1 σ'' B'' H'' s'' R'' h => ⟨B'', ρ1, S1, R'', s12.trans s'', h⟩) (fun ρ1 S1 σ'' B'' H'' s'' R'' h => h σ'' B'' H'' (Same.refl _) R'') (fun ρ1 S1 σ'' B'' H'' s'' R'' h => ⟨B'', ρ1, S1, R'', s12.trans s'', h⟩) (fun ρ1 d S1 v B'' H'' s'' R'' hv h => h v B'' H'' (Same.refl _) R'' hv)
  · rintro σ H' ⟨Bi, ρi, Si, Ri, si, hp'⟩
    rw [List.drop_length] at hp'
    exact hp' σ Bi H' (Same.refl _) Ri
/-! a list of this def's own grows -/
theorem Rep.pokeO (R : Rep G φ O σ B H ρ S) {i : Nat} {a : Addr} {o : HO} {d : NL.D} (hi : i ∈ O) (h2 : σ[i]? = some (some (.ref a))) (hd : DO G φ.p B o d) : Rep G φ O σ B (upd H a o) (ρ.set i (some d)) S := by
  obtain ⟨a', o', d', k1, k2, k3, k4, k5, k6, k7⟩ := R.own i hi
  have ea : a' = a := by rw [h2] at k2; injection k2 with k2; injection k2 with k2; injection k2 with k2; exact k2.symm
  subst ea
  have hl : i < ρ.length := (List.getElem?_eq_some_iff.mp k1).1
  refine ⟨?_, ?_, R.cl, ?_, R.b0, by rw [List.length_set]; exact R.len, ?_, ?_, R.dis, fun c h => R.al c (upd_no h), (fun hv => by rw [R.nov i hi] at hv; cases hv), R.vv, R.nov⟩
  · intro c x h
    have e : c ≠ a' := fun e => by rw [e, k4] at h; cases h
    rw [upd_ne e]; exact R.sub c x h
  · intro c x hp hm h
    have e : c ≠ a' := fun e => by rw [e, k5] at h; cases h
    rw [upd_ne e]; exact R.fr c x hp hm h
  · intro q hq
    have e : q ≠ a' := fun e => k6 (e ▸ hq)
    obtain ⟨h1, h2, h3⟩ := R.src q hq
    exact ⟨h1, by rw [upd_ne e]; exact h2, h3⟩
  · intro j d2 hj hd2
    have e : i ≠ j := fun e => hj (e ▸ hi)
    rw [List.getElem?_set_ne e] at hd2
    exact R.val j d2 hj hd2
  · intro j hj
    by_cases e : i = j
    · subst e
      rw [List.getElem?_set, if_pos rfl, if_pos hl]
      exact ⟨a', o, d, rfl, k2, upd_same, k4, k5, k6, hd⟩
    · rw [List.getElem?_set_ne e]
      obtain ⟨b, o2, d2, q1, q2, q3, q4, q5, q6, q7⟩ := R.own j hj
      have e2 : b ≠ a' := fun e2 => R.dis i j hi hj e (by rw [q2, k2, e2])
      exact ⟨b, o2, d2, q1, q2, by rw [upd_ne e2]; exact q3, q4, q5, q6, q7⟩
def appS (i : Nat) (F : Ex) : Sx := fun ρ S => match ρ[i]? with
  | some (some (.lst ds)) => (F ρ S).bind fun d S1 => if ds.length < 100000 then .ok (.nx, ρ.set i (some (.lst (ds ++ [d])))) S1 else .bad
  | _ => .bad
theorem ds_app {i : Nat} (hi : i ∈ O) (h : PS X st (tDrop (tBM X.K "list" rAppend (tVar i) (tDs G false O E (consF F nilF))))) (hK : X.K = G.K := by rfl) : PS X st (tS G O O Ol E (appS i F)) := by
  refine h.mono fun D σ H ⟨φ, B, ρ, S, R, hp⟩ => ?_
  obtain ⟨a, o, d0, k1, k2, k3, k4, k5, k6, k7⟩ := R.own i hi
  -- what stands there is a list, or nothing is promised
  by_cases hd : ∃ ds0, d0 = NL.D.lst ds0
  · obtain ⟨ds0, rfl⟩ := hd
    have ho : ∃ us, o = .lst us ∧ DVs G φ.p B us ds0 := by
      unfold DO at k7
      split at k7
      · rename_i us ds1 he; cases he; exact ⟨us, rfl, k7⟩
      · rename_i he; cases he
      · rename_i he; cases he
      · exact k7.elim
    obtain ⟨us, rfl, hu⟩ := ho
    refine ⟨.ref a, k2, .inl ⟨rfl, us, SqL.of k3⟩, φ, B, ρ, S, R, ?_⟩
    have hp : PostS G φ O Ol E D B (((consF F nilF) ρ S).bind fun ds S1 => match ds with
      | [d] => if ds0.length < 100000 then .ok (.nx, ρ.set i (some (.lst (ds0 ++ [d])))) S1 else .bad
      | _ => .bad) := by
      unfold appS at hp
      unfold consF nilF
      rw [k1] at hp
      rw [Rs.bind_assoc]
      exact hp
    refine PostS.bind hp fun ds S1 w B1 H1 g R1 hw h1 => ?_
    split at h1
    · split at h1
      · rename_i hlen
        cases hw with | cons q1 q2 =>
        cases q2
        have q1 : DV G φ.p B1 _ _ := q1
        have hH1 := g.at (R.ownv hi) k6 k3
        refine ⟨a, us, _, rfl, rfl, hH1, sz100k_lt (by rw [hu.len]; exact hlen), ?_⟩
        exact h1 σ B1 _ (Same.refl _) (R1.pokeO hi k2 ((hu.same g.b).append (.cons q1 .nil)))
      · exact h1.elim
    · exact h1.elim
  · exfalso
    unfold appS at hp
    rw [k1] at hp
    cases d0 with
    | lst ds => exact hd ⟨ds, rfl⟩
    | _ => exact hp
/-! defs -/
def fnF (n N : Nat) (A : Sx) : List NL.D → SrcT → Rs NL.D := fun ds S => if ds.length = n then (A (ds.map some ++ List.replicate (N - n) none) S).bind fun r S1 => match r with
  | (.ret d, _) => .ok d S1
  | (.nx, _) => .ok .non S1
  | _ => .bad
  else .bad
theorem fn_len {n N : Nat} {vs : List V} {Q : VK} (h : spD G (fnF n N A) vs H Q E) : vs.length = n := by
  obtain ⟨p, B, ds, S, h1, h2, h3, h4⟩ := h
  rw [h3.len]
  unfold fnF at h4
  by_cases hn : ds.length = n
  · exact hn
  · rw [if_neg hn] at h4; exact h4.elim
theorem fn_read {n : Nat} {Ns : List Str} {vs : List V} {Q : VK} (h : spD G (fnF n Ns.length A) vs H Q E) (hv0 : G.v = false := by rfl) (hfx : G.fx = none := by rfl) : tS G [] O' Ol E A { nx := fun _ H' => Q .non H', rt := Q } (L2.start Ns vs) H := by
  have hlen := fn_len h
  obtain ⟨p, B, ds, S, h1, h2, h3, h4⟩ := h
  have hl : ds.length = n := by rw [← h3.len]; exact hlen
  unfold fnF at h4
  rw [if_pos hl] at h4
  refine ⟨{ p := p, B0 := B, H0 := H }, B, ds.map some ++ List.replicate (Ns.length - n) none, S, ⟨h1, fun a o _ _ h => h, fun a o h _ => .inl h, h2, Same.refl _, ?_, ?_, fun i hi => (nomatch hi), fun i j hi => (nomatch hi), fun a h => h, (fun hv => by rw [hv0] at hv; cases hv), ⟨hv0.symm, fun _ f hf => by rw [hfx] at hf; cases hf⟩, fun i hi => (nomatch hi)⟩, ?_⟩
  · unfold L2.start; simp [h3.len, hl]
  · intro i d _ hd
    unfold L2.start
    rw [hlen]
    by_cases hi : i < ds.length
    · rw [List.getElem?_append_left (by simpa using hi), List.getElem?_map] at hd
      obtain ⟨d', hd', hd''⟩ := Option.map_eq_some_iff.mp hd
      cases hd''
      obtain ⟨v, k1, k2⟩ := h3.get hd'
      refine ⟨v, ?_, k2⟩
      rw [List.getElem?_append_left (by rw [List.length_map, h3.len]; exact hi), List.getElem?_map, k1]; rfl
    · rw [List.getElem?_append_right (by simpa using hi)] at hd
      obtain ⟨_, hd2⟩ := List.getElem?_eq_some_iff.mp hd
      rw [List.getElem_replicate] at hd2; cases hd2
  · generalize A (ds.map some ++ List.replicate (Ns.length - n) none) S = r at h4
    induction r with
    | bad => exact h4
    | exc c d S' => exact fun B' H' cv od s R' hx => h4 B' H' cv od s R'.sub (fun a o hp h => R'.fr a o hp rfl h) (fun a o h hm => R'.cl a o h hm) R'.src hx
    | all p0 k ih => exact fun x px => ih x (h4 x px)
    | ok q S' =>
      match q, h4 with
      | (.nx, _), h4 => exact fun σ' B' H' s R' => h4 .non B' H' s R'.sub (fun a o hp h => R'.fr a o hp rfl h) (fun a o h hm => R'.cl a o h hm) R'.src .non
      | (.brk, _), h4 => exact h4.elim
      | (.cont, _), h4 => exact h4.elim
      | (.ret d, _), h4 => exact fun v B' H' s R' hd => h4 v B' H' s R'.sub (fun a o hp h => R'.fr a o hp rfl h) (fun a o h hm => R'.cl a o h hm) R'.src hd
end
end
end NL
/-! ### the data layer: more rules -/
namespace NL
noncomputable section
open PySem L2
section
variable {X : Cx} {G : Gm} {m m' : Bool} {O O1 O2 O' Ol : List Nat} {E : XK} {e tg : Expr} {es : List Expr} {F F1 F2 F3 : Ex} {Fs : Exs}
variable {φ : Fr} {σ σ2 : L2.St} {B H B' H' : Hp} {ρ ρ2 : Env} {S S' : SrcT} {st : Stmt} {sts rest : List Stmt} {A A1 A2 : Sx}
theorem ofN_imp {σ : L2.St} {H : Hp} {Q : VK} (h : tD G m O E F σ H Q) : tN G m O E F σ H Q := by
  obtain ⟨φ, B, ρ, S, R, hp⟩ := h
  refine ⟨φ, B, ρ, S, R, ?_⟩
  exact PgN.of hp
theorem de_call0 {f : List D → SrcT → Rs D} (h : PE X e (tCall (spD G f) [] E tNil)) (hv0 : G.v = false := by rfl) : PE X e (tD G false O E (callF f nilF)) := by
  refine h.mono fun σ H Q ⟨φ, B, ρ, S, R, hp⟩ => ?_
  exact sp_call (vs := []) (ds := []) R .nil hp hv0
def badS : Sx := fun _ _ => .bad
theorem ds_never : PS X st (tS G O O' Ol E badS) := ps_never.mono fun D σ H ⟨φ, B, ρ, S, R, hp⟩ => hp
theorem dvs_strs {p : Option Addr} : ∀ ns : List Str, DVs G p B (ns.map V.str) (ns.map D.str)
  | [] => .nil
  | n :: ns => .cons (.str n) (dvs_strs ns)
def negD : D → Option D
  | .int i => some (.int (-i))
  | _ => none
theorem un_negD : Un1 G m m' (rU fun i => .int (-i)) negD := by
  intro φ O σ B H ρ S v1 d1 d Q R h1 e q
  unfold negD at e
  split at e
  · cases h1; cases e; exact ⟨_, rfl, q _ _ _ Go.refl R (.int _)⟩
  · cases e
def blT (F : Ex) : Tst := fun ρ S => (F ρ S).bind fun d S1 => match d with
  | .bl b => .ok b S1
  | _ => .bad
theorem Pg.blT {rel : Rel V D} {Q : Bool → Hp → Prop} {r : Rs D} (h : Pg G φ true O E σ ρ (fun _ _ b a => b = a) B H (r.bind fun d S1 => match d with
  | .bl b => Rs.ok b S1
  | _ => .bad) Q) : Pg G φ true O E σ ρ (DV G) B H r fun x H' => ∃ k, x = .bl k ∧ Q k H' := by
  refine Pg.bind h fun d S1 w B1 H1 g R1 hw h1 => ?_
  cases hw with
  | bl b => exact ⟨b, rfl, Pg.ok h1 R1 rfl⟩
  | _ => exact h1.elim
theorem dt_cmp {r : R2} {op : D → D → Option D} (hb : Bin2 G true true r op) (h : PT X e (tTest (tOp r (tD G true O E F1) (tD G true O E F2)))) : PT X e (tBt G O E (blT (binF op F1 F2))) := by
  refine h.mono fun σ H Q ⟨φ, B, ρ, S, R, hp⟩ => ⟨φ, B, ρ, S, R, ?_⟩
  have hp := Pg.blT (rel := DV G) hp
  refine Pg.bind hp fun d1 S1 v1 B1 H1 g R1 hw h1 => ⟨φ, B1, ρ, S1, R1, ?_⟩
  refine Pg.bind h1 fun d2 S2 v2 B2 H2 g2 R2 hw2 h2 => ?_
  obtain ⟨d, e, q⟩ := h2.opt
  exact hb R2 (hw.same (g2.bs true)) hw2 e q
/-! a < b < c -/
def chF (op op' : D → D → Option D) (F1 F2 F3 : Ex) : Ex := fun ρ S => (F1 ρ S).bind fun d1 S1 => (F2 ρ S1).bind fun d2 S2 => match op d1 d2 with
  | some (.bl true) => (F3 ρ S2).bind fun d3 S3 => optF (op' d2 d3) S3
  | some (.bl false) => .ok (.bl false) S2
  | _ => .bad
theorem chain_imp {r r' : R2} {op op' : D → D → Option D} (hb : Bin2 G true true r op) (hb' : Bin2 G true m r' op') (R : Rep G φ O σ B H ρ S) {Q : VK} (hp : Pg G φ m O E σ ρ (DV G) B H (chF op op' F1 F2 F3 ρ S) Q) : tChain r r' (tD G true O E F1) (tD G true O E F2) (tD G true O E F3) σ H Q := by
  refine ⟨φ, B, ρ, S, R, ?_⟩
  refine Pg.bind hp fun d1 S1 v1 B1 H1 g R1 hw h1 => ⟨φ, B1, ρ, S1, R1, ?_⟩
  refine Pg.bind h1 fun d2 S2 v2 B2 H2 g2 R2 hw2 h2 => ?_
  split at h2
  · rename_i e1
    refine hb R2 (hw.same (g2.bs true)) hw2 e1 fun v B3 H3 g3 R3 dv => ?_
    cases dv
    refine ⟨true, rfl, ?_⟩
    rw [if_pos rfl]
    refine ⟨φ, B3, ρ, S2, R3, ?_⟩
    refine Pg.bind (Pg.go g3 h2) fun d3 S3 v3 B4 H4 g4 R4 hw3 h4 => ?_
    obtain ⟨d, e, q⟩ := h4.opt
    exact hb' R4 ((hw2.same (g3.bs true)).same (g4.bs true)) hw3 e q
  · rename_i e1
    refine hb R2 (hw.same (g2.bs true)) hw2 e1 fun v B3 H3 g3 R3 dv => ?_
    cases dv
    refine ⟨false, rfl, ?_⟩
    rw [if_neg (by decide)]
    exact (Pg.go g3 h2).ok R3 (.bl _)
  · exact h2.elim
theorem de_chain {r r' : R2} {op op' : D → D → Option D} (hb : Bin2 G true true r op) (hb' : Bin2 G true m r' op') (h : PE X e (tChain r r' (tD G true O E F1) (tD G true O E F2) (tD G true O E F3))) : PE X e (tD G m O E (chF op op' F1 F2 F3)) :=
  h.mono fun σ H Q ⟨φ, B, ρ, S, R, hp⟩ => chain_imp hb hb' R hp
theorem dt_chain {r r' : R2} {op op' : D → D → Option D} (hb : Bin2 G true true r op) (hb' : Bin2 G true true r' op') (h : PT X e (tTest (tChain r r' (tD G true O E F1) (tD G true O E F2) (tD G true O E F3)))) : PT X e (tBt G O E (blT (chF op op' F1 F2 F3))) :=
  h.mono fun σ H Q ⟨φ, B, ρ, S, R, hp⟩ => chain_imp hb hb' R (Pg.blT (rel := DV G) hp)
/-! runs -/
/-! isinstance -/
def isInt : D → Option D
  | .non => some (.bl false)
  | .bl _ => some (.bl true)
  | .int _ => some (.bl true)
  | .str _ => some (.bl false)
  | .lst _ => some (.bl false)
  | .tup _ => some (.bl false)
  | .dct _ => some (.bl false)
  | .dcT _ => some (.bl false)
  | _ => none
theorem de_isInt (h : PE X e (tCB (rIsi X.K) (tCons (tD G true O E F) (tCons (tC (.ty "int")) tNil)))) (hK : X.K = G.K := by rfl) : PE X e (tD G m O E (unF isInt F)) := by
  refine h.mono fun σ H Q ⟨φ, B, ρ, S, R, hp⟩ => ⟨φ, B, ρ, S, R, ?_⟩
  rw [hK]
  refine Pg.bind hp fun d S1 w B1 H1 g R1 hw h1 => ?_
  obtain ⟨r, hr, q⟩ := h1.opt
  have hw := dv_H R1 hw
  cases hw with
  | non => cases hr; exact ⟨_, _, _, _, false, rfl, .ty _, TyX.base TyOf.non, kit_ty (by decide +kernel), q _ _ _ Go.refl R1 (.bl _)⟩
  | bl b => cases hr; exact ⟨_, _, _, _, true, rfl, .ty _, TyX.base (TyOf.bl _), kit_ty (by decide +kernel), q _ _ _ Go.refl R1 (.bl _)⟩
  | int b => cases hr; exact ⟨_, _, _, _, true, rfl, .ty _, TyX.base (TyOf.int _), kit_ty (by decide +kernel), q _ _ _ Go.refl R1 (.bl _)⟩
  | str b => cases hr; exact ⟨_, _, _, _, false, rfl, .ty _, TyX.base (TyOf.str _), kit_ty (by decide +kernel), q _ _ _ Go.refl R1 (.bl _)⟩
  | lst ha hs => cases hr; exact ⟨_, _, _, _, false, rfl, .ty _, TyX.base (TyOf.lst ha), kit_ty (by decide +kernel), q _ _ _ Go.refl R1 (.bl _)⟩
  | tup ha hs => cases hr; exact ⟨_, _, _, _, false, rfl, .ty _, SqT.tyx ha, kit_ty (by decide +kernel), q _ _ _ Go.refl R1 (.bl _)⟩
  | dct ha _ hs => cases hr; exact ⟨_, _, _, _, false, rfl, .ty _, TyX.base (TyOf.dK ha), kit_ty (by decide +kernel), q _ _ _ Go.refl R1 (.bl _)⟩
  | dcT ha _ hs => cases hr; exact ⟨_, _, _, _, false, rfl, .ty _, TyX.base (TyOf.dT ha), kit_ty (by decide +kernel), q _ _ _ Go.refl R1 (.bl _)⟩
  | _ => cases hr
def isBool : D → Option D
  | .non => some (.bl false)
  | .bl _ => some (.bl true)
  | .int _ => some (.bl false)
  | .str _ => some (.bl false)
  | .lst _ => some (.bl false)
  | .tup _ => some (.bl false)
  | .dct _ => some (.bl false)
  | .dcT _ => some (.bl false)
  | _ => none
theorem de_isBool (h : PE X e (tCB (rIsi X.K) (tCons (tD G true O E F) (tCons (tC (.ty "bool")) tNil)))) (hK : X.K = G.K := by rfl) : PE X e (tD G m O E (unF isBool F)) := by
  refine h.mono fun σ H Q ⟨φ, B, ρ, S, R, hp⟩ => ⟨φ, B, ρ, S, R, ?_⟩
  rw [hK]
  refine Pg.bind hp fun d S1 w B1 H1 g R1 hw h1 => ?_
  obtain ⟨r, hr, q⟩ := h1.opt
  have hw := dv_H R1 hw
  cases hw with
  | non => cases hr; exact ⟨_, _, _, _, false, rfl, .ty _, TyX.base TyOf.non, kit_ty (by decide +kernel), q _ _ _ Go.refl R1 (.bl _)⟩
  | bl b => cases hr; exact ⟨_, _, _, _, true, rfl, .ty _, TyX.base (TyOf.bl _), kit_ty (by decide +kernel), q _ _ _ Go.refl R1 (.bl _)⟩
  | int b => cases hr; exact ⟨_, _, _, _, false, rfl, .ty _, TyX.base (TyOf.int _), kit_ty (by decide +kernel), q _ _ _ Go.refl R1 (.bl _)⟩
  | str b => cases hr; exact ⟨_, _, _, _, false, rfl, .ty _, TyX.base (TyOf.str _), kit_ty (by decide +kernel), q _ _ _ Go.refl R1 (.bl _)⟩
  | lst ha hs => cases hr; exact ⟨_, _, _, _, false, rfl, .ty _, TyX.base (TyOf.lst ha), kit_ty (by decide +kernel), q _ _ _ Go.refl R1 (.bl _)⟩
  | tup ha hs => cases hr; exact ⟨_, _, _, _, false, rfl, .ty _, SqT.tyx ha, kit_ty (by decide +kernel), q _ _ _ Go.refl R1 (.bl _)⟩
  | dct ha _ hs => cases hr; exact ⟨_, _, _, _, false, rfl, .ty _, TyX.base (TyOf.dK ha), kit_ty (by decide +kernel), q _ _ _ Go.refl R1 (.bl _)⟩
  | dcT ha _ hs => cases hr; exact ⟨_, _, _, _, false, rfl, .ty _, TyX.base (TyOf.dT ha), kit_ty (by decide +kernel), q _ _ _ Go.refl R1 (.bl _)⟩
  | _ => cases hr
def isStr : D → Option D
  | .non => some (.bl false)
  | .bl _ => some (.bl false)
  | .int _ => some (.bl false)
  | .str _ => some (.bl true)
  | .lst _ => some (.bl false)
  | .tup _ => some (.bl false)
  | .dct _ => some (.bl false)
  | .dcT _ => some (.bl false)
  | _ => none
theorem de_isStr (h : PE X e (tCB (rIsi X.K) (tCons (tD G true O E F) (tCons (tC (.ty "str")) tNil)))) (hK : X.K = G.K := by rfl) : PE X e (tD G m O E (unF isStr F)) := by
  refine h.mono fun σ H Q ⟨φ, B, ρ, S, R, hp⟩ => ⟨φ, B, ρ, S, R, ?_⟩
  rw [hK]
  refine Pg.bind hp fun d S1 w B1 H1 g R1 hw h1 => ?_
  obtain ⟨r, hr, q⟩ := h1.opt
  have hw := dv_H R1 hw
  cases hw with
  | non => cases hr; exact ⟨_, _, _, _, false, rfl, .ty _, TyX.base TyOf.non, kit_ty (by decide +kernel), q _ _ _ Go.refl R1 (.bl _)⟩
  | bl b => cases hr; exact ⟨_, _, _, _, false, rfl, .ty _, TyX.base (TyOf.bl _), kit_ty (by decide +kernel), q _ _ _ Go.refl R1 (.bl _)⟩
  | int b => cases hr; exact ⟨_, _, _, _, false, rfl, .ty _, TyX.base (TyOf.int _), kit_ty (by decide +kernel), q _ _ _ Go.refl R1 (.bl _)⟩
  | str b => cases hr; exact ⟨_, _, _, _, true, rfl, .ty _, TyX.base (TyOf.str _), kit_ty (by decide +kernel), q _ _ _ Go.refl R1 (.bl _)⟩
  | lst ha hs => cases hr; exact ⟨_, _, _, _, false, rfl, .ty _, TyX.base (TyOf.lst ha), kit_ty (by decide +kernel), q _ _ _ Go.refl R1 (.bl _)⟩
  | tup ha hs => cases hr; exact ⟨_, _, _, _, false, rfl, .ty _, SqT.tyx ha, kit_ty (by decide +kernel), q _ _ _ Go.refl R1 (.bl _)⟩
  | dct ha _ hs => cases hr; exact ⟨_, _, _, _, false, rfl, .ty _, TyX.base (TyOf.dK ha), kit_ty (by decide +kernel), q _ _ _ Go.refl R1 (.bl _)⟩
  | dcT ha _ hs => cases hr; exact ⟨_, _, _, _, false, rfl, .ty _, TyX.base (TyOf.dT ha), kit_ty (by decide +kernel), q _ _ _ Go.refl R1 (.bl _)⟩
  | _ => cases hr
def isList : D → Option D
  | .non => some (.bl false)
  | .bl _ => some (.bl false)
  | .int _ => some (.bl false)
  | .str _ => some (.bl false)
  | .lst _ => some (.bl true)
  | .tup _ => some (.bl false)
  | .dct _ => some (.bl false)
  | .dcT _ => some (.bl false)
  | _ => none
def isSq : D → Option D
  | .non => some (.bl false)
  | .bl _ => some (.bl false)
  | .int _ => some (.bl false)
  | .str _ => some (.bl false)
  | .lst _ => some (.bl true)
  | .tup _ => some (.bl true)
  | .dct _ => some (.bl false)
  | .dcT _ => some (.bl false)
  | _ => none
theorem any2 {K : PySem.W.Frag} {t : String} {b1 b2 : Bool} (h1 : kitB t "list" = some b1) (h2 : kitB t "tuple" = some b2) : PySem.W.kitAny K (.type t) [.type "list", .type "tuple"] = some (b1 || b2) := by
  refine kitAny_cons (b := b1) (kit_ty h1) (fun e => ?_) (fun e => by rw [e]; rfl)
  rw [e]
  exact kitAny_cons (b := b2) (kit_ty h2) (fun e => by rw [e]; rfl) (fun e => by rw [e]; rfl)
theorem de_isSq (h : PE X e (tCB (rIsiT X.K) (tCons (tD G true O E F) (tCons (tTup (tCons (tC (.ty "list")) (tCons (tC (.ty "tuple")) tNil))) tNil)))) (hK : X.K = G.K := by rfl) : PE X e (tD G m O E (unF isSq F)) := by
  refine h.mono fun σ H Q ⟨φ, B, ρ, S, R, hp⟩ => ⟨φ, B, ρ, S, R, ?_⟩
  rw [hK]
  refine Pg.bind hp fun d S1 w B1 H1 g R1 hw h1 => ?_
  obtain ⟨r, hr, q⟩ := h1.opt
  refine ⟨by decide, fun tp ntp => ?_⟩
  obtain ⟨R2, g2, np⟩ := R1.new (o := .tup [.ty "list", .ty "tuple"]) ntp
  have hw := dv_H R2 (hw.same (g2.bs true))
  have fin : ∀ (t : String) (b1 b2 : Bool), TyX G.K (upd H1 tp (.tup [.ty "list", .ty "tuple"])) w (.type t) → kitB t "list" = some b1 → kitB t "tuple" = some b2 → r = .bl (b1 || b2) → rIsiT G.K [w, .ref tp] (upd H1 tp (.tup [.ty "list", .ty "tuple"])) Q := fun t b1 b2 ht k1 k2 er => by
    subst er
    exact ⟨w, tp, _, _, [.type "list", .type "tuple"], _, rfl, upd_same, .cons (.ty _) (.cons (.ty _) .nil), ht, any2 k1 k2, q _ _ _ g2 R2 (.bl _)⟩
  cases hw with
  | non => cases hr; exact fin _ false false (TyX.base TyOf.non) (by decide +kernel) (by decide +kernel) rfl
  | bl b => cases hr; exact fin _ false false (TyX.base (TyOf.bl _)) (by decide +kernel) (by decide +kernel) rfl
  | int b => cases hr; exact fin _ false false (TyX.base (TyOf.int _)) (by decide +kernel) (by decide +kernel) rfl
  | str b => cases hr; exact fin _ false false (TyX.base (TyOf.str _)) (by decide +kernel) (by decide +kernel) rfl
  | lst ha hs => cases hr; exact fin _ true false (TyX.base (TyOf.lst ha)) (by decide +kernel) (by decide +kernel) rfl
  | tup ha hs => cases hr; exact fin _ false true (SqT.tyx ha) (by decide +kernel) (by decide +kernel) rfl
  | dct ha _ hs => cases hr; exact fin _ false false (TyX.base (TyOf.dK ha)) (by decide +kernel) (by decide +kernel) rfl
  | dcT ha _ hs => cases hr; exact fin _ false false (TyX.base (TyOf.dT ha)) (by decide +kernel) (by decide +kernel) rfl
  | _ => cases hr
theorem ds_lcN {i : Nat} {is js : List Nat} {FI : Exs} {g : Tgt} {c : Tst} {Fe : Ex} (hi : i ∉ O) (hO' : O' = i :: O) (hO : ∀ i, i ∈ is → i ∉ O) (hj : ∀ i, i ∈ js → i ∈ is) (h : PS X st (tAsg (tLc (tI G O E FI) (tTg G O js g) (tBt G O E c) (tD G false O E Fe) is) (gName i))) (hv0 : G.v = false := by rfl) : PS X st (tS G O O' Ol E (setN i (lcF is FI g c Fe))) :=
  ds_setN hi hO' (h.asg_mono fun σ H Q hw => lc_imp hO hj σ H Q hw hv0) hv0
theorem ds_lc {i : Nat} {is js : List Nat} {FI : Exs} {g : Tgt} {c : Tst} {Fe : Ex} (hO' : O' = offO O i) (hO : ∀ i, i ∈ is → i ∉ O) (hj : ∀ i, i ∈ js → i ∈ is) (h : PS X st (tAsg (tLc (tI G O E FI) (tTg G O js g) (tBt G O E c) (tD G false O E Fe) is) (gName i))) (hv0 : G.v = false := by rfl) : PS X st (tS G O O' Ol E (setS i (lcF is FI g c Fe))) :=
  ds_set hO' (h.asg_mono fun σ H Q h => lc_imp (m := false) hO hj σ H Q (ofN_imp h) hv0)
end
end
end NL
/-! ### the data layer: the source, the law's own beginning and end -/
namespace NL
noncomputable section
open PySem L2
def drawV (S : SrcT) (m : Int) : Int := if 1 < S.g then S.g % m else ((S.s + 7919 * (S.c + 1)) ^ (5 : Int).toNat % 2147483629 * 48271 + 16807 * (S.c + 1) * (S.c + 1) + 11) ^ (3 : Int).toNat % 1000000007 % m
def drawS (S : SrcT) (m : Int) : SrcT := { S with g := if 1 < S.g then S.g / m else S.g, c := S.c + 1 }
def f__law_draw : List D → SrcT → Rs D := fun ds S => match ds with
  | [.src, .int m] => if (decide (0 < m) && decide (m < 1000000) && decide (S.c ≤ 990000)) = true then .ok (.int (drawV S m)) (drawS S m) else .bad
  | _ => .bad
theorem draw_ok {S : SrcT} {m : Int} (h0 : 0 < m) (h1 : m < 1000000) (hc : S.c ≤ 990000) : ∃ r S', f__law_draw [.src, .int m] S = .ok (.int r) S' ∧ 0 ≤ r ∧ r < m ∧ S'.c = S.c + 1 := by
  refine ⟨drawV S m, drawS S m, ?_, ?_, ?_, rfl⟩
  · show (if _ then _ else _) = _
    rw [if_pos (by simp [h0, h1, hc])]
  · unfold drawV; split <;> exact Int.emod_nonneg _ (by omega)
  · unfold drawV; split <;> exact Int.emod_lt_of_pos _ h0
section
variable {X : Cx} {G : Gm} {O O' Ol : List Nat} {E : XK} {A : Sx} {Q : VK} {nxP : L2.St → Hp → Prop} {H : Hp} {p a : Addr} {k : Nat}
/-- behind the law's first row -/
theorem law_readS {v0 : Option V} (hs : Src H p 0) (hQ : ∀ H', Q (.bl true) H') (hl : ∀ S : SrcT, S.c = 0 → (A (none :: some .src :: List.replicate k none) S).sat fun r _ => ∃ ρ', r = (.ret (.bl true), ρ')) (hv0 : G.v = false := by rfl) (hfx : G.fx = none := by rfl) : tS G [] O' Ol E A { nx := nxP, rt := Q } (v0 :: some (.ref p) :: List.replicate k none) H := by
  obtain ⟨g, s, h1, h2, h3, _⟩ := hs
  have he := hl { g := g, s := s, c := 0 } rfl
  refine ⟨{ p := some p, B0 := fun _ => none, H0 := H }, fun _ => none, none :: some .src :: List.replicate k none, { g := g, s := s, c := 0 }, ⟨fun _ _ h => (nomatch h), fun _ _ _ _ h => h, fun _ _ h => (nomatch h), fun q hq => ?_, fun _ _ h => (nomatch h), by simp, fun i d _ hd => ?_, fun i hi => (nomatch hi), fun i j hi => (nomatch hi), fun a h => h, (fun hv => by rw [hv0] at hv; cases hv), ⟨hv0.symm, fun _ f hf => by rw [hfx] at hf; cases hf⟩, fun i hi => (nomatch hi)⟩, ?_⟩
  · cases hq; exact ⟨rfl, h1, h2, h3, Int.le_refl _⟩
  · match i with
    | 0 => cases hd
    | 1 => cases hd; exact ⟨.ref p, rfl, .src rfl⟩
    | i + 2 =>
      have hd : (List.replicate k (none : Option D))[i]? = some (some d) := hd
      obtain ⟨_, hd2⟩ := List.getElem?_eq_some_iff.mp hd
      rw [List.getElem_replicate] at hd2; cases hd2
  · generalize A (none :: some .src :: List.replicate k none) { g := g, s := s, c := 0 } = r at he
    induction r with
    | bad => exact he.elim
    | exc _ _ _ => exact he.elim
    | all p0 f ih => exact fun x px => ih x (he x px)
    | ok q S =>
      obtain ⟨ρ', rfl⟩ := he
      intro v B' H' _ _ hv
      cases hv
      exact hQ H'
end
end
end NL
/-! ### the data layer: loops and runs -/
namespace NL
noncomputable section
open PySem L2
open Classical in
/-- what is shared behind a call that is told in the heap's own words: N are new places -/
noncomputable def grow (B H' : Hp) (N : List Addr) : Hp := fun a => match B a with
  | some o => some o
  | none => match H' a with
    | some o => if ¬ mutO o ∨ a ∈ N then some o else none
    | none => none
section
variable {G : Gm} {p : Option Addr} {B H H' : Hp} {N : List Addr} {S : SrcT}
theorem grow_b : Same B (grow B H' N) := fun a o h => by unfold grow; rw [h]
theorem grow_h (hB : Same B H) (hp : ∀ q, p = some q → B q = none) (fr : ∀ a o, p ≠ some a → H a = some o → H' a = some o) : Same (grow B H' N) H' := fun a o h => by
  unfold grow at h
  split at h
  · rename_i o' e
    cases h
    refine fr a o (fun q => ?_) (hB a o e)
    rw [hp a q] at e; cases e
  · split at h
    · rename_i o' e'
      split at h
      · cases h; exact e'
      · cases h
    · cases h
theorem grow_at (hB : Same B H) (hp : ∀ q, p = some q → B q = none) (fr : ∀ a o, p ≠ some a → H a = some o → H' a = some o) {a : Addr} {o : HO} (h : H' a = some o) (hm : ¬ mutO o ∨ a ∈ N) : grow B H' N a = some o := by
  unfold grow
  split
  · rename_i o' e
    have h2 := fr a o' (fun q => by rw [hp a q] at e; cases e) (hB a o' e)
    rw [h] at h2; rw [h2]
  · rw [h]; dsimp only; rw [if_pos hm]
theorem grow_cl (hN : ∀ a, a ∈ N → H a = none) {a : Addr} {o : HO} (h : grow B H' N a = some o) (hm : mutO o) : B a = some o ∨ H a = none := by
  unfold grow at h
  split at h
  · rename_i o' e; cases h; exact .inl e
  · split at h
    · split at h
      · rename_i hk
        cases h
        rcases hk with hk | hk
        · exact absurd hm hk
        · exact .inr (hN a hk)
      · cases h
    · cases h
theorem grow_p {q : Addr} (hq : B q = none) (hs : SrcAt H' q S) (hn : q ∉ N) : grow B H' N q = none := by
  unfold grow
  rw [hq]; dsimp only
  rw [hs.1]; dsimp only
  rw [if_neg]
  rintro (h | h)
  · exact h True.intro
  · exact hn h
theorem grow_sqT (hB : Same B H) (hp : ∀ q, p = some q → B q = none) (fr : ∀ a o, p ≠ some a → H a = some o → H' a = some o) {K : PySem.W.Frag} {a : Addr} {xs : List V} (h : SqT K H' a xs) : SqT K (grow B H' N) a xs := by
  rcases h with (h | ⟨o, h⟩) | h
  · exact .inl (.inl (grow_at hB hp fr h (.inl (fun z => z))))
  · exact .inl (.inr ⟨o, grow_at hB hp fr h (.inl (fun z => z))⟩)
  · exact .inr h
end
/-! runs -/
/-- loops that are made -/
def ruleD : D → Option Rule := fun d => match seqD d with
  | some [.str st, g, .str wd, .bl kp, .str nx] => match seqD g with
    | some gs => (strsD gs).map fun zs => ⟨st, zs, wd, kp, nx⟩
    | none => none
  | _ => none
def rulesD : List D → Option (List Rule)
  | [] => some []
  | d :: ds => match ruleD d, rulesD ds with
    | some r, some rs => some (r :: rs)
    | _, _ => none
def ansE : List (Key × D) → Option (List (Str × Str))
  | [] => some []
  | (.inr k, .str z) :: r => (ansE r).map fun s => (k, z) :: s
  | _ => none
def okRules (rs : List Rule) (ans : List (Str × Str)) : Prop := wfRules rs ∧ (∀ r ∈ rs, r.gs.length ≤ 100) ∧ ansOk rs ans
def spLoopInit (K : PySem.W.Frag) (C : Addr) : Sp := fun vs H Q _ => ∃ (self a dx : Addr) (av : V) (rs : List Rule) (ans : List (Str × Str)), vs = [.ref self, .ref a, av] ∧ H self = some (.ins C dx []) ∧ RulesAt K H a rs ∧ wfRules rs ∧ (∀ r ∈ rs, r.gs.length ≤ 100) ∧ ansOk rs ans ∧
  ((av = .non ∧ ans = []) ∨ ∃ d, av = .ref d ∧ H d = some (.dK (ansD ans))) ∧ ∀ H' (rd rt : Addr), But self H H' → H rd = none → H rt = none → (∃ (dx ra : Addr) (tab : List (List Key × V)), H' self = some (.ins C dx [("own_rules", .ref ra), ("own_answers", .ref rd), ("table", .ref rt)]) ∧ RulesT K H' ra rs ∧ H' rd = some (.dK (ansV rs ans)) ∧ H' rt = some (.dT tab) ∧ TabIs tab (fitIdx rs)) → Q .non H'
open Classical in
noncomputable def mkLoop (rs : List Rule) (ans : List (Str × Str)) (S : SrcT) : Rs D := if okRules rs ans then .ok (.loop rs ans) S else .bad
noncomputable def f_Loop : List D → SrcT → Rs D := fun ds S => match ds with
  | [r, a] => match seqD r with
    | some rds => match rulesD rds, a with
      | some rs, .non => mkLoop rs [] S
      | some rs, .dct es => match ansE es with
        | some ans => mkLoop rs ans S
        | none => .bad
      | _, _ => .bad
    | none => .bad
  | _ => .bad
noncomputable def f_Loop1 : List D → SrcT → Rs D := fun ds S => f_Loop (ds ++ [.non]) S
section
variable {G : Gm} {p : Option Addr} {B H H' : Hp}
theorem ruleAt_of {v : V} {d : D} {r : Rule} (hd : DV G p B v d) (h : ruleD d = some r) : RuleAt G.K B v r := by
  unfold ruleD at h
  split at h
  · rename_i st g wd kp nx hs
    split at h
    · rename_i gs hg
      obtain ⟨zs, hz, rfl⟩ := Option.map_eq_some_iff.mp h
      obtain ⟨a, xs, rfl, hq, hx⟩ := sq_of hs hd
      cases hx with | cons k1 hx =>
      cases hx with | cons k2 hx =>
      cases hx with | cons k3 hx =>
      cases hx with | cons k4 hx =>
      cases hx with | cons k5 hx =>
      cases hx; cases k1; cases k3; cases k4; cases k5
      obtain ⟨b, ys, rfl, hq2, hy⟩ := sq_of hg k2
      refine ⟨a, b, rfl, hq, ?_⟩
      rw [← strs_of hz hy]; exact hq2
    · cases h
  · cases h
theorem rulesAt_of : ∀ {vs : List V} {ds : List D} {rs : List Rule}, DVs G p B vs ds → rulesD ds = some rs → Paired (RuleAt G.K B) vs rs := by
  intro vs ds
  induction ds generalizing vs with
  | nil => intro rs hv h; cases hv; cases h; exact .nil
  | cons d ds ih =>
    intro rs hv h
    cases hv with | cons h1 h2 =>
    unfold rulesD at h
    split at h
    · rename_i r rs' e1 e2
      cases h
      exact .cons (ruleAt_of h1 e1) (ih h2 e2)
    · cases h
theorem ansD_of : ∀ {kvs : List (Key × V)} {es : List (Key × D)} {ans : List (Str × Str)}, kvs.map Prod.fst = es.map Prod.fst → DVs G p B (kvs.map Prod.snd) (es.map Prod.snd) → ansE es = some ans → kvs = ansD ans := by
  intro kvs es
  induction es generalizing kvs with
  | nil =>
    intro ans h1 h2 h3
    cases h3
    cases kvs with
    | nil => rfl
    | cons _ _ => cases h1
  | cons e es ih =>
    intro ans h1 h2 h3
    cases kvs with
    | nil => cases h1
    | cons kv kvs =>
      unfold ansE at h3
      split at h3
      · rename_i heq; cases heq
      · rename_i k z r heq
        cases heq
        obtain ⟨s, h4, rfl⟩ := Option.map_eq_some_iff.mp h3
        rw [List.map_cons, List.map_cons] at h1 h2
        injection h1 with e1 e2
        cases h2 with | cons h5 h6 =>
        obtain ⟨k', v'⟩ := kv
        dsimp only at e1 h5
        cases h5
        subst e1
        rw [ih e2 h6 h4]
        rfl
      · cases h3
end
section
variable {X : Cx} {G : Gm} {m m' : Bool} {O : List Nat} {E : XK} {e : Expr} {F : Ex} {Fs : Exs}
theorem make_imp {φ : Fr} {σ : L2.St} {B1 H1 : Hp} {ρ : Env} {S1 : SrcT} {Q : VK} {vs : List V} {ds : List D} (R1 : Rep G φ O σ B1 H1 ρ S1) (hw : DVs G φ.p B1 vs ds) (h1 : Pg G φ false O E σ ρ (DV G) B1 H1 (f_Loop ds S1) Q)
    (x dx : Addr) (nx : H1 x = none) (ndx : H1 dx = none) (ne : dx ≠ x) (hv0 : G.v = false := by rfl) : spLoopInit G.K G.cl (.ref x :: vs) (upd (upd H1 dx (.own x)) x (.ins G.cl dx [])) (fun v H2 => v = .non ∧ Q (.ref x) H2) E := by
  have smL : Same H1 (upd (upd H1 dx (.own x)) x (.ins G.cl dx [])) := (same_new ndx).trans (same_new (by rw [upd_ne ne.symm]; exact nx))
  have fin : ∀ (rs : List Rule) (ans : List (Str × Str)) (a : Addr) (av : V), vs = [.ref a, av] → RulesAt G.K B1 a rs → ((av = .non ∧ ans = []) ∨ ∃ d, av = .ref d ∧ B1 d = some (.dK (ansD ans))) → Pg G φ false O E σ ρ (DV G) B1 H1 (mkLoop rs ans S1) Q → spLoopInit G.K G.cl (.ref x :: vs) (upd (upd H1 dx (.own x)) x (.ins G.cl dx [])) (fun v H2 => v = .non ∧ Q (.ref x) H2) E := fun rs ans a av ev hR hav hp => by
    subst ev
    unfold mkLoop at hp
    split at hp
    · rename_i hok
      refine ⟨x, a, dx, av, rs, ans, rfl, upd_same, (hR.same R1.sub).same smL, hok.1, hok.2.1, hok.2.2, ?_, fun H' rd rt bt nrd nrt hL => ⟨rfl, ?_⟩⟩
      · rcases hav with hav | ⟨d, rfl, hd⟩
        · exact .inl hav
        · exact .inr ⟨d, rfl, smL _ _ (R1.sub _ _ hd)⟩
      · have npx : φ.p ≠ some x := fun e => by have := (R1.src x e).2.1; rw [nx] at this; cases this
        have fr : ∀ a o, φ.p ≠ some a → H1 a = some o → H' a = some o := fun a o _ h => bt a o (ne_of_none h nx) (smL a o h)
        have hpB : ∀ q, φ.p = some q → B1 q = none := fun q hq => (R1.src q hq).1
        have nrd1 : H1 rd = none := by
          cases k : H1 rd with
          | none => rfl
          | some o => rw [smL _ _ k] at nrd; cases nrd
        have nrt1 : H1 rt = none := by
          cases k : H1 rt with
          | none => rfl
          | some o => rw [smL _ _ k] at nrt; cases nrt
        have srcH : ∀ q, φ.p = some q → SrcAt H' q S1 := fun q hq => by
          have h0 := (R1.src q hq).2
          refine ⟨bt q _ (fun e => npx (e ▸ hq)) (smL _ _ h0.1), h0.2⟩
        have hN : ∀ a, a ∈ [x, rd, rt] → H1 a = none := fun a ha => by
          rcases List.mem_cons.mp ha with rfl | ha
          · exact nx
          rcases List.mem_cons.mp ha with rfl | ha
          · exact nrd1
          · rw [List.mem_singleton.mp ha]; exact nrt1
        obtain ⟨B2, g2, R2, hb⟩ := R1.after false (S' := S1) (Bc := grow B1 H' [x, rd, rt]) grow_b (grow_h R1.sub hpB fr) fr (fun a o h hm => grow_cl hN h hm) (fun q hq => ⟨grow_p (hpB q hq) (srcH q hq) (fun hm => by
          have := hN q hm
          rw [(R1.src q hq).2.1] at this; cases this), srcH q hq⟩) hv0
        refine hp (.ref x) B2 H' g2 R2 (DV.same hb (.loop ?_))
        obtain ⟨dx', ra, tab, k1, ⟨ws, k2, k3⟩, k4, k5, k6⟩ := hL
        have at' : ∀ {a : Addr} {o : HO}, H' a = some o → (¬ mutO o ∨ a ∈ [x, rd, rt]) → grow B1 H' [x, rd, rt] a = some o := fun h hm => grow_at R1.sub hpB fr h hm
        refine ⟨dx', ra, rd, rt, tab, at' k1 (.inr List.mem_cons_self), ⟨ws, grow_sqT R1.sub hpB fr k2, Paired.mapP k3 fun _ _ ⟨t, g, e, q1, q2⟩ => ⟨t, g, e, grow_sqT R1.sub hpB fr q1, grow_sqT R1.sub hpB fr q2⟩⟩, at' k4 (.inr (List.mem_cons_of_mem _ List.mem_cons_self)), at' k5 (.inr (List.mem_cons_of_mem _ (List.mem_cons_of_mem _ List.mem_cons_self))), k6⟩
    · exact hp.elim
  unfold f_Loop at h1
  split at h1
  · rename_i r a
    split at h1
    · rename_i rds hs
      cases hw with | cons w1 w2 =>
      cases w2 with | cons w2 w3 =>
      cases w3
      obtain ⟨ra, xs, rfl, hq, hx⟩ := sq_of hs w1
      split at h1
      · rename_i rs hr
        cases w2
        exact fin rs [] ra .non rfl ⟨xs, hq, rulesAt_of hx hr⟩ (.inl ⟨rfl, rfl⟩) h1
      · rename_i rs es hr
        split at h1
        · rename_i ans ha
          cases w2 with | dct k1 k2 k3 =>
          exact fin rs ans ra _ rfl ⟨xs, hq, rulesAt_of hx hr⟩ (.inr ⟨_, rfl, by rw [← ansD_of k2 k3 ha]; exact k1⟩) h1
        · exact h1.elim
      · exact h1.elim
    · exact h1.elim
  · exact h1.elim
theorem de_Loop1 (h : PE X e (tMake G.cl (spLoopInit G.K G.cl) [.non] E (tDs G false O E Fs))) (hv0 : G.v = false := by rfl) : PE X e (tD G false O E (callF f_Loop1 Fs)) := by
  refine h.mono fun σ H Q ⟨φ, B, ρ, S, R, hp⟩ => ⟨φ, B, ρ, S, R, ?_⟩
  refine Pg.bind hp fun ds S1 vs B1 H1 g1 R1 hw h1 => fun x dx nx ndx ne => ?_
  have hw : DVs G φ.p B1 vs ds := hw
  exact make_imp R1 (hw.append (.cons .non .nil)) h1 x dx nx ndx ne hv0
end
end
end NL
/-! ### the data layer: joined texts, lists that are changed, dicts -/
namespace NL
noncomputable section
open PySem L2
def keyD : D → Option Key
  | .int i => some (.inl i)
  | .str z => some (.inr z)
  | _ => none
def valE {κ : Type} [DecidableEq κ] (es : List (κ × D)) (k : κ) : Option D := (es.find? fun kv => decide (kv.1 = k)).map (·.2)
def putE {κ : Type} [DecidableEq κ] (es : List (κ × D)) (k : κ) (d : D) : List (κ × D) :=
  if (es.any fun kv => decide (kv.1 = k)) = true then es.map (fun kv => if kv.1 = k then (kv.1, d) else kv) else es ++ [(k, d)]
section
variable {X : Cx} {G : Gm} {m m' : Bool} {O O' Ol : List Nat} {E : XK} {e o i : Expr} {es : List Expr} {F F1 F2 F3 : Ex} {Fs : Exs} {st : Stmt}
/-! joined -/
def joinD : D → D → Option D
  | .str a, c => match seqD c with
    | some ds => match strsD ds with
      | some ys => if (ys.map (·.length)).sum + ys.length * a.length ≤ 100000 then some (.str (Txt.join a ys)) else none
      | none => none
    | none => none
  | _, _ => none
abbrev rJoin (K : PySem.W.Frag) : V → List V → Hp → VK → Prop := fun x xs H Q => ∃ a p, ∃ ys : List Str, x = .str a ∧ xs = [.ref p] ∧ (SqL K H p (ys.map V.str) ∨ SqT K H p (ys.map V.str)) ∧ (ys.map (·.length)).sum + ys.length * a.length ≤ 16777216 ∧ Q (.str (Txt.join a ys)) H
theorem de_join (h : PE X e (tM1 (rJoin X.K) (tC (.str z)) (tD G true O E F2))) (hK : X.K = G.K := by rfl) : PE X e (tD G m O E (unF (joinD (.str z)) F2)) := by
  refine h.mono fun σ H Q ⟨φ, B, ρ, S, R, hp⟩ => ⟨⟨_, rfl⟩, φ, B, ρ, S, R, ?_⟩
  rw [hK]
  refine Pg.bind hp fun d S1 w B1 H1 g R1 hw h1 => ?_
  obtain ⟨r, hr, q⟩ := h1.opt
  have hw := dv_H R1 hw
  unfold joinD at hr
  dsimp only at hr
  split at hr
  · rename_i ds hs
    split at hr
    · rename_i ys hy
      split at hr
      · rename_i hl
        cases hr
        obtain ⟨a, xs, rfl, hq, hx⟩ := sq_of hs hw
        refine ⟨_, a, ys, rfl, rfl, ?_, Nat.le_trans hl (by decide), q _ _ _ Go.refl R1 (.str _)⟩
        rw [← strs_of hy hx]; exact hq
      · cases hr
    · cases hr
  · cases hr
/-! xs.insert(i, e), xs of this def's own -/
def insS (i : Nat) (Fs : Exs) : Sx := fun ρ S => match ρ[i]? with
  | some (some (.lst ds)) => (Fs ρ S).bind fun as S1 => match as with
    | [.int k, d] => if ds.length < 100000 ∧ 0 ≤ k ∧ k ≤ 1000000 then .ok (.nx, ρ.set i (some (.lst (ds.take k.toNat ++ [d] ++ ds.drop k.toNat)))) S1 else .bad
    | _ => .bad
  | _ => .bad
theorem own_lst {φ : Fr} {B : Hp} {oo : HO} {ds0 : List D} (k7 : DO G φ.p B oo (.lst ds0)) : ∃ us, oo = .lst us ∧ DVs G φ.p B us ds0 := by
  unfold DO at k7
  split at k7
  · rename_i us ds1 he; cases he; exact ⟨us, rfl, k7⟩
  · rename_i he; cases he
  · rename_i he; cases he
  · exact k7.elim
abbrev rIns : V → List V → Hp → VK → Prop := fun x vs H Q => ∃ (l : Addr) (xs : List V) (i : Int) (y : V), x = .ref l ∧ vs = [.int i, y] ∧ H l = some (.lst xs) ∧ xs.length < sizeLine ∧ 0 ≤ i ∧ i < 2 ^ 63 ∧ Q .non (upd H l (.lst (xs.take i.toNat ++ [y] ++ xs.drop i.toNat)))
theorem ds_ins {i : Nat} (hi : i ∈ O) (h : PS X st (tDrop (tBM X.K "list" rIns (tVar i) (tDs G false O E Fs)))) : PS X st (tS G O O Ol E (insS i Fs)) := by
  refine h.mono fun D σ H ⟨φ, B, ρ, S, R, hp⟩ => ?_
  obtain ⟨a, o, d0, k1, k2, k3, k4, k5, k6, k7⟩ := R.own i hi
  unfold insS at hp
  rw [k1] at hp
  cases d0 with
  | lst ds0 =>
    obtain ⟨us, rfl, hu⟩ := own_lst k7
    refine ⟨.ref a, k2, .inl ⟨rfl, us, SqL.of k3⟩, φ, B, ρ, S, R, ?_⟩
    refine PostS.bind hp fun ds S1 w B1 H1 g R1 hw h1 => ?_
    split at h1
    · split at h1
      · rename_i hlen
        cases hw with | cons q1 q2 =>
        cases q2 with | cons q2 q3 =>
        cases q3; cases q1
        have q2 : DV G φ.p B1 _ _ := q2
        refine ⟨a, us, _, _, rfl, rfl, g.at (R.ownv hi) k6 k3, sz100k_lt (by rw [hu.len]; exact hlen.1), hlen.2.1, by omega, ?_⟩
        have hu1 := hu.same g.b
        exact h1 σ B1 _ (Same.refl _) (R1.pokeO hi k2 (((hu1.take _).append (.cons q2 .nil)).append (hu1.drop _)))
      · exact h1.elim
    · exact h1.elim
  | _ => exact hp.elim
/-! dicts -/
def putS (i : Nat) (Fk Fv : Ex) : Sx := fun ρ S => match ρ[i]? with
  | some (some (.dct es)) => (Fv ρ S).bind fun v S1 => (Fk ρ S1).bind fun k S2 => match keyD k with
    | some k => if es.length < 100000 then .ok (.nx, ρ.set i (some (.dct (putE es k v)))) S2 else .bad
    | none => .bad
  | _ => .bad
def get2F (F1 F2 F3 : Ex) : Ex := fun ρ S => (F1 ρ S).bind fun c S1 => match c with
  | .dct es => (F2 ρ S1).bind fun k S2 => (F3 ρ S2).bind fun x S3 => match keyD k with
    | some k => .ok ((valE es k).getD x) S3
    | none => .bad
  | _ => .bad
def dgetF (F1 F2 : Ex) : Ex := fun ρ S => (F1 ρ S).bind fun c S1 => match c with
  | .dct es => (F2 ρ S1).bind fun k S2 => match keyD k with
    | some k => optF (valE es k) S2
    | none => .bad
  | _ => .bad
end
end
end NL
/-! ### {e for x in xs}: a comprehension that makes a set of any kind of things, told by two words: the new set, and what adding asks -/
namespace NL
end NL
/-! ### the data layer: sets of ints, dict comprehensions -/
namespace NL
noncomputable section
open PySem L2
def insI' (acc : List Int) (k : Int) : List Int := if k ∈ acc then acc else acc ++ [k]
/-- the different ones, in the order in which they come -/
def ddI (ns : List Int) : List Int := ns.foldl insI' []
def scGo (g : Tgt) (c : Tst) (Fe : Ex) (ρ : Env) : List D → SrcT → Rs (List Int)
  | [], S => .ok [] S
  | d :: ds, S => match g d ρ with
    | none => .bad
    | some ρ' => (c ρ' S).bind fun b S1 => if b = true then (Fe ρ' S1).bind fun y S2 => match y with
        | .int k => (scGo g c Fe ρ ds S2).bind fun ys S3 => .ok (k :: ys) S3
        | _ => .bad
      else scGo g c Fe ρ ds S1
def setCF (is : List Nat) (FI : Exs) (g : Tgt) (c : Tst) (Fe : Ex) : Ex := fun ρ S => (FI ρ S).bind fun ds S1 => if ds.length ≤ 4000 then (scGo g c Fe (wipeE ρ is) ds S1).bind fun ys S2 => .ok (.set (ddI ys)) S2 else .bad
end
end NL
/-! ### the data layer: dict comprehensions, built-ins on sets -/
namespace NL
noncomputable section
open PySem L2
def dcGo (g : Tgt) (c : Tst) (Fk Fv : Ex) (ρ : Env) : List D → SrcT → Rs (List (Key × D))
  | [], S => .ok [] S
  | d :: ds, S => match g d ρ with
    | none => .bad
    | some ρ' => (c ρ' S).bind fun b S1 => if b = true then (Fk ρ' S1).bind fun y S2 => (Fv ρ' S2).bind fun z S3 => match keyD y with
        | some k => (dcGo g c Fk Fv ρ ds S3).bind fun ys S4 => .ok ((k, z) :: ys) S4
        | none => .bad
      else dcGo g c Fk Fv ρ ds S1
def putsE (acc ys : List (Key × D)) : List (Key × D) := ys.foldl (fun es kv => putE es kv.1 kv.2) acc
def dctCF (is : List Nat) (FI : Exs) (g : Tgt) (c : Tst) (Fk Fv : Ex) : Ex := fun ρ S => (FI ρ S).bind fun ds S1 => if ds.length ≤ 4000 then (dcGo g c Fk Fv (wipeE ρ is) ds S1).bind fun ys S2 => .ok (.dct (putsE [] ys)) S2 else .bad
end
end NL
/-! ### the data layer: sorted(set), len(set), extend, index, list(range) -/
namespace NL
noncomputable section
open PySem PySem.Spec PyProof.Rows L2
section
variable {X : Cx} {G : Gm} {m m' : Bool} {O O' Ol : List Nat} {E : XK} {e tg : Expr} {F F1 F2 : Ex} {Fs : Exs} {st : Stmt}
/-! sorted(set) -/
/-! len(set) -/
/-! len(set(xs)), xs a list of ints, equal ones told once -/
/-! xs.extend(e), xs of this def's own -/
def extS (i : Nat) (F : Ex) : Sx := fun ρ S => match ρ[i]? with
  | some (some (.lst ds)) => (F ρ S).bind fun d S1 => match d with
    | .lst es => if ds.length + es.length ≤ 100000 then .ok (.nx, ρ.set i (some (.lst (ds ++ es)))) S1 else .bad
    | _ => .bad
  | _ => .bad
/-! xs.index(x), plain things -/
def idxOfD (c x : D) : Option D := match c with
  | .lst ds => if (isSc x && ds.all isSc) = true then (ds.findIdx? fun z => eqV (vOf z) (vOf x)).map fun j => .int (j : Nat) else none
  | _ => none
def idxOfF (F1 F2 : Ex) : Ex := fun ρ S => (F1 ρ S).bind fun c S1 => match c with
  | .lst _ => (F2 ρ S1).bind fun x S2 => optF (idxOfD c x) S2
  | _ => .bad
/-! list(range(n)) -/
def lstRgF (F : Ex) : Ex := fun ρ S => (F ρ S).bind fun d S1 => match d with
  | .int n => if 0 ≤ n ∧ n ≤ 100000 then .ok (.lst (rngD 0 n.toNat)) S1 else .bad
  | _ => .bad
end
end
end NL
/-! ### the data layer: return [left.pop(e) for x in xs], left a list of this def's own -/
namespace NL
noncomputable section
open PySem L2
def popGo (g : Tgt) (i : Nat) (F : Ex) : List D → Env → SrcT → Rs (List D)
  | [], _, S => .ok [] S
  | d :: ds, ρ, S => match g d ρ with
    | none => .bad
    | some ρ' => match ρ[i]? with
      | some (some (.lst xs)) => (F ρ' S).bind fun k S1 => match k with
        | .int j => if 0 ≤ j ∧ j ≤ 1000000 then match xs[j.toNat]? with
            | some y => (popGo g i F ds (ρ.set i (some (.lst (xs.eraseIdx j.toNat)))) S1).bind fun ys S2 => .ok (y :: ys) S2
            | none => .bad
          else .bad
        | _ => .bad
      | _ => .bad
def popS (is : List Nat) (FI : Exs) (g : Tgt) (i : Nat) (F : Ex) : Sx := fun ρ S => (FI ρ S).bind fun ds S1 => if ds.length ≤ 4000 then (popGo g i F ds (wipeE ρ is) S1).bind fun ys S2 => .ok (.ret (.lst ys), ρ) S2 else .bad
theorem DVs.erase {G : Gm} {p : Option Addr} {B : Hp} : ∀ {vs : List V} {ds : List D} (n : Nat), DVs G p B vs ds → DVs G p B (vs.eraseIdx n) (ds.eraseIdx n)
  | [], [], n, .nil => by cases n <;> exact .nil
  | _ :: _, _ :: _, 0, .cons h hs => hs
  | _ :: _, _ :: _, n + 1, .cons h hs => .cons h (DVs.erase n hs)
end
end NL
/-! ### the data layer: several names at once, some of them owned -/
namespace NL
noncomputable section
open PySem L2
section
variable {X : Cx} {G : Gm} {m m' : Bool} {O O1 O2 O' Ol : List Nat} {E : XK} {e tg : Expr} {es : List Expr} {F F1 F2 : Ex} {Fs : Exs}
variable {φ : Fr} {σ σ2 : L2.St} {B H B' H' H0 : Hp} {ρ ρ2 : Env} {S S' : SrcT} {st : Stmt}
theorem New.go {a : Addr} {o : HO} {d : NL.D} (n : New G φ O σ false B H S a o d) (g : Go φ B H B' H') (sub : Same B' H') (hv0 : G.v = false) (hv1 : φ.v = false) : New G φ O σ false B' H' S' a o d := by
  have at2 : H' a = some o := by
    have := g.h hv1 a o (by rw [hideP_at n.np]; exact n.at')
    rw [hideP_at n.np] at this; exact this
  have dat2 : DO G φ.p B o d := n.dat
  refine ⟨at2, ?_, n.n0, n.np, n.dis, DO.same g.b dat2, fun hv => by rw [hv0] at hv; cases hv⟩
  cases hb : B' a with
  | none => rfl
  | some o' =>
    have e : o' = o := by have := sub a o' hb; rw [at2] at this; exact (Option.some.inj this).symm
    subst e
    rcases g.n a o' hb dat2.mut with q | q
    · rw [n.nB] at q; cases q
    · rw [n.at'] at q; cases q
/-- values, some of them new -/
inductive MX (G : Gm) (φ : Fr) (O : List Nat) (σ : L2.St) (B H H0 : Hp) : List Bool → List V → List NL.D → List Addr → Prop
  | nil : MX G φ O σ B H H0 [] [] [] []
  | old {v : V} {d : NL.D} {ks : List Bool} {vs : List V} {ds : List NL.D} {as : List Addr} : DV G φ.p B v d → MX G φ O σ B H H0 ks vs ds as → MX G φ O σ B H H0 (false :: ks) (v :: vs) (d :: ds) as
  | new {a : Addr} {o : HO} {d : NL.D} {ks : List Bool} {vs : List V} {ds : List NL.D} {as : List Addr} {S : SrcT} : New G φ O σ false B H S a o d → H0 a = none → a ∉ as → MX G φ O σ B H H0 ks vs ds as → MX G φ O σ B H H0 (true :: ks) (.ref a :: vs) (d :: ds) (a :: as)
theorem MX.go {ks : List Bool} {vs : List V} {ds : List NL.D} {as : List Addr} (x : MX G φ O σ B H H0 ks vs ds as) (g : Go φ B H B' H') (sub : Same B' H') (hv0 : G.v = false) (hv1 : φ.v = false) : MX G φ O σ B' H' H0 ks vs ds as := by
  induction x with
  | nil => exact .nil
  | old hd _ ih => exact .old (hd.same g.b) ih
  | new n h0 hn _ ih => exact .new (S := ⟨0, 0, 0, fun _ => none⟩) (n.go g sub hv0 hv1) h0 hn ih
theorem MX.start {H1 : Hp} {ks : List Bool} {vs : List V} {ds : List NL.D} {as : List Addr} (x : MX G φ O σ B H H0 ks vs ds as) (g : ∀ a, H0 a = none → H1 a = none) : MX G φ O σ B H H1 ks vs ds as := by
  induction x with
  | nil => exact .nil
  | old hd _ ih => exact .old hd ih
  | new n h0 hn _ ih => exact .new n (g _ h0) hn ih
theorem MX.free {ks : List Bool} {vs : List V} {ds : List NL.D} {as : List Addr} (x : MX G φ O σ B H H0 ks vs ds as) : ∀ a ∈ as, H0 a = none := by
  induction x with
  | nil => exact fun a h => nomatch h
  | old hd _ ih => exact ih
  | new n h0 hn _ ih =>
    intro a h
    rcases List.mem_cons.mp h with h | h
    · rw [h]; exact h0
    · exact ih a h
theorem MX.len {ks : List Bool} {vs : List V} {ds : List NL.D} {as : List Addr} (x : MX G φ O σ B H H0 ks vs ds as) : vs.length = ks.length ∧ ds.length = ks.length := by
  induction x with
  | nil => exact ⟨rfl, rfl⟩
  | old hd _ ih => exact ⟨congrArg Nat.succ ih.1, congrArg Nat.succ ih.2⟩
  | new n h0 hn _ ih => exact ⟨congrArg Nat.succ ih.1, congrArg Nat.succ ih.2⟩
def PgM (G : Gm) (φ : Fr) (O : List Nat) (E : XK) (σ : L2.St) (ρ : Env) (B H : Hp) (ks : List Bool) (r : Rs (List NL.D)) (Q : List V → Hp → Prop) : Prop := match r with
  | .bad => False
  | .exc c d S => XP G φ E B H c d S
  | .ok ds S' => ∀ vs as B' H', Go φ B H B' H' → Rep G φ O σ B' H' ρ S' → MX G φ O σ B' H' H ks vs ds as → Q vs H'
  | .all p k => ∀ x, p x → PgM G φ O E σ ρ B H ks (k x) Q
theorem PgM.go {B1 H1 : Hp} {ks : List Bool} {r : Rs (List NL.D)} {Q : List V → Hp → Prop} (g : Go φ B H B1 H1) (h : PgM G φ O E σ ρ B H ks r Q) : PgM G φ O E σ ρ B1 H1 ks r Q := by
  induction r with
  | bad => exact h
  | exc c d S => exact XP.go g h
  | ok ds S => exact fun vs as B' H' g2 R x => h vs as B' H' (g.trans g2) R (x.start g.d)
  | all p k ih => exact fun x px => ih x (h x px)
/-! the stores -/
def setsE : List Nat → List NL.D → Env → Env
  | i :: is, d :: ds, ρ => setsE is ds (ρ.set i (some d))
  | _, _, ρ => ρ
def mulS (is : List Nat) (Fs : Exs) : Sx := fun ρ S => (Fs ρ S).bind fun ds S1 => if (is.all fun i => decide (i < ρ.length)) = true then .ok (.nx, setsE is ds ρ) S1 else .bad
end
end
end NL
/-! ### the data layer: a def that gives a new list and a number; the caller owns the list -/
namespace NL
noncomputable section
open PySem L2
section
variable {X : Cx} {G : Gm} {m m' : Bool} {O O1 O2 O' Ol : List Nat} {E : XK} {e tg : Expr} {es : List Expr} {F F1 F2 : Ex} {Fs : Exs}
variable {φ : Fr} {σ σ2 : L2.St} {B H B' H' H0 : Hp} {ρ ρ2 : Env} {S S' : SrcT} {st : Stmt} {sts rest : List Stmt} {A A1 A2 : Sx}
def PostF (G : Gm) (φ : Fr) (E : XK) (D : Ends) (B : Hp) (r : Rs (Fl × Env)) : Prop := match r with
  | .bad => False
  | .exc c d S => XS G φ E B c d S
  | .ok (.ret (.tup [.lst es, .int k]), _) S => ∀ t a xs B' H', Same B B' → Rep G φ [] [] B' H' [] S → H' t = some (.tup [.ref a, .int k]) → H' a = some (.lst xs) → B' a = none → φ.H0 a = none → φ.p ≠ some a → DVs G φ.p B' xs es → D.rt (.ref t) H'
  | .all p k => ∀ x, p x → PostF G φ E D B (k x)
  | _ => False
theorem PostF.same {D : Ends} {r : Rs (Fl × Env)} (s : Same B B') (h : PostF G φ E D B r) : PostF G φ E D B' r := by
  induction r with
  | bad => exact h
  | exc c d S => exact fun B2 H2 cv od s2 => h B2 H2 cv od (s.trans s2)
  | all p k ih => exact fun x px => ih x (h x px)
  | ok q S =>
    unfold PostF at h ⊢
    split at h
    · exact h
    · rename_i e; cases e
    · exact fun t a xs B2 H2 s2 => h t a xs B2 H2 (s.trans s2)
    · rename_i e; cases e
    · exact h.elim
def freS (i j : Nat) (f : List NL.D → SrcT → Rs NL.D) (Fs : Exs) : Sx := fun ρ S => (Fs ρ S).bind fun ds S1 => (f ds S1).bind fun d S2 => match d with
  | .tup [.lst es, .int k] => if (decide (i < ρ.length) && decide (j < ρ.length)) = true then .ok (.nx, (ρ.set i (some (.lst es))).set j (some (.int k))) S2 else .bad
  | _ => .bad
end
end
end NL
/-! ### zip of a list and a tuple -/
namespace NL
noncomputable section
open PySem L2 PySem.Spec PyProof.Rows
def zipMF (Fs : Exs) : Exs := fun ρ S => (Fs ρ S).bind fun ds S1 => match ds with
  | [.lst a, .tup b] => .ok (zipD a b) S1
  | _ => .bad
end
end NL
/-! ### x == y, x != y by a class's own __eq__, y of any type -/
namespace NL
noncomputable section
open PySem L2 PySem.Spec PyProof.Rows
/-! the data layer -/
def isLoopK : D → Bool
  | .loop _ _ => true
  | _ => false
/-- data of a built-in type -/
def baseK : D → Bool
  | .non => true
  | .bl _ => true
  | .int _ => true
  | .str _ => true
  | .lst _ => true
  | .tup _ => true
  | .dct _ => true
  | .dcT _ => true
  | _ => false
/-- p tells the data that stand for instances of the class at C -/
def InsK (G : Gm) (C : Addr) (p : D → Bool) : Prop := ∀ {q : Option Addr} {B : Hp} {v : V} {d : D}, DV G q B v d → p d = true → ∃ a dx fs, v = .ref a ∧ B a = some (.ins C dx fs)
theorem insLoop {G : Gm} : InsK G G.cl isLoopK := fun h hp => by
  cases h with
  | loop h => obtain ⟨dx, ra, rd, rt, tab, h1, _⟩ := h; exact ⟨_, _, _, rfl, h1⟩
  | _ => cases hp
section
variable {X : Cx} {G : Gm} {m : Bool} {O : List Nat} {E E' : XK} {e : Expr} {es : List Expr} {F F1 F2 : Ex} {Fs : Exs} {C : Addr} {p : D → Bool}
def eqOF (neg : Bool) (p : D → Bool) (f : List D → SrcT → Rs D) (F1 F2 : Ex) : Ex := fun ρ S => (F1 ρ S).bind fun d1 S1 => (F2 ρ S1).bind fun d2 S2 => if (p d1 && (p d2 || baseK d2)) = true then (noX (f [d1, d2] S2)).bind fun r S3 => match r with
    | .bl b => .ok (.bl (if neg then !b else b)) S3
    | _ => .bad
  else .bad
def lenOF (p : D → Bool) (f : List D → SrcT → Rs D) (F : Ex) : Ex := fun ρ S => (F ρ S).bind fun d S1 => if p d = true then (noX (f [d] S1)).bind fun r S2 => match r with
    | .int i => if (decide (0 ≤ i) && okR i) = true then .ok (.int i) S2 else .bad
    | _ => .bad
  else .bad
end
end
end NL
/-! ### enumerate(xs, start=k), xs a list -/
namespace NL
noncomputable section
open PySem L2 PySem.Spec PyProof.Rows
/-! data -/
def enumKD (k : Int) (ds : List D) : List D := (List.range ds.length).zipWith (fun (i : Nat) d => D.tup [.int (k + (i : Int)), d]) ds
def enumKF (k : Int) (Fs : Exs) : Exs := fun ρ S => (Fs ρ S).bind fun ds S1 => match ds with
  | [.lst ds] => .ok (enumKD k ds) S1
  | _ => .bad
end
end NL
/-! ### the data layer: texts cut, classmethods -/
namespace NL
noncomputable section
open PySem L2 ClX
def splitF (F1 F2 : Ex) : Ex := fun ρ S => (F1 ρ S).bind fun d1 S1 => match d1 with
  | .str a => (F2 ρ S1).bind fun d2 S2 => match d2 with
    | .str b => if (!(b.length == 0) && decide (a.length ≤ 100000)) = true then .ok (.lst ((Txt.split a b).map D.str)) S2 else .bad
    | _ => .bad
  | _ => .bad
def partF (F1 F2 : Ex) : Ex := fun ρ S => (F1 ρ S).bind fun d1 S1 => match d1 with
  | .str a => (F2 ρ S1).bind fun d2 S2 => match d2 with
    | .str b => if (!(b.length == 0) && decide (a.length ≤ 100000)) = true then .ok (.tup [.str (Txt.partition a b).1, .str (Txt.partition a b).2.1, .str (Txt.partition a b).2.2]) S2 else .bad
    | _ => .bad
  | _ => .bad
section
variable {X : Cx} {G : Gm} {m m' : Bool} {O O' Ol : List Nat} {E : XK} {e tg : Expr} {es : List Expr} {F F1 F2 : Ex} {Fs : Exs}
/-! what the old layer promised -/
theorem Rep.more {φ : Fr} {σ : L2.St} {B H H' : Hp} {ρ : Env} {S : SrcT} (R : Rep G φ O σ B H ρ S) (sm : Same H H') : Go φ B H B H' ∧ Rep G φ O σ B H' ρ S := by
  have gd : ∀ a, H' a = none → H a = none := fun a h => by
    cases k : H a with
    | none => rfl
    | some x => rw [sm a x k] at h; cases h
  refine ⟨⟨Same.refl _, fun _ c x h => ?_, fun a o h _ => .inl h, gd⟩, ⟨R.sub.trans sm, fun a o hp hm h => sm _ _ (R.fr a o hp hm h), R.cl, fun q hq => ⟨(R.src q hq).1, sm _ _ (R.src q hq).2.1, (R.src q hq).2.2⟩, R.b0, R.len, R.val, fun i hi => ?_, R.dis, fun a h => R.al a (gd a h), fun hv b c hc => ?_, R.vv, R.nov⟩⟩
  · unfold hideP at h ⊢
    split at h
    · cases h
    · rename_i e
      rw [if_neg e]; exact sm _ _ h
  · obtain ⟨a, o, d, h1, h2, h3, h4, h5, h6, h7⟩ := R.own i hi
    exact ⟨a, o, d, h1, h2, sm _ _ h3, h4, h5, h6, h7⟩
  · obtain ⟨h1, h2, h3, h4⟩ := R.mem hv b c hc
    exact ⟨h1.move (Same.refl _) fun o h => sm _ _ h, h2, h3, h4⟩
def f_states_of : List D → SrcT → Rs D := fun ds S => match ds with
  | [.lst rds] => match rulesD rds with
    | some rs => if rs.length ≤ 1000 then .ok (.lst ((statesR rs).map D.str)) S else .bad
    | none => .bad
  | _ => .bad
def f_is_name : List D → SrcT → Rs D := fun ds S => match ds with
  | [.str z] => if z.length ≤ 10000 then .ok (.bl (isNameB z)) S else .bad
  | _ => .bad
open Classical in
noncomputable def f_invalid_rule : List D → SrcT → Rs D := fun ds S => match ds with
  | [.lst rds] => match rulesD rds with
    | some rs => if wfRules rs ∧ ∀ r ∈ rs, r.gs.length ≤ 100 then .ok (.int 0) S else .bad
    | none => .bad
  | _ => .bad
/-! the class's own call, C.m(..) and cls(..) -/
def callC (f : List D → SrcT → Rs D) (Fs : Exs) : Ex := fun ρ S => (Fs ρ S).bind fun ds S1 => f (.cls :: ds) S1
def callL (F0 : Ex) (f : List D → SrcT → Rs D) (Fs : Exs) : Ex := fun ρ S => (F0 ρ S).bind fun d S1 => match d with
  | .cls => (Fs ρ S1).bind f
  | _ => .bad
/-! a dict and {} -/
/-! a sign in a text -/
end
end
end NL
/-! ### what a plain function of the data layer gives -/
namespace NL
noncomputable section
open PySem L2
section
variable {α β : Type} {P : α → SrcT → Prop} {Q : β → SrcT → Prop} {S : SrcT}
theorem sat_bind {r : Rs β} {k : β → SrcT → Rs α} : (r.bind k).sat P ↔ r.sat fun b S => (k b S).sat P := by
  induction r with
  | all p f ih => exact ⟨fun h x px => (ih x).mp (h x px), fun h x px => (ih x).mpr (h x px)⟩
  | _ => exact Iff.rfl
theorem Rs.sat.mono {r : Rs α} {P' : α → SrcT → Prop} (h : r.sat P) (hp : ∀ a S, P a S → P' a S) : r.sat P' := by
  induction r with
  | ok a S => exact hp a S h
  | bad => exact h
  | exc _ _ _ => exact h
  | all p f ih => exact fun x px => ih x (h x px)
end
theorem draw_sat {P : D → SrcT → Prop} {S : SrcT} {m : Int} (h0 : 0 < m) (h1 : m < 1000000) (hc : S.c ≤ 990000) (h : ∀ r S', 0 ≤ r → r < m → S'.c = S.c + 1 → P (.int r) S') : (f__law_draw [.src, .int m] S).sat P := by
  obtain ⟨r, S', e, r0, r1, c1⟩ := draw_ok h0 h1 hc
  rw [e]; exact h r S' r0 r1 c1
theorem atI_ex {α : Type} {xs : List α} {r : Int} (h0 : 0 ≤ r) (h1 : r < (xs.length : Int)) : ∃ v, atI xs r = some v ∧ v ∈ xs := atI_mem h0 h1
/-! a list is walked -/
theorem for_sat {g : Tgt} {A : Sx} {P : Fl × Env → SrcT → Prop} (I : Nat → Env → SrcT → Prop) {ds : List D}
    (hs : ∀ i d ρ S, ds[i]? = some d → I i ρ S → ∃ ρ1, g d ρ = some ρ1 ∧ (A ρ1 S).sat fun r S' => match r with
      | (.nx, ρ2) => I (i + 1) ρ2 S'
      | (.cont, ρ2) => I (i + 1) ρ2 S'
      | (.brk, ρ2) => P (.nx, ρ2) S'
      | (.ret d, ρ2) => P (.ret d, ρ2) S')
    (he : ∀ ρ S, I ds.length ρ S → P (.nx, ρ) S) {ρ : Env} {S : SrcT} (h0 : I 0 ρ S) : (forGo g A ds ρ S).sat P := by
  have key : ∀ (n i : Nat) (ρ : Env) (S : SrcT), i + n = ds.length → I i ρ S → (forGo g A (ds.drop i) ρ S).sat P := by
    intro n
    induction n with
    | zero =>
      intro i ρ S hi h
      rw [List.drop_eq_nil_of_le (by omega)]
      have : i = ds.length := by omega
      subst this
      exact he ρ S h
    | succ n ih =>
      intro i ρ S hi h
      have hlt : i < ds.length := by omega
      rw [List.drop_eq_getElem_cons hlt, forGo]
      obtain ⟨ρ1, e1, h1⟩ := hs i ds[i] ρ S (List.getElem?_eq_getElem hlt) h
      rw [e1]
      dsimp only
      rw [sat_bind]
      refine h1.mono fun r S' hr => ?_
      match r, hr with
      | (.nx, ρ2), hr => exact ih (i + 1) ρ2 S' (by omega) hr
      | (.cont, ρ2), hr => exact ih (i + 1) ρ2 S' (by omega) hr
      | (.brk, ρ2), hr => exact hr
      | (.ret d, ρ2), hr => exact hr
  simpa using key ds.length 0 ρ S (by omega) h0
/-- a comprehension without a test -/
theorem lc_sat {g : Tgt} {c : Tst} {Fe : Ex} {ρ : Env} {P : List D → SrcT → Prop} (I : Nat → List D → SrcT → Prop) {ds : List D}
    (hs : ∀ i d acc S, ds[i]? = some d → I i acc S → ∃ ρ1, g d ρ = some ρ1 ∧ (c ρ1 S).sat fun b S1 => if b = true then (Fe ρ1 S1).sat fun y S2 => I (i + 1) (acc ++ [y]) S2 else I (i + 1) acc S1)
    (he : ∀ acc S, I ds.length acc S → P acc S) {S : SrcT} (h0 : I 0 [] S) : (lcGo g c Fe ρ ds S).sat P := by
  have key : ∀ (n i : Nat) (acc : List D) (S : SrcT), i + n = ds.length → I i acc S → (lcGo g c Fe ρ (ds.drop i) S).sat fun ys S' => P (acc ++ ys) S' := by
    intro n
    induction n with
    | zero =>
      intro i acc S hi h
      rw [List.drop_eq_nil_of_le (by omega)]
      have : i = ds.length := by omega
      subst this
      show P (acc ++ []) S
      rw [List.append_nil]; exact he acc S h
    | succ n ih =>
      intro i acc S hi h
      have hlt : i < ds.length := by omega
      rw [List.drop_eq_getElem_cons hlt, lcGo]
      obtain ⟨ρ1, e1, h1⟩ := hs i ds[i] acc S (List.getElem?_eq_getElem hlt) h
      rw [e1]
      dsimp only
      rw [sat_bind]
      refine h1.mono fun b S1 hb => ?_
      cases b with
      | false => exact ih (i + 1) acc S1 (by omega) hb
      | true =>
        simp only [if_true] at hb ⊢
        rw [sat_bind]
        refine hb.mono fun y S2 hy => ?_
        rw [sat_bind]
        refine (ih (i + 1) (acc ++ [y]) S2 (by omega) hy).mono fun ys S3 hq => ?_
        show P (acc ++ y :: ys) S3
        simpa using hq
  simpa using key ds.length 0 [] S (by omega) h0
/-! one step -/
section
variable {ρ : Env} {S : SrcT} {F F1 F2 F3 : Ex} {Fs : Exs} {L U : Exo} {A A1 A2 : Sx} {c c1 c2 : Tst} {i j n N : Nat} {P : D → SrcT → Prop} {Ps : List D → SrcT → Prop} {PS : Fl × Env → SrcT → Prop} {Pb : Bool → SrcT → Prop}
theorem fnF_sat {ds : List D} (hl : ds.length = n) (h : (A (ds.map some ++ List.replicate (N - n) none) S).sat fun r S' => match r with
  | (.ret d, _) => P d S'
  | (.nx, _) => P .non S'
  | _ => False) : (fnF n N A ds S).sat P := by
  unfold fnF
  rw [if_pos hl, sat_bind]
  refine h.mono fun r S' hr => ?_
  match r, hr with
  | (.ret d, _), hr => exact hr
  | (.nx, _), hr => exact hr
theorem seqS_sat (h : (A1 ρ S).sat fun r S1 => match r with
  | (.nx, ρ1) => (A2 ρ1 S1).sat PS
  | r => PS r S1) : (seqS A1 A2 ρ S).sat PS := by
  unfold seqS
  rw [sat_bind]
  refine h.mono fun r S' hr => ?_
  match r, hr with
  | (.ret d, _), hr => exact hr
  | (.nx, _), hr => exact hr
  | (.brk, _), hr => exact hr
  | (.cont, _), hr => exact hr
theorem nilS_sat (h : PS (.nx, ρ) S) : (nilS ρ S).sat PS := h
theorem brkS_sat (h : PS (.brk, ρ) S) : (brkS ρ S).sat PS := h
theorem contS_sat (h : PS (.cont, ρ) S) : (contS ρ S).sat PS := h
theorem setS_sat (h : (F ρ S).sat fun d S1 => PS (.nx, ρ.set i (some d)) S1) : (setS i F ρ S).sat PS := by unfold setS; rw [sat_bind]; exact h
theorem setN_sat (hi : i < ρ.length) (h : (F ρ S).sat fun d S1 => PS (.nx, ρ.set i (some d)) S1) : (setN i F ρ S).sat PS := by
  unfold setN; rw [sat_bind]
  refine h.mono fun d S1 hd => ?_
  rw [if_pos hi]; exact hd
theorem retS_sat (h : (F ρ S).sat fun d S1 => PS (.ret d, ρ) S1) : (retS F ρ S).sat PS := by unfold retS; rw [sat_bind]; exact h
theorem exprS_sat (h : (F ρ S).sat fun _ S1 => PS (.nx, ρ) S1) : (exprS F ρ S).sat PS := by unfold exprS; rw [sat_bind]; exact h
theorem asgS_sat {g : Tgt} (h : (F ρ S).sat fun d S1 => ∃ ρ', g d ρ = some ρ' ∧ PS (.nx, ρ') S1) : (asgS F g ρ S).sat PS := by
  unfold asgS; rw [sat_bind]
  refine h.mono fun d S1 ⟨ρ', e, hd⟩ => ?_
  rw [e]; exact hd
theorem parS_sat (h : (Fs ρ S).sat fun ds S1 => ∃ a b, ds = [a, b] ∧ PS (.nx, (ρ.set i (some a)).set j (some b)) S1) : (parS i j Fs ρ S).sat PS := by
  unfold parS; rw [sat_bind]
  refine h.mono fun ds S1 ⟨a, b, e, hd⟩ => ?_
  subst e; exact hd
theorem iteS_sat (h : (c ρ S).sat fun b S1 => if b = true then (A1 ρ S1).sat PS else (A2 ρ S1).sat PS) : (iteS c A1 A2 ρ S).sat PS := by
  unfold iteS; rw [sat_bind]
  refine h.mono fun b S1 hb => ?_
  cases b with
  | true => exact hb
  | false => exact hb
theorem appS_sat {ds : List D} (hi : ρ[i]? = some (some (.lst ds))) (hl : ds.length < 100000) (h : (F ρ S).sat fun d S1 => PS (.nx, ρ.set i (some (.lst (ds ++ [d])))) S1) : (appS i F ρ S).sat PS := by
  unfold appS; rw [hi]; dsimp only; rw [sat_bind]
  refine h.mono fun d S1 hd => ?_
  rw [if_pos hl]; exact hd
theorem insS_sat {ds : List D} (hi : ρ[i]? = some (some (.lst ds))) (hl : ds.length < 100000) (h : (Fs ρ S).sat fun as S1 => ∃ k d, as = [.int k, d] ∧ 0 ≤ k ∧ k ≤ 1000000 ∧ PS (.nx, ρ.set i (some (.lst (ds.take k.toNat ++ [d] ++ ds.drop k.toNat)))) S1) : (insS i Fs ρ S).sat PS := by
  unfold insS; rw [hi]; dsimp only; rw [sat_bind]
  refine h.mono fun as S1 ⟨k, d, e, h0, h1, hd⟩ => ?_
  subst e
  dsimp only
  rw [if_pos ⟨hl, h0, h1⟩]; exact hd
theorem putS_sat {es : List (Key × D)} (hi : ρ[i]? = some (some (.dct es))) (hl : es.length < 100000) (h : (F2 ρ S).sat fun v S1 => (F1 ρ S1).sat fun k S2 => ∃ kk, keyD k = some kk ∧ PS (.nx, ρ.set i (some (.dct (putE es kk v)))) S2) : (putS i F1 F2 ρ S).sat PS := by
  unfold putS; rw [hi]; dsimp only; rw [sat_bind]
  refine h.mono fun v S1 h1 => ?_
  rw [sat_bind]
  refine h1.mono fun k S2 ⟨kk, e, hd⟩ => ?_
  rw [e]; dsimp only; rw [if_pos hl]; exact hd
theorem forS_sat {FI : Exs} {g : Tgt} (h : (FI ρ S).sat fun ds S1 => (forGo g A ds ρ S1).sat PS) : (forS FI g A ρ S).sat PS := by unfold forS; rw [sat_bind]; exact h
theorem cF_sat {d : D} (h : P d S) : (cF d ρ S).sat P := h
theorem vF_sat {d : D} (hi : ρ[i]? = some (some d)) (h : P d S) : (vF i ρ S).sat P := by unfold vF; rw [hi]; exact h
theorem nilF_sat (h : Ps [] S) : (nilF ρ S).sat Ps := h
theorem consF_sat (h : (F ρ S).sat fun d S1 => (Fs ρ S1).sat fun ds S2 => Ps (d :: ds) S2) : (consF F Fs ρ S).sat Ps := by
  unfold consF; rw [sat_bind]
  refine h.mono fun d S1 h1 => ?_
  rw [sat_bind]; exact h1
theorem scF_sat (h : (F ρ S).sat fun d S1 => isSc d = true ∧ P d S1) : (scF F ρ S).sat P := by
  unfold scF; rw [sat_bind]
  refine h.mono fun d S1 ⟨e, h1⟩ => ?_
  rw [if_pos e]; exact h1
theorem binF_sat {op : D → D → Option D} (h : (F1 ρ S).sat fun d1 S1 => (F2 ρ S1).sat fun d2 S2 => ∃ d, op d1 d2 = some d ∧ P d S2) : (binF op F1 F2 ρ S).sat P := by
  unfold binF; rw [sat_bind]
  refine h.mono fun d1 S1 h1 => ?_
  rw [sat_bind]
  refine h1.mono fun d2 S2 ⟨d, e, h2⟩ => ?_
  rw [e]; exact h2
theorem unF_sat {op : D → Option D} (h : (F ρ S).sat fun d1 S1 => ∃ d, op d1 = some d ∧ P d S1) : (unF op F ρ S).sat P := by
  unfold unF; rw [sat_bind]
  refine h.mono fun d1 S1 ⟨d, e, h2⟩ => ?_
  rw [e]; exact h2
theorem argF_sat {f : List D → Option D} (h : (Fs ρ S).sat fun ds S1 => ∃ d, f ds = some d ∧ P d S1) : (argF f Fs ρ S).sat P := by
  unfold argF; rw [sat_bind]
  refine h.mono fun d1 S1 ⟨d, e, h2⟩ => ?_
  rw [e]; exact h2
theorem lstF_sat (h : (Fs ρ S).sat fun ds S1 => P (.lst ds) S1) : (lstF Fs ρ S).sat P := by unfold lstF; rw [sat_bind]; exact h
theorem tupF_sat (h : (Fs ρ S).sat fun ds S1 => P (.tup ds) S1) : (tupF Fs ρ S).sat P := by unfold tupF; rw [sat_bind]; exact h
theorem callF_sat {f : List D → SrcT → Rs D} (h : (Fs ρ S).sat fun ds S1 => (f ds S1).sat P) : (callF f Fs ρ S).sat P := by unfold callF; rw [sat_bind]; exact h
theorem callN_sat {f : List D → SrcT → Rs D} (h : (Fs ρ S).sat fun ds S1 => (f ds S1).sat P) : (callN f Fs ρ S).sat P := by
  unfold callN; rw [sat_bind]
  refine h.mono fun ds S1 h1 => ?_
  generalize f ds S1 = r at h1
  induction r with
  | ok a S => exact h1
  | bad => exact h1
  | exc _ _ _ => exact h1
  | all p f ih => exact fun x px => ih x (h1 x px)
theorem iteF_sat (h : (c ρ S).sat fun b S1 => if b = true then (F1 ρ S1).sat P else (F2 ρ S1).sat P) : (iteF c F1 F2 ρ S).sat P := by
  unfold iteF; rw [sat_bind]
  refine h.mono fun b S1 hb => ?_
  cases b with
  | true => exact hb
  | false => exact hb
theorem idxOF_sat {cc : D} (hi : ρ[i]? = some (some cc)) (h : (F ρ S).sat fun d S1 => ∃ r, idxD cc d = some r ∧ P r S1) : (idxOF i F ρ S).sat P := by
  unfold idxOF; rw [sat_bind]
  refine h.mono fun d S1 ⟨r, e, h1⟩ => ?_
  rw [hi]; dsimp only; rw [e]; exact h1
theorem andF_sat (h : (F1 ρ S).sat fun d S1 => ∃ b, d = .bl b ∧ if b = true then (F2 ρ S1).sat P else P (.bl false) S1) : (andF F1 F2 ρ S).sat P := by
  unfold andF; rw [sat_bind]
  refine h.mono fun d S1 ⟨b, e, h1⟩ => ?_
  subst e
  cases b with
  | true => exact h1
  | false => exact h1
theorem orF_sat (h : (F1 ρ S).sat fun d S1 => ∃ b, d = .bl b ∧ if b = true then P (.bl true) S1 else (F2 ρ S1).sat P) : (orF F1 F2 ρ S).sat P := by
  unfold orF; rw [sat_bind]
  refine h.mono fun d S1 ⟨b, e, h1⟩ => ?_
  subst e
  cases b with
  | true => exact h1
  | false => exact h1
theorem tstF_sat (h : (F ρ S).sat fun d S1 => ∃ b, truD d = some b ∧ Pb b S1) : (tstF F ρ S).sat Pb := by
  unfold tstF; rw [sat_bind]
  refine h.mono fun d S1 ⟨b, e, h1⟩ => ?_
  rw [e]; exact h1
theorem blT_sat (h : (F ρ S).sat fun d S1 => ∃ b, d = .bl b ∧ Pb b S1) : (blT F ρ S).sat Pb := by
  unfold blT; rw [sat_bind]
  refine h.mono fun d S1 ⟨b, e, h1⟩ => ?_
  subst e; exact h1
theorem andT_sat (h : (c1 ρ S).sat fun b S1 => if b = true then (c2 ρ S1).sat Pb else Pb false S1) : (andT c1 c2 ρ S).sat Pb := by
  unfold andT; rw [sat_bind]
  refine h.mono fun b S1 h1 => ?_
  cases b with
  | true => exact h1
  | false => exact h1
theorem orT_sat (h : (c1 ρ S).sat fun b S1 => if b = true then Pb true S1 else (c2 ρ S1).sat Pb) : (orT c1 c2 ρ S).sat Pb := by
  unfold orT; rw [sat_bind]
  refine h.mono fun b S1 h1 => ?_
  cases b with
  | true => exact h1
  | false => exact h1
theorem notT_sat (h : (c ρ S).sat fun b S1 => Pb (!b) S1) : (notT c ρ S).sat Pb := by unfold notT; rw [sat_bind]; exact h
theorem yesT_sat (h : Pb true S) : (yesT ρ S).sat Pb := h
theorem chF_sat {op op' : D → D → Option D} (h : (F1 ρ S).sat fun d1 S1 => (F2 ρ S1).sat fun d2 S2 => ∃ b, op d1 d2 = some (.bl b) ∧ if b = true then (F3 ρ S2).sat fun d3 S3 => ∃ d, op' d2 d3 = some d ∧ P d S3 else P (.bl false) S2) : (chF op op' F1 F2 F3 ρ S).sat P := by
  unfold chF; rw [sat_bind]
  refine h.mono fun d1 S1 h1 => ?_
  rw [sat_bind]
  refine h1.mono fun d2 S2 ⟨b, e, h2⟩ => ?_
  rw [e]
  cases b with
  | true =>
    dsimp only
    rw [sat_bind]
    refine h2.mono fun d3 S3 ⟨d, e2, h3⟩ => ?_
    rw [e2]; exact h3
  | false => exact h2
theorem noF_sat {Po : Option Int → SrcT → Prop} (h : Po none S) : (noF ρ S).sat Po := h
theorem someF_sat {Po : Option Int → SrcT → Prop} (h : (F ρ S).sat fun d S1 => ∃ k, d = .int k ∧ Po (some k) S1) : (someF F ρ S).sat Po := by
  unfold someF; rw [sat_bind]
  refine h.mono fun d S1 ⟨k, e, h1⟩ => ?_
  subst e; exact h1
theorem slF_sat (h : (F ρ S).sat fun d S1 => (L ρ S1).sat fun lo S2 => (U ρ S2).sat fun hi S3 => ∃ r, sliceD d lo hi = some r ∧ P r S3) : (slF F L U ρ S).sat P := by
  unfold slF; rw [sat_bind]
  refine h.mono fun d S1 h1 => ?_
  rw [sat_bind]
  refine h1.mono fun lo S2 h2 => ?_
  rw [sat_bind]
  refine h2.mono fun hi S3 ⟨r, e, h3⟩ => ?_
  rw [e]; exact h3
theorem lcF_sat {is : List Nat} {FI : Exs} {g : Tgt} {Fe : Ex} (h : (FI ρ S).sat fun ds S1 => ds.length ≤ 100000 ∧ (lcGo g c Fe (wipeE ρ is) ds S1).sat fun ys S2 => P (.lst ys) S2) : (lcF is FI g c Fe ρ S).sat P := by
  unfold lcF; rw [sat_bind]
  refine h.mono fun ds S1 ⟨hl, h1⟩ => ?_
  rw [if_pos hl, sat_bind]; exact h1
theorem seqF_sat (h : (F ρ S).sat fun d S1 => ∃ ds, seqD d = some ds ∧ Ps ds S1) : (seqF F ρ S).sat Ps := by
  unfold seqF; rw [sat_bind]
  refine h.mono fun d S1 ⟨ds, e, h1⟩ => ?_
  rw [e]; exact h1
theorem rng1F_sat (h : (Fs ρ S).sat fun ds S1 => ∃ k, ds = [.int k] ∧ okR k = true ∧ Ps (rngD 0 k.toNat) S1) : (rng1F Fs ρ S).sat Ps := by
  unfold rng1F; rw [sat_bind]
  refine h.mono fun d S1 ⟨k, e, hk, h1⟩ => ?_
  subst e; dsimp only; rw [if_pos hk]; exact h1
theorem rng2F_sat (h : (Fs ρ S).sat fun ds S1 => ∃ i k, ds = [.int i, .int k] ∧ okR i = true ∧ okR k = true ∧ Ps (rngD i (k - i).toNat) S1) : (rng2F Fs ρ S).sat Ps := by
  unfold rng2F; rw [sat_bind]
  refine h.mono fun d S1 ⟨i, k, e, hi, hk, h1⟩ => ?_
  subst e; dsimp only; rw [if_pos (by rw [hi, hk]; rfl)]; exact h1
theorem strF_sat (h : (F ρ S).sat fun d S1 => ∃ z, d = .str z ∧ Ps (signsD z) S1) : (strF F ρ S).sat Ps := by
  unfold strF; rw [sat_bind]
  refine h.mono fun d S1 ⟨z, e, h1⟩ => ?_
  subst e; exact h1
theorem zipF_sat (h : (Fs ρ S).sat fun ds S1 => ∃ a b, ds = [.lst a, .lst b] ∧ Ps (zipD a b) S1) : (zipF Fs ρ S).sat Ps := by
  unfold zipF; rw [sat_bind]
  refine h.mono fun d S1 ⟨a, b, e, h1⟩ => ?_
  subst e; exact h1
theorem enumF_sat (h : (Fs ρ S).sat fun ds S1 => ∃ a, ds = [.lst a] ∧ Ps (enumD a) S1) : (enumF Fs ρ S).sat Ps := by
  unfold enumF; rw [sat_bind]
  refine h.mono fun d S1 ⟨a, e, h1⟩ => ?_
  subst e; exact h1
theorem get2F_sat (h : (F1 ρ S).sat fun c S1 => ∃ es, c = .dct es ∧ (F2 ρ S1).sat fun k S2 => (F3 ρ S2).sat fun x S3 => ∃ kk, keyD k = some kk ∧ P ((valE es kk).getD x) S3) : (get2F F1 F2 F3 ρ S).sat P := by
  unfold get2F; rw [sat_bind]
  refine h.mono fun c S1 ⟨es, e, h1⟩ => ?_
  subst e; dsimp only; rw [sat_bind]
  refine h1.mono fun k S2 h2 => ?_
  rw [sat_bind]
  refine h2.mono fun x S3 ⟨kk, e, h3⟩ => ?_
  rw [e]; exact h3
end
theorem okR_of {k : Int} (h0 : -1000000000000 ≤ k) (h1 : k ≤ 1000000000000) : okR k = true := by unfold okR; simp [h0, h1]
theorem okI_of {k : Int} (h0 : -1000000000000000000000000000000000000000000000000000000000000 ≤ k) (h1 : k ≤ 1000000000000000000000000000000000000000000000000000000000000) : okI k = true := by unfold okI; simp [h0, h1]
theorem rngD_len (lo : Int) (n : Nat) : (rngD lo n).length = n := by unfold rngD; simp
theorem rngD_at {lo : Int} {n i : Nat} {d : D} (h : (rngD lo n)[i]? = some d) : i < n ∧ d = .int (lo + (i : Int)) := by
  have hi : i < n := by have := (List.getElem?_eq_some_iff.mp h).1; rw [rngD_len] at this; exact this
  rw [rngD_get lo n i hi] at h
  exact ⟨hi, (Option.some.inj h).symm⟩
theorem if_nt {A B : Prop} (h : B) : if (!true) = true then A else B := h
theorem if_f {A B : Prop} (h : B) : if false = true then A else B := h
theorem if_nf {A B : Prop} (h : A) : if (!false) = true then A else B := h
theorem if_t {A B : Prop} (h : A) : if true = true then A else B := h
/-- a comprehension that draws nothing -/
theorem lc_filtM {α : Type} {g : Tgt} {c : Tst} {Fe : Ex} {ρ : Env} {S : SrcT} {P : List D → SrcT → Prop} {xs : List α} {φ : α → D} (p : α → Bool) (f : α → D)
    (hs : ∀ x ∈ xs, ∃ ρ1, g (φ x) ρ = some ρ1 ∧ (c ρ1 S).sat (fun b S1 => b = p x ∧ S1 = S) ∧ (p x = true → (Fe ρ1 S).sat fun y S2 => y = f x ∧ S2 = S)) (hP : P ((xs.filter p).map f) S) : (lcGo g c Fe ρ (xs.map φ) S).sat P := by
  refine lc_sat (fun i acc S' => acc = ((xs.take i).filter p).map f ∧ S' = S) ?_ ?_ ⟨rfl, rfl⟩
  · rintro i d acc S1 hd ⟨rfl, rfl⟩
    rw [List.getElem?_map] at hd
    obtain ⟨x, hx, rfl⟩ := Option.map_eq_some_iff.mp hd
    obtain ⟨ρ1, h1, h2, h3⟩ := hs x (List.mem_of_getElem? hx)
    refine ⟨ρ1, h1, h2.mono ?_⟩
    rintro b S2 ⟨rfl, rfl⟩
    rw [take_snoc hx, List.filter_append]
    by_cases hp : p x = true
    · rw [if_pos hp]
      refine (h3 hp).mono ?_
      rintro y S3 ⟨rfl, rfl⟩
      refine ⟨?_, rfl⟩
      simp [List.filter, hp]
    · rw [if_neg hp]
      have hp : p x = false := by simpa using hp
      refine ⟨?_, rfl⟩
      simp [List.filter, hp]
  · rintro acc S1 ⟨rfl, rfl⟩
    rw [List.length_map, List.take_length]; exact hP
theorem lc_mapM {α : Type} {g : Tgt} {c : Tst} {Fe : Ex} {ρ : Env} {S : SrcT} {P : List D → SrcT → Prop} {xs : List α} {φ : α → D} (f : α → D)
    (hs : ∀ x ∈ xs, ∃ ρ1, g (φ x) ρ = some ρ1 ∧ (c ρ1 S).sat (fun b S1 => b = true ∧ S1 = S) ∧ (Fe ρ1 S).sat fun y S2 => y = f x ∧ S2 = S) (hP : P (xs.map f) S) : (lcGo g c Fe ρ (xs.map φ) S).sat P :=
  lc_filtM (fun _ => true) f (fun x hx => by
    obtain ⟨ρ1, h1, h2, h3⟩ := hs x hx
    exact ⟨ρ1, h1, h2, fun _ => h3⟩) (by rw [List.filter_eq_self.mpr (fun _ _ => rfl)]; exact hP)
end
end NL
/-! ### what a plain function gives: sets, dicts -/
namespace NL
noncomputable section
open PySem L2
section
variable {ρ : Env} {S : SrcT} {F F1 F2 F3 Fk Fv Fe : Ex} {Fs FI : Exs} {g : Tgt} {c : Tst} {is : List Nat} {i j n N : Nat} {P : D → SrcT → Prop} {Ps : List D → SrcT → Prop} {PS : Fl × Env → SrcT → Prop} {Pb : Bool → SrcT → Prop}
theorem zipMF_sat (h : (Fs ρ S).sat fun ds S1 => ∃ a b, ds = [.lst a, .tup b] ∧ Ps (zipD a b) S1) : (zipMF Fs ρ S).sat Ps := by
  unfold zipMF; rw [sat_bind]
  refine Rs.sat.mono h fun ds S1 ⟨a, b, e, h⟩ => ?_
  subst e; exact h
theorem freS_sat {f : List D → SrcT → Rs D} (hi : i < ρ.length) (hj : j < ρ.length) (h : (Fs ρ S).sat fun ds S1 => (f ds S1).sat fun d S2 => ∃ es k, d = .tup [.lst es, .int k] ∧ PS (.nx, (ρ.set i (some (.lst es))).set j (some (.int k))) S2) : (freS i j f Fs ρ S).sat PS := by
  unfold freS; rw [sat_bind]
  refine Rs.sat.mono h fun ds S1 h => ?_
  rw [sat_bind]
  refine Rs.sat.mono h fun d S2 h => ?_
  obtain ⟨es, k, rfl, h⟩ := h
  show Rs.sat (if _ then _ else _) _
  rw [if_pos (by rw [decide_eq_true hi, decide_eq_true hj]; rfl)]; exact h
theorem mulS_sat {ks : List Nat} (hr : (ks.all fun i => decide (i < ρ.length)) = true) (h : (Fs ρ S).sat fun ds S1 => PS (.nx, setsE ks ds ρ) S1) : (mulS ks Fs ρ S).sat PS := by
  unfold mulS; rw [sat_bind]
  refine Rs.sat.mono h fun ds S1 h => ?_
  rw [if_pos hr]; exact h
/-- x == y by an own __eq__ -/
def OkEq (p : D → Bool) (f : List D → SrcT → Rs D) (d1 d2 : D) (S : SrcT) (P : Bool → SrcT → Prop) : Prop := (p d1 && (p d2 || baseK d2)) = true ∧ (f [d1, d2] S).sat fun r S3 => ∃ b, r = .bl b ∧ P b S3
theorem OkEq.mk {p : D → Bool} {f : List D → SrcT → Rs D} {d1 d2 : D} {P : Bool → SrcT → Prop} (h : (p d1 && (p d2 || baseK d2)) = true) (h2 : (f [d1, d2] S).sat fun r S3 => ∃ b, r = .bl b ∧ P b S3) : OkEq p f d1 d2 S P := ⟨h, h2⟩
theorem eqOF_sat {neg : Bool} {p : D → Bool} {f : List D → SrcT → Rs D} (h : (F1 ρ S).sat fun d1 S1 => (F2 ρ S1).sat fun d2 S2 => OkEq p f d1 d2 S2 fun b S3 => P (.bl (if neg then !b else b)) S3) : (eqOF neg p f F1 F2 ρ S).sat P := by
  unfold eqOF; rw [sat_bind]
  refine Rs.sat.mono h fun d1 S1 h => ?_
  rw [sat_bind]
  refine Rs.sat.mono h fun d2 S2 h => ?_
  obtain ⟨h0, h⟩ := h
  rw [if_pos h0]
  generalize f [d1, d2] S2 = r at h ⊢
  induction r with
  | ok a S => obtain ⟨b, rfl, hP⟩ := h; exact hP
  | bad => exact h
  | exc _ _ _ => exact h
  | all p f ih => exact fun x px => ih x (h x px)
/-- len(x) by an own __len__ -/
def OkLen (p : D → Bool) (f : List D → SrcT → Rs D) (d : D) (S : SrcT) (P : Int → SrcT → Prop) : Prop := p d = true ∧ (f [d] S).sat fun r S2 => ∃ i : Int, r = .int i ∧ 0 ≤ i ∧ i < 1000000 ∧ P i S2
theorem OkLen.mk {p : D → Bool} {f : List D → SrcT → Rs D} {d : D} {P : Int → SrcT → Prop} (h : p d = true) (h2 : (f [d] S).sat fun r S2 => ∃ i : Int, r = .int i ∧ 0 ≤ i ∧ i < 1000000 ∧ P i S2) : OkLen p f d S P := ⟨h, h2⟩
theorem lenOF_sat {p : D → Bool} {f : List D → SrcT → Rs D} (h : (F ρ S).sat fun d S1 => OkLen p f d S1 fun i S2 => P (.int i) S2) : (lenOF p f F ρ S).sat P := by
  unfold lenOF; rw [sat_bind]
  refine Rs.sat.mono h fun d1 S1 h => ?_
  obtain ⟨h0, h⟩ := h
  rw [if_pos h0]
  generalize f [d1] S1 = r at h ⊢
  induction r with
  | ok a S =>
    obtain ⟨i, rfl, i0, i1, hP⟩ := h
    show Rs.sat (if (decide (0 ≤ i) && okR i) = true then _ else _) _
    rw [if_pos (by rw [decide_eq_true i0, okR_of (by omega) (by omega)]; rfl)]; exact hP
  | bad => exact h
  | exc _ _ _ => exact h
  | all p f ih => exact fun x px => ih x (h x px)
theorem splitF_sat (h : (F1 ρ S).sat fun d1 S1 => ∃ a, d1 = .str a ∧ (F2 ρ S1).sat fun d2 S2 => ∃ b, d2 = .str b ∧ (!(b.length == 0) && decide (a.length ≤ 100000)) = true ∧ P (.lst ((Txt.split a b).map D.str)) S2) : (splitF F1 F2 ρ S).sat P := by
  unfold splitF; rw [sat_bind]
  refine Rs.sat.mono h fun d1 S1 h => ?_
  obtain ⟨a, rfl, h⟩ := h
  show Rs.sat ((F2 ρ S1).bind _) P
  rw [sat_bind]
  refine Rs.sat.mono h fun d2 S2 h => ?_
  obtain ⟨b, rfl, hc, h⟩ := h
  show Rs.sat (if _ then _ else _) P
  rw [if_pos hc]; exact h
theorem partF_sat (h : (F1 ρ S).sat fun d1 S1 => ∃ a, d1 = .str a ∧ (F2 ρ S1).sat fun d2 S2 => ∃ b, d2 = .str b ∧ (!(b.length == 0) && decide (a.length ≤ 100000)) = true ∧ P (.tup [.str (Txt.partition a b).1, .str (Txt.partition a b).2.1, .str (Txt.partition a b).2.2]) S2) : (partF F1 F2 ρ S).sat P := by
  unfold partF; rw [sat_bind]
  refine Rs.sat.mono h fun d1 S1 h => ?_
  obtain ⟨a, rfl, h⟩ := h
  show Rs.sat ((F2 ρ S1).bind _) P
  rw [sat_bind]
  refine Rs.sat.mono h fun d2 S2 h => ?_
  obtain ⟨b, rfl, hc, h⟩ := h
  show Rs.sat (if _ then _ else _) P
  rw [if_pos hc]; exact h
theorem callC_sat {f : List D → SrcT → Rs D} (h : (Fs ρ S).sat fun ds S1 => (f (.cls :: ds) S1).sat P) : (callC f Fs ρ S).sat P := by unfold callC; rw [sat_bind]; exact h
theorem callL_sat {F0 : Ex} {f : List D → SrcT → Rs D} (h : (F0 ρ S).sat fun d S1 => d = .cls ∧ (Fs ρ S1).sat fun ds S2 => (f ds S2).sat P) : (callL F0 f Fs ρ S).sat P := by
  unfold callL; rw [sat_bind]
  refine Rs.sat.mono h fun d S1 h => ?_
  obtain ⟨rfl, h⟩ := h
  show Rs.sat ((Fs ρ S1).bind f) P
  rw [sat_bind]; exact h
theorem enumKF_sat {k : Int} (h : (Fs ρ S).sat fun ds S1 => ∃ a, ds = [.lst a] ∧ Ps (enumKD k a) S1) : (enumKF k Fs ρ S).sat Ps := by
  unfold enumKF; rw [sat_bind]
  refine Rs.sat.mono h fun d S1 ⟨a, e, h1⟩ => ?_
  subst e; exact h1
theorem setCF_sat (h : (FI ρ S).sat fun ds S1 => ds.length ≤ 4000 ∧ (scGo g c Fe (wipeE ρ is) ds S1).sat fun ys S2 => P (.set (ddI ys)) S2) : (setCF is FI g c Fe ρ S).sat P := by
  unfold setCF; rw [sat_bind]
  refine h.mono fun ds S1 ⟨h1, h2⟩ => ?_
  rw [if_pos h1, sat_bind]; exact h2
theorem dctCF_sat (h : (FI ρ S).sat fun ds S1 => ds.length ≤ 4000 ∧ (dcGo g c Fk Fv (wipeE ρ is) ds S1).sat fun ys S2 => P (.dct (putsE [] ys)) S2) : (dctCF is FI g c Fk Fv ρ S).sat P := by
  unfold dctCF; rw [sat_bind]
  refine h.mono fun ds S1 ⟨h1, h2⟩ => ?_
  rw [if_pos h1, sat_bind]; exact h2
theorem dgetF_sat (h : (F1 ρ S).sat fun cc S1 => ∃ es, cc = .dct es ∧ (F2 ρ S1).sat fun k S2 => ∃ kk d, keyD k = some kk ∧ valE es kk = some d ∧ P d S2) : (dgetF F1 F2 ρ S).sat P := by
  unfold dgetF; rw [sat_bind]
  refine h.mono fun cc S1 ⟨es, e, h2⟩ => ?_
  subst e
  dsimp only
  rw [sat_bind]
  refine h2.mono fun k S2 ⟨kk, d, e1, e2, hp⟩ => ?_
  rw [e1]; dsimp only; rw [e2]; exact hp
theorem extS_sat {ds : List D} (hi : ρ[i]? = some (some (.lst ds))) (h : (F ρ S).sat fun d S1 => ∃ es, d = .lst es ∧ ds.length + es.length ≤ 100000 ∧ PS (.nx, ρ.set i (some (.lst (ds ++ es)))) S1) : (extS i F ρ S).sat PS := by
  unfold extS; rw [hi]; dsimp only; rw [sat_bind]
  refine h.mono fun d S1 ⟨es, e, hl, hp⟩ => ?_
  subst e
  dsimp only
  rw [if_pos hl]; exact hp
theorem idxOfF_sat (h : (F1 ρ S).sat fun cc S1 => ∃ ds, cc = .lst ds ∧ (F2 ρ S1).sat fun x S2 => ∃ r, idxOfD (.lst ds) x = some r ∧ P r S2) : (idxOfF F1 F2 ρ S).sat P := by
  unfold idxOfF; rw [sat_bind]
  refine h.mono fun cc S1 ⟨ds, e, h2⟩ => ?_
  subst e
  dsimp only
  rw [sat_bind]
  refine h2.mono fun x S2 ⟨r, e1, hp⟩ => ?_
  rw [e1]; exact hp
theorem lstRgF_sat (h : (F ρ S).sat fun d S1 => ∃ k : Int, d = .int k ∧ 0 ≤ k ∧ k ≤ 100000 ∧ P (.lst (rngD 0 k.toNat)) S1) : (lstRgF F ρ S).sat P := by
  unfold lstRgF; rw [sat_bind]
  refine h.mono fun d S1 ⟨k, e, h1, h2, hp⟩ => ?_
  subst e
  dsimp only
  rw [if_pos ⟨h1, h2⟩]; exact hp
theorem popS_sat (h : (FI ρ S).sat fun ds S1 => ds.length ≤ 4000 ∧ (popGo g i F ds (wipeE ρ is) S1).sat fun ys S2 => PS (.ret (.lst ys), ρ) S2) : (popS is FI g i F ρ S).sat PS := by
  unfold popS; rw [sat_bind]
  refine h.mono fun ds S1 ⟨h1, h2⟩ => ?_
  rw [if_pos h1, sat_bind]; exact h2
end
end
end NL
/-! ### equal data, slices, loops and runs as data -/
namespace Law
open PySem L2 NL
/-- a rule as data -/
def rD (r : Rule) : D := .tup [.str r.st, .lst (r.gs.map .str), .str r.wd, .bl r.kp, .str r.nx]
/-! equal data, slices, loops, runs -/
def fineN (n : Nat) (d : D) : Prop := ∃ p, toP d = some p ∧ p.canLay0 = true ∧ p.depth ≤ n
theorem fineN.mono {n k : Nat} {d : D} (h : fineN n d) (hk : n ≤ k) : fineN k d := by
  obtain ⟨p, h1, h2, h3⟩ := h; exact ⟨p, h1, h2, Nat.le_trans h3 hk⟩
theorem fine_all {n : Nat} : ∀ {ds : List D}, (∀ d ∈ ds, fineN n d) → ∃ ps, toPs ds = some ps ∧ PyData.canLayAll0 ps = true ∧ PyData.depthAll ps ≤ n
  | [], _ => ⟨[], rfl, rfl, Nat.zero_le _⟩
  | d :: ds, h => by
    obtain ⟨p, h1, h2, h3⟩ := h d List.mem_cons_self
    obtain ⟨ps, k1, k2, k3⟩ := fine_all (n := n) fun x hx => h x (List.mem_cons_of_mem _ hx)
    refine ⟨p :: ps, by rw [toPs, h1, k1], ?_, ?_⟩
    · show (p.canLay0 && PyData.canLayAll0 ps) = true
      rw [h2, k2]; rfl
    · show max p.depth (PyData.depthAll ps) ≤ n
      exact Nat.max_le.mpr ⟨h3, k3⟩
theorem fineT {n : Nat} {ds : List D} (h : ∀ d ∈ ds, fineN n d) : fineN (n + 1) (.tup ds) := by
  obtain ⟨ps, h1, h2, h3⟩ := fine_all h
  exact ⟨.tuple ps, by rw [toP, h1]; rfl, h2, Nat.succ_le_succ h3⟩
theorem fineS {n : Nat} {z : Str} (h : PyData.strOk z = true) : fineN n (.str z) := ⟨.str z, rfl, h, Nat.zero_le _⟩
theorem fineI {n : Nat} (i : Int) : fineN n (.int i) := ⟨.int i, rfl, rfl, Nat.zero_le _⟩
theorem fineO {n : Nat} : fineN n .non := ⟨.none, rfl, rfl, Nat.zero_le _⟩
theorem eqv_strs {a b : Str} : PyData.eqv (.str a) (.str b) = decide (a = b) := by
  by_cases h : a = b
  · subst h; simp [PyData.eqv]
  · simp [PyData.eqv, h]
theorem eqv_ints {a b : Int} : PyData.eqv (.int a) (.int b) = decide (a = b) := by
  by_cases h : a = b
  · subst h; simp [PyData.eqv]
  · simp [PyData.eqv, h]
theorem eqD_str {neg : Bool} {a b : Str} (ha : PyData.strOk a = true) (hb : PyData.strOk b = true) : eqD neg (.str a) (.str b) = some (.bl (if neg then !decide (a = b) else decide (a = b))) := by
  have s : ∀ z : Str, PyData.strOk z = true → SeqAt.shaped (.str z) = true := fun z h => shaped_of h (Nat.zero_le _)
  show (if _ then some (D.bl (if neg then !PyData.eqv (.str a) (.str b) else PyData.eqv (.str a) (.str b))) else none) = _
  rw [if_pos (by rw [s a ha, s b hb]; rfl), eqv_strs]
theorem eqD_int {neg : Bool} {a b : Int} : eqD neg (.int a) (.int b) = some (.bl (if neg then !decide (a = b) else decide (a = b))) := by
  show some (D.bl (if neg then !PyData.eqv (.int a) (.int b) else PyData.eqv (.int a) (.int b))) = _
  rw [eqv_ints]
theorem rulesD_map : ∀ rs : List Rule, rulesD (rs.map rD) = some rs
  | [] => rfl
  | r :: rs => by
    have h1 : ruleD (rD r) = some r := by
      show (strsD (r.gs.map D.str)).map _ = _
      rw [strsD_map]; rfl
    rw [List.map_cons, rulesD, h1, rulesD_map rs]
theorem loop1_sat {P : D → SrcT → Prop} {S : SrcT} {rs : List Rule} {ds : List D} (e : ds = rs.map rD) (h : okRules rs []) (hp : P (.loop rs []) S) : (f_Loop1 [.lst ds] S).sat P := by
  subst e
  have e : f_Loop1 [.lst (rs.map rD)] S = mkLoop rs [] S := by
    show (match rulesD (rs.map rD), D.non with | some rs, .non => mkLoop rs [] S | some rs, .dct es => _ | _, _ => _) = _
    rw [rulesD_map]
  rw [e]
  unfold mkLoop
  rw [if_pos h]; exact hp
end Law
/-! ### x in c, where the items are data of any depth -/
namespace NL
noncomputable section
open PySem L2 PySem.Spec PyProof.Rows
section
variable {X : Cx} {G : Gm} {m m' : Bool}
theorem hu65 {A : Around} {k : Nat} (hr : Room k A) : A.units + 65 < cLine := by have := hr.un; omega
end
/-! plain -/
end
end NL
/-! ### a comprehension within a comprehension -/
namespace NL
end NL
/-! ### f-strings, a display with a star, the fields of a loop, the lines of its answers -/
namespace NL
noncomputable section
open PySem L2
section
variable {G : Gm} {φ : Fr} {m : Bool} {O : List Nat} {E : XK} {σ : L2.St} {ρ : Env} {B H : Hp} {S : SrcT} {X : Cx} {e : Expr} {es : List Expr} {F : Ex} {Fs : Exs}
/-- the texts one behind the other -/
def jnF : List Ex → Str → Env → SrcT → Rs D
  | [], acc, _, S => .ok (.str acc) S
  | F :: Fs, acc, ρ, S => (F ρ S).bind fun d S1 => match d with
    | .str z => if (acc ++ z).length ≤ 100000 then jnF Fs (acc ++ z) ρ S1 else .bad
    | _ => .bad
def joinF (Fs : List Ex) : Ex := jnF Fs Str.empty
/-- [.., *xs] -/
def seqItems : D → Option (List D)
  | .tup ds => some ds
  | .lst ds => some ds
  | _ => none
def starF (F : Ex) (Fs : Exs) : Exs := fun ρ S => (F ρ S).bind fun d S1 => match seqItems d with
  | some ds => (Fs ρ S1).bind fun es S2 => .ok (ds ++ es) S2
  | none => .bad
/-- a display of at most 1000 items -/
def lstSF (Fs : Exs) : Ex := fun ρ S => (Fs ρ S).bind fun ds S1 => if ds.length ≤ 1000 then .ok (.lst ds) S1 else .bad
/-! ### the fields of a loop -/
/-- a rule of a loop, as data -/
def rTD (r : Rule) : D := .tup [.str r.st, .tup (r.gs.map .str), .str r.wd, .bl r.kp, .str r.nx]
def ansDD (rs : List Rule) (ans : List (Str × Str)) : List (Key × D) := (statesR rs).map fun s => (Sum.inr s, D.str (ansOf ans s))
def loopFD (f : Str) : D → Option D
  | .loop rs ans => if f = "own_rules" then some (.tup (rs.map rTD)) else if f = "own_answers" then some (.dct (ansDD rs ans)) else none
  | _ => none
theorem rules_dv {p : Option Addr} {B : Hp} {vs : List V} {rs : List Rule} (h : Paired (RuleT G.K B) vs rs) : DVs G p B vs (rs.map rTD) := by
  induction h with
  | nil => exact .nil
  | cons r _ ih =>
    obtain ⟨t, g, rfl, h1, h2⟩ := r
    exact .cons (.tup h1 (.cons (.str _) (.cons (.tup h2 (dvs_strs _)) (.cons (.str _) (.cons (.bl _) (.cons (.str _) .nil)))))) ih
theorem ansV_fst (rs : List Rule) (ans : List (Str × Str)) : (ansV rs ans).map Prod.fst = (ansDD rs ans).map Prod.fst := by
  unfold ansV ansDD
  rw [List.map_map, List.map_map]; rfl
theorem ansV_snd {p : Option Addr} {B : Hp} (rs : List Rule) (ans : List (Str × Str)) : DVs G p B ((ansV rs ans).map Prod.snd) ((ansDD rs ans).map Prod.snd) := by
  unfold ansV ansDD
  rw [List.map_map, List.map_map]
  generalize statesR rs = l
  induction l with
  | nil => exact .nil
  | cons a l ih => exact .cons (.str _) ih
theorem de_loopF {f : Str} (hc : Cls G.K G.cl) (hn : NoAttr G.K G.cl f) (h : PE X e (tFld X.K (tD G m O E F) f)) (hK : X.K = G.K := by rfl) : PE X e (tD G m O E (unF (loopFD f) F)) := by
  refine h.mono fun σ H Q ⟨φ, B, ρ, S, R, hp⟩ => ⟨φ, B, ρ, S, R, ?_⟩
  rw [hK]
  refine Pg.bind hp fun d S1 w B1 H1 g R1 hw h1 => ?_
  obtain ⟨r, hr, q⟩ := h1.opt
  cases hw with
  | loop hl =>
    obtain ⟨dx, ra, rd, rt, tab, k1, ⟨vs, k2, k3⟩, k4, k5, k6⟩ := hl
    have hb := R1.bsH m
    unfold loopFD at hr
    dsimp only at hr
    rename_i aa rr an2
    split at hr
    · rename_i e; subst e; cases hr
      exact ⟨aa, G.cl, dx, _, .ref ra, rfl, hb _ _ k1, hc, hn, rfl, q _ _ _ Go.refl R1 (.tup k2 (rules_dv k3))⟩
    · split at hr
      · rename_i e; subst e; cases hr
        exact ⟨aa, G.cl, dx, _, .ref rd, rfl, hb _ _ k1, hc, hn, rfl, q _ _ _ Go.refl R1 (.dct k4 (ansV_fst _ _) (ansV_snd _ _))⟩
      · cases hr
  | _ => cases hr
/-! ### the lines of the answers: a comprehension over a dict's items -/
theorem Rep.ext {H' : Hp} (R : Rep G φ O σ B H ρ S) (s : Same H H') : Rep G φ O σ B H' ρ S ∧ Go φ B H B H' := ⟨(R.more s).2, (R.more s).1⟩
end
end
end NL
/-! ### == of lists and dicts with dicts among them -/
namespace NL
noncomputable section
open PySem L2
def deepOk (p : PyData) : Bool := SeqAt.shaped p && decide (p.depth ≤ 60)
def eqS (d1 d2 : D) : Option Bool := match toP d1, toP d2 with
  | some p1, some p2 => if (deepOk p1 && deepOk p2) = true then some (PyData.eqv p1 p2) else none
  | _, _ => none
def eqKs (fs : List (Key × D)) : List (Key × D) → Option Bool
  | [] => some true
  | (k, v) :: r => match valE fs k with
    | none => some false
    | some y => match eqS v y, eqKs fs r with
      | some a, some b => some (a && b)
      | _, _ => none
def eqI (d1 d2 : D) : Option Bool := match d1, d2 with
  | .dct es, .dct fs => if es.length = fs.length then eqKs fs es else some false
  | d1, d2 => eqS d1 d2
/-- within a list: dicts that are unlike are left out -/
def eqJ (d1 d2 : D) : Option Bool := match d1, d2 with
  | .dct es, .dct fs => if eqI (.dct es) (.dct fs) = some true then some true else none
  | d1, d2 => eqS d1 d2
def eqIs : List D → List D → Option Bool
  | [], [] => some true
  | a :: as, b :: bs => match eqJ a b, eqIs as bs with
    | some x, some y => some (x && y)
    | _, _ => none
  | _, _ => none
end
end NL
/-! ### methods and properties of own objects, as data -/
namespace NL
noncomputable section
open PySem L2
section
variable {G : Gm} {φ : Fr} {m : Bool} {O : List Nat} {E E' : XK} {σ : L2.St} {ρ : Env} {B H : Hp} {S : SrcT} {X : Cx} {e : Expr} {es : List Expr} {F : Ex} {Fs : Exs} {C : Addr} {p : D → Bool} {mn : Str}
/-- p tells the data that stand for instances of the class at C that have no field m -/
def InsM (G : Gm) (C : Addr) (p : D → Bool) (mn : Str) : Prop := ∀ {q : Option Addr} {B : Hp} {v : V} {d : D}, DV G q B v d → p d = true → ∃ a dx fs, v = .ref a ∧ B a = some (.ins C dx fs) ∧ fs.lookup mn = none
def methF (f : List D → SrcT → Rs D) (p : D → Bool) (F : Ex) (Fs : Exs) : Ex := fun ρ S => (F ρ S).bind fun d S1 => if p d = true then (Fs ρ S1).bind fun ds S2 => f (d :: ds) S2 else .bad
def propF (f : List D → SrcT → Rs D) (p : D → Bool) (F : Ex) : Ex := fun ρ S => (F ρ S).bind fun d S1 => if p d = true then f [d] S1 else .bad
theorem de_meth {f : List D → SrcT → Rs D} (hp : InsM G C p mn) (h : PE X e (tMeth C mn (spD G f) [] E (tD G false O E F) (tDs G false O E Fs))) (hv0 : G.v = false := by rfl) : PE X e (tD G false O E (methF f p F Fs)) := by
  refine h.mono fun σ H Q ⟨φ, B, ρ, S, R, hp'⟩ => ⟨φ, B, ρ, S, R, ?_⟩
  refine Pg.bind hp' fun d S1 w B1 H1 g R1 hw h1 => ?_
  split at h1
  · rename_i hd
    obtain ⟨a, dx, fs, rfl, ha, hl⟩ := hp hw hd
    refine ⟨a, dx, fs, rfl, R1.bsH false _ _ ha, hl, φ, B1, ρ, S1, R1, ?_⟩
    refine Pg.bind h1 fun ds S2 ws B2 H2 g2 R2 hws h2 => ?_
    rw [List.append_nil]
    exact sp_call R2 (.cons (hw.same (g2.bs false)) hws) h2 hv0
  · exact h1.elim
theorem de_propO {f : List D → SrcT → Rs D} (hp : InsK G C p) (h : PE X e (tProp C (spD G f) [] E (tD G false O E F))) (hv0 : G.v = false := by rfl) : PE X e (tD G false O E (propF f p F)) := by
  refine h.mono fun σ H Q ⟨φ, B, ρ, S, R, hp'⟩ => ⟨φ, B, ρ, S, R, ?_⟩
  refine Pg.bind hp' fun d S1 w B1 H1 g R1 hw h1 => ?_
  split at h1
  · rename_i hd
    obtain ⟨a, dx, fs, rfl, ha⟩ := hp hw hd
    refine ⟨a, dx, fs, rfl, R1.bsH false _ _ ha, ?_⟩
    exact sp_call R1 (.cons hw .nil) h1 hv0
  · exact h1.elim
/-- list(d): the keys -/
def kyD : Key → D
  | .inl i => .int i
  | .inr z => .str z
def listKD : List D → Option D
  | [.dct es] => if es.length ≤ 1000 then some (.lst (es.map fun q => kyD q.1)) else none
  | _ => none
theorem keys_dv {q : Option Addr} {B : Hp} : ∀ {kvs : List (Key × V)} {es : List (Key × D)}, kvs.map Prod.fst = es.map Prod.fst → DVs G q B (kvs.map fun z => kV z.1) (es.map fun z => kyD z.1)
  | [], [], _ => .nil
  | (k, v) :: kvs, (k2, d) :: es, h => by
    simp only [List.map_cons, List.cons.injEq] at h
    obtain ⟨h1, h2⟩ := h
    have h1 : k = k2 := h1
    subst h1
    refine .cons ?_ (keys_dv h2)
    cases k with
    | inl i => exact .int i
    | inr z => exact .str z
  | [], _ :: _, h => by cases h
  | _ :: _, [], h => by cases h
def rListK : List V → Hp → VK → Prop := fun xs H Q => ∃ (a : Addr) (kvs : List (Key × V)), xs = [.ref a] ∧ Rd H a (.dK kvs) ∧ ∀ p, H p = none → Q (.ref p) (upd H p (.lst (kvs.map fun kv => kV kv.1)))
theorem arg_listKN {m' : Bool} : ArgNN G m m' rListK listKD := by
  intro φ O σ B H ρ S vs ds d Q R hv e q
  unfold listKD at e
  split at e
  · cases hv with | cons h1 h2 =>
    cases h2; cases h1 with | dct ha hf hs =>
    split at e
    · cases e
      refine ⟨_, _, rfl, .inl (R.bsH m _ _ ha), fun a na => ?_⟩
      obtain ⟨R', g', n'⟩ := R.newO (m := m') (o := .lst _) (d := .lst _) na (keys_dv hf)
      exact q a _ _ _ g' R' n' na
    · cases e
  · cases e
theorem call_listKG (hc : X.calm = true) : CallR X (.type "list") rListK := call_listD hc
/-! the two parts of the comprehension of the answers' lines -/
end
end
end NL
/-! ### plain steps: f-strings, stars, methods, properties, == of dicts -/
namespace NL
noncomputable section
open PySem L2 Law
section
variable {ρ : Env} {S : SrcT} {F : Ex} {Fs : Exs} {P : D → SrcT → Prop} {Ps : List D → SrcT → Prop} {p : D → Bool} {f : List D → SrcT → Rs D}
theorem jn_nil {acc : Str} (h : P (.str acc) S) : (jnF [] acc ρ S).sat P := h
theorem jn_cons {acc : Str} {Fl : List Ex} (h : (F ρ S).sat fun d S1 => ∃ z, d = .str z ∧ (acc ++ z).length ≤ 100000 ∧ (jnF Fl (acc ++ z) ρ S1).sat P) : (jnF (F :: Fl) acc ρ S).sat P := by
  unfold jnF; rw [sat_bind]
  refine h.mono fun d S1 ⟨z, e, hz, h1⟩ => ?_
  subst e
  dsimp only
  rw [if_pos hz]; exact h1
theorem joinF_sat {Fl : List Ex} (h : (jnF Fl Str.empty ρ S).sat P) : (joinF Fl ρ S).sat P := h
theorem starF_sat (h : (F ρ S).sat fun d S1 => ∃ ds, seqItems d = some ds ∧ (Fs ρ S1).sat fun es S2 => Ps (ds ++ es) S2) : (starF F Fs ρ S).sat Ps := by
  unfold starF; rw [sat_bind]
  refine h.mono fun d S1 ⟨ds, e, h1⟩ => ?_
  rw [e]; dsimp only; rw [sat_bind]; exact h1
theorem lstSF_sat (h : (Fs ρ S).sat fun ds S1 => ds.length ≤ 1000 ∧ P (.lst ds) S1) : (lstSF Fs ρ S).sat P := by
  unfold lstSF; rw [sat_bind]
  refine h.mono fun ds S1 ⟨e, h1⟩ => ?_
  rw [if_pos e]; exact h1
theorem propF_sat (h : (F ρ S).sat fun d S1 => p d = true ∧ (f [d] S1).sat P) : (propF f p F ρ S).sat P := by
  unfold propF; rw [sat_bind]
  refine h.mono fun ds S1 ⟨e, h1⟩ => ?_
  rw [if_pos e]; exact h1
theorem methF_sat (h : (F ρ S).sat fun d S1 => p d = true ∧ (Fs ρ S1).sat fun ds S2 => (f (d :: ds) S2).sat P) : (methF f p F Fs ρ S).sat P := by
  unfold methF; rw [sat_bind]
  refine h.mono fun ds S1 ⟨e, h1⟩ => ?_
  rw [if_pos e, sat_bind]; exact h1
end
/-! == -/
end
end NL
/-! ### written dicts, d.update(e), the table of a loop -/
namespace NL
noncomputable section
open PySem L2
def dispGo (ρ : NL.Env) : List (Ex × Ex) → SrcT → Rs (List (Key × D))
  | [], S => .ok [] S
  | (Fk, Fv) :: r, S => (Fk ρ S).bind fun k S1 => (Fv ρ S1).bind fun v S2 => match keyD k with
    | some kk => (dispGo ρ r S2).bind fun ys S3 => .ok ((kk, v) :: ys) S3
    | none => .bad
def dispF (l : List (Ex × Ex)) : Ex := fun ρ S => (dispGo ρ l S).bind fun ys S1 => if ys.length ≤ 15 then .ok (.dct (putsE [] ys)) S1 else .bad
section
variable {G : Gm} {φ : Fr} {m : Bool} {O O' Ol : List Nat} {E : XK} {σ : L2.St} {ρ : NL.Env} {B H B' H' : Hp} {S : SrcT} {X : Cx} {st : Stmt} {e : Expr} {F F1 F2 : Ex} {Fs : Exs} {pos : Pos}
/-! d.update(e) of an owned dict -/
def updS (i : Nat) (F : Ex) : Sx := fun ρ S => match ρ[i]? with
  | some (some (.dct es)) => (F ρ S).bind fun d S1 => match d with
    | .dct more => if es.length + more.length ≤ 100000 then .ok (.nx, ρ.set i (some (.dct (putsE es more)))) S1 else .bad
    | _ => .bad
  | _ => .bad
/-! loop.table.get((state, place)) -/
def tabGF (F1 : Ex) (Fs : Exs) : Ex := fun ρ S => (F1 ρ S).bind fun d S1 => match d with
  | .loop rs _ => (Fs ρ S1).bind fun ds S2 => match ds with
    | [.str s, .str p] => .ok (match fitIdx rs s p with | some k => .int (k : Nat) | none => .non) S2
    | _ => .bad
  | _ => .bad
theorem de_tab (hc : Cls G.K G.cl) (hn : NoAttr G.K G.cl "table") (h : PE X e (tDGet1 (tFld X.K (tD G true O E F1) "table") (tTup (tDs G true O E Fs)))) (hK : X.K = G.K := by rfl) (hv0 : G.v = false := by rfl) : PE X e (tD G m O E (tabGF F1 Fs)) := by
  refine h.mono fun σ H Q ⟨φ, B, ρ, S, R, hp⟩ => ⟨φ, B, ρ, S, R, ?_⟩
  rw [hK]
  refine Pg.bind hp fun d S1 w B1 H1 g R1 hw h1 => ?_
  cases hw with
  | @loop a rs ans hL =>
    obtain ⟨dx, ra, rd, rt, tab, k1, k2, k3, k4, k5⟩ := hL.same (R1.bsH true)
    refine ⟨a, G.cl, dx, _, .ref rt, rfl, k1, hc, hn, rfl, rt, rfl, .inr ⟨_, .inl k4⟩, φ, B1, ρ, S1, R1, ?_⟩
    refine Pg.bind (show Pg G φ m O E σ ρ (DV G) B1 H1 ((Fs ρ S1).bind fun ds S2 => _) Q from h1) fun ds S2 ws B2 H2 g2 R2 hws h2 => ?_
    have hsh : ∃ s p, ds = [.str s, .str p] := by
      revert h2
      split
      · exact fun _ => ⟨_, _, rfl⟩
      · exact fun h => h.elim
    obtain ⟨s, p, rfl⟩ := hsh
    have hwv : ws = [.str s, .str p] := by
      cases hws with
      | cons q1 q2 =>
        cases q2 with
        | cons q3 q4 =>
          cases q4
          cases q1
          cases q3
          rfl
    subst hwv
    refine ⟨by show 2 ≤ sizeLine; decide, fun b nb => ?_⟩
    have npr : φ.p ≠ some rt := fun e => by
      have := (R1.src rt e).2.1
      rw [k4] at this; cases this
    have k4' : H2 rt = some (.dT tab) := g2.at (R.vv.1.trans hv0) npr k4
    obtain ⟨R3, g3, _⟩ := R2.newN (o := .tup [.str s, .str p]) nb
    refine ⟨_, DGet.t (k := [Sum.inr s, Sum.inr p]) (upd_keep k4' nb) upd_same, ?_⟩
    rw [k5 s p]
    have h2 : Pg G φ m O E σ ρ (DV G) B2 H2 (.ok (match fitIdx rs s p with | some k => D.int (k : Nat) | none => .non) S2) Q := h2
    cases hf : fitIdx rs s p with
    | none =>
      rw [hf] at h2
      exact h2 _ _ _ g3 R3 .non
    | some k =>
      rw [hf] at h2
      exact h2 _ _ _ g3 R3 (.int _)
  | _ => exact h1.elim
/-! Run(words, keeps, kept, state, answer) -/
def mkRunF (Fs : Exs) : Ex := fun ρ S => (Fs ρ S).bind fun ds S1 => match ds with
  | [.lst ws, .lst ks, .lst ns, .str st, .str an] => match strsD ws, boolsD ks, intsD ns with
    | some w, some k, some n => .ok (.run ⟨st, w, k, n⟩ an) S1
    | _, _, _ => .bad
  | _ => .bad
/-! isinstance(x, (str, tuple)); xs * n -/
end
end
end NL
/-! ### own errors: __init__ says super().__init__(text), then self.f = f -/
namespace NL
open PySem L2
end NL
/-! ### raise, and calls that may raise -/
namespace NL
end NL
/-! ### own errors whose text is an f-string of their number -/
namespace NL
end NL
/-! ### try, with clauses of both kinds -/
namespace NL
end NL
/-! ### try, as data -/
namespace NL
noncomputable section
open PySem L2 PySem.Spec PyProof.Rows
section
variable {G : Gm} {φ : Fr} {m : Bool} {O O' Ol L : List Nat} {E : XK} {W : WX} {σ : L2.St} {ρ : NL.Env} {B H B' H' : Hp} {S S' : SrcT} {X : Cx} {st : Stmt} {rest body : List Stmt} {e : Expr} {F : Ex} {Fs : Exs} {A A1 A2 : Sx} {pos : Pos}
/-! the body: its first statement may raise -/
/-- arguments do not raise -/
def callW (f : List D → SrcT → Rs D) (Fs : Exs) : Ex := fun ρ S => (noX (Fs ρ S)).bind f
/-- (c, e) -/
def tup2F (d : D) (F : Ex) : Ex := fun ρ S => (F ρ S).bind fun x S1 => .ok (.tup [d, x]) S1
/-- what follows does not raise -/
def noXS (A : Sx) : Sx := fun ρ S => noX (A ρ S)
/-! suites -/
end
end
end NL
/-! ### plain steps: tables, runs made, written dicts, updates, try -/
namespace NL
noncomputable section
open PySem L2
section
variable {ρ : Env} {S : SrcT} {F F1 : Ex} {Fs : Exs} {A : Sx} {P : D → SrcT → Prop} {PS : Fl × Env → SrcT → Prop} {f : List D → SrcT → Rs D}
theorem tabGF_sat (h : (F1 ρ S).sat fun d S1 => ∃ rs ans, d = .loop rs ans ∧ (Fs ρ S1).sat fun ds S2 => ∃ s p, ds = [.str s, .str p] ∧ P (match fitIdx rs s p with | some k => .int (k : Nat) | none => .non) S2) : (tabGF F1 Fs ρ S).sat P := by
  unfold tabGF; rw [sat_bind]
  refine h.mono fun d S1 ⟨rs, ans, e, h1⟩ => ?_
  subst e
  dsimp only
  rw [sat_bind]
  refine h1.mono fun ds S2 ⟨s, p, e, h2⟩ => ?_
  subst e
  exact h2
theorem mkRunF_sat (h : (Fs ρ S).sat fun ds S1 => ∃ ws ks ns st an, ds = [.lst ws, .lst ks, .lst ns, .str st, .str an] ∧ ∃ w k n, strsD ws = some w ∧ boolsD ks = some k ∧ intsD ns = some n ∧ P (.run ⟨st, w, k, n⟩ an) S1) : (mkRunF Fs ρ S).sat P := by
  unfold mkRunF; rw [sat_bind]
  refine h.mono fun ds S1 ⟨ws, ks, ns, st, an, e, w, k, n, h1, h2, h3, h4⟩ => ?_
  subst e
  dsimp only
  rw [h1, h2, h3]
  exact h4
theorem updS_sat {i : Nat} {es : List (Key × D)} (hi : ρ[i]? = some (some (.dct es))) (h : (F ρ S).sat fun d S1 => ∃ more, d = .dct more ∧ es.length + more.length ≤ 100000 ∧ PS (.nx, ρ.set i (some (.dct (putsE es more)))) S1) : (updS i F ρ S).sat PS := by
  unfold updS; rw [hi]
  dsimp only
  rw [sat_bind]
  refine h.mono fun d S1 ⟨more, e, hl, h1⟩ => ?_
  subst e
  dsimp only
  rw [if_pos hl]; exact h1
theorem noX_sat {α : Type} {r : Rs α} {P : α → SrcT → Prop} (h : r.sat P) : (noX r).sat P := by
  induction r with
  | all p k ih => exact fun x px => ih x (h x px)
  | ok a S => exact h
  | _ => exact h.elim
theorem noXS_sat (h : (A ρ S).sat PS) : (noXS A ρ S).sat PS := noX_sat h
theorem callW_sat (h : (Fs ρ S).sat fun ds S1 => (f ds S1).sat P) : (callW f Fs ρ S).sat P := by unfold callW; rw [sat_bind]; exact noX_sat h
theorem tup2F_sat {d : D} (h : (F ρ S).sat fun x S1 => P (.tup [d, x]) S1) : (tup2F d F ρ S).sat P := by unfold tup2F; rw [sat_bind]; exact h
/-- what a plain function gives, or what it raises -/
def Rs.satX {α : Type} (r : Rs α) (P : α → SrcT → Prop) (E : Nat → Option D → SrcT → Prop) : Prop := match r with
  | .ok a S => P a S
  | .exc c d S => E c d S
  | .all p k => ∀ x, p x → (k x).satX P E
  | .bad => False
theorem Rs.satX.mono {α : Type} {r : Rs α} {P P' : α → SrcT → Prop} {E E' : Nat → Option D → SrcT → Prop} (h : r.satX P E) (hp : ∀ a S, P a S → P' a S) (he : ∀ c d S, E c d S → E' c d S) : r.satX P' E' := by
  induction r with
  | ok a S => exact hp a S h
  | bad => exact h
  | exc c d S => exact he c d S h
  | all p f ih => exact fun x px => ih x (h x px)
theorem dgo_nil {P : List (Key × D) → SrcT → Prop} (h : P [] S) : (dispGo ρ [] S).sat P := h
theorem dgo_cons {Fk Fv : Ex} {l : List (Ex × Ex)} {P : List (Key × D) → SrcT → Prop} (h : (Fk ρ S).sat fun k S1 => (Fv ρ S1).sat fun v S2 => ∃ kk, keyD k = some kk ∧ (dispGo ρ l S2).sat fun ys S3 => P ((kk, v) :: ys) S3) : (dispGo ρ ((Fk, Fv) :: l) S).sat P := by
  unfold dispGo; rw [sat_bind]
  refine h.mono fun k S1 h1 => ?_
  rw [sat_bind]
  refine h1.mono fun v S2 ⟨kk, hk, h2⟩ => ?_
  rw [hk]; dsimp only
  rw [sat_bind]; exact h2
theorem dispF_sat {l : List (Ex × Ex)} (h : (dispGo ρ l S).sat fun ys S1 => ys.length ≤ 15 ∧ P (.dct (putsE [] ys)) S1) : (dispF l ρ S).sat P := by
  unfold dispF; rw [sat_bind]
  refine h.mono fun ys S1 ⟨hl, h1⟩ => ?_
  rw [if_pos hl]; exact h1
end
end
end NL
/-! ### plain steps where something may be raised -/
namespace NL
end NL
/-! ### defs that change what others know: cells -/
namespace NL
noncomputable section
open PySem L2
def Gm.vol (G : Gm) : Gm := { G with v := true }
section
variable {G : Gm} {p : Option Addr} {B : Hp}
mutual
theorem DV.vol : ∀ {v : V} {d : D}, DV G p B v d → DV G.vol p B v d
  | _, _, .non => .non
  | _, _, .bl b => .bl b
  | _, _, .int i => .int i
  | _, _, .str z => .str z
  | _, _, .lst h hs => .lst h (DVs.vol hs)
  | _, _, .tup h hs => .tup h (DVs.vol hs)
  | _, _, .dct h e hs => .dct h e (DVs.vol hs)
  | _, _, .dcT h e hs => .dcT h e (DVs.vol hs)
  | _, _, .loop h => .loop h
  | _, _, .run h => .run h
  | _, _, .src h => .src h
  | _, _, .set h h2 h3 => .set h h2 h3
  | _, _, .cls => .cls
  | _, _, .obj h e hs => .obj h e (DVs.vol hs)
  | _, _, .loc a => .loc a
theorem DVs.vol : ∀ {vs : List V} {ds : List D}, DVs G p B vs ds → DVs G.vol p B vs ds
  | _, _, .nil => .nil
  | _, _, .cons h hs => .cons (DV.vol h) (DVs.vol hs)
end
mutual
theorem DV.unvol : ∀ {v : V} {d : D}, DV G.vol p B v d → DV G p B v d
  | _, _, .non => .non
  | _, _, .bl b => .bl b
  | _, _, .int i => .int i
  | _, _, .str z => .str z
  | _, _, .lst h hs => .lst h (DVs.unvol hs)
  | _, _, .tup h hs => .tup h (DVs.unvol hs)
  | _, _, .dct h e hs => .dct h e (DVs.unvol hs)
  | _, _, .dcT h e hs => .dcT h e (DVs.unvol hs)
  | _, _, .loop h => .loop h
  | _, _, .run h => .run h
  | _, _, .src h => .src h
  | _, _, .set h h2 h3 => .set h h2 h3
  | _, _, .cls => .cls
  | _, _, .obj h e hs => .obj h e (DVs.unvol hs)
  | _, _, .loc a => .loc a
theorem DVs.unvol : ∀ {vs : List V} {ds : List D}, DVs G.vol p B vs ds → DVs G p B vs ds
  | _, _, .nil => .nil
  | _, _, .cons h hs => .cons (DV.unvol h) (DVs.unvol hs)
end
end
/-! ### the promise -/
def MemOk0 (G : Gm) (p : Option Addr) (B H : Hp) (M : Addr → Option MC) : Prop := ∀ a c, M a = some c → MemAt G p B H a c ∧ B a = none ∧ p ≠ some a
/-- behind a call -/
structure AftV (G : Gm) (p : Option Addr) (B H : Hp) (M : Addr → Option MC) (B' H' : Hp) (S' : SrcT) : Prop where
  b : Same B B'
  s : Same B' H'
  f : ∀ a o, p ≠ some a → M a = none → H a = some o → H' a = some o
  d : ∀ a, H' a = none → H a = none
  n : ∀ a o, B' a = some o → mutO o → B a = some o ∨ H a = none
  src : ∀ q, p = some q → B' q = none ∧ SrcAt H' q S'
  mem : ∀ a c, S'.m a = some c → MemAt G p B' H' a c ∧ B' a = none ∧ p ≠ some a ∧ (M a ≠ none ∨ H a = none)
def spPostV (G : Gm) (p : Option Addr) (B H : Hp) (M : Addr → Option MC) (Q : VK) (E : XK) : Rs D → Prop
  | .bad => False
  | .exc c d S' => ∀ B' H' cv od, AftV G p B H M B' H' S' → ExnAt G p B' H' c d cv od → E cv od H'
  | .ok d S' => ∀ v B' H', AftV G p B H M B' H' S' → DV G p B' v d → Q v H'
  | .all p0 k => ∀ x, p0 x → spPostV G p B H M Q E (k x)
def spV (G : Gm) (f : List D → SrcT → Rs D) : Sp := fun vs H Q E => ∃ p B ds S, Same B H ∧ (∀ q, p = some q → B q = none ∧ SrcAt H q S) ∧ MemOk0 G p B H S.m ∧ DVs G p B vs ds ∧ spPostV G p B H S.m Q E (f ds S)
section
variable {X : Cx} {G : Gm} {m m' : Bool} {O O' Ol : List Nat} {E : XK} {e tg : Expr} {es : List Expr} {F F1 F2 : Ex} {Fs : Exs}
variable {φ : Fr} {σ σ' : L2.St} {B H B' H' : Hp} {ρ ρ' : Env} {S S' : SrcT} {st : Stmt} {sts rest : List Stmt} {A A1 A2 : Sx}
theorem Rep.noown (R : Rep G φ O σ B H ρ S) (hv : G.v = true) {i : Nat} (hi : i ∈ O) : False := by
  have := R.nov i hi
  rw [hv] at this; cases this
theorem Rep.vt (R : Rep G φ O σ B H ρ S) (hv : G.v = true) (h : φ.v = false) : False := by
  rw [R.vv.1, hv] at h; cases h
theorem ne_none_of {α : Type} {o : Option α} {x : α} (h : o = some x) : o ≠ none := by rw [h]; exact fun z => nomatch z
theorem fn_lenV {n N : Nat} {vs : List V} {Q : VK} (h : spV G (fnF n N A) vs H Q E) : vs.length = n := by
  obtain ⟨p, B, ds, S, h1, h2, _, h3, h4⟩ := h
  rw [h3.len]
  unfold fnF at h4
  by_cases hn : ds.length = n
  · exact hn
  · rw [if_neg hn] at h4; exact h4.elim
theorem Rep.aft {p : Option Addr} {M : Addr → Option MC} (hv : G.v = true) (R : Rep G { p := p, B0 := B, H0 := H, v := true, M0 := M } O σ B' H' ρ S') : AftV G p B H M B' H' S' :=
  ⟨R.b0, R.sub, fun a o h1 h2 h3 => R.fr a o h1 h2 h3, fun a h => R.al a h, fun a o h hm => R.cl a o h hm, R.src, fun a c h => R.mem hv a c h⟩
theorem fn_readV {n : Nat} {Ns : List Str} {vs : List V} {Q : VK} (h : spV G (fnF n Ns.length A) vs H Q E) (hv : G.v = true := by rfl) : tS G [] O' Ol E A { nx := fun _ H' => Q .non H', rt := Q } (L2.start Ns vs) H := by
  have hlen := fn_lenV h
  obtain ⟨p, B, ds, S, h1, h2, hM, h3, h4⟩ := h
  have hl : ds.length = n := by rw [← h3.len]; exact hlen
  unfold fnF at h4
  rw [if_pos hl] at h4
  refine ⟨{ p := p, B0 := B, H0 := H, v := true, M0 := S.m }, B, ds.map some ++ List.replicate (Ns.length - n) none, S, ⟨h1, fun a o _ _ h => h, fun a o h _ => .inl h, h2, Same.refl _, ?_, ?_, fun i hi => (nomatch hi), fun i j hi => (nomatch hi), fun a h => h, fun _ a c hc => ⟨(hM a c hc).1, (hM a c hc).2.1, (hM a c hc).2.2, .inl (ne_none_of hc)⟩, ⟨hv.symm, fun h => by rw [hv] at h; cases h⟩, fun i hi => (nomatch hi)⟩, ?_⟩
  · unfold L2.start; simp [h3.len, hl]
  · intro i d _ hd
    unfold L2.start
    rw [hlen]
    by_cases hi : i < ds.length
    · rw [List.getElem?_append_left (by simpa using hi), List.getElem?_map] at hd
      obtain ⟨d', hd', hd''⟩ := Option.map_eq_some_iff.mp hd
      cases hd''
      obtain ⟨v, k1, k2⟩ := h3.get hd'
      refine ⟨v, ?_, k2⟩
      rw [List.getElem?_append_left (by rw [List.length_map, h3.len]; exact hi), List.getElem?_map, k1]; rfl
    · rw [List.getElem?_append_right (by simpa using hi)] at hd
      obtain ⟨_, hd2⟩ := List.getElem?_eq_some_iff.mp hd
      rw [List.getElem_replicate] at hd2; cases hd2
  · generalize A (ds.map some ++ List.replicate (Ns.length - n) none) S = r at h4
    induction r with
    | bad => exact h4
    | exc c d S' => exact fun B' H' cv od s R' hx => h4 B' H' cv od (R'.aft hv) hx
    | all p0 k ih => exact fun x px => ih x (h4 x px)
    | ok q S' =>
      match q, h4 with
      | (.nx, _), h4 => exact fun σ' B' H' s R' => h4 .non B' H' (R'.aft hv) .non
      | (.brk, _), h4 => exact h4.elim
      | (.cont, _), h4 => exact h4.elim
      | (.ret d, _), h4 => exact fun v B' H' s R' hd => h4 v B' H' (R'.aft hv) hd
theorem Rep.afterV (R : Rep G φ O σ B H ρ S) (hv : G.v = true) (x : AftV G φ.p B H S.m B' H' S') : Go φ B H B' H' ∧ Rep G φ O σ B' H' ρ S' := by
  refine ⟨⟨x.b, fun h => (R.vt hv h).elim, x.n, x.d⟩, ⟨x.s, fun a o hp hm h => ?_, fun a o h hm => ?_, x.src, R.b0.trans x.b, R.len, fun i d hi h => ?_, fun i hi => (R.noown hv hi).elim, R.dis, fun a h => R.al a (x.d a h), fun _ a c hc => ?_, R.vv, R.nov⟩⟩
  · refine x.f a o hp ?_ (R.fr a o hp hm h)
    cases k : S.m a with
    | none => rfl
    | some c =>
      rcases (R.mem hv a c k).2.2.2 with q | q
      · exact absurd hm q
      · rw [q] at h; cases h
  · rcases x.n a o h hm with k | k
    · exact R.cl a o k hm
    · exact .inr (R.al a k)
  · obtain ⟨v, k1, k2⟩ := R.val i d hi h
    exact ⟨v, k1, k2.same x.b⟩
  · obtain ⟨h1, h2, h3, h4⟩ := x.mem a c hc
    refine ⟨h1, h2, h3, ?_⟩
    rcases h4 with q | q
    · cases k : S.m a with
      | none => exact absurd k q
      | some c' => exact (R.mem hv a c' k).2.2.2
    · exact .inr (R.al a q)
theorem sp_callV {f : List D → SrcT → Rs D} {vs : List V} {ds : List D} {Q : VK} (R : Rep G φ O σ B H ρ S) (hw : DVs G φ.p (bs m φ B H) vs ds) (h : Pg G φ m' O E σ ρ (DV G) B H (f ds S) Q) (hv : G.v = true) : spV G f vs H Q E := by
  have hb : ∀ {m : Bool} {B H : Hp}, bs m φ B H = B := fun {m B H} => by unfold bs; rw [R.vv.1, hv]; simp
  rw [hb] at hw
  refine ⟨φ.p, B, ds, S, R.sub, R.src, fun a c hc => ⟨(R.mem hv a c hc).1, (R.mem hv a c hc).2.1, (R.mem hv a c hc).2.2.1⟩, hw, ?_⟩
  generalize f ds S = r at h ⊢
  induction r with
  | bad => exact h
  | exc c d S' =>
    intro B' H' cv od x hx
    obtain ⟨g, R2⟩ := R.afterV hv x
    exact h B' H' cv od g R2.bare hx
  | ok d S' =>
    intro v B' H' x hd
    obtain ⟨g, R2⟩ := R.afterV hv x
    exact h v B' H' g R2 (by rw [hb]; exact hd)
  | all p k ih => exact fun x px => ih x (h x px)
/-- a def that knows cells calls another one -/
theorem de_callV {f : List D → SrcT → Rs D} (h : PE X e (tCall (spV G f) [] E (tDs G m O E Fs))) (hv : G.v = true := by rfl) : PE X e (tD G m' O E (callF f Fs)) := by
  refine h.mono fun σ H Q ⟨φ, B, ρ, S, R, hp⟩ => ⟨φ, B, ρ, S, R, ?_⟩
  refine Pg.bind hp fun d S1 w B1 H1 g R1 hw h1 => ?_
  rw [List.append_nil]
  exact sp_callV R1 hw h1 hv
/-! a def that knows cells calls one that knows none -/
def Rs.keepM {α : Type} (M : Addr → Option MC) (r : Rs α) : Rs α := match r with
  | .bad => .bad
  | .exc c d S => .exc c d { S with m := M }
  | .ok a S => .ok a { S with m := M }
  | .all p k => .all p fun x => (k x).keepM M
def callK (f : List D → SrcT → Rs D) (Fs : Exs) : Ex := fun ρ S => (Fs ρ S).bind fun ds S1 => (f ds S1).keepM S1.m
theorem Rep.afterK (R : Rep G.vol φ O σ B H ρ S) (h1 : Same B B') (h2 : Same B' H') (h3 : ∀ a o, φ.p ≠ some a → H a = some o → H' a = some o)
    (h4 : ∀ a o, B' a = some o → mutO o → B a = some o ∨ H a = none) (h5 : ∀ q, φ.p = some q → B' q = none ∧ SrcAt H' q S') : AftV G.vol φ.p B H S.m B' H' { S' with m := S.m } := by
  have gd : ∀ a, H' a = none → H a = none := fun a h => by
    cases k : H a with
    | none => rfl
    | some x =>
      by_cases e : φ.p = some a
      · rw [(h5 a e).2.1] at h; cases h
      · rw [h3 a x e k] at h; cases h
  refine ⟨h1, h2, fun a o hp _ h => h3 a o hp h, gd, h4, fun q hq => ⟨(h5 q hq).1, (h5 q hq).2⟩, fun a c hc => ?_⟩
  obtain ⟨k1, k2, k3, k4⟩ := R.mem rfl a c hc
  obtain ⟨o, ho, hmo⟩ := k1.some
  have mo : mutO o := by cases o <;> first | exact True.intro | cases hmo
  refine ⟨k1.move h1 fun o h => h3 a o k3 h, ?_, k3, .inl (ne_none_of hc)⟩
  cases hb : B' a with
  | none => rfl
  | some x =>
    have hx : x = o := by
      have := h2 a x hb
      rw [h3 a o k3 ho] at this; exact (Option.some.inj this).symm
    subst hx
    rcases h4 a x hb mo with q | q
    · rw [k2] at q; cases q
    · rw [ho] at q; cases q
theorem sp_callK {f : List D → SrcT → Rs D} {vs : List V} {ds : List D} {Q : VK} (R : Rep G.vol φ O σ B H ρ S) (hw : DVs G.vol φ.p (bs m φ B H) vs ds) (h : Pg G.vol φ m' O E σ ρ (DV G.vol) B H ((f ds S).keepM S.m) Q) : spD G f vs H Q E := by
  have hb : ∀ {m : Bool} {B H : Hp}, bs m φ B H = B := fun {m B H} => by unfold bs; rw [R.vv.1]; simp [Gm.vol]
  rw [hb] at hw
  refine ⟨φ.p, B, ds, S, R.sub, R.src, hw.unvol, ?_⟩
  generalize f ds S = r at h ⊢
  induction r with
  | bad => exact h
  | exc c d S' =>
    intro B' H' cv od h1 h2 h3 h4 h5 hx
    obtain ⟨g, R2⟩ := R.afterV rfl (R.afterK h1 h2 h3 h4 h5)
    refine h B' H' cv od g R2.bare ⟨hx.1, ?_⟩
    have hx2 := hx.2
    cases d with
    | none => exact True.intro
    | some d =>
      obtain ⟨dx, v, k1, k2, k3⟩ := hx2
      exact ⟨dx, v, k1, k2, k3.vol⟩
  | ok d S' =>
    intro v B' H' h1 h2 h3 h4 h5 hd
    obtain ⟨g, R2⟩ := R.afterV rfl (R.afterK h1 h2 h3 h4 h5)
    exact h v B' H' g R2 (by rw [hb]; exact hd.vol)
  | all p k ih => exact fun x px => ih x (h x px)
theorem de_callK {f : List D → SrcT → Rs D} (h : PE X e (tCall (spD G f) [] E (tDs G.vol m O E Fs))) : PE X e (tD G.vol m' O E (callK f Fs)) := by
  refine h.mono fun σ H Q ⟨φ, B, ρ, S, R, hp⟩ => ⟨φ, B, ρ, S, R, ?_⟩
  refine Pg.bind hp fun d S1 w B1 H1 g R1 hw h1 => ?_
  rw [List.append_nil]
  exact sp_callK R1 hw h1
/-! ### a frame within a frame -/
def Fr.sub (φ : Fr) (B H : Hp) (S : SrcT) : Fr := { p := φ.p, B0 := B, H0 := H, v := φ.v, M0 := S.m }
theorem Rep.enter (R : Rep G φ O σ B H ρ S) (hv : G.v = true) : Rep G (φ.sub B H S) O σ B H ρ S :=
  ⟨R.sub, fun _ _ _ _ h => h, fun _ _ h _ => .inl h, R.src, Same.refl _, R.len, R.val, fun i hi => (R.noown hv hi).elim, R.dis, fun _ h => h, fun _ a c hc => ⟨(R.mem hv a c hc).1, (R.mem hv a c hc).2.1, (R.mem hv a c hc).2.2.1, .inl (ne_none_of hc)⟩, ⟨R.vv.1, fun h => by rw [hv] at h; cases h⟩, R.nov⟩
theorem Rep.leave {O2 : List Nat} (R : Rep G φ O σ B H ρ S) (hv : G.v = true) (R' : Rep G (φ.sub B H S) O2 σ' B' H' ρ' S') : Rep G φ O2 σ' B' H' ρ' S' ∧ Go φ B H B' H' := by
  refine ⟨⟨R'.sub, fun a o hp hm h => ?_, fun a o h hm => ?_, R'.src, R.b0.trans R'.b0, R'.len, R'.val, fun i hi => (R'.noown hv hi).elim, R'.dis, fun a h => R.al a (R'.al a h), fun _ a c hc => ?_, R.vv, R'.nov⟩, ⟨R'.b0, fun h => (R.vt hv h).elim, fun a o h hm => R'.cl a o h hm, fun a h => R'.al a h⟩⟩
  · refine R'.fr a o hp ?_ (R.fr a o hp hm h)
    show S.m a = none
    cases k : S.m a with
    | none => rfl
    | some c =>
      rcases (R.mem hv a c k).2.2.2 with q | q
      · exact absurd hm q
      · rw [q] at h; cases h
  · rcases R'.cl a o h hm with k | k
    · exact R.cl a o k hm
    · exact .inr (R.al a k)
  · obtain ⟨h1, h2, h3, h4⟩ := R'.mem hv a c hc
    refine ⟨h1, h2, h3, ?_⟩
    rcases h4 with q | q
    · cases k : S.m a with
      | none => exact absurd k q
      | some c' => exact (R.mem hv a c' k).2.2.2
    · exact .inr (R.al a q)
/-- what nobody knows stays -/
theorem Rep.keep {O2 : List Nat} (R' : Rep G (φ.sub B H S) O2 σ' B' H' ρ' S') (hv : G.v = true) {a : Addr} {o : HO} (np : φ.p ≠ some a) (hm : S.m a = none) (hB : B a = none) (hH : H a = some o) (ho : mutO o) : H' a = some o ∧ B' a = none ∧ S'.m a = none := by
  have h1 := R'.fr a o np hm hH
  refine ⟨h1, ?_, ?_⟩
  · cases hb : B' a with
    | none => rfl
    | some x =>
      have hx : x = o := by have := R'.sub a x hb; rw [h1] at this; exact (Option.some.inj this).symm
      subst hx
      rcases R'.cl a x hb ho with q | q
      · rw [show B a = some x from q] at hB; cases hB
      · rw [show H a = none from q] at hH; cases hH
  · cases hc : S'.m a with
    | none => rfl
    | some c =>
      rcases (R'.mem hv a c hc).2.2.2 with q | q
      · exact absurd hm q
      · rw [show H a = none from q] at hH; cases hH
/-! ### writing, laying cells -/
def updM (M : Addr → Option MC) (a : Addr) (c : MC) : Addr → Option MC := fun b => if b = a then some c else M b
theorem updM_same {M : Addr → Option MC} {a : Addr} {c : MC} : updM M a c a = some c := by unfold updM; rw [if_pos rfl]
theorem updM_ne {M : Addr → Option MC} {a b : Addr} {c : MC} (h : b ≠ a) : updM M a c b = M b := by unfold updM; rw [if_neg h]
def SrcT.put (S : SrcT) (a : Addr) (c : MC) : SrcT := { S with m := updM S.m a c }
theorem Rep.write (R : Rep G φ O σ B H ρ S) (hv : G.v = true) {a : Addr} {c c' : MC} {o : HO} (ha : S.m a = some c) (ho : MemAt G φ.p B (upd H a o) a c') : Rep G φ O σ B (upd H a o) ρ (S.put a c') ∧ Go φ B H B (upd H a o) := by
  obtain ⟨k1, k2, k3, k4⟩ := R.mem hv a c ha
  refine ⟨⟨fun b x h => ?_, fun b x hp hm h => ?_, R.cl, fun q hq => ?_, R.b0, R.len, R.val, fun i hi => (R.noown hv hi).elim, R.dis, fun b h => R.al b (upd_no h), fun _ b c2 hc => ?_, R.vv, R.nov⟩, ⟨Same.refl _, fun h => (R.vt hv h).elim, fun _ _ h _ => .inl h, fun b h => upd_no h⟩⟩
  · have e : b ≠ a := fun e => by rw [e, k2] at h; cases h
    rw [upd_ne e]; exact R.sub b x h
  · have e : b ≠ a := fun e => by
      subst e
      rcases k4 with q | q
      · exact q hm
      · rw [q] at h; cases h
    rw [upd_ne e]; exact R.fr b x hp hm h
  · have e : q ≠ a := fun e => k3 (e ▸ hq)
    obtain ⟨h1, h2, h3⟩ := R.src q hq
    exact ⟨h1, by rw [upd_ne e]; exact h2, h3⟩
  · by_cases e : b = a
    · subst e
      have hc : updM S.m b c' b = some c2 := hc
      rw [updM_same] at hc
      cases hc
      exact ⟨ho, k2, k3, k4⟩
    · have hc : updM S.m a c' b = some c2 := hc
      rw [updM_ne e] at hc
      obtain ⟨h1, h2, h3, h4⟩ := R.mem hv b c2 hc
      exact ⟨h1.move (Same.refl _) fun o h => by rw [upd_ne e]; exact h, h2, h3, h4⟩
theorem Rep.mfree (R : Rep G φ O σ B H ρ S) (hv : G.v = true) {a : Addr} (n : H a = none) : S.m a = none := by
  cases hc : S.m a with
  | none => rfl
  | some c =>
    obtain ⟨x, hx, _⟩ := (R.mem hv a c hc).1.some
    rw [n] at hx; cases hx
theorem Rep.lay (R : Rep G φ O σ B H ρ S) (hv : G.v = true) {a : Addr} {c : MC} {o : HO} (n : H a = none) (ho : MemAt G φ.p B (upd H a o) a c) : Rep G φ O σ B (upd H a o) ρ (S.put a c) ∧ Go φ B H B (upd H a o) := by
  obtain ⟨R', g, nB, n0, np⟩ := R.newN (o := o) n
  refine ⟨⟨R'.sub, R'.fr, R'.cl, R'.src, R'.b0, R'.len, R'.val, R'.own, R'.dis, R'.al, fun _ b c2 hc => ?_, R'.vv, R'.nov⟩, g⟩
  have hc : updM S.m a c b = some c2 := hc
  by_cases e : b = a
  · subst e
    rw [updM_same] at hc
    cases hc
    exact ⟨ho, nB, np, .inr n0⟩
  · rw [updM_ne e] at hc
    exact R'.mem hv b c2 hc
end
end
end NL
/-! ### cells: laid, read, written -/
namespace NL
noncomputable section
open PySem L2
/-! plain -/
def putFD (f : Str) (d : D) : List (Str × D) → List (Str × D)
  | [] => [(f, d)]
  | (g, x) :: r => if g = f then (g, d) :: r else (g, x) :: putFD f d r
def isLocC (c : Str) (M : Addr → Option MC) : D → Option (List (Str × D))
  | .loc a => match M a with
    | some (.obj c' _ fs) => if c' = c then some fs else none
    | _ => none
  | .obj c' fs => if c' = c then some fs else none
  | _ => none
/-- x.f, of an own object -/
def fldMF (c f : Str) (F : Ex) : Ex := fun ρ S => (F ρ S).bind fun d S1 => match isLocC c S1.m d with
  | some fs => optF (fs.lookup f) S1
  | none => .bad
/-- x.f = e -/
def setMS (c f : Str) (Fo Fv : Ex) : Sx := fun ρ S => (Fv ρ S).bind fun d S1 => (Fo ρ S1).bind fun o S2 => match o with
  | .loc a => match S2.m a with
    | some (.obj c' dx fs) => if c' = c ∧ fs.length < 900 then .ok (.nx, ρ) (S2.put a (.obj c' dx (putFD f d fs))) else .bad
    | _ => .bad
  | _ => .bad
/-- a new cell -/
def newMF (c : MC) : Ex := fun _ S => .all (fun a => S.m a = none) fun a => .ok (.loc a) (S.put a c)
def lstMF (Fs : Exs) : Ex := fun ρ S => (Fs ρ S).bind fun ds S1 => .all (fun a => S1.m a = none) fun a => .ok (.loc a) (S1.put a (.lst ds))
/-- x.append(e) -/
def appMF (F1 : Ex) (Fs : Exs) : Ex := fun ρ S => (F1 ρ S).bind fun d S1 => match d with
  | .loc a => match S1.m a with
    | some (.lst _) => (Fs ρ S1).bind fun zs S2 => match S2.m a, zs with
      | some (.lst ds), [z] => if ds.length < 100000 then .ok .non (S2.put a (.lst (ds ++ [z]))) else .bad
      | _, _ => .bad
    | _ => .bad
  | _ => .bad
/-- all cells below are put among what is shared -/
def frzD : Nat → (Addr → Option MC) → D → Option D
  | 0, _, d => some d
  | n + 1, M, .loc a => match M a with
    | some (.lst ds) => (ds.mapM (frzD n M)).map .lst
    | some (.dK es) => (es.mapM fun q => (frzD n M q.2).map fun y => (q.1, y)).map .dct
    | some (.dT es) => (es.mapM fun q => (frzD n M q.2).map fun y => (q.1, y)).map .dcT
    | some (.obj c _ fs) => (fs.mapM fun q => (frzD n M q.2).map fun y => (q.1, y)).map (.obj c)
    | some (.tab _) => none
    | some (.dX _) => none
    | none => none
  | _ + 1, _, d => some d
/-- C(..) of a def that knows cells; what comes is shared from then on -/
def makeFF (c : Str) (f : List D → SrcT → Rs D) (Fs : Exs) : Ex := fun ρ S => (Fs ρ S).bind fun ds S1 => .all (fun _ => True) fun x => .all (fun y => y ≠ x) fun dx =>
  (f (.loc x :: ds) { S1 with m := fun a => if a = x then some (.obj c dx []) else none }).bind fun r S2 => match r with
  | .non => optF (frzD 10 S2.m (.loc x)) { S2 with m := S1.m }
  | _ => .bad
section
variable {G : Gm} {p : Option Addr} {B : Hp}
theorem lookup_dv {f : Str} {d : D} : ∀ {kvs : List (Str × V)} {fs : List (Str × D)}, kvs.map Prod.fst = fs.map Prod.fst → DVs G p B (kvs.map Prod.snd) (fs.map Prod.snd) → fs.lookup f = some d → ∃ v, kvs.lookup f = some v ∧ DV G p B v d
  | [], [], _, _, h => by cases h
  | [], _ :: _, e, _, _ => by cases e
  | _ :: _, [], e, _, _ => by cases e
  | (g, v) :: kvs, (g', d') :: fs, e, hv, h => by
    rw [List.map_cons, List.map_cons] at e hv
    injection e with e1 e2
    have e1 : g = g' := e1
    subst e1
    cases hv with | cons h1 h2 =>
    rw [List.lookup_cons] at h ⊢
    cases hb : (f == g) with
    | true => rw [hb] at h; cases h; exact ⟨v, rfl, h1⟩
    | false => rw [hb] at h; exact lookup_dv e2 h2 h
theorem putF_dv {f : Str} {v : V} {d : D} (hd : DV G p B v d) : ∀ {kvs : List (Str × V)} {fs : List (Str × D)}, kvs.map Prod.fst = fs.map Prod.fst → DVs G p B (kvs.map Prod.snd) (fs.map Prod.snd) → (putF f v kvs).map Prod.fst = (putFD f d fs).map Prod.fst ∧ DVs G p B ((putF f v kvs).map Prod.snd) ((putFD f d fs).map Prod.snd)
  | [], [], _, _ => ⟨rfl, .cons hd .nil⟩
  | [], _ :: _, e, _ => by cases e
  | _ :: _, [], e, _ => by cases e
  | (g, v') :: kvs, (g', d') :: fs, e, hv => by
    rw [List.map_cons, List.map_cons] at e hv
    injection e with e1 e2
    have e1 : g = g' := e1
    subst e1
    cases hv with | cons h1 h2 =>
    unfold putF putFD
    by_cases hg : g = f
    · rw [if_pos hg, if_pos hg]; exact ⟨by rw [List.map_cons, List.map_cons, e2], .cons hd h2⟩
    · rw [if_neg hg, if_neg hg]
      obtain ⟨k1, k2⟩ := putF_dv hd e2 h2
      exact ⟨by rw [List.map_cons, List.map_cons, k1], .cons h1 k2⟩
end
section
variable {X : Cx} {G : Gm} {m m' : Bool} {O O' Ol : List Nat} {E : XK} {e e2 e3 tg : Expr} {es : List Expr} {F F1 F2 F3 Fo Fv : Ex} {Fs : Exs} {pos pos' apos cpos : Pos}
variable {φ : Fr} {σ σ' : L2.St} {B H B' H' : Hp} {ρ ρ' : Env} {S S' : SrcT} {st : Stmt} {c f : Str}
theorem Rep.bsv (R : Rep G φ O σ B H ρ S) (hv : G.v = true) {m : Bool} {B1 H1 : Hp} : bs m φ B1 H1 = B1 := by unfold bs; rw [R.vv.1, hv]; simp
theorem isLoc_at (R : Rep G φ O σ B H ρ S) (hv : G.v = true) {v : V} {d : D} {fs : List (Str × D)} (hd : DV G φ.p B v d) (h : isLocC c S.m d = some fs) : ∃ a dx kvs, v = .ref a ∧ H a = some (.ins (G.oc c) dx kvs) ∧ kvs.map Prod.fst = fs.map Prod.fst ∧ DVs G φ.p B (kvs.map Prod.snd) (fs.map Prod.snd) := by
  unfold isLocC at h
  split at h
  · rename_i a
    split at h
    · rename_i c' dx fs' hm
      split at h
      · rename_i e
        cases h
        subst e
        cases hd
        obtain ⟨kvs, h1, h2, h3⟩ := (R.mem hv a _ hm).1
        exact ⟨a, dx, kvs, rfl, h1, h2, h3⟩
      · cases h
    · cases h
  · split at h
    · rename_i e
      cases h
      subst e
      cases hd with | obj h1 h2 h3 => exact ⟨_, _, _, rfl, R.sub _ _ h1, h2, h3⟩
    · cases h
  · cases h
theorem de_fldM {C : Addr} (hC : G.oc c = C) (hc : Cls G.K C) (hn : NoAttr G.K C f) (h : PE X e (tFld X.K (tD G m O E F) f)) (hv : G.v = true := by rfl) (hK : X.K = G.K := by rfl) : PE X e (tD G m' O E (fldMF c f F)) := by
  subst hC
  refine h.mono fun σ H Q ⟨φ, B, ρ, S, R, hp⟩ => ⟨φ, B, ρ, S, R, ?_⟩
  rw [hK]
  refine Pg.bind hp fun d S1 w B1 H1 g R1 hw h1 => ?_
  rw [R1.bsv hv] at hw
  split at h1
  · rename_i fs hl
    obtain ⟨d', hd', q⟩ := h1.opt
    obtain ⟨a, dx, kvs, rfl, k1, k2, k3⟩ := isLoc_at R1 hv hw hl
    obtain ⟨v, hv1, hv2⟩ := lookup_dv k2 k3 hd'
    exact ⟨a, _, dx, kvs, v, rfl, k1, hc, hn, hv1, q v B1 H1 Go.refl R1 (by rw [R1.bsv hv]; exact hv2)⟩
  · exact h1.elim
theorem ds_setM {C : Addr} (hC : G.oc c = C) (hc : Cls G.K C) (hn : NoAttr G.K C f) (h : PS X st (sFld X.K (tD G m O E Fo) (tD G m' O E Fv) f)) (hv : G.v = true := by rfl) (hK : X.K = G.K := by rfl) : PS X st (tS G O O Ol E (setMS c f Fo Fv)) := by
  subst hC
  refine h.mono fun D σ H ⟨φ, B, ρ, S, R, hp⟩ => ⟨φ, B, ρ, S, R, ?_⟩
  rw [hK]
  refine PostS.bind hp fun d S1 w B1 H1 g R1 hw h1 => ⟨φ, B1, ρ, S1, R1, ?_⟩
  rw [R1.bsv hv] at hw
  refine PostS.bind h1 fun o S2 y B2 H2 g2 R2 hy h2 => ?_
  rw [R2.bsv hv] at hy
  split at h2
  · rename_i a
    split at h2
    · rename_i c' dx fs hm
      split at h2
      · rename_i hcl
        obtain ⟨e, hl⟩ := hcl
        subst e
        cases hy
        obtain ⟨kvs, k1, k2, k3⟩ := (R2.mem hv a _ hm).1
        have hlen : kvs.length = fs.length := by have := congrArg List.length k2; simpa using this
        obtain ⟨q1, q2⟩ := putF_dv (f := f) (hw.same g2.b) k2 k3
        refine ⟨a, _, dx, kvs, rfl, k1, hc, hn, by omega, ?_⟩
        obtain ⟨R3, g3⟩ := R2.write hv (c' := .obj c' dx (putFD f d fs)) (o := .ins (G.oc c') dx (putF f w kvs)) hm ⟨_, upd_same, q1, q2⟩
        exact h2 σ B2 _ (Same.refl _) R3
      · exact h2.elim
    · exact h2.elim
  · exact h2.elim
theorem de_lstM (h : DA X es G m O E Fs) (hl : es.length ≤ 1000) (hv : G.v = true := by rfl) : PE X (.List es pos) (tD G m' O E (lstMF Fs)) := by
  refine (pe_lst h.pa).mono fun σ H Q ⟨φ, B, ρ, S, R, hp⟩ => ⟨φ, B, ρ, S, R, ?_⟩
  unfold lstMF at hp
  refine Pg.bindE (h.len ρ S) hp fun ds S1 ws B1 H1 hlen g R1 hws h1 => ?_
  rw [R1.bsv hv] at hws
  have hlw : ws.length ≤ 1000 := by rw [hws.len, hlen]; exact hl
  refine ⟨sz1000 hlw, fun a na => ?_⟩
  obtain ⟨R', g'⟩ := R1.lay hv (c := .lst ds) (o := .lst ws) na ⟨ws, upd_same, hws⟩
  exact h1 a (R1.mfree hv na) _ B1 _ g' R' (.loc a)
theorem de_appM (h : PE X e (tBM X.K "list" rAppend (tD G m O E F1) (tDs G m O E Fs))) (hv : G.v = true := by rfl) : PE X e (tD G m' O E (appMF F1 Fs)) := by
  refine h.mono fun σ H Q ⟨φ, B, ρ, S, R, hp⟩ => ⟨φ, B, ρ, S, R, ?_⟩
  refine Pg.bind hp fun d S1 w B1 H1 g1 R1 hw h1 => ?_
  split at h1
  · rename_i a
    split at h1
    · rename_i ds0 hm0
      cases hw
      obtain ⟨vs0, e0, _⟩ := (R1.mem hv a _ hm0).1
      refine ⟨.inl ⟨rfl, vs0, SqL.of e0⟩, φ, B1, ρ, S1, R1, ?_⟩
      refine Pg.bind h1 fun zs S2 ws B2 H2 g2 R2 hws h2 => ?_
      rw [R2.bsv hv] at hws
      split at h2
      · rename_i ds z hm
        split at h2
        · rename_i hle
          cases hws with | cons hz hw2 =>
          cases hw2
          obtain ⟨vs, k1, k2⟩ := (R2.mem hv a _ hm).1
          refine ⟨a, vs, _, rfl, rfl, k1, sz100k_lt (by rw [k2.len]; exact hle), ?_⟩
          obtain ⟨R3, g3⟩ := R2.write hv (c' := .lst (ds ++ [z])) (o := .lst (vs ++ [_])) hm ⟨_, upd_same, k2.append (.cons hz .nil)⟩
          exact h2 .non B2 _ g3 R3 .non
        · exact h2.elim
      · exact h2.elim
    · exact h1.elim
  · exact h1.elim
end
end
end NL
/-! ### cells are put among what is shared; comprehensions of defs that know cells -/
namespace NL
noncomputable section
open PySem L2
def absorb (B H' : Hp) (M : Addr → Option MC) : Hp := fun a => match B a with
  | some o => some o
  | none => match M a with
    | some _ => H' a
    | none => none
section
variable {G : Gm} {p : Option Addr} {B H : Hp} {M : Addr → Option MC}
theorem absorb_b : Same B (absorb B H M) := fun a o h => by unfold absorb; rw [h]
theorem absorb_h (s : Same B H) : Same (absorb B H M) H := fun a o h => by
  unfold absorb at h
  split at h
  · rename_i o' e; cases h; exact s _ _ e
  · split at h
    · exact h
    · cases h
theorem absorb_at {a : Addr} {c : MC} (hB : B a = none) (hM : M a = some c) : absorb B H M a = H a := by unfold absorb; rw [hB, hM]
theorem frz_list {f : D → Option D} {B2 : Hp} (hf : ∀ v d d', DV G p B v d → f d = some d' → DV G p B2 v d') : ∀ {vs : List V} {ds ds' : List D}, DVs G p B vs ds → ds.mapM f = some ds' → DVs G p B2 vs ds'
  | _, _, ds', .nil, h => by
    rw [List.mapM_nil] at h
    cases h; exact .nil
  | _, _, ds', .cons (d := d) (ds := ds) h1 h2, h => by
    rw [List.mapM_cons] at h
    cases hd : f d with
    | none => rw [hd] at h; cases h
    | some y =>
      rw [hd] at h
      cases hr : ds.mapM f with
      | none => rw [hr] at h; cases h
      | some ys =>
        rw [hr] at h
        cases h
        exact .cons (hf _ _ _ h1 hd) (frz_list hf h2 hr)
theorem frz_keys {κ : Type} {f : D → Option D} : ∀ {es es' : List (κ × D)}, (es.mapM fun q => (f q.2).map fun y => (q.1, y)) = some es' → es.map Prod.fst = es'.map Prod.fst ∧ (es.map Prod.snd).mapM f = some (es'.map Prod.snd)
  | [], es', h => by
    rw [List.mapM_nil] at h
    cases h; exact ⟨rfl, rfl⟩
  | q :: es, es', h => by
    rw [List.mapM_cons] at h
    cases hd : f q.2 with
    | none => rw [hd] at h; cases h
    | some y =>
      rw [hd] at h
      cases hr : (es.mapM fun q => (f q.2).map fun y => (q.1, y)) with
      | none => simp [hr] at h
      | some ys =>
        simp [hr] at h
        subst h
        obtain ⟨k1, k2⟩ := frz_keys hr
        refine ⟨by rw [List.map_cons, List.map_cons, k1], ?_⟩
        rw [List.map_cons, List.mapM_cons, hd, k2]; rfl
theorem frz_dv (hM : ∀ a c, M a = some c → MemAt G p B H a c ∧ B a = none) : ∀ (n : Nat) {v : V} {d d' : D}, DV G p B v d → frzD n M d = some d' → DV G p (absorb B H M) v d'
  | 0, v, d, d', h, e => by
    unfold frzD at e; cases e; exact h.same absorb_b
  | n + 1, v, d, d', h, e => by
    have ih : ∀ v d d', DV G p B v d → frzD n M d = some d' → DV G p (absorb B H M) v d' := fun v d d' h e => frz_dv hM n h e
    cases d with
    | loc a =>
      cases h
      unfold frzD at e
      cases hm : M a with
      | none => rw [hm] at e; cases e
      | some c =>
        obtain ⟨k1, k2⟩ := hM a c hm
        have at' := absorb_at (H := H) k2 hm
        rw [hm] at e
        cases c with
        | lst ds =>
          obtain ⟨ds', h1, rfl⟩ := Option.map_eq_some_iff.mp e
          obtain ⟨vs, q1, q2⟩ := k1
          exact .lst (at'.trans q1) (frz_list ih q2 h1)
        | dK es =>
          obtain ⟨es', h1, rfl⟩ := Option.map_eq_some_iff.mp e
          obtain ⟨kvs, q1, q2, q3⟩ := k1
          obtain ⟨e1, e2⟩ := frz_keys h1
          exact .dct (at'.trans q1) (q2.trans e1) (frz_list ih q3 e2)
        | dT es =>
          obtain ⟨es', h1, rfl⟩ := Option.map_eq_some_iff.mp e
          obtain ⟨kvs, q1, q2, q3⟩ := k1
          obtain ⟨e1, e2⟩ := frz_keys h1
          exact .dcT (at'.trans q1) (q2.trans e1) (frz_list ih q3 e2)
        | obj c dx fs =>
          obtain ⟨fs', h1, rfl⟩ := Option.map_eq_some_iff.mp e
          obtain ⟨kvs, q1, q2, q3⟩ := k1
          obtain ⟨e1, e2⟩ := frz_keys h1
          exact .obj (at'.trans q1) (q2.trans e1) (frz_list ih q3 e2)
        | tab q => cases e
        | dX es => cases e
    | _ => unfold frzD at e; cases e; exact h.same absorb_b
end
section
variable {X : Cx} {G : Gm} {m m' : Bool} {O O' Ol : List Nat} {E : XK} {e e2 e3 tg : Expr} {es : List Expr} {F F1 F2 F3 Fo Fv : Ex} {Fs : Exs} {pos pos' apos cpos : Pos}
variable {φ : Fr} {σ σ' : L2.St} {B H B' H' : Hp} {ρ ρ' : Env} {S S' : SrcT} {st : Stmt} {c : Str}
/-- the making itself -/
def makeK (c : Str) (f : List D → SrcT → Rs D) (ds : List D) (S1 : SrcT) : Rs D := .all (fun _ => True) fun x => .all (fun y => y ≠ x) fun dx =>
  (f (.loc x :: ds) { S1 with m := fun a => if a = x then some (.obj c dx []) else none }).bind fun r S2 => match r with
  | .non => optF (frzD 10 S2.m (.loc x)) { S2 with m := S1.m }
  | _ => .bad
theorem make_core {f : List D → SrcT → Rs D} {ds : List D} {ws : List V} {B1 H1 : Hp} {S1 : SrcT} {Q : VK} (R1 : Rep G φ O σ B1 H1 ρ S1) (hws : DVs G φ.p B1 ws ds) (h1 : Pg G φ m O E σ ρ (DV G) B1 H1 (makeK c f ds S1) Q) (hv0 : G.v = false) (x dx : Addr) (nx : H1 x = none) (ndx : H1 dx = none) (ne : dx ≠ x) :
    spV G.vol f (.ref x :: ws) (upd (upd H1 dx (.own x)) x (.ins (G.oc c) dx [])) (fun v H2 => v = .non ∧ Q (.ref x) H2) E := by
  have h2 := h1 x True.intro dx ne
  dsimp only at h2
  have npx : φ.p ≠ some x := fun e => by have := (R1.src x e).2.1; rw [nx] at this; cases this
  have nBx : B1 x = none := by
    cases k : B1 x with
    | none => rfl
    | some o => rw [R1.sub _ _ k] at nx; cases nx
  have smL : Same H1 (upd (upd H1 dx (.own x)) x (.ins (G.oc c) dx [])) := (same_new ndx).trans (same_new (by rw [upd_ne ne.symm]; exact nx))
  obtain ⟨M0, hM0⟩ : ∃ M0 : Addr → Option MC, M0 = fun a => if a = x then some (.obj c dx []) else none := ⟨_, rfl⟩
  have m0 : ∀ a, a ≠ x → M0 a = none := fun a ha => by rw [hM0]; exact if_neg ha
  rw [← hM0] at h2
  have fr : ∀ {B' H' : Hp} {S' : SrcT}, AftV G.vol φ.p B1 (upd (upd H1 dx (.own x)) x (.ins (G.oc c) dx [])) M0 B' H' S' → ∀ a o, φ.p ≠ some a → H1 a = some o → H' a = some o := fun A a o hp ha =>
    A.f a o hp (m0 a (ne_of_none ha nx)) (smL _ _ ha)
  have nn : ∀ a, (upd (upd H1 dx (.own x)) x (.ins (G.oc c) dx [])) a = none → H1 a = none := fun a ha => upd_no (upd_no ha)
  refine ⟨φ.p, B1, .loc x :: ds, { S1 with m := M0 }, R1.sub.trans smL, fun q hq => ⟨(R1.src q hq).1, smL _ _ (R1.src q hq).2.1, (R1.src q hq).2.2⟩, fun a c' hc => ?_, .cons (.loc x) hws.vol, ?_⟩
  · by_cases ea : a = x
    · subst ea
      have hc : M0 a = some c' := hc
      rw [hM0] at hc
      dsimp only at hc
      rw [if_pos rfl] at hc
      cases hc
      exact ⟨⟨[], upd_same, rfl, .nil⟩, nBx, npx⟩
    · have hc : M0 a = some c' := hc
      rw [m0 a ea] at hc; cases hc
  · show spPostV G.vol φ.p B1 _ M0 _ E _
    generalize f (.loc x :: ds) { S1 with m := M0 } = r at h2 ⊢
    induction r with
    | bad => exact h2
    | exc cc d S' =>
      intro B' H' cv od A hx
      obtain ⟨B2, g2, R2, hb⟩ := R1.after false (S' := S') (Bc := B') A.b A.s (fr A) (fun a o h hm => (A.n a o h hm).imp id (nn a)) A.src hv0
      refine h2 B2 H' cv od g2 R2.bare ⟨hx.1, ?_⟩
      have hx2 := hx.2
      cases d with
      | none => exact True.intro
      | some d =>
        obtain ⟨dx, v, k1, k2, k3⟩ := hx2
        exact ⟨dx, v, k1, k2, k3.unvol.same hb⟩
    | all p0 k ih => exact fun x px => ih x (h2 x px)
    | ok d S' =>
      intro v B' H' A hd
      replace h2 : Pg G φ m O E σ ρ (DV G) B1 H1 (match (generalizing := false) d with
        | .non => optF (frzD 10 S'.m (.loc x)) { S' with m := S1.m }
        | _ => .bad) Q := h2
      cases d with
      | non =>
        cases hd
        obtain ⟨d', e1, q⟩ := h2.opt
        have hM : ∀ a c, S'.m a = some c → MemAt G.vol φ.p B' H' a c ∧ B' a = none := fun a c hc => ⟨(A.mem a c hc).1, (A.mem a c hc).2.1⟩
        have dv := (frz_dv hM 10 (DV.loc x) e1).unvol
        obtain ⟨B2, g2, R2, hb⟩ := R1.after false (S' := { S' with m := S1.m }) (Bc := absorb B' H' S'.m) (show Same B1 _ from A.b.trans absorb_b) (absorb_h A.s) (fr A) (fun a o h hm => by
          unfold absorb at h
          split at h
          · rename_i o' e; cases h
            exact (A.n a o e hm).imp id (nn a)
          · split at h
            · rename_i c' hc
              rcases (A.mem a c' hc).2.2.2 with k | k
              · by_cases ea : a = x
                · exact .inr (ea ▸ nx)
                · exact absurd (m0 a ea) k
              · exact .inr (nn a k)
            · cases h) (fun q hq => ⟨by
              unfold absorb
              rw [(A.src q hq).1]
              dsimp only
              cases hc : S'.m q with
              | none => rfl
              | some c' => exact absurd hq (A.mem q c' hc).2.2.1, (A.src q hq).2⟩) hv0
        exact ⟨rfl, q (.ref x) B2 H' g2 R2 ((dv.same hb).same (R2.bbs m))⟩
      | _ => exact h2.elim
theorem de_makeF {f : List D → SrcT → Rs D} {C : Addr} (hC : G.oc c = C) (h : PE X e (tMake C (spV G.vol f) [] E (tDs G false O E Fs))) (hv0 : G.v = false := by rfl) : PE X e (tD G m O E (makeFF c f Fs)) := by
  refine h.mono fun σ H Q ⟨φ, B, ρ, S, R, hp⟩ => ⟨φ, B, ρ, S, R, ?_⟩
  refine Pg.bind hp fun ds S1 ws B1 H1 g R1 hws h1 => fun x dx nx ndx ne => ?_
  rw [List.append_nil]
  subst hC
  exact make_core R1 hws h1 hv0 x dx nx ndx ne
/-! a comprehension, defs that know cells -/
theorem lc_impV {is js : List Nat} {FI : Exs} {g : Tgt} {c : Tst} {Fe : Ex} (hj : ∀ i, i ∈ js → i ∈ is) (σ : L2.St) (H : Hp) (Q : VK) (h : tN G m O E (lcF is FI g c Fe) σ H Q) (hv : G.v = true := by rfl) : tLc (tI G O E FI) (tTg G O js g) (tBt G O E c) (tD G false O E Fe) is σ H Q := by
  obtain ⟨φ, B, ρ, S, R, hp⟩ := h
  refine ⟨φ, B, ρ, S, R, ?_⟩
  refine PgN.bind hp fun ds S1 J B1 H1 g1 R1 hJ h1 => fun A nA => ?_
  split at h1
  case isFalse => exact h1.elim
  rename_i hdl
  have hJ : DWalk G φ.p B1 J ds := hJ
  obtain ⟨Gd, hGd, W⟩ := hJ
  have npA : φ.p ≠ some A := fun e => by have := (R1.src A e).2.1; rw [nA] at this; cases this
  have n0A : φ.H0 A = none := R1.al A nA
  have hO : ∀ i, i ∈ is → i ∉ O := fun i _ hi => R1.noown hv hi
  have Rw := R1.wipe (vs := is) hO
  have dis : ∀ {σ : L2.St} (i : Nat), i ∈ O → σ[i]? ≠ some (some (.ref A)) := fun i hi => (R1.noown hv hi).elim
  refine lc_it W (fun i H' => ∃ Bi Si acc vs, Rep G φ O (L2.wipe σ is) Bi H' (wipeE ρ is) Si ∧ Go φ B1 H1 Bi H' ∧ H' A = some (.lst vs) ∧ DVs G φ.p Bi vs acc ∧ acc.length ≤ i ∧ Bi A = none ∧ Si.m A = none ∧ PgN G φ m O E σ ρ B1 H1 ((lcGo g c Fe (wipeE ρ is) (ds.drop i) Si).bind fun ys S => .ok (.lst (acc ++ ys)) S) Q) ?_ ?_ ?_ ?_
  · obtain ⟨Rn, gn, nB, _, _⟩ := Rw.newN (o := .lst []) nA
    exact ⟨B1, S1, [], [], Rn, gn, upd_same, .nil, Nat.le_refl _, nB, R1.mfree hv nA, h1⟩
  · rintro i H' hi ⟨Bi, Si, acc, vs, Ri, gi, _⟩
    exact hGd H' (gi.b.trans Ri.sub)
  · rintro i x H2 H3 hi ⟨Bi, Si, acc, vs, Ri, gi, hA, hvs, hl, nBA, nMA, hp'⟩ y
    obtain ⟨d, B2, hd, R2, g2, dv⟩ := yield_rep Ri gi.b y
    have hdrop : ds.drop i = d :: ds.drop (i + 1) := by
      have hi' := (List.getElem?_eq_some_iff.mp hd)
      rw [List.drop_eq_getElem_cons hi'.1, hi'.2]
    rw [hdrop] at hp'
    rw [lcGo] at hp'
    have hp2 := hp'
    cases hg : g d (wipeE ρ is) with
    | none => rw [hg] at hp2; exact hp2.elim
    | some ρ' =>
      rw [hg] at hp2
      have hA2 : H3 A = some (.lst vs) ∧ B2 A = none := by
        obtain ⟨d', hd', hy⟩ := y
        rcases hy with ⟨rfl, _⟩ | ⟨T, o, rfl, nT, rfl, _⟩
        · refine ⟨hA, ?_⟩
          cases k : B2 A with
          | none => rfl
          | some z =>
            have hz := R2.sub A z k
            rw [hA] at hz; cases hz
            rcases g2.n A _ k True.intro with q | q
            · rw [nBA] at q; cases q
            · rw [hA] at q; cases q
        · have hA3 : upd H2 T o A = some (.lst vs) := upd_keep hA nT
          refine ⟨hA3, ?_⟩
          cases k : B2 A with
          | none => rfl
          | some z =>
            have hz := R2.sub A z k
            rw [hA3] at hz; cases hz
            rcases g2.n A _ k True.intro with q | q
            · rw [nBA] at q; cases q
            · rw [hA] at q; cases q
      refine ⟨φ, B2, wipeE ρ is, Si, d, ρ', R2, dv, hg, fun σ' R' fr => ⟨fr.wipe hj, φ.sub B2 H3 Si, B2, ρ', Si, R'.enter hv, ?_⟩⟩
      dsimp only at hp2
      rw [Rs.bind_assoc] at hp2
      obtain ⟨hA2, nA2⟩ := hA2
      have hvs2 := hvs.same g2.b
      have g12 := gi.trans g2
      generalize c ρ' Si = rc at hp2
      induction rc with
      | bad => exact hp2.elim
      | exc cc dd SS => exact fun B' H' cv od g R3 hx => hp2 B' H' cv od (g12.trans (R'.leave hv R3).2) (R'.leave hv R3).1 hx
      | all p0 k0 ih => exact fun x px => ih x (hp2 x px)
      | ok b S3 =>
        intro bw B3 H4 _ R3s hbw
        have hbw : bw = b := hbw
        subst hbw
        obtain ⟨hA3, nA3, nM3⟩ := R3s.keep hv npA nMA nA2 hA2 True.intro
        obtain ⟨R3, g3⟩ := R'.leave hv R3s
        have hp3 := hp2
        have Rw3 : Rep G φ O (L2.wipe σ is) B3 H4 (wipeE ρ is) S3 := Rw.move (g12.trans g3) R3
        cases bw with
        | false =>
          rw [if_neg (by decide)]
          exact ⟨B3, S3, acc, vs, Rw3, g12.trans g3, hA3, hvs2.same g3.b, by omega, nA3, nM3, hp3⟩
        | true =>
          rw [if_pos rfl]
          simp only [Rs.bind, if_true] at hp3
          refine ⟨φ.sub B3 H4 S3, B3, ρ', S3, R3.enter hv, ?_⟩
          generalize Fe ρ' S3 = rf at hp3
          induction rf with
          | bad => exact hp3.elim
          | exc cc dd SS => exact fun B' H' cv od g R4 hx => hp3 B' H' cv od ((g12.trans g3).trans (R3.leave hv R4).2) (R3.leave hv R4).1 hx
          | all p0 k0 ih => exact fun x px => ih x (hp3 x px)
          | ok yd S4 =>
            intro yv B4 H5 _ R4s hyv
            have hyv : DV G φ.p B4 yv yd := hyv
            obtain ⟨hA4, nA4, nM4⟩ := R4s.keep hv npA nM3 nA3 hA3 True.intro
            obtain ⟨R4, g4⟩ := R3.leave hv R4s
            have hp4 := hp3
            have hvs4 := (hvs2.same g3.b).same g4.b
            refine ⟨vs, hA4, sz100k_lt (by rw [hvs4.len]; omega), ?_⟩
            have Rw4 : Rep G φ O (L2.wipe σ is) B4 H5 (wipeE ρ is) S4 := Rw.move ((g12.trans g3).trans g4) R4
            have gA := (g12.trans g3).trans g4
            have g5 : Go φ B1 H1 B4 (upd H5 A (.lst (vs ++ [yv]))) := ⟨gA.b, fun h => (R1.vt hv h).elim, gA.n, fun q hq => gA.d q (upd_no hq)⟩
            refine ⟨B4, S4, acc ++ [yd], vs ++ [yv], Rw4.poke nA4 n0A npA dis (fun _ => nM4), g5, upd_same, hvs4.append (.cons hyv .nil), by rw [List.length_append]; simp; omega, nA4, nM4, ?_⟩
            have e5 : ((lcGo g c Fe (wipeE ρ is) (ds.drop (i + 1)) S4).bind fun ys S => Rs.ok (D.lst (acc ++ [yd] ++ ys)) S) = ((lcGo g c Fe (wipeE ρ is) (ds.drop (i + 1)) S4).bind fun ys S3 => Rs.ok (yd :: ys) S3).bind (fun ys S => Rs.ok (D.lst (acc ++ ys)) S) := by
              rw [Rs.bind_assoc]; congr 1; funext ys S; simp [Rs.bind]
            rw [e5]; exact hp4
  · rintro H' ⟨Bi, Si, acc, vs, Ri, gi, hA, hvs, hl, nBA, nMA, hp'⟩
    rw [List.drop_length] at hp'
    have hp' : PgN G φ m O E σ ρ B1 H1 (.ok (.lst (acc ++ [])) Si) Q := hp'
    rw [List.append_nil] at hp'
    exact hp' A _ Bi H' gi (R1.move gi Ri) ⟨hA, nBA, n0A, npA, dis, DVs.same (Ri.bbs m) hvs, fun _ => nMA⟩ nA
theorem de_lcV {is js : List Nat} {FI : Exs} {g : Tgt} {c : Tst} {Fe : Ex} (hj : ∀ i, i ∈ js → i ∈ is) (h : PE X e (tLc (tI G O E FI) (tTg G O js g) (tBt G O E c) (tD G false O E Fe) is)) (hv : G.v = true := by rfl) : PE X e (tD G m O E (lcF is FI g c Fe)) := de_ofN (h.mono fun σ H Q hw => lc_impV hj σ H Q hw hv)
end
end
end NL
/-! ### comprehensions with two clauses -/
namespace NL
end NL
/-! ### an own object is made in a try's body -/
namespace NL
end NL
/-! ### own objects that are shared, dicts with tuples as keys -/
namespace NL
noncomputable section
open PySem L2
def fldOF (c f : Str) (F : Ex) : Ex := fun ρ S => (F ρ S).bind fun d S1 => match d with
  | .obj c' fs => if c' = c then optF (fs.lookup f) S1 else .bad
  | _ => .bad
section
variable {X : Cx} {G : Gm} {m m' : Bool} {O O' Ol : List Nat} {E : XK} {e e2 e3 tg : Expr} {es : List Expr} {F F1 F2 F3 Fo Fv : Ex} {Fs : Exs} {pos pos' apos cpos : Pos}
variable {φ : Fr} {σ σ' : L2.St} {B H B' H' : Hp} {ρ ρ' : Env} {S S' : SrcT} {st : Stmt} {c f : Str}
theorem de_fldO {C : Addr} (hC : G.oc c = C) (hc : Cls G.K C) (hn : NoAttr G.K C f) (h : PE X e (tFld X.K (tD G m O E F) f)) (hK : X.K = G.K := by rfl) : PE X e (tD G m O E (fldOF c f F)) := by
  subst hC
  refine h.mono fun σ H Q ⟨φ, B, ρ, S, R, hp⟩ => ⟨φ, B, ρ, S, R, ?_⟩
  rw [hK]
  refine Pg.bind hp fun d S1 w B1 H1 g R1 hw h1 => ?_
  cases hw with
  | @obj a dx c' kvs fs k1 k2 k3 =>
    replace h1 : Pg G φ m O E σ ρ (DV G) B1 H1 (if c' = c then optF (fs.lookup f) S1 else .bad) Q := h1
    by_cases e : c' = c
    · rw [if_pos e] at h1
      subst e
      obtain ⟨d', hd', q⟩ := h1.opt
      obtain ⟨v, hv1, hv2⟩ := lookup_dv k2 k3 hd'
      exact ⟨a, _, dx, kvs, v, rfl, R1.bsH m _ _ k1, hc, hn, hv1, q v B1 H1 Go.refl R1 hv2⟩
    · rw [if_neg e] at h1; exact h1.elim
  | _ => exact h1.elim
end
/-! the module's table of long groups -/
/-! plain steps -/
section
variable {ρ : Env} {S : SrcT} {F F1 F2 F3 Fo Fv Fe : Ex} {Fs FI FI1 : Exs} {g g1 : Tgt} {cc c1 : Tst} {is is1 : List Nat} {P : D → SrcT → Prop} {PS : Fl × Env → SrcT → Prop} {f : List D → SrcT → Rs D} {c fn : Str}
theorem fldOF_sat (h : (F ρ S).sat fun d S1 => ∃ fs, d = .obj c fs ∧ ∃ r, fs.lookup fn = some r ∧ P r S1) : (fldOF c fn F ρ S).sat P := by
  unfold fldOF; rw [sat_bind]
  refine h.mono fun d S1 ⟨fs, e, r, hr, hp⟩ => ?_
  subst e
  dsimp only
  rw [if_pos rfl, hr]; exact hp
theorem fldMF_sat (h : (F ρ S).sat fun d S1 => ∃ fs, isLocC c S1.m d = some fs ∧ ∃ r, fs.lookup fn = some r ∧ P r S1) : (fldMF c fn F ρ S).sat P := by
  unfold fldMF; rw [sat_bind]
  refine h.mono fun d S1 ⟨fs, e, r, hr, hp⟩ => ?_
  rw [e]; dsimp only; rw [hr]; exact hp
theorem setMS_sat (h : (Fv ρ S).sat fun d S1 => (Fo ρ S1).sat fun o S2 => ∃ a dx fs, o = .loc a ∧ S2.m a = some (.obj c dx fs) ∧ fs.length < 900 ∧ PS (.nx, ρ) (S2.put a (.obj c dx (putFD fn d fs)))) : (setMS c fn Fo Fv ρ S).sat PS := by
  unfold setMS; rw [sat_bind]
  refine h.mono fun d S1 h1 => ?_
  rw [sat_bind]
  refine h1.mono fun o S2 ⟨a, dx, fs, e, hm, hl, hp⟩ => ?_
  subst e
  dsimp only
  rw [hm]; dsimp only
  rw [if_pos ⟨rfl, hl⟩]; exact hp
theorem newMF_sat {x : MC} (h : ∀ a, S.m a = none → P (.loc a) (S.put a x)) : (newMF x ρ S).sat P := h
theorem lstMF_sat (h : (Fs ρ S).sat fun ds S1 => ∀ a, S1.m a = none → P (.loc a) (S1.put a (.lst ds))) : (lstMF Fs ρ S).sat P := by
  unfold lstMF; rw [sat_bind]; exact h
theorem appMF_sat (h : (F1 ρ S).sat fun d S1 => ∃ a, d = .loc a ∧ (∃ ds, S1.m a = some (.lst ds)) ∧ (Fs ρ S1).sat fun zs S2 => ∃ ds z, S2.m a = some (.lst ds) ∧ zs = [z] ∧ ds.length < 100000 ∧ P .non (S2.put a (.lst (ds ++ [z])))) : (appMF F1 Fs ρ S).sat P := by
  unfold appMF; rw [sat_bind]
  refine h.mono fun d S1 ⟨a, e, ⟨ds0, h0⟩, h1⟩ => ?_
  subst e
  dsimp only
  rw [h0]; dsimp only
  rw [sat_bind]
  refine h1.mono fun zs S2 ⟨ds, z, hm, hz, hl, hp⟩ => ?_
  subst hz
  rw [hm]; dsimp only
  rw [if_pos hl]; exact hp
theorem keepM_sat {α : Type} {M : Addr → Option MC} {r : Rs α} {P : α → SrcT → Prop} (h : r.sat fun a S => P a { S with m := M }) : (r.keepM M).sat P := by
  induction r with
  | all p k ih => exact fun x px => ih x (h x px)
  | ok a S => exact h
  | _ => exact h.elim
theorem callK_sat (h : (Fs ρ S).sat fun ds S1 => (f ds S1).sat fun d S2 => P d { S2 with m := S1.m }) : (callK f Fs ρ S).sat P := by
  unfold callK; rw [sat_bind]
  exact h.mono fun ds S1 h1 => keepM_sat h1
theorem makeFF_sat (h : (Fs ρ S).sat fun ds S1 => ∀ x dx, dx ≠ x → (f (.loc x :: ds) { S1 with m := fun a => if a = x then some (.obj c dx []) else none }).sat fun r S2 => r = .non ∧ ∃ d, frzD 10 S2.m (.loc x) = some d ∧ P d { S2 with m := S1.m }) : (makeFF c f Fs ρ S).sat P := by
  unfold makeFF; rw [sat_bind]
  refine h.mono fun ds S1 h1 => fun x _ dx hd => ?_
  rw [sat_bind]
  refine (h1 x dx hd).mono fun r S2 ⟨e, d, hf, hp⟩ => ?_
  subst e
  dsimp only
  rw [hf]; exact hp
end
end
end NL
namespace NL
noncomputable section
open PySem L2
/-! a plain expression within a def that knows cells -/
def liftK (F : Ex) : Ex := fun ρ S => (F ρ S).keepM S.m
theorem de_lift {G : Gm} {X : Cx} {e : Expr} {m : Bool} {O : List Nat} {E : XK} {F : Ex} (hv : G.v = false) (hfx : G.fx = none) (h : PE X e (tD G false [] E F)) : PE X e (tD G.vol m O E (liftK F)) := by
  refine h.mono fun σ H Q ⟨φ, B, ρ, S, R, hp⟩ => ?_
  refine ⟨{ p := φ.p, B0 := B, H0 := H }, B, ρ, S, ⟨R.sub, fun _ _ _ _ h => h, fun _ _ h _ => .inl h, R.src, Same.refl _, R.len, fun i d _ hd => ?_, fun i hi => (nomatch hi), fun i j hi => (nomatch hi), fun _ h => h, (fun h => by rw [hv] at h; cases h), ⟨hv.symm, fun _ f hf => by rw [hfx] at hf; cases hf⟩, fun i hi => (nomatch hi)⟩, ?_⟩
  · obtain ⟨v, k1, k2⟩ := R.val i d (fun hi => R.noown rfl hi) hd
    exact ⟨v, k1, k2.unvol⟩
  · have hp : Pg G.vol φ m O E σ ρ (DV G.vol) B H ((F ρ S).keepM S.m) Q := hp
    show Pg G { p := φ.p, B0 := B, H0 := H } false [] E σ ρ (DV G) B H (F ρ S) Q
    generalize F ρ S = r at hp ⊢
    induction r with
    | bad => exact hp
    | all p k ih => exact fun x px => ih x (hp x px)
    | exc c d S' =>
      intro B' H' cv od g R' hx
      obtain ⟨g2, R2⟩ := R.afterV rfl (R.afterK R'.b0 R'.sub (fun a o h1 h2 => R'.fr a o h1 rfl h2) (fun a o h hm => R'.cl a o h hm) R'.src)
      refine hp B' H' cv od g2 R2.bare ⟨hx.1, ?_⟩
      have hx2 := hx.2
      cases d with
      | none => exact True.intro
      | some d =>
        obtain ⟨dx, v, k1, k2, k3⟩ := hx2
        exact ⟨dx, v, k1, k2, k3.vol⟩
    | ok d S' =>
      intro v B' H' g R' hd
      obtain ⟨g2, R2⟩ := R.afterV rfl (R.afterK R'.b0 R'.sub (fun a o h1 h2 => R'.fr a o h1 rfl h2) (fun a o h hm => R'.cl a o h hm) R'.src)
      exact hp v B' H' g2 R2 (by rw [R2.bsv rfl]; exact hd.vol)
theorem liftK_sat {F : Ex} {ρ : NL.Env} {S : SrcT} {P : D → SrcT → Prop} (h : (F ρ S).sat fun d S1 => P d { S1 with m := S.m }) : (liftK F ρ S).sat P := keepM_sat h
end
end NL
/-! ### x in d, for a dict d with plain keys; x a text, an int or None -/
namespace NL
end NL
/-! ### dict(pairs), dict(d), sorted texts, str(text), tuples with a star -/
namespace NL
end NL
/-! ### t != u, tuples with dicts among their items; xs[::-1]; [str(k) for k in d] -/
namespace NL
noncomputable section
open PySem L2 PyProof.Rows
section
variable {X : Cx} {G : Gm} {m m' : Bool} {O O' Ol : List Nat} {E : XK} {e : Expr} {es : List Expr} {F F1 F2 : Ex} {Fs : Exs}
def neX : D → D → Option D
  | .tup as, .tup bs => (eqIs as bs).map fun b => .bl (!b)
  | _, _ => none
/-! xs[::-1] -/
/-! [str(k) for k in d] -/
/-! enumerate(tuple) -/
end
end
end NL
/-! ### set(xs), xs a list of keys of any kind; len(set(texts)) -/
namespace NL
open PySem PySem.Spec PyProof.Rows
end NL
namespace NL
end NL
/-! ### own objects by a classmethod: cls(..); C.m(..) in a try's body -/
namespace NL
end NL
/-! ### x = xs.pop(k), xs of this def's own; text * 0, text * 1 -/
namespace NL
end NL
/-! ### a def called with an owned list: what it gives is a new list of texts -/
namespace NL
end NL
/-! ### lists of a def that are changed deep within: cells; plain expressions over them, what they tell is parted from them -/
namespace NL
noncomputable section
open PySem L2
section
variable {X : Cx} {G : Gm} {m m' : Bool} {O O' Ol : List Nat} {E E' : XK} {e e2 tg : Expr} {es : List Expr} {F F1 F2 : Ex} {Fs : Exs}
variable {φ : Fr} {σ : L2.St} {B H B' H' : Hp} {ρ : Env} {S S' : SrcT}
/-- a new list becomes a cell -/
def cellF (F : Ex) : Ex := fun ρ S => (F ρ S).bind fun d S1 => match d with
  | .lst ds => .all (fun a => S1.m a = none) fun a => .ok (.loc a) (S1.put a (.lst ds))
  | _ => .bad
theorem cell_imp (σ : L2.St) (H : Hp) (Q : VK) (h : tD G m' O E (cellF F) σ H Q) (hv : G.v = true := by rfl) : tN G m O E F σ H Q := by
  obtain ⟨φ, B, ρ, S, R, hp⟩ := h
  refine ⟨φ, B, ρ, S, R, ?_⟩
  unfold cellF at hp
  generalize F ρ S = r at hp ⊢
  induction r with
  | bad => exact hp
  | exc c d S => exact hp
  | all p k ih => exact fun x px => ih x (hp x px)
  | ok d S1 =>
    intro a o B' H' g R' n hn
    replace hp : Pg G φ m' O E σ ρ (DV G) B H (match (generalizing := false) d with
      | .lst ds => .all (fun a => S1.m a = none) fun a => .ok (.loc a) (S1.put a (.lst ds))
      | _ => .bad) Q := hp
    split at hp
    · rename_i ds
      have hp := hp a (n.nm hv)
      obtain ⟨n1, n2, n3, n4, n5, n6, n7⟩ := n
      have n6 : DO G φ.p B' o (.lst ds) := by
        have e := n6
        rw [R'.bsv hv] at e; exact e
      cases o with
      | lst vs =>
        refine hp (.ref a) B' H' g ⟨R'.sub, R'.fr, R'.cl, fun q hq => R'.src q hq, R'.b0, R'.len, R'.val, R'.own, R'.dis, R'.al, fun _ b c2 hc => ?_, R'.vv, R'.nov⟩ (.loc a)
        have hc : updM S1.m a (.lst ds) b = some c2 := hc
        by_cases e : b = a
        · subst e
          rw [updM_same] at hc
          cases hc
          exact ⟨⟨vs, n1, n6⟩, n2, n4, .inr n3⟩
        · rw [updM_ne e] at hc
          exact R'.mem hv b c2 hc
      | _ => exact n6.elim
    · exact hp.elim
theorem de_cell (h : PE X e (tN G m O E F)) (hv : G.v = true := by rfl) : PE X e (tD G m' O E (cellF F)) := h.mono fun σ H Q hw => cell_imp σ H Q hw hv
theorem de_lcVN {is js : List Nat} {FI : Exs} {g : Tgt} {c : Tst} {Fe : Ex} (hj : ∀ i, i ∈ js → i ∈ is) (h : PE X e (tLc (tI G O E FI) (tTg G O js g) (tBt G O E c) (tD G false O E Fe) is)) (hv : G.v = true := by rfl) : PE X e (tN G m O E (lcF is FI g c Fe)) := h.mono fun σ H Q hw => lc_impV hj σ H Q hw hv
/-! plain steps -/
theorem cellF_sat {P : D → SrcT → Prop} (h : (F ρ S).sat fun d S1 => ∃ ds, d = .lst ds ∧ ∀ a, S1.m a = none → P (.loc a) (S1.put a (.lst ds))) : (cellF F ρ S).sat P := by
  unfold cellF; rw [sat_bind]
  refine h.mono fun d S1 ⟨ds, e, h1⟩ => ?_
  subst e
  exact h1
/-! the law itself as a def that knows cells -/
end
end
end NL
/-! ### cells that are dicts with keys of any kind; walks over cells -/
namespace NL
noncomputable section
open PySem L2
def valXD : List (D × D) → NestedKey → Option D
  | [], _ => none
  | e :: r, k => if keyN e.1 = some k then some e.2 else valXD r k
def putXD : List (D × D) → NestedKey → D → D → List (D × D)
  | [], _, y, v => [(y, v)]
  | e :: r, k, y, v => if keyN e.1 = some k then (e.1, v) :: r else e :: putXD r k y v
def cellX (d : D) (M : Addr → Option MC) : Option (Addr × List (D × D)) := match d with
  | .loc a => match M a with
    | some (.dX es) => some (a, es)
    | _ => none
  | _ => none
section
variable {G : Gm} {p : Option Addr} {B : Hp}
theorem erel_val : ∀ {xs : List XE} {es : List (D × D)} (k : NestedKey), ERel G p B xs es → (valX xs k = none ∧ valXD es k = none) ∨ ∃ v d, valX xs k = some v ∧ valXD es k = some d ∧ DV G p B v d
  | _, _, k, .nil => .inl ⟨rfl, rfl⟩
  | x :: xs, e :: es, k, .cons r t => by
    unfold valX valXD
    rw [r.1]
    by_cases q : x.1 = k
    · rw [if_pos q, if_pos (by rw [q])]; exact .inr ⟨_, _, rfl, rfl, r.2.2⟩
    · rw [if_neg q, if_neg (fun h => q (Option.some.inj h))]; exact erel_val k t
theorem erel_put {k : NestedKey} {y v : V} {yd vd : D} (hk : keyN yd = some k) (hy : DV G p B y yd) (hv : DV G p B v vd) : ∀ {xs : List XE} {es : List (D × D)}, ERel G p B xs es → ERel G p B (putX xs k y v) (putXD es k yd vd)
  | _, _, .nil => .cons ⟨hk, hy, hv⟩ .nil
  | x :: xs, e :: es, .cons r t => by
    unfold putX putXD
    rw [r.1]
    by_cases q : x.1 = k
    · rw [if_pos q, if_pos (by rw [q])]; exact .cons ⟨r.1, r.2.1, hv⟩ t
    · rw [if_neg q, if_neg (fun h => q (Option.some.inj h))]; exact .cons r (erel_put hk hy hv t)
theorem erel_len {xs : List XE} {es : List (D × D)} (h : ERel G p B xs es) : xs.length = es.length := Paired.length h
end
/-- k in d, k not in d -/
def inXF (neg : Bool) (Fk Fd : Ex) : Ex := fun ρ S => (Fk ρ S).bind fun y S1 => (Fd ρ S1).bind fun d S2 => match cellX d S2.m, keyN y with
  | some (_, es), some k => .ok (.bl (neg ^^ (valXD es k).isSome)) S2
  | _, _ => .bad
/-- d[k] -/
def getXF (Fd Fk : Ex) : Ex := fun ρ S => (Fd ρ S).bind fun d S1 => (Fk ρ S1).bind fun y S2 => match cellX d S2.m, keyN y with
  | some (_, es), some k => optF (valXD es k) S2
  | _, _ => .bad
/-- d.setdefault(k, z) -/
def sdXF (Fd Fk Fz : Ex) : Ex := fun ρ S => (Fd ρ S).bind fun d S1 => match cellX d S1.m with
  | some _ => (Fk ρ S1).bind fun y S2 => (Fz ρ S2).bind fun z S3 => match cellX d S3.m, keyN y with
    | some (a, es), some k => if es.length < 100000 then (match valXD es k with
      | some v => .ok v S3
      | none => .ok z (S3.put a (.dX (putXD es k y z)))) else .bad
    | _, _ => .bad
  | none => .bad
/-- d[k] = v -/
def putXS (Fd Fk Fv : Ex) : Sx := fun ρ S => (Fv ρ S).bind fun v S1 => (Fd ρ S1).bind fun d S2 => (Fk ρ S2).bind fun y S3 => match cellX d S3.m, keyN y with
  | some (a, es), some k => if es.length < 100000 then .ok (.nx, ρ) (S3.put a (.dX (putXD es k y v))) else .bad
  | _, _ => .bad
section
variable {X : Cx} {G : Gm} {m m' : Bool} {O O' Ol : List Nat} {E : XK} {e : Expr} {F F1 F2 F3 Fd Fk Fz Fv : Ex} {Fs : Exs} {pos : Pos}
variable {φ : Fr} {σ σ' : L2.St} {B H B' H' : Hp} {ρ ρ' : NL.Env} {S S' : SrcT} {st : Stmt}
theorem cellX_at (R : Rep G φ O σ B H ρ S) (hv : G.v = true) {v : V} {d : D} {a : Addr} {es : List (D × D)} (hd : DV G φ.p B v d) (h : cellX d S.m = some (a, es)) : v = .ref a ∧ d = .loc a ∧ S.m a = some (.dX es) ∧ ∃ ep xs, H a = some (GX G.w a ep xs) ∧ ERel G φ.p B xs es := by
  unfold cellX at h
  split at h
  · split at h
    · rename_i hm
      cases h
      cases hd
      exact ⟨rfl, rfl, hm, (R.mem hv a _ hm).1⟩
    · cases h
  · cases h
theorem de_newX (hv : G.v = true := by rfl) (hw : X.w = G.w := by rfl) : PE X (.Dict [] [] pos) (tD G m O E (newMF (.dX []))) := by
  refine pe_dnewX.mono fun σ H Q ⟨φ, B, ρ, S, R, hp⟩ => fun a na => ?_
  rw [hw]
  obtain ⟨R', g⟩ := R.lay hv (c := .dX []) (o := GX G.w a 0 []) na ⟨0, [], upd_same, .nil⟩
  exact hp a (R.mfree hv na) _ B _ g R' (.loc a)
theorem inX_imp {neg : Bool} {Q : VK} (R : Rep G φ O σ B H ρ S) (hp : Pg G φ m O E σ ρ (DV G) B H (inXF neg Fk Fd ρ S) Q) (hv : G.v = true) : tXIn G.K G.w neg (tD G true O E Fk) (tD G true O E Fd) σ H Q := by
  refine ⟨φ, B, ρ, S, R, ?_⟩
  refine Pg.bind hp fun y S1 wy B1 H1 g1 R1 hwy h1 => ⟨φ, B1, ρ, S1, R1, ?_⟩
  refine Pg.bind h1 fun d S2 wd B2 H2 g2 R2 hwd h2 => ?_
  rw [R1.bsv hv] at hwy
  rw [R2.bsv hv] at hwd
  split at h2
  · rename_i a es k hc hk
    obtain ⟨rfl, rfl, hm, ep, xs, he, rel⟩ := cellX_at R2 hv hwd hc
    have hy := hwy.same g2.b
    refine ⟨a, xs, k, rfl, ⟨ep, .inl he⟩, rel.keys.same R2.sub, (keyN_at hy hk).same R2.sub, keyN_8 hy hk, ?_⟩
    rcases erel_val k rel with ⟨e1, e2⟩ | ⟨v, d, e1, e2, _⟩
    · rw [e1]; rw [e2] at h2; exact Pg.ok h2 R2 (.bl _)
    · rw [e1]; rw [e2] at h2; exact Pg.ok h2 R2 (.bl _)
  · exact h2.elim
theorem dt_inX {neg : Bool} (h : PT X e (tB (tXIn X.K X.w neg (tD G true O E Fk) (tD G true O E Fd)))) (hv : G.v = true := by rfl) (hw : X.w = G.w := by rfl) (hK : X.K = G.K := by rfl) : PT X e (tBt G O E (blT (inXF neg Fk Fd))) := h.mono fun σ H Q ⟨φ, B, ρ, S, R, hp⟩ => by rw [hw, hK]; exact inX_imp R (Pg.blT (rel := DV G) hp) hv
theorem de_getX (h : PE X e (tXGet X.K X.w (tD G true O E Fd) (tD G true O E Fk))) (hv : G.v = true := by rfl) (hw : X.w = G.w := by rfl) (hK : X.K = G.K := by rfl) : PE X e (tD G m O E (getXF Fd Fk)) := by
  refine h.mono fun σ H Q ⟨φ, B, ρ, S, R, hp⟩ => ⟨φ, B, ρ, S, R, ?_⟩
  refine Pg.bind hp fun d S1 wd B1 H1 g1 R1 hwd h1 => ⟨φ, B1, ρ, S1, R1, ?_⟩
  refine Pg.bind h1 fun y S2 wy B2 H2 g2 R2 hwy h2 => ?_
  rw [R1.bsv hv] at hwd
  rw [R2.bsv hv] at hwy
  split at h2
  · rename_i a es k hc hk
    obtain ⟨rfl, rfl, hm, ep, xs, he, rel⟩ := cellX_at R2 hv (hwd.same g2.b) hc
    obtain ⟨r, hr, q⟩ := Pg.opt h2
    rcases erel_val k rel with ⟨e1, e2⟩ | ⟨v, d, e1, e2, dv⟩
    · rw [e2] at hr; cases hr
    · rw [e2] at hr; cases hr
      rw [hw, hK]
      exact ⟨a, xs, k, v, rfl, ⟨ep, .inl he⟩, rel.keys.same R2.sub, (keyN_at hwy hk).same R2.sub, keyN_8 hwy hk, e1, q v B2 H2 Go.refl R2 (by rw [R2.bsv hv]; exact dv)⟩
  · exact h2.elim
theorem de_sdX (h : PE X e (tXSd X.K X.w (tD G true O E Fd) (tD G true O E Fk) (tD G true O E Fz))) (hv : G.v = true := by rfl) (hw : X.w = G.w := by rfl) (hK : X.K = G.K := by rfl) : PE X e (tD G m O E (sdXF Fd Fk Fz)) := by
  refine h.mono fun σ H Q ⟨φ, B, ρ, S, R, hp⟩ => ⟨φ, B, ρ, S, R, ?_⟩
  refine Pg.bind hp fun d S1 wd B1 H1 g1 R1 hwd h1 => ?_
  rw [R1.bsv hv] at hwd
  split at h1
  · rename_i z0 hc0
    obtain ⟨a0, es0⟩ := z0
    obtain ⟨rfl, rfl, hm0, ep0, xs0, he0, _⟩ := cellX_at R1 hv hwd hc0
    rw [hw, hK]
    refine ⟨a0, xs0, rfl, ⟨ep0, .inl he0⟩, φ, B1, ρ, S1, R1, ?_⟩
    refine Pg.bind h1 fun y S2 wy B2 H2 g2 R2 hwy h2 => ⟨φ, B2, ρ, S2, R2, ?_⟩
    rw [R2.bsv hv] at hwy
    refine Pg.bind h2 fun z S3 wz B3 H3 g3 R3 hwz h3 => ?_
    rw [R3.bsv hv] at hwz
    split at h3
    · rename_i a es k hc hk
      obtain ⟨ea, _, hm, ep, xs, he, rel⟩ := cellX_at R3 hv (.loc a0) hc
      cases ea
      have hy := hwy.same g3.b
      split at h3
      · rename_i hle
        refine ⟨ep, xs, k, he, rel.keys.same R3.sub, (keyN_at hy hk).same R3.sub, keyN_8 hy hk, sz100k_lt (by rw [erel_len rel]; omega), fun v e1 => ?_, fun e1 ep' => ?_⟩
        · rcases erel_val k rel with ⟨q1, _⟩ | ⟨v', d, q1, q2, dv⟩
          · rw [q1] at e1; cases e1
          · rw [q1] at e1; cases e1
            rw [q2] at h3
            exact Pg.ok h3 R3 (by rw [R3.bsv hv]; exact dv)
        · rcases erel_val k rel with ⟨_, q2⟩ | ⟨v', d, q1, _⟩
          · rw [q2] at h3
            obtain ⟨R5, g5⟩ := R3.write hv (c' := .dX (putXD es k y z)) (o := GX G.w a0 ep' (putX xs k wy wz)) hm ⟨ep', _, upd_same, erel_put hk hy hwz rel⟩
            exact h3 wz B3 _ g5 R5 (by rw [R5.bsv hv]; exact hwz)
          · rw [q1] at e1; cases e1
      · exact h3.elim
    · exact h3.elim
  · exact h1.elim
theorem ds_putX (h : PS X st (sXPut X.K X.w (tD G true O E Fd) (tD G true O E Fk) (tD G false O E Fv))) (hv : G.v = true := by rfl) (hw : X.w = G.w := by rfl) (hK : X.K = G.K := by rfl) : PS X st (tS G O O Ol E (putXS Fd Fk Fv)) := by
  refine h.mono fun D σ H ⟨φ, B, ρ, S, R, hp⟩ => ⟨φ, B, ρ, S, R, ?_⟩
  refine PostS.bind hp fun v S1 wv B1 H1 g1 R1 hwv h1 => ⟨φ, B1, ρ, S1, R1, ?_⟩
  rw [R1.bsv hv] at hwv
  refine PostS.bind h1 fun d S2 wd B2 H2 g2 R2 hwd h2 => ⟨φ, B2, ρ, S2, R2, ?_⟩
  rw [R2.bsv hv] at hwd
  refine PostS.bind h2 fun y S3 wy B3 H3 g3 R3 hwy h3 => ?_
  rw [R3.bsv hv] at hwy
  rw [hw, hK]
  split at h3
  · rename_i a es k hc hk
    obtain ⟨rfl, rfl, hm, ep, xs, he, rel⟩ := cellX_at R3 hv (hwd.same g3.b) hc
    split at h3
    · rename_i hle
      refine ⟨a, ep, xs, k, rfl, he, rel.keys.same R3.sub, (keyN_at hwy hk).same R3.sub, keyN_8 hwy hk, sz100k_lt (by rw [erel_len rel]; omega), fun ep' => ?_⟩
      obtain ⟨R5, g5⟩ := R3.write hv (c' := .dX (putXD es k y v)) (o := GX G.w a ep' (putX xs k wy wv)) hm ⟨ep', _, upd_same, erel_put hk hwy ((hwv.same g2.b).same g3.b) rel⟩
      exact h3 σ B3 _ (Same.refl _) R5
    · exact h3.elim
  · exact h3.elim
/-! a cell is walked: it is out of sight meanwhile -/
def SrcT.hide (S : SrcT) (a : Addr) : SrcT := { S with m := fun b => if b = a then none else S.m b }
theorem hideM_none {a : Addr} : (S.hide a).m a = none := if_pos rfl
theorem hideM_some {a b : Addr} {c : MC} (h : (S.hide a).m b = some c) : b ≠ a ∧ S.m b = some c := by
  have h : (if b = a then none else S.m b) = some c := h
  by_cases e : b = a
  · rw [if_pos e] at h; cases h
  · rw [if_neg e] at h; exact ⟨e, h⟩
theorem Rep.hide (R : Rep G φ O σ B H ρ S) (a : Addr) : Rep G φ O σ B H ρ (S.hide a) :=
  ⟨R.sub, R.fr, R.cl, fun q hq => R.src q hq, R.b0, R.len, R.val, R.own, R.dis, R.al, fun hv b c hc => R.mem hv b c (hideM_some hc).2, R.vv, R.nov⟩
/-- what was out of sight is seen again -/
theorem Rep.show {a : Addr} {c : MC} (R : Rep G φ O σ B H ρ S) (h1 : MemAt G φ.p B H a c) (h2 : B a = none) (h3 : φ.p ≠ some a) (h4 : φ.M0 a ≠ none ∨ φ.H0 a = none) : Rep G φ O σ B H ρ (S.put a c) :=
  ⟨R.sub, R.fr, R.cl, fun q hq => R.src q hq, R.b0, R.len, R.val, R.own, R.dis, R.al, fun hv b c2 hc => by
    have hc : updM S.m a c b = some c2 := hc
    by_cases e : b = a
    · subst e
      rw [updM_same] at hc
      cases hc
      exact ⟨h1, h2, h3, h4⟩
    · rw [updM_ne e] at hc
      exact R.mem hv b c2 hc, R.vv, R.nov⟩
def cwD (k : Bool) (d : D) (M : Addr → Option MC) : Option (Addr × MC × List D) := match d with
  | .loc a => match M a with
    | some (.lst ds) => if k = true then none else some (a, .lst ds, ds)
    | some (.dX es) => if k = true then some (a, .dX es, es.map fun e => .tup [e.1, e.2]) else none
    | _ => none
  | _ => none
/-- [.. for .. in x], x a cell -/
def lcHF (is : List Nat) (k : Bool) (Fd : Ex) (g : Tgt) (c : Tst) (Fe : Ex) : Ex := fun ρ S => (Fd ρ S).bind fun d S1 => match cwD k d S1.m with
  | some (a, cc, ds) => if ds.length ≤ 99999 then (lcGo g c Fe (wipeE ρ is) ds (S1.hide a)).bind fun ys S2 => .ok (.lst ys) (S2.put a cc) else .bad
  | none => .bad
def forHS (k : Bool) (Fd : Ex) (g : Tgt) (A : Sx) : Sx := fun ρ S => (Fd ρ S).bind fun d S1 => match cwD k d S1.m with
  | some (a, cc, ds) => (forGo g A ds ρ (S1.hide a)).bind fun r S2 => .ok r (S2.put a cc)
  | none => .bad
theorem lcH_core {J : It} {a : Addr} {o : HO} {cc : MC} {ds : List D} {S1 : SrcT} {B1 H1 : Hp} {is js : List Nat} {g : Tgt} {c : Tst} {Fe : Ex} {Q : VK} (hj : ∀ i, i ∈ js → i ∈ is) (R1 : Rep G φ O σ B1 H1 ρ S1) (hv : G.v = true) (ha : H1 a = some o) (mo : mutO o) (hm : S1.m a = some cc)
    (mem : ∀ {B' H' : Hp}, Same B1 B' → H' a = some o → MemAt G φ.p B' H' a cc) (W : Walk J ds.length (fun H => H a = some o) (YD G φ.p B1 ds)) (hdl : ds.length ≤ 99999)
    (h1 : PgN G φ m O E σ ρ B1 H1 ((lcGo g c Fe (wipeE ρ is) ds (S1.hide a)).bind fun ys S2 => .ok (.lst ys) (S2.put a cc)) Q) (A : Addr) (nA : H1 A = none) :
    ∃ W : Nat → Nat → Hp → Prop, (∃ m, W 0 m (upd H1 A (.lst []))) ∧ ∀ i m H, W i m H → (J.stop i H ∧ Q (.ref A) H) ∨ (J.go i H ∧ ∃ Nx : Hp → Prop, (∀ H', Nx H' → ∃ m', m' < m ∧ W (i + 1) m' H') ∧ ∀ x H', J.yld i H x H' → (tTg G O js g) x (wipe σ is) H' fun σ2 H2 => wipe σ2 is = wipe σ is ∧ (tBt G O E c) σ2 H2 fun b H3 =>
      if b = true then (tD G false O E Fe) σ2 H3 fun y H4 => ∃ acc, H4 A = some (.lst acc) ∧ acc.length < sizeLine ∧ Nx (upd H4 A (.lst (acc ++ [y]))) else Nx H3) := by
  obtain ⟨ma1, ma2, ma3, ma4⟩ := R1.mem hv a cc hm
  have neA : A ≠ a := fun e => by rw [e, ha] at nA; cases nA
  have npA : φ.p ≠ some A := fun e => by have := (R1.src A e).2.1; rw [nA] at this; cases this
  have n0A : φ.H0 A = none := R1.al A nA
  have hO : ∀ i, i ∈ is → i ∉ O := fun i _ hi => R1.noown hv hi
  have Rw := (R1.hide a).wipe (vs := is) hO
  have dis : ∀ {σ : L2.St} (i : Nat), i ∈ O → σ[i]? ≠ some (some (.ref A)) := fun i hi => (R1.noown hv hi).elim
  refine lc_it W (fun i H' => ∃ Bi Si acc vs, Rep G φ O (L2.wipe σ is) Bi H' (wipeE ρ is) Si ∧ Go φ B1 H1 Bi H' ∧ H' A = some (.lst vs) ∧ DVs G φ.p Bi vs acc ∧ acc.length ≤ i ∧ Bi A = none ∧ Si.m A = none ∧ H' a = some o ∧ Bi a = none ∧ Si.m a = none ∧ PgN G φ m O E σ ρ B1 H1 ((lcGo g c Fe (wipeE ρ is) (ds.drop i) Si).bind fun ys S => .ok (.lst (acc ++ ys)) (S.put a cc)) Q) ?_ ?_ ?_ ?_
  · obtain ⟨Rn, gn, nB, _, _⟩ := Rw.newN (o := .lst []) nA
    exact ⟨B1, S1.hide a, [], [], Rn, gn, upd_same, .nil, Nat.le_refl _, nB, (by show (if A = a then none else S1.m A) = none; rw [if_neg neA]; exact R1.mfree hv nA), by rw [upd_ne neA.symm]; exact ha, ma2, hideM_none, h1⟩
  · rintro i H' hi ⟨Bi, Si, acc, vs, Ri, gi, _, _, _, _, _, hh, _⟩
    exact hh
  · rintro i x H2 H3 hi ⟨Bi, Si, acc, vs, Ri, gi, hA, hvs, hl, nBA, nMA, hh, nBh, nMh, hp'⟩ y
    obtain ⟨d, B2, hd, R2, g2, dv⟩ := yield_rep Ri gi.b y
    have hdrop : ds.drop i = d :: ds.drop (i + 1) := by
      have hi' := (List.getElem?_eq_some_iff.mp hd)
      rw [List.drop_eq_getElem_cons hi'.1, hi'.2]
    rw [hdrop] at hp'
    rw [lcGo] at hp'
    have hp2 := hp'
    have keepY : ∀ {b : Addr} {ob : HO}, mutO ob → H2 b = some ob → Bi b = none → H3 b = some ob ∧ B2 b = none := fun {b ob} mob hb nb => by
      have h3 : H3 b = some ob := by
        obtain ⟨d', hd', hy⟩ := y
        rcases hy with ⟨rfl, _⟩ | ⟨T, oT, rfl, nT, rfl, _⟩
        · exact hb
        · exact upd_keep hb nT
      refine ⟨h3, ?_⟩
      cases k : B2 b with
      | none => rfl
      | some z =>
        have hz := R2.sub b z k
        rw [h3] at hz; cases hz
        rcases g2.n b _ k mob with q | q
        · rw [nb] at q; cases q
        · rw [hb] at q; cases q
    cases hg : g d (wipeE ρ is) with
    | none => rw [hg] at hp2; exact hp2.elim
    | some ρ' =>
      rw [hg] at hp2
      obtain ⟨hA2, nA2⟩ := keepY (ob := .lst vs) True.intro hA nBA
      obtain ⟨hh2, nh2⟩ := keepY mo hh nBh
      refine ⟨φ, B2, wipeE ρ is, Si, d, ρ', R2, dv, hg, fun σ' R' fr => ⟨fr.wipe hj, φ.sub B2 H3 Si, B2, ρ', Si, R'.enter hv, ?_⟩⟩
      dsimp only at hp2
      rw [Rs.bind_assoc] at hp2
      have hvs2 := hvs.same g2.b
      have g12 := gi.trans g2
      generalize c ρ' Si = rc at hp2
      induction rc with
      | bad => exact hp2.elim
      | exc cc dd SS => exact fun B' H' cv od g R3 hx => hp2 B' H' cv od (g12.trans (R'.leave hv R3).2) (R'.leave hv R3).1 hx
      | all p0 k0 ih => exact fun x px => ih x (hp2 x px)
      | ok b S3 =>
        intro bw B3 H4 _ R3s hbw
        have hbw : bw = b := hbw
        subst hbw
        obtain ⟨hA3, nA3, nM3⟩ := R3s.keep hv npA nMA nA2 hA2 True.intro
        obtain ⟨hh3, nh3, nN3⟩ := R3s.keep hv ma3 nMh nh2 hh2 mo
        obtain ⟨R3, g3⟩ := R'.leave hv R3s
        have hp3 := hp2
        have Rw3 : Rep G φ O (L2.wipe σ is) B3 H4 (wipeE ρ is) S3 := Rw.move (g12.trans g3) R3
        cases bw with
        | false =>
          rw [if_neg (by decide)]
          exact ⟨B3, S3, acc, vs, Rw3, g12.trans g3, hA3, hvs2.same g3.b, by omega, nA3, nM3, hh3, nh3, nN3, hp3⟩
        | true =>
          rw [if_pos rfl]
          simp only [Rs.bind, if_true] at hp3
          refine ⟨φ.sub B3 H4 S3, B3, ρ', S3, R3.enter hv, ?_⟩
          generalize Fe ρ' S3 = rf at hp3
          induction rf with
          | bad => exact hp3.elim
          | exc cc dd SS => exact fun B' H' cv od g R4 hx => hp3 B' H' cv od ((g12.trans g3).trans (R3.leave hv R4).2) (R3.leave hv R4).1 hx
          | all p0 k0 ih => exact fun x px => ih x (hp3 x px)
          | ok yd S4 =>
            intro yv B4 H5 _ R4s hyv
            have hyv : DV G φ.p B4 yv yd := hyv
            obtain ⟨hA4, nA4, nM4⟩ := R4s.keep hv npA nM3 nA3 hA3 True.intro
            obtain ⟨hh4, nh4, nN4⟩ := R4s.keep hv ma3 nN3 nh3 hh3 mo
            obtain ⟨R4, g4⟩ := R3.leave hv R4s
            have hp4 := hp3
            have hvs4 := (hvs2.same g3.b).same g4.b
            refine ⟨vs, hA4, sz100k_lt (by rw [hvs4.len]; omega), ?_⟩
            have Rw4 : Rep G φ O (L2.wipe σ is) B4 H5 (wipeE ρ is) S4 := Rw.move ((g12.trans g3).trans g4) R4
            have gA := (g12.trans g3).trans g4
            have g5 : Go φ B1 H1 B4 (upd H5 A (.lst (vs ++ [yv]))) := ⟨gA.b, fun h => (R1.vt hv h).elim, gA.n, fun q hq => gA.d q (upd_no hq)⟩
            refine ⟨B4, S4, acc ++ [yd], vs ++ [yv], Rw4.poke nA4 n0A npA dis (fun _ => nM4), g5, upd_same, hvs4.append (.cons hyv .nil), by rw [List.length_append]; simp; omega, nA4, nM4, by rw [upd_ne neA.symm]; exact hh4, nh4, nN4, ?_⟩
            have e5 : ((lcGo g c Fe (wipeE ρ is) (ds.drop (i + 1)) S4).bind fun ys S => Rs.ok (D.lst (acc ++ [yd] ++ ys)) (S.put a cc)) = ((lcGo g c Fe (wipeE ρ is) (ds.drop (i + 1)) S4).bind fun ys S3 => Rs.ok (yd :: ys) S3).bind (fun ys S => Rs.ok (D.lst (acc ++ ys)) (S.put a cc)) := by
              rw [Rs.bind_assoc]; congr 1; funext ys S; simp [Rs.bind]
            rw [e5]; exact hp4
  · rintro H' ⟨Bi, Si, acc, vs, Ri, gi, hA, hvs, hl, nBA, nMA, hh, nBh, nMh, hp'⟩
    rw [List.drop_length] at hp'
    have hp' : PgN G φ m O E σ ρ B1 H1 (.ok (.lst (acc ++ [])) (Si.put a cc)) Q := hp'
    rw [List.append_nil] at hp'
    have Re := (R1.move gi Ri).show (mem gi.b hh) nBh ma3 ma4
    exact hp' A _ Bi H' gi Re ⟨hA, nBA, n0A, npA, dis, DVs.same (Ri.bbs m) hvs, fun _ => (by show updM Si.m a cc A = none; rw [updM_ne neA]; exact nMA)⟩ nA
theorem PostS.seqV {D D' : Ends} {O1 Ol1 : List Nat} {S0 : SrcT} {r : Rs (Fl × NL.Env)} {k : Fl × NL.Env → SrcT → Rs (Fl × NL.Env)} (R0 : Rep G φ O σ B H ρ S0) (hv : G.v = true) (h : PostS G φ O' Ol E D B (r.bind k))
    (hn : ∀ ρ' S σ' B' H', Rep G (φ.sub B H S0) O1 σ' B' H' ρ' S → PostS G φ O' Ol E D B' (k (.nx, ρ') S) → D'.nx σ' H')
    (hb : ∀ ρ' S σ' B' H', Rep G (φ.sub B H S0) Ol1 σ' B' H' ρ' S → PostS G φ O' Ol E D B' (k (.brk, ρ') S) → D'.bk σ' H')
    (hc : ∀ ρ' S σ' B' H', Rep G (φ.sub B H S0) Ol1 σ' B' H' ρ' S → PostS G φ O' Ol E D B' (k (.cont, ρ') S) → D'.ct σ' H')
    (hr : ∀ ρ' d S v B' H', Rep G (φ.sub B H S0) [] [] B' H' [] S → DV G φ.p B' v d → PostS G φ O' Ol E D B' (k (.ret d, ρ') S) → D'.rt v H') : PostS G (φ.sub B H S0) O1 Ol1 E D' B r := by
  induction r with
  | bad => exact h
  | exc c d S => exact fun B' H' cv od s R hx => h B' H' cv od s (R0.leave hv R).1 hx
  | ok q S =>
    match q, h with
    | (.nx, ρ'), h => exact fun σ' B' H' s R => hn ρ' S σ' B' H' R (PostS.same s h)
    | (.brk, ρ'), h => exact fun σ' B' H' s R => hb ρ' S σ' B' H' R (PostS.same s h)
    | (.cont, ρ'), h => exact fun σ' B' H' s R => hc ρ' S σ' B' H' R (PostS.same s h)
    | (.ret d, ρ'), h => exact fun v B' H' s R hv' => hr ρ' d S v B' H' R hv' (PostS.same s h)
  | all p f ih => exact fun x px => ih x (h x px)
theorem forH_core {D : Ends} {J : It} {a : Addr} {o : HO} {cc : MC} {ds : List NL.D} {S1 : SrcT} {B1 H1 : Hp} {is : List Nat} {g : Tgt} {A : Sx} (R1 : Rep G φ O σ B1 H1 ρ S1) (hv : G.v = true) (ha : H1 a = some o) (mo : mutO o) (hm : S1.m a = some cc)
    (mem : ∀ {B' H' : Hp}, Same B1 B' → H' a = some o → MemAt G φ.p B' H' a cc) (W : Walk J ds.length (fun H => H a = some o) (YD G φ.p B1 ds))
    (h1 : PostS G φ O Ol E D B1 ((forGo g A ds ρ (S1.hide a)).bind fun r S2 => .ok r (S2.put a cc))) (wi : TI) (hwi : ∀ R, R J H1 → wi σ H1 R) : tFor wi (tTg G O is g) (tS G O O O E A) D σ H1 := by
  obtain ⟨ma1, ma2, ma3, ma4⟩ := R1.mem hv a cc hm
  refine hwi _ ?_
  refine for_it W (fun i σ H => ∃ Bi ρi Si, Rep G φ O σ Bi H ρi Si ∧ Same B1 Bi ∧ H a = some o ∧ Bi a = none ∧ Si.m a = none ∧ PostS G φ O Ol E D Bi ((forGo g A (ds.drop i) ρi Si).bind fun r S2 => .ok r (S2.put a cc))) ?_ ?_ ?_ ?_
  · exact ⟨B1, ρ, S1.hide a, R1.hide a, Same.refl _, ha, ma2, hideM_none, h1⟩
  · rintro i σ H' hi ⟨Bi, ρi, Si, Ri, si, hh, _⟩
    exact hh
  · rintro i x σ H2 H3 hi ⟨Bi, ρi, Si, Ri, si, hh, nBh, nMh, hp'⟩ y
    obtain ⟨d, B2, hd, R2, g2, dv⟩ := yield_rep Ri si y
    have hdrop : ds.drop i = d :: ds.drop (i + 1) := by
      have hi' := (List.getElem?_eq_some_iff.mp hd)
      rw [List.drop_eq_getElem_cons hi'.1, hi'.2]
    rw [hdrop, forGo] at hp'
    have hp2 := PostS.same g2.b hp'
    have s12 := si.trans g2.b
    have hh2 : H3 a = some o ∧ B2 a = none := by
      have h3 : H3 a = some o := by
        obtain ⟨d', hd', hy⟩ := y
        rcases hy with ⟨rfl, _⟩ | ⟨T, oT, rfl, nT, rfl, _⟩
        · exact hh
        · exact upd_keep hh nT
      refine ⟨h3, ?_⟩
      cases k : B2 a with
      | none => rfl
      | some z =>
        have hz := R2.sub a z k
        rw [h3] at hz; cases hz
        rcases g2.n a _ k mo with q | q
        · rw [nBh] at q; cases q
        · rw [hh] at q; cases q
    obtain ⟨hh2, nh2⟩ := hh2
    cases hg : g d ρi with
    | none => rw [hg] at hp2; exact hp2.elim
    | some ρ' =>
      rw [hg] at hp2
      refine ⟨φ, B2, ρi, Si, d, ρ', R2, dv, hg, fun σ' R' fr => ⟨φ.sub B2 H3 Si, B2, ρ', Si, R'.enter hv, ?_⟩⟩
      dsimp only at hp2
      rw [Rs.bind_assoc] at hp2
      have go : ∀ {σ'' : L2.St} {B'' H'' : Hp} {ρ1 : NL.Env} {S2 : SrcT} {O2 : List Nat}, Rep G (φ.sub B2 H3 Si) O2 σ'' B'' H'' ρ1 S2 → Rep G φ O2 σ'' B'' H'' ρ1 S2 ∧ Same B1 B'' ∧ H'' a = some o ∧ B'' a = none ∧ S2.m a = none := fun {σ'' B'' H'' ρ1 S2 O2} Rs => by
        obtain ⟨k1, k2, k3⟩ := Rs.keep hv ma3 nMh nh2 hh2 mo
        obtain ⟨q1, q2⟩ := R'.leave hv Rs
        exact ⟨q1, s12.trans q2.b, k1, k2, k3⟩
      refine PostS.seqV R' hv hp2 (fun ρ1 S2 σ'' B'' H'' Rs h => ?_) (fun ρ1 S2 σ'' B'' H'' Rs h => ?_) (fun ρ1 S2 σ'' B'' H'' Rs h => ?_) (fun ρ1 d S2 v B'' H'' Rs hv' h => ?_)
      · obtain ⟨q1, q2, q3, q4, q5⟩ := go Rs
        exact ⟨B'', ρ1, S2, q1, q2, q3, q4, q5, h⟩
      · obtain ⟨q1, q2, q3, q4, q5⟩ := go Rs
        exact h σ'' B'' H'' (Same.refl _) (q1.show (mem q2 q3) q4 ma3 ma4)
      · obtain ⟨q1, q2, q3, q4, q5⟩ := go Rs
        exact ⟨B'', ρ1, S2, q1, q2, q3, q4, q5, h⟩
      · obtain ⟨q1, q2, q3, q4, q5⟩ := go Rs
        exact h v B'' H'' (Same.refl _) (q1.show (mem q2 q3) q4 ma3 ma4) hv'
  · rintro σ H' ⟨Bi, ρi, Si, Ri, si, hh, nBh, nMh, hp'⟩
    rw [List.drop_length] at hp'
    exact hp' σ Bi H' (Same.refl _) (Ri.show (mem si hh) nBh ma3 ma4)
/-- the walk over a cell -/
theorem walk_lstC {a : Addr} {vs : List V} {ds : List D} {p : Option Addr} (hs : DVs G p B vs ds) : Walk (Itl G.K a) ds.length (fun H => H a = some (.lst vs)) (YD G p B ds) := by
  rw [← hs.len]
  have w : Walk (Itl G.K a) vs.length (fun H => SqL G.K H a vs) _ := walk_list
  refine ⟨fun i H hi hg => w.goes i H hi (SqL.of hg), fun H hg => w.stops H (SqL.of hg), fun i H x H' hi hg y => ?_⟩
  obtain ⟨e1, e2⟩ := w.yields i H x H' hi (SqL.of hg) y
  obtain ⟨d', k1, k2⟩ := hs.getV e2
  exact ⟨d', k1, .inl ⟨e1, k2⟩⟩
theorem erel_get {p : Option Addr} {xs : List XE} {es : List (D × D)} (h : ERel G p B xs es) {i : Nat} {x : XE} (hi : xs[i]? = some x) : ∃ e, es[i]? = some e ∧ DV G p B x.2.1 e.1 ∧ DV G p B x.2.2 e.2 := by
  induction h generalizing i with
  | nil => simp at hi
  | cons r t ih =>
    cases i with
    | zero => simp at hi; subst hi; exact ⟨_, rfl, r.2.1, r.2.2⟩
    | succ i => simpa using ih (by simpa using hi)
theorem walk_dXC {a : Addr} {ep : Nat} {xs : List XE} {es : List (D × D)} {p : Option Addr} (hs : ERel G p B xs es) : Walk (Itx G.w a ep xs) (es.map fun e => D.tup [e.1, e.2]).length (fun H => H a = some (GX G.w a ep xs)) (YD G p B (es.map fun e => D.tup [e.1, e.2])) := by
  rw [List.length_map, ← erel_len hs]
  refine ⟨fun i H hi hg => ⟨.inl hg, hi⟩, fun H hg => ⟨.inl hg, Nat.le_refl _⟩, fun i H x H' hi hg y => ?_⟩
  obtain ⟨e, q, h1, rfl, h2, rfl⟩ := y
  obtain ⟨e', k1, k2, k3⟩ := erel_get hs h1
  refine ⟨.tup [e'.1, e'.2], by rw [List.getElem?_map, k1]; rfl, .inr ⟨q, _, rfl, h2, rfl, fun B2 s n => ?_⟩⟩
  exact .tup (.inl (.inl upd_same)) (.cons ((k2.same s).same (same_new n)) (.cons ((k3.same s).same (same_new n)) .nil))
theorem lcHi_imp {is js : List Nat} {g : Tgt} {c : Tst} {Fe : Ex} (hj : ∀ i, i ∈ js → i ∈ is) (σ : L2.St) (H : Hp) (Q : VK) (h : tN G m O E (lcHF is true Fd g c Fe) σ H Q) (hv : G.v = true := by rfl) : tLc (iItemsX G.w (tD G false O E Fd)) (tTg G O js g) (tBt G O E c) (tD G false O E Fe) is σ H Q := by
  obtain ⟨φ, B, ρ, S, R, hp⟩ := h
  refine ⟨φ, B, ρ, S, R, ?_⟩
  refine PgN.bind hp fun d S1 v B1 H1 g1 R1 hd h1 => ?_
  have hd : DV G φ.p B1 v d := by rw [R1.bsv hv] at hd; exact hd
  split at h1
  · rename_i a cc ds hc
    split at h1
    · rename_i hl
      unfold cwD at hc
      split at hc
      · split at hc
        · rw [if_pos rfl] at hc; cases hc
        · rename_i es hm
          rw [if_pos rfl] at hc
          cases hc
          cases hd
          obtain ⟨ma1, ma2, ma3, ma4⟩ := R1.mem hv _ _ hm
          obtain ⟨ep, xs, q1, q2⟩ := id ma1
          exact ⟨_, ep, xs, rfl, .inl q1, lcH_core hj R1 hv q1 True.intro hm (fun s e => ⟨ep, xs, e, q2.same s⟩) (walk_dXC q2) hl h1⟩
        · cases hc
      · cases hc
    · exact h1.elim
  · exact h1.elim
theorem de_lcHi {is js : List Nat} {g : Tgt} {c : Tst} {Fe : Ex} (hj : ∀ i, i ∈ js → i ∈ is) (h : PE X e (tLc (iItemsX X.w (tD G false O E Fd)) (tTg G O js g) (tBt G O E c) (tD G false O E Fe) is)) (hv : G.v = true := by rfl) (hw' : X.w = G.w := by rfl) : PE X e (tN G m O E (lcHF is true Fd g c Fe)) := h.mono fun σ H Q hw => by rw [hw']; exact lcHi_imp hj σ H Q hw hv
theorem ds_forHl {is : List Nat} {g : Tgt} {A : Sx} (h : PS X st (tFor (iSeq2 X.K (tD G false O E Fd)) (tTg G O is g) (tS G O O O E A))) (hv : G.v = true := by rfl) (hK : X.K = G.K := by rfl) : PS X st (tS G O O Ol E (forHS false Fd g A)) := by
  refine h.mono fun D σ H ⟨φ, B, ρ, S, R, hp⟩ => ⟨φ, B, ρ, S, R, ?_⟩
  rw [hK]
  refine PostS.bind hp fun d S1 v B1 H1 g1 R1 hd h1 => ?_
  have hd : DV G φ.p B1 v d := by rw [R1.bsv hv] at hd; exact hd
  split at h1
  · rename_i a cc ds hc
    unfold cwD at hc
    split at hc
    · split at hc
      · rename_i ds' hm
        rw [if_neg (by decide)] at hc
        cases hc
        cases hd
        obtain ⟨ma1, ma2, ma3, ma4⟩ := R1.mem hv _ _ hm
        obtain ⟨vs, q1, q2⟩ := id ma1
        exact ⟨_, vs, rfl, .inl ⟨SqL.of q1, forH_core (is := is) R1 hv q1 True.intro hm (fun s e => ⟨vs, e, q2.same s⟩) (walk_lstC q2) h1 (fun _ H R => R (Itl G.K _) H) fun _ r => r⟩⟩
      · rw [if_neg (by decide)] at hc; cases hc
      · cases hc
    · cases hc
  · exact h1.elim
end
end
end NL
/-! ### {k: v}, k a tuple; own objects that stay cells; their methods -/
namespace NL
noncomputable section
open PySem PySem.Spec PyProof.Rows L2
def tDisp1X (K : PySem.W.Frag) (w : World) (tk tv : TE) : TE := fun σ H Q => ∀ p, H p = none → tk σ (upd H p (GX w p 0 [])) fun x H1 => tv σ H1 fun y H2 => H2 p = some (GX w p 0 []) ∧ ∃ a k, x = .ref a ∧ KyAt K H2 (.ref a) k ∧ k.depth ≤ 8 ∧ ∀ ep', Q (.ref p) (upd H2 p (GX w p ep' [(k, .ref a, y)]))
section
variable {X : Cx} {pos : Pos} {ek ev : Expr} {tk tv : TE}
theorem pe_disp1X (hu : X.A.units + 41 < cLine) (hk : PE X ek tk) (hv : PE X ev tv) : PE X (.Dict [some ek] [ev] pos) (tDisp1X X.K X.w tk tv) := by
  refine ⟨fun pins s σ H Q I h => ?_⟩
  have hn := I.hok.fresh (a := s.heap.objs.size) (Nat.le_refl _)
  have hb := I.big
  have hne : (s.heap.objs.size == sysModules) = false := beq_eq_false_iff_ne.mpr (Ne.symm (Nat.ne_of_lt hb))
  have I1 := I.laid (a := s.heap.objs.size) (o := GX X.w s.heap.objs.size 0 []) (h' := s.heap.push { cls := .type "dict", data := .dict #[] }) (t' := s.toks) (fun _ _ q => Heap.get?_push_of_some _ q) (Nat.le_refl _) (gx_ok ⟨⟨_, #[], Heap.get?_push_size _ rfl, ⟨rfl, rfl, rfl⟩, rfl, .nil⟩, List.nodup_nil, Nat.zero_le _, hne⟩)
  have h := h _ hn
  rw [arm_eval_Dict]
  refine wpAny_bind (wpAny_standAt ?_)
  rw [show ((evalEachOpt [some ek] X.env).zip ((evalEach [ev] X.env).map fun v => do let x ← v; standAt pos; pure x)) = (pairTrees [some ek] [ev] X.env pos).map (fun p => (some p.1, p.2)) from rfl,
    dictDisplay_pairs _ (by show pairTrees [some ek] [ev] X.env pos ≠ []; exact fun z => nomatch z) (by show (pairTrees [some ek] [ev] X.env pos).length < 17; exact (by decide : 1 < 17))]
  refine wpAny_bind ?_
  unfold subDict
  refine wpAny_bind (wpAny_alloc (wpAny_bind (wpAny_holding ?_)))
  rw [if_pos (show (pairTrees [some ek] [ev] X.env pos).length ≤ 15 from (by decide : 1 ≤ 15))]
  refine wpAny_bind (thn ((pps_cons hk hv pps_nil).run pins _ σ _ (fun ps H2 => match ps with
    | [(x, y)] => H2 s.heap.objs.size = some (GX X.w s.heap.objs.size 0 []) ∧ ∃ a k, x = .ref a ∧ KyAt X.K H2 (.ref a) k ∧ k.depth ≤ 8 ∧ ∀ ep', Q (.ref s.heap.objs.size) (upd H2 s.heap.objs.size (GX X.w s.heap.objs.size ep' [(k, .ref a, y)]))
    | _ => False) I1 h) fun vs s1 ⟨ps, H2, I2, rel, q⟩ => ?_)
  match ps, rel, q with
  | [(x, y)], rel, ⟨hd, a, k, ex, ky, h8, q⟩ =>
    subst ex
    obtain ⟨⟨u, z⟩, evs, e1, rz⟩ : ∃ q : Value × Value, vs = [q] ∧ q.1 = Value.ref a ∧ L2.RelV y q.2 := by
      cases rel with
      | cons r1 r2 => cases r2; exact ⟨_, rfl, r1.1, r1.2⟩
    have e1 : u = Value.ref a := e1
    have rz : L2.RelV y z := rz
    subst e1; subst evs
    have nk : NestedIs s1.heap k (.ref a) := ky.is I2 rfl
    obtain ⟨es, x2, relx, _⟩ := gx_dx I2 ⟨0, .of hd⟩ (fun _ hz => nomatch hz)
    refine wpAny_holding (wpAny_bind ?_)
    rw [List.forIn_cons]
    refine wpAny_bind (wpAny_bind (dx_put (by omega) nk h8 x2 (by show 0 < sizeLine; rw [sizeLine_eq]; omega) fun h' t x3 hs => wpAny_pure ?_))
    dsimp only
    rw [List.forIn_nil]
    refine wpAny_pure (wpAny_pure (wpAny_pure (wpAny_pure ?_)))
    obtain ⟨ep', I3⟩ := gx_write (k := k) (y := .ref a) (v := y) (u := .ref a) (r := z) I2 hd relx (by show 0 < sizeLine; rw [sizeLine_eq]; omega) h8 rfl rz x3 hs
    exact ⟨.ref s.heap.objs.size, _, I3, rfl, q ep'⟩
end
/-- {k: v} -/
def disp1XF (Fk Fv : Ex) : Ex := fun ρ S => (Fk ρ S).bind fun k S1 => (Fv ρ S1).bind fun v S2 => match k with
  | .tup ds => match keyN (.tup ds) with
    | some _ => .all (fun a => S2.m a = none) fun a => .ok (.loc a) (S2.put a (.dX [(.tup ds, v)]))
    | none => .bad
  | _ => .bad
/-- C(..), which stays a cell -/
def makeCF (c : Str) (f : List D → SrcT → Rs D) (Fs : Exs) : Ex := fun ρ S => (Fs ρ S).bind fun ds S1 => .all (fun x => S1.m x = none) fun x => .all (fun y => y ≠ x) fun dx =>
  (f (.loc x :: ds) (S1.put x (.obj c dx []))).bind fun r S2 => match r with
  | .non => .ok (.loc x) S2
  | _ => .bad
/-- o.m(..), o a cell or shared, of the class c -/
def methVF (c mn : Str) (f : List D → SrcT → Rs D) (F : Ex) (Fs : Exs) : Ex := fun ρ S => (F ρ S).bind fun d S1 => match isLocC c S1.m d with
  | some fs => if fs.lookup mn = none then (Fs ρ S1).bind fun ds S2 => f (d :: ds) S2 else .bad
  | none => .bad
section
variable {X : Cx} {G : Gm} {m m' : Bool} {O O' Ol : List Nat} {E : XK} {e ek ev : Expr} {F F1 F2 F3 Fd Fk Fz Fv : Ex} {Fs : Exs} {pos : Pos}
variable {φ : Fr} {σ σ' : L2.St} {B H B' H' : Hp} {ρ ρ' : NL.Env} {S S' : SrcT} {c mn : Str} {f : List D → SrcT → Rs D} {C : Addr}
theorem de_disp1X (h : PE X e (tDisp1X X.K X.w (tD G true O E Fk) (tD G false O E Fv))) (hv : G.v = true := by rfl) (hw : X.w = G.w := by rfl) (hK : X.K = G.K := by rfl) : PE X e (tD G m O E (disp1XF Fk Fv)) := by
  refine h.mono fun σ H Q ⟨φ, B, ρ, S, R, hp⟩ => ?_
  rw [hw, hK]
  intro p np
  obtain ⟨R0, g0, nB, n0, npp⟩ := R.newN (o := GX G.w p 0 []) np
  have nM := R.mfree hv np
  refine ⟨φ.sub B (upd H p (GX G.w p 0 [])) S, B, ρ, S, R0.enter hv, ?_⟩
  unfold disp1XF at hp
  generalize Fk ρ S = r1 at hp
  induction r1 with
  | bad => exact hp.elim
  | exc cc dd SS => exact fun B' H' cv od g R3 hx => hp B' H' cv od (g0.trans (R0.leave hv R3).2) (R0.leave hv R3).1 hx
  | all p0 k0 ih => exact fun x px => ih x (hp x px)
  | ok k S1 =>
    intro wk B1 H1 _ R1s hwk
    obtain ⟨h1, nB1, nM1⟩ := R1s.keep hv npp nM nB upd_same True.intro
    obtain ⟨R1, g1⟩ := R0.leave hv R1s
    have hwk : DV G φ.p B1 wk k := by rw [R1s.bsv hv] at hwk; exact hwk
    replace hp : Pg G φ m O E σ ρ (DV G) B H ((Fv ρ S1).bind fun v S2 => match (generalizing := false) k with
      | .tup ds => match keyN (.tup ds) with
        | some _ => .all (fun a => S2.m a = none) fun a => .ok (.loc a) (S2.put a (.dX [(.tup ds, v)]))
        | none => .bad
      | _ => .bad) Q := hp
    refine ⟨φ.sub B1 H1 S1, B1, ρ, S1, R1.enter hv, ?_⟩
    generalize Fv ρ S1 = r2 at hp
    induction r2 with
    | bad => exact hp.elim
    | exc cc dd SS => exact fun B' H' cv od g R3 hx => hp B' H' cv od ((g0.trans g1).trans (R1.leave hv R3).2) (R1.leave hv R3).1 hx
    | all p0 k0 ih => exact fun x px => ih x (hp x px)
    | ok v S2 =>
      intro wv B2 H2 _ R2s hwv
      obtain ⟨h2, nB2, nM2⟩ := R2s.keep hv npp nM1 nB1 h1 True.intro
      obtain ⟨R2, g2⟩ := R1.leave hv R2s
      have hwv : DV G φ.p B2 wv v := by rw [R2s.bsv hv] at hwv; exact hwv
      replace hp : Pg G φ m O E σ ρ (DV G) B H (match (generalizing := false) k with
        | .tup ds => match keyN (.tup ds) with
          | some _ => .all (fun a => S2.m a = none) fun a => .ok (.loc a) (S2.put a (.dX [(.tup ds, v)]))
          | none => .bad
        | _ => .bad) Q := hp
      refine ⟨h2, ?_⟩
      cases hwk with
      | @tup a xs ds ha hs =>
        replace hp : Pg G φ m O E σ ρ (DV G) B H (match (generalizing := false) keyN (.tup ds) with
          | some _ => .all (fun a => S2.m a = none) fun a => .ok (.loc a) (S2.put a (.dX [(.tup ds, v)]))
          | none => .bad) Q := hp
        cases hk : keyN (.tup ds) with
        | none => rw [hk] at hp; exact hp.elim
        | some kk =>
          rw [hk] at hp
          have hp := hp p nM2
          have dk : DV G φ.p B2 (.ref a) (.tup ds) := DV.same g2.b (.tup ha hs)
          refine ⟨a, kk, rfl, (keyN_at dk hk).same R2.sub, keyN_8 dk hk, fun ep' => ?_⟩
          have n0' : φ.H0 p = none := R.al p np
          have Rp := R2.poke (a := p) (o := GX G.w p ep' [(kk, .ref a, wv)]) nB2 n0' npp (fun i hi => (R2.noown hv hi).elim) (fun _ => nM2)
          have gp : Go φ B H B2 (upd H2 p (GX G.w p ep' [(kk, .ref a, wv)])) := ⟨((g0.trans g1).trans g2).b, fun h => (R.vt hv h).elim, ((g0.trans g1).trans g2).n |> fun hh a o h1 h2 => (hh a o h1 h2), fun q hq => ((g0.trans g1).trans g2).d q (upd_no hq)⟩
          refine hp (.ref p) B2 _ gp (Rp.show (c := .dX [(.tup ds, v)]) ⟨ep', _, upd_same, .cons ⟨hk, dk, hwv⟩ .nil⟩ nB2 npp (.inr n0')) ?_
          exact .loc p
      | _ => exact hp.elim
theorem makeC_core {ds : List D} {ws : List V} {Q : VK} (R : Rep G φ O σ B H ρ S) (hv : G.v = true) (hws : DVs G φ.p B ws ds)
    (h1 : Pg G φ m O E σ ρ (DV G) B H (.all (fun x => S.m x = none) fun x => .all (fun y => y ≠ x) fun dx => (f (.loc x :: ds) (S.put x (.obj c dx []))).bind fun r S2 => match r with
      | .non => .ok (.loc x) S2
      | _ => .bad) Q) (x dx : Addr) (nx : H x = none) (ndx : H dx = none) (ne : dx ≠ x) : spV G f (.ref x :: ws) (upd (upd H dx (.own x)) x (.ins (G.oc c) dx [])) (fun v H2 => v = .non ∧ Q (.ref x) H2) E := by
  obtain ⟨R0, g0, nB0, _, _⟩ := R.newN (o := .own x) ndx
  have nx' : upd H dx (.own x) x = none := by rw [upd_ne ne.symm]; exact nx
  obtain ⟨R1, g1⟩ := R0.lay hv (c := .obj c dx []) (o := .ins (G.oc c) dx []) nx' ⟨[], upd_same, rfl, .nil⟩
  have h2 := h1 x (R.mfree hv nx) dx ne
  refine sp_callV (m := false) (m' := m) R1 (by rw [R1.bsv hv]; exact .cons (.loc x) hws) ?_ hv
  have h3 := Pg.go (g0.trans g1) h2
  refine Pg.bind h3 fun d S2 w B2 H2 g2 R2 hw h4 => ?_
  split at h4
  · cases hw; exact ⟨rfl, Pg.ok h4 R2 (.loc x)⟩
  · exact h4.elim
theorem de_makeC0 (hC : G.oc c = C) (h : PE X e (tMake C (spV G f) [] E tNil)) (hv : G.v = true := by rfl) : PE X e (tD G m O E (makeCF c f nilF)) := by
  refine h.mono fun σ H Q ⟨φ, B, ρ, S, R, hp⟩ => ?_
  subst hC
  exact fun x dx nx ndx ne => makeC_core R hv .nil hp x dx nx ndx ne
theorem de_methV (hC : G.oc c = C) (h : PE X e (tMeth C mn (spV G f) [] E (tD G false O E F) (tDs G false O E Fs))) (hv : G.v = true := by rfl) : PE X e (tD G m O E (methVF c mn f F Fs)) := by
  refine h.mono fun σ H Q ⟨φ, B, ρ, S, R, hp'⟩ => ⟨φ, B, ρ, S, R, ?_⟩
  subst hC
  refine Pg.bind hp' fun d S1 w B1 H1 g R1 hw h1 => ?_
  rw [R1.bsv hv] at hw
  split at h1
  · rename_i fs hl
    split at h1
    · rename_i hn
      obtain ⟨a, dx, kvs, rfl, k1, k2, k3⟩ := isLoc_at R1 hv hw hl
      have hn' : kvs.lookup mn = none := by
        cases hq : kvs.lookup mn with
        | none => rfl
        | some v =>
          exfalso
          have : ∀ {l : List (Str × V)} {r : List (Str × D)}, l.map Prod.fst = r.map Prod.fst → ∀ v, l.lookup mn = some v → r.lookup mn ≠ none := fun {l} => by
            induction l with
            | nil => intro r _ v h; cases h
            | cons p l ih =>
              intro r e v h
              cases r with
              | nil => cases e
              | cons q r =>
                rw [List.map_cons, List.map_cons] at e
                injection e with e1 e2
                obtain ⟨p1, p2⟩ := p
                obtain ⟨q1, q2⟩ := q
                have e1 : p1 = q1 := e1
                subst e1
                rw [List.lookup_cons] at h ⊢
                cases hb : (mn == p1) with
                | true => exact fun z => nomatch z
                | false => rw [hb] at h; exact ih e2 v h
          exact this k2 v hq hn
      refine ⟨a, dx, kvs, rfl, k1, hn', φ, B1, ρ, S1, R1, ?_⟩
      refine Pg.bind h1 fun ds S2 ws B2 H2 g2 R2 hws h2 => ?_
      rw [List.append_nil]
      rw [R2.bsv hv] at hws
      exact sp_callV (m := false) (m' := m) R2 (by rw [R2.bsv hv]; exact .cons (hw.same g2.b) hws) h2 hv
    · exact h1.elim
  · exact h1.elim
end
/-! plain steps -/
section
variable {ρ : NL.Env} {S : SrcT} {F Fd Fk Fv Fz : Ex} {Fs : Exs} {P : D → SrcT → Prop} {PS : Fl × NL.Env → SrcT → Prop} {neg k : Bool} {c mn : Str} {f : List D → SrcT → Rs D} {is : List Nat} {g : Tgt} {cc : Tst} {Fe : Ex} {A : Sx}
theorem inXF_sat (h : (Fk ρ S).sat fun y S1 => (Fd ρ S1).sat fun d S2 => ∃ a es q, d = .loc a ∧ S2.m a = some (.dX es) ∧ keyN y = some q ∧ P (.bl (neg ^^ (valXD es q).isSome)) S2) : (inXF neg Fk Fd ρ S).sat P := by
  unfold inXF; rw [sat_bind]
  refine h.mono fun y S1 h1 => ?_
  rw [sat_bind]
  refine h1.mono fun d S2 ⟨a, es, q, e, hm, hq, hp⟩ => ?_
  subst e
  unfold cellX
  dsimp only
  rw [hm, hq]; exact hp
theorem getXF_sat (h : (Fd ρ S).sat fun d S1 => (Fk ρ S1).sat fun y S2 => ∃ a es q r, d = .loc a ∧ S2.m a = some (.dX es) ∧ keyN y = some q ∧ valXD es q = some r ∧ P r S2) : (getXF Fd Fk ρ S).sat P := by
  unfold getXF; rw [sat_bind]
  refine h.mono fun d S1 h1 => ?_
  rw [sat_bind]
  refine h1.mono fun y S2 ⟨a, es, q, r, e, hm, hq, hr, hp⟩ => ?_
  subst e
  unfold cellX
  dsimp only
  rw [hm, hq]
  dsimp only
  rw [hr]; exact hp
theorem sdXF_sat (h : (Fd ρ S).sat fun d S1 => ∃ a es0, d = .loc a ∧ S1.m a = some (.dX es0) ∧ (Fk ρ S1).sat fun y S2 => (Fz ρ S2).sat fun z S3 => ∃ es q, S3.m a = some (.dX es) ∧ keyN y = some q ∧ es.length < 100000 ∧ match valXD es q with
    | some v => P v S3
    | none => P z (S3.put a (.dX (putXD es q y z)))) : (sdXF Fd Fk Fz ρ S).sat P := by
  unfold sdXF; rw [sat_bind]
  refine h.mono fun d S1 ⟨a, es0, e, hm0, h1⟩ => ?_
  subst e
  unfold cellX
  dsimp only
  rw [hm0]
  dsimp only
  rw [sat_bind]
  refine h1.mono fun y S2 h2 => ?_
  rw [sat_bind]
  refine h2.mono fun z S3 ⟨es, q, hm, hq, hl, hp⟩ => ?_
  rw [hm, hq]
  dsimp only
  rw [if_pos hl]
  cases hv : valXD es q with
  | some v => rw [hv] at hp; exact hp
  | none => rw [hv] at hp; exact hp
theorem putXS_sat (h : (Fv ρ S).sat fun v S1 => (Fd ρ S1).sat fun d S2 => (Fk ρ S2).sat fun y S3 => ∃ a es q, d = .loc a ∧ S3.m a = some (.dX es) ∧ keyN y = some q ∧ es.length < 100000 ∧ PS (.nx, ρ) (S3.put a (.dX (putXD es q y v)))) : (putXS Fd Fk Fv ρ S).sat PS := by
  unfold putXS; rw [sat_bind]
  refine h.mono fun v S1 h1 => ?_
  rw [sat_bind]
  refine h1.mono fun d S2 h2 => ?_
  rw [sat_bind]
  refine h2.mono fun y S3 ⟨a, es, q, e, hm, hq, hl, hp⟩ => ?_
  subst e
  unfold cellX
  dsimp only
  rw [hm, hq]
  dsimp only
  rw [if_pos hl]; exact hp
theorem lcHF_sat (h : (Fd ρ S).sat fun d S1 => ∃ a mc ds, cwD k d S1.m = some (a, mc, ds) ∧ ds.length ≤ 99999 ∧ (lcGo g cc Fe (wipeE ρ is) ds (S1.hide a)).sat fun ys S2 => P (.lst ys) (S2.put a mc)) : (lcHF is k Fd g cc Fe ρ S).sat P := by
  unfold lcHF; rw [sat_bind]
  refine h.mono fun d S1 ⟨a, mc, ds, hc, hl, h1⟩ => ?_
  rw [hc]
  dsimp only
  rw [if_pos hl, sat_bind]; exact h1
theorem forHS_sat (h : (Fd ρ S).sat fun d S1 => ∃ a mc ds, cwD k d S1.m = some (a, mc, ds) ∧ (forGo g A ds ρ (S1.hide a)).sat fun r S2 => PS r (S2.put a mc)) : (forHS k Fd g A ρ S).sat PS := by
  unfold forHS; rw [sat_bind]
  refine h.mono fun d S1 ⟨a, mc, ds, hc, h1⟩ => ?_
  rw [hc]
  dsimp only
  rw [sat_bind]; exact h1
theorem disp1XF_sat (h : (Fk ρ S).sat fun k S1 => (Fv ρ S1).sat fun v S2 => ∃ ds q, k = .tup ds ∧ keyN (.tup ds) = some q ∧ ∀ a, S2.m a = none → P (.loc a) (S2.put a (.dX [(.tup ds, v)]))) : (disp1XF Fk Fv ρ S).sat P := by
  unfold disp1XF; rw [sat_bind]
  refine h.mono fun k S1 h1 => ?_
  rw [sat_bind]
  refine h1.mono fun v S2 ⟨ds, q, e, hq, hp⟩ => ?_
  subst e
  dsimp only
  rw [hq]; exact hp
theorem makeCF_sat (h : (Fs ρ S).sat fun ds S1 => ∀ x dx, S1.m x = none → dx ≠ x → (f (.loc x :: ds) (S1.put x (.obj c dx []))).sat fun r S2 => r = .non ∧ P (.loc x) S2) : (makeCF c f Fs ρ S).sat P := by
  unfold makeCF; rw [sat_bind]
  refine h.mono fun ds S1 h1 => fun x nx dx ne => ?_
  rw [sat_bind]
  refine (h1 x dx nx ne).mono fun r S2 ⟨e, hp⟩ => ?_
  subst e; exact hp
theorem methVF_sat (h : (F ρ S).sat fun d S1 => ∃ fs, isLocC c S1.m d = some fs ∧ fs.lookup mn = none ∧ (Fs ρ S1).sat fun ds S2 => (f (d :: ds) S2).sat P) : (methVF c mn f F Fs ρ S).sat P := by
  unfold methVF; rw [sat_bind]
  refine h.mono fun d S1 ⟨fs, hl, hn, h1⟩ => ?_
  rw [hl]
  dsimp only
  rw [if_pos hn, sat_bind]; exact h1
end
end
noncomputable section
open PySem PySem.Spec PyProof.Rows L2
/-! methods of shared own objects; written dicts of the module -/
def isObjM (c mn : Str) : D → Bool
  | .obj c' fs => decide (c' = c) && decide (fs.lookup mn = none)
  | _ => false
theorem lookup_none {G : Gm} {p : Option Addr} {B : Hp} {mn : Str} : ∀ {l : List (Str × V)} {r : List (Str × D)}, l.map Prod.fst = r.map Prod.fst → r.lookup mn = none → l.lookup mn = none
  | [], _, _, _ => rfl
  | _ :: _, [], e, _ => by cases e
  | (p1, v) :: l, (q1, d) :: r, e, h => by
    rw [List.map_cons, List.map_cons] at e
    injection e with e1 e2
    have e1 : p1 = q1 := e1
    subst e1
    rw [List.lookup_cons] at h ⊢
    cases hb : (mn == p1) with
    | true => rw [hb] at h; cases h
    | false => rw [hb] at h; exact lookup_none (G := G) (p := p) (B := B) e2 h
theorem insObjM {G : Gm} {c mn : Str} {C : Addr} (hC : G.oc c = C) : InsM G C (isObjM c mn) mn := fun {q B v d} h hp => by
  subst hC
  cases h with
  | @obj a dx c' kvs fs k1 k2 k3 =>
    unfold isObjM at hp
    simp only [Bool.and_eq_true, decide_eq_true_eq] at hp
    obtain ⟨e, hn⟩ := hp
    subst e
    exact ⟨_, _, _, rfl, k1, lookup_none (G := G) (p := q) (B := B) k2 hn⟩
  | _ => cases hp
def ixCD (tab : List (Str × D)) : D → Option D
  | .str z => tab.lookup z
  | _ => none
abbrev CTab (G : Gm) (vt : List (Str × V)) (tab : List (Str × D)) : Prop := Paired (fun (p : Str × V) (q : Str × D) => p.1 = q.1 ∧ ∀ (o : Option Addr) (B : Hp), DV G o B p.2 q.2) vt tab
theorem ctab_at {G : Gm} {z : Str} {d : D} : ∀ {vt : List (Str × V)} {tab : List (Str × D)}, CTab G vt tab → tab.lookup z = some d → ∃ v, vt.lookup z = some v ∧ ∀ (o : Option Addr) (B : Hp), DV G o B v d
  | _, _, .nil, h => by cases h
  | (p1, v) :: vt, (q1, d') :: tab, .cons r t, h => by
    obtain ⟨e, hd⟩ := r
    have e : p1 = q1 := e
    subst e
    rw [List.lookup_cons] at h ⊢
    cases hb : (z == p1) with
    | true => rw [hb] at h; cases h; exact ⟨v, rfl, hd⟩
    | false => rw [hb] at h; exact ctab_at t h
section
variable {X : Cx} {G : Gm} {m m' : Bool} {O : List Nat} {E : XK} {e : Expr} {F : Ex} {a : Addr} {vt : List (Str × V)} {tab : List (Str × D)}
theorem de_ixC (hd : KDt G.w G.K a vt) (hp : CTab G vt tab) (h : PE X e (tOp (rIxKD X.w X.K) (tC (.ref a)) (tD G true O E F))) (hw : X.w = G.w := by rfl) (hK : X.K = G.K := by rfl) : PE X e (tD G m O E (unF (ixCD tab) F)) := by
  refine h.mono fun σ H Q ⟨φ, B, ρ, S, R, hq⟩ => ⟨φ, B, ρ, S, R, ?_⟩
  rw [hw, hK]
  refine Pg.bind hq fun d S1 w B1 H1 g R1 hw h1 => ?_
  obtain ⟨r, hr, q⟩ := h1.opt
  unfold ixCD at hr
  split at hr
  · rename_i z
    cases hw
    obtain ⟨v, hv, dv⟩ := ctab_at hp hr
    exact ⟨a, z, vt, v, rfl, rfl, hd, hv, q _ _ _ Go.refl R1 (dv _ _)⟩
  · cases hr
end
/-- a plain def calls one that knows cells: those are forgotten -/
def callVP (f : List D → SrcT → Rs D) (Fs : Exs) : Ex := fun ρ S => (Fs ρ S).bind fun ds S1 => (f ds { S1 with m := fun _ => none }).keepM S1.m
section
variable {X : Cx} {G : Gm} {m m' : Bool} {O : List Nat} {E : XK} {e : Expr} {Fs : Exs} {f : List D → SrcT → Rs D}
theorem de_callVP (h : PE X e (tCall (spV G.vol f) [] E (tDs G false O E Fs))) (hv0 : G.v = false := by rfl) : PE X e (tD G m' O E (callVP f Fs)) := by
  refine h.mono fun σ H Q ⟨φ, B, ρ, S, R, hp⟩ => ⟨φ, B, ρ, S, R, ?_⟩
  refine Pg.bind hp fun ds S1 ws B1 H1 g R1 hws h1 => ?_
  rw [List.append_nil]
  have hM : MemOk0 G.vol φ.p B1 H1 (fun _ => none) := fun a c hc => nomatch hc
  refine ⟨φ.p, B1, ds, { S1 with m := fun _ => none }, R1.sub, R1.src, hM, hws.vol, ?_⟩
  have fr : ∀ {B' H' : Hp} {S' : SrcT}, AftV G.vol φ.p B1 H1 (fun _ => none) B' H' S' → ∀ a o, φ.p ≠ some a → H1 a = some o → H' a = some o := fun A a o hp ha => A.f a o hp rfl ha
  show spPostV G.vol φ.p B1 H1 (fun _ => none) Q E _
  generalize f ds { S1 with m := fun _ => none } = r at h1 ⊢
  induction r with
  | bad => exact h1
  | exc cc d S' =>
    intro B' H' cv od A hx
    obtain ⟨B2, g2, R2, hb⟩ := R1.after false (S' := { S' with m := S1.m }) (Bc := B') A.b A.s (fr A) (fun a o h hm => A.n a o h hm) A.src hv0
    refine h1 B2 H' cv od g2 R2.bare ⟨hx.1, ?_⟩
    have hx2 := hx.2
    cases d with
    | none => exact True.intro
    | some d =>
      obtain ⟨dx, v, k1, k2, k3⟩ := hx2
      exact ⟨dx, v, k1, k2, k3.unvol.same hb⟩
  | all p0 k ih => exact fun x px => ih x (h1 x px)
  | ok d S' =>
    intro v B' H' A hd
    obtain ⟨B2, g2, R2, hb⟩ := R1.after false (S' := { S' with m := S1.m }) (Bc := B') A.b A.s (fr A) (fun a o h hm => A.n a o h hm) A.src hv0
    exact h1 v B2 H' g2 R2 ((hd.unvol.same hb).same (R2.bbs m'))
end
theorem callVP_sat {ρ : NL.Env} {S : SrcT} {Fs : Exs} {f : List D → SrcT → Rs D} {P : D → SrcT → Prop} (h : (Fs ρ S).sat fun ds S1 => (f ds { S1 with m := fun _ => none }).sat fun d S2 => P d { S2 with m := S1.m }) : (callVP f Fs ρ S).sat P := by
  unfold callVP; rw [sat_bind]
  exact h.mono fun ds S1 h1 => keepM_sat h1
end
theorem hu41 {A : PySem.Around} {k : Nat} (hr : L2.Room k A) : A.units + 41 < PySem.cLine := by have := hu65 hr; omega
end NL
/-! ### own dicts with tuples of plain keys; reading them when they are shared -/
namespace NL
end NL
/-! ### ranks of a list of ints -/
namespace Law
open PySem L2 NL
/-! all lists of a length, of the ints below a bound -/
/-! ranks and order -/
/-- two lists in the same order -/
def SameOrd (l r : List Int) : Prop := l.length = r.length ∧ ∀ (i j : Nat) (x y a b : Int), l[i]? = some x → l[j]? = some y → r[i]? = some a → r[j]? = some b → (x < y ↔ a < b)
theorem SameOrd.symm {l r : List Int} (h : SameOrd l r) : SameOrd r l := ⟨h.1.symm, fun i j x y a b h1 h2 h3 h4 => (h.2 i j a b x y h3 h4 h1 h2).symm⟩
theorem SameOrd.trans {l r t : List Int} (h : SameOrd l r) (h2 : SameOrd r t) : SameOrd l t := ⟨h.1.trans h2.1, fun i j x y a b k1 k2 k3 k4 => by
  have li : i < r.length := by rw [← h.1]; exact (List.getElem?_eq_some_iff.mp k1).1
  have lj : j < r.length := by rw [← h.1]; exact (List.getElem?_eq_some_iff.mp k2).1
  exact (h.2 i j x y _ _ k1 k2 (List.getElem?_eq_getElem li) (List.getElem?_eq_getElem lj)).trans (h2.2 i j _ _ a b (List.getElem?_eq_getElem li) (List.getElem?_eq_getElem lj) k3 k4)⟩
end Law
namespace NL
open PySem L2
/-! ### how a run goes on -/
/-! ### a run, cut -/
end NL
local macro_rules | `(tactic| walk_at "hp") => `(tactic| first | assumption | exact L2.upd_same | (refine NL.upd_keep ?_ (by assumption); walk_at "hp") | (refine NL.upd_skip (by assumption) ?_; walk_at "hp") | (refine NL.But.at (by assumption) (by assumption) ?_; walk_at "hp"))
local macro_rules | `(tactic| walk_at "sq") => `(tactic| first | assumption | exact L2.SqL.of (by walk_at "hp") | exact L2.SqT.of (by walk_at "hp"))
local macro_rules | `(tactic| walk_at "at") => `(tactic| first | rfl | assumption)
local macro_rules | `(tactic| walk_at "ixN") => `(tactic| first | rfl | assumption)
local macro_rules | `(tactic| walk_at "pos") => `(tactic| first | assumption | (show (_ : Int) < _; omega) | decide)
local macro_rules | `(tactic| walk_at "len") => `(tactic| first | exact NL.sz1000 (by decide) | exact NL.sz100k (by decide) | exact NL.sz100k (by omega) | exact NL.sz100k (by simp))
local macro_rules | `(tactic| walk_at "mul") => `(tactic| first | (refine Or.inl ⟨?_, ?_⟩ <;> omega) | (refine Or.inr ⟨?_, ?_⟩ <;> omega))
local macro_rules | `(tactic| walk_at "pow") => `(tactic| first | exact ⟨by decide, by decide, by decide⟩ | exact ⟨by decide, by decide, by omega⟩)
local macro_rules | `(tactic| walk_at "div") => `(tactic| first | assumption | exact L2.wide_div (b := 100) (by omega) (by omega) (by decide) (by decide))
local macro_rules | `(tactic| walk_at "arith") => `(tactic| first | decide | omega)
local macro_rules | `(tactic| walk_at "tyx") => `(tactic| first | exact L2.TyX.base (L2.TyOf.int _) | exact L2.TyX.base (L2.TyOf.str _) | exact L2.TyX.base (L2.TyOf.bl _) | exact L2.TyX.base L2.TyOf.non | exact L2.TyX.base (L2.TyOf.lst (by walk_at "hp")) | exact L2.TyX.base (L2.TyOf.tup (by walk_at "hp")))
local macro_rules | `(tactic| walk_at "dlen") => `(tactic| (apply Nat.lt_of_le_of_lt; (repeat (first | exact NL.dl0 _ (by simp) | apply NL.dl1)); decide))
local macro_rules | `(tactic| walk_at "dval") => `(tactic| (simp only [L2.mergeK, List.foldl_cons, List.foldl_nil, L2.valV_put]; repeat (first | rw [if_pos True.intro] | rw [if_pos rfl] | rw [if_neg (by decide +kernel)])))
local macro_rules | `(tactic| walk_at "s1") => `(tactic| first | (with_reducible refine NL.seqS_sat ?_) | ((with_reducible apply NL.vF_sat); · rfl) | (with_reducible refine NL.nilS_sat ?_) | (with_reducible refine NL.setS_sat ?_) | ((with_reducible refine NL.setN_sat ?_ ?_); · simp) | ((with_reducible refine NL.mulS_sat ?_ ?_); · rfl) | (with_reducible refine NL.freS_sat (by simp) (by simp) ?_) | (with_reducible refine NL.retS_sat ?_) | (with_reducible refine NL.exprS_sat ?_) | (with_reducible refine NL.iteS_sat ?_) | (with_reducible refine NL.forS_sat ?_) | (with_reducible refine NL.cF_sat ?_) | (with_reducible refine NL.nilF_sat ?_) | (with_reducible refine NL.consF_sat ?_) | (with_reducible refine NL.binF_sat ?_) | (with_reducible refine NL.unF_sat ?_) | (with_reducible refine NL.argF_sat ?_) | (with_reducible refine NL.lstF_sat ?_) | (with_reducible refine NL.tupF_sat ?_) | (with_reducible refine NL.callF_sat ?_) | (with_reducible refine NL.callN_sat ?_) | (with_reducible refine NL.iteF_sat ?_) | (with_reducible refine NL.tstF_sat ?_) | (with_reducible refine NL.blT_sat ?_) | (with_reducible refine NL.andT_sat ?_) | (with_reducible refine NL.orT_sat ?_) | (with_reducible refine NL.notT_sat ?_) | (with_reducible refine NL.yesT_sat ?_) | (with_reducible refine NL.chF_sat ?_) | (with_reducible refine NL.noF_sat ?_) | (with_reducible refine NL.someF_sat ?_) | (with_reducible refine NL.slF_sat ?_) | (with_reducible refine NL.lcF_sat ?_) | (with_reducible refine NL.seqF_sat ?_) | (with_reducible refine NL.rng1F_sat ?_) | (with_reducible refine NL.rng2F_sat ?_) | (with_reducible refine NL.strF_sat ?_) | (with_reducible refine NL.zipF_sat ?_) | (with_reducible refine NL.zipMF_sat ?_) | (with_reducible refine NL.splitF_sat ?_) | (with_reducible refine NL.partF_sat ?_) | (with_reducible refine NL.callC_sat ?_) | (with_reducible refine NL.joinF_sat ?_) | (with_reducible refine NL.jn_cons ?_) | (with_reducible refine NL.jn_nil ?_) | (with_reducible refine NL.starF_sat ?_) | (with_reducible refine NL.lstSF_sat ?_) | (with_reducible refine NL.propF_sat ?_) | (with_reducible refine NL.methF_sat ?_) | (with_reducible refine NL.callL_sat ?_) | (with_reducible refine NL.enumKF_sat ?_) | (with_reducible refine NL.eqOF_sat ?_) | (with_reducible refine NL.lenOF_sat ?_) | (with_reducible refine NL.enumF_sat ?_) | (with_reducible refine NL.get2F_sat ?_) | (with_reducible refine NL.setCF_sat ?_) | (with_reducible refine NL.popS_sat ?_) | (with_reducible refine NL.dctCF_sat ?_) | (with_reducible refine NL.dgetF_sat ?_) | (with_reducible refine NL.idxOfF_sat ?_) | (with_reducible refine NL.lstRgF_sat ?_) | ((with_reducible apply NL.extS_sat); · rfl) | (with_reducible refine NL.asgS_sat ?_) | (with_reducible refine NL.parS_sat ?_) | (with_reducible refine NL.scF_sat ?_) | (with_reducible refine NL.andF_sat ?_) | (with_reducible refine NL.orF_sat ?_) | (with_reducible refine NL.brkS_sat ?_) | (with_reducible refine NL.contS_sat ?_) | ((with_reducible apply NL.idxOF_sat); · rfl) | ((with_reducible apply NL.appS_sat); · rfl) | ((with_reducible apply NL.insS_sat); · rfl) | ((with_reducible apply NL.putS_sat); · rfl) | (with_reducible refine NL.tabGF_sat ?_) | (with_reducible refine NL.mkRunF_sat ?_) | (with_reducible refine NL.callW_sat ?_) | (with_reducible refine NL.tup2F_sat ?_) | (with_reducible refine NL.noXS_sat ?_) | (with_reducible refine NL.dispF_sat ?_) | (with_reducible refine NL.dgo_cons ?_) | (with_reducible refine NL.dgo_nil ?_) | ((with_reducible apply NL.updS_sat); · rfl) | refine ⟨_, rfl, ?_⟩ | refine ⟨_, _, rfl, ?_⟩)
local macro_rules | `(tactic| walk_at "st") => `(tactic| (walk_at "s1"; repeat (walk_at "s1")))
local macro_rules | `(tactic| walk_at "s2") => `(tactic| first | (with_reducible refine NL.if_nt ?_) | (with_reducible refine NL.if_f ?_) | (with_reducible refine NL.if_nf ?_) | (with_reducible refine NL.if_t ?_) | walk_at "s1")
local macro_rules | `(tactic| walk_at "sx") => `(tactic| (walk_at "s2"; repeat (walk_at "s2")))
local macro_rules | `(tactic| walk_at "s3") => `(tactic| first | walk_at "s2" | (refine NL.ifT rfl ?_) | (refine NL.ifF rfl ?_))
local macro_rules | `(tactic| walk_at "sd") => `(tactic| (walk_at "s3"; repeat (walk_at "s3")))
local macro_rules | `(tactic| walk_at "e0") => `(tactic| dsimp only [List.map_cons, List.map_nil, List.cons_append, List.nil_append, Nat.reduceSub, List.replicate_succ, List.replicate_zero])
local macro_rules | `(tactic| walk_at "e1") => `(tactic| dsimp only [List.map, List.cons_append, List.nil_append, Nat.reduceSub, List.replicate])
namespace Law
open PySem L2 NL
noncomputable section
def c_PLACES : D := .tup ((["below", "-<", "-=", "->", "<", "=", ">", "+<", "+=", "+>", "above"] : List Str).map D.str)
def c_SIGNS : D := .tup ((["<", "=", ">"] : List Str).map D.str)
def c_TURNED_SIGNS : List (Str × D) := [("<", (.str ">")), ("=", (.str "=")), (">", (.str "<"))]
def c_REST_PLACES : List (Str × D) := [("<", (.tup [(.tup [(.str "<"), (.str "<")]), (.tup [(.str "<"), (.str "=")]), (.tup [(.str "<"), (.str ">")]), (.tup [(.str "="), (.str ">")]), (.tup [(.str ">"), (.str ">")])])), ("=", (.tup [(.tup [(.str "<"), (.str "<")]), (.tup [(.str "="), (.str "=")]), (.tup [(.str ">"), (.str ">")])])), (">", (.tup [(.tup [(.str "<"), (.str "<")]), (.tup [(.str "="), (.str "<")]), (.tup [(.str ">"), (.str "<")]), (.tup [(.str ">"), (.str "=")]), (.tup [(.str ">"), (.str ">")])]))]
def c_LONE_SPANS : D := (.tup [(.tup [.non, (.int (-2))]), (.tup [(.int (-1)), (.int (-1))]), (.tup [(.int 0), (.int 0)]), (.tup [(.int 1), (.int 1)]), (.tup [(.int 2), .non])])
def c_GAP_WORDS : D := .tup ((["none", "first", "second"] : List Str).map D.str)
def b_is_number : Sx := (retS (andF (unF isInt (vF 0)) (andF (unF notD (unF isBool (vF 0))) (chF ltD ltD (binF subD (cF (.int 0)) (cF (.int 1000000000000000000000000000000))) (vF 0) (cF (.int 1000000000000000000000000000000))))))
def f_is_number : List D → SrcT → Rs D := fnF 1 1 b_is_number
def b_place_of : Sx := (seqS (iteS (blT (binF ltD (vF 0) (unF negD (cF (.int 1)))))
  (retS (cF (.str "below")))
  nilS)
  (seqS (iteS (blT (binF gtD (vF 0) (cF (.int 1))))
  (retS (cF (.str "above")))
  nilS)
  (retS (binF addD (iteF (blT (binF (eqD false) (vF 0) (unF negD (cF (.int 1))))) (cF (.str "-")) (iteF (blT (binF (eqD false) (vF 0) (cF (.int 1)))) (cF (.str "+")) (cF (.str "")))) (vF 1)))))
def f_place_of : List D → SrcT → Rs D := fnF 2 2 b_place_of
def b_spans_of : Sx := (seqS (parS 1 2 (consF (argF min2D (consF (cF (.int 0)) (consF (vF 0) nilF))) (consF (argF max2D (consF (cF (.int 0)) (consF (vF 0) nilF))) nilF)))
  (seqS (setN 3 (lstF (consF (tupF (consF (cF .non) (consF (binF subD (vF 1) (cF (.int 2))) nilF))) (consF (tupF (consF (binF addD (vF 2) (cF (.int 2))) (consF (cF .non) nilF))) nilF))))
  (seqS (iteS (blT (binF gtD (binF subD (vF 2) (vF 1)) (cF (.int 3))))
  (appS 3 (tupF (consF (binF addD (vF 1) (cF (.int 2))) (consF (binF subD (vF 2) (cF (.int 2))) nilF))))
  nilS)
  (seqS (forS (seqF (tupF (consF (unF negD (cF (.int 1))) (consF (cF (.int 0)) (consF (cF (.int 1)) nilF))))) (gN 4)
  (seqS (appS 3 (tupF (consF (vF 4) (consF (vF 4) nilF))))
  (iteS (blT (binF (inD true) (binF addD (vF 4) (vF 0)) (tupF (consF (unF negD (cF (.int 1))) (consF (cF (.int 0)) (consF (cF (.int 1)) nilF))))))
  (appS 3 (tupF (consF (binF addD (vF 4) (vF 0)) (consF (binF addD (vF 4) (vF 0)) nilF))))
  nilS)))
  (retS (vF 3))))))
def f_spans_of : List D → SrcT → Rs D := fnF 1 5 b_spans_of
def b_numbers_by_places : Sx := (seqS (iteS (blT (binF (eqD false) (vF 0) (cF (.str "none"))))
  (retS (disp1XF (tupF (consF (cF (.str "none")) (consF (cF (.str "none")) nilF))) (lstMF (consF (tupF (consF (tupF (consF (cF (.int 0)) (consF (cF (.int 0)) nilF))) (consF (tupF (consF (cF .non) (consF (cF .non) nilF))) nilF))) nilF))))
  nilS)
  (seqS (setS 1 (newMF (.dX [])))
  (seqS (iteS (tstF (unF isStr (vF 0)))
  (seqS (forS (seqF (cF c_LONE_SPANS)) (gN 2)
  (forS (seqF (cF c_SIGNS)) (gN 3)
  (seqS (setS 4 (callK f_place_of (consF (iteF (blT (binF (isND false) (binF idxD (vF 2) (cF (.int 0))) (cF .non))) (binF idxD (vF 2) (cF (.int 1))) (binF idxD (vF 2) (cF (.int 0)))) (consF (vF 3) nilF))))
  (iteS (blT (binF (eqD false) (vF 0) (cF (.str "first"))))
  (exprS (appMF (sdXF (vF 1) (tupF (consF (vF 4) (consF (cF (.str "none")) nilF))) (lstMF nilF)) (consF (tupF (consF (vF 2) (consF (tupF (consF (vF 3) (consF (cF .non) nilF))) nilF))) nilF)))
  (exprS (appMF (sdXF (vF 1) (tupF (consF (cF (.str "none")) (consF (vF 4) nilF))) (lstMF nilF)) (consF (tupF (consF (vF 2) (consF (tupF (consF (cF .non) (consF (vF 3) nilF))) nilF))) nilF)))))))
  (retS (vF 1)))
  nilS)
  (seqS (asgS (vF 0) (gT 2 (gsCons (gN 5) (gsCons (gN 6) gsNil))))
  (seqS (forS (seqF (callK f_spans_of (consF (vF 5) nilF))) (gN 2)
  (seqS (setS 7 (iteF (blT (binF (isND false) (binF idxD (vF 2) (cF (.int 0))) (cF .non))) (binF idxD (vF 2) (cF (.int 1))) (binF idxD (vF 2) (cF (.int 0)))))
  (iteS (andT (blT (binF (eqD false) (binF idxD (vF 2) (cF (.int 0))) (binF idxD (vF 2) (cF (.int 1))))) (orT (blT (binF ltD (argF absD (consF (vF 7) nilF)) (cF (.int 2)))) (blT (binF ltD (argF absD (consF (binF subD (vF 7) (vF 5)) nilF)) (cF (.int 2))))))
  (forS (seqF (unF (ixCD c_REST_PLACES) (vF 6))) (gN 8)
  (seqS (setS 9 (tupF (consF (callK f_place_of (consF (vF 7) (consF (binF idxD (vF 8) (cF (.int 0))) nilF))) (consF (callK f_place_of (consF (binF subD (vF 7) (vF 5)) (consF (binF idxD (vF 8) (cF (.int 1))) nilF))) nilF))))
  (exprS (appMF (sdXF (vF 1) (vF 9) (lstMF nilF)) (consF (tupF (consF (vF 2) (consF (vF 8) nilF))) nilF)))))
  (seqS (setS 9 (tupF (consF (callK f_place_of (consF (vF 7) (consF (cF (.str "=")) nilF))) (consF (callK f_place_of (consF (binF subD (vF 7) (vF 5)) (consF (cF (.str "=")) nilF))) nilF))))
  (putXS (vF 1) (vF 9) (cellF (lcF [8] (seqF (unF (ixCD c_REST_PLACES) (vF 6))) (gN 8) yesT (tupF (consF (vF 2) (consF (vF 8) nilF))))))))))
  (retS (vF 1)))))))
def f_numbers_by_places : List D → SrcT → Rs D := fnF 1 10 b_numbers_by_places
def b_turned_span : Sx := (seqS (asgS (vF 0) (gT 2 (gsCons (gN 2) (gsCons (gN 3) gsNil))))
  (retS (tupF (consF (iteF (blT (binF (isND false) (vF 3) (cF .non))) (cF .non) (binF subD (vF 1) (vF 3))) (consF (iteF (blT (binF (isND false) (vF 2) (cF .non))) (cF .non) (binF subD (vF 1) (vF 2))) nilF)))))
def f_turned_span : List D → SrcT → Rs D := fnF 2 4 b_turned_span
def b_gap_behind : Sx := (seqS (iteS (andT (tstF (binF idxD (vF 3) (cF (.int 0)))) (tstF (binF idxD (vF 3) (cF (.int 1)))))
  (retS (tupF (consF (cF (.int 0)) (consF (cF (.int 0)) (consF (cF (.str "=")) nilF)))))
  nilS)
  (seqS (iteS (blT (binF (eqD false) (vF 0) (cF (.str "none"))))
  (retS (iteF (tstF (binF idxD (vF 3) (cF (.int 0)))) (cF (.str "first")) (iteF (tstF (binF idxD (vF 3) (cF (.int 1)))) (cF (.str "second")) (cF (.str "none")))))
  nilS)
  (seqS (iteS (blT (binF (eqD false) (vF 0) (cF (.str "first"))))
  (retS (iteF (tstF (binF idxD (vF 3) (cF (.int 1)))) (binF addD (vF 1) (tupF (consF (binF idxD (vF 2) (cF (.int 0))) nilF))) (cF (.str "first"))))
  nilS)
  (seqS (iteS (blT (binF (eqD false) (vF 0) (cF (.str "second"))))
  (retS (iteF (tstF (binF idxD (vF 3) (cF (.int 0)))) (binF addD (callF f_turned_span (consF (vF 1) (consF (cF (.int 0)) nilF))) (tupF (consF (unF (ixCD c_TURNED_SIGNS) (binF idxD (vF 2) (cF (.int 1)))) nilF))) (cF (.str "second"))))
  nilS)
  (seqS (iteS (tstF (binF idxD (vF 3) (cF (.int 0))))
  (retS (binF addD (callF f_turned_span (consF (vF 1) (consF (binF idxD (vF 0) (cF (.int 0))) nilF))) (tupF (consF (unF (ixCD c_TURNED_SIGNS) (binF idxD (vF 2) (cF (.int 1)))) nilF))))
  nilS)
  (retS (iteF (tstF (binF idxD (vF 3) (cF (.int 1)))) (binF addD (vF 1) (tupF (consF (binF idxD (vF 2) (cF (.int 0))) nilF))) (tupF (consF (binF idxD (vF 0) (cF (.int 0))) (consF (binF idxD (vF 0) (cF (.int 0))) (consF (binF idxD (vF 0) (cF (.int 1))) nilF)))))))))))
def f_gap_behind : List D → SrcT → Rs D := fnF 4 4 b_gap_behind
def b_outcomes_of : Sx := (seqS (setS 3 (newMF (.dX [])))
  (seqS (forHS false (vF 2) (gT 2 (gsCons (gN 4) (gsCons (gN 5) gsNil)))
  (exprS (sdXF (vF 3) (callK f_gap_behind (consF (vF 0) (consF (vF 4) (consF (vF 5) (consF (vF 1) nilF))))) (tupF (consF (vF 4) (consF (vF 5) nilF))))))
  (retS (lcHF [6, 4, 5] true (vF 3) (gT 2 (gsCons (gN 6) (gsCons (gT 2 (gsCons (gN 4) (gsCons (gN 5) gsNil))) gsNil))) yesT (tupF (consF (vF 6) (consF (vF 4) (consF (vF 5) nilF))))))))
def f_outcomes_of : List D → SrcT → Rs D := fnF 3 7 b_outcomes_of
def b_Menus___init__ : Sx := (setMS "Menus" "known" (vF 0) (newMF (.dX [])))
def f_Menus___init__ : List D → SrcT → Rs D := fnF 1 1 b_Menus___init__
def b_Menus_at : Sx := (seqS (iteS (blT (inXF true (vF 1) (fldMF "Menus" "known" (vF 0))))
  (putXS (fldMF "Menus" "known" (vF 0)) (vF 1) (lcHF [2, 3] true (callF f_numbers_by_places (consF (vF 1) nilF)) (gT 2 (gsCons (gN 2) (gsCons (gN 3) gsNil))) yesT (tupF (consF (vF 2) (consF (vF 3) (consF (newMF (.dX [])) nilF))))))
  nilS)
  (retS (getXF (fldMF "Menus" "known" (vF 0)) (vF 1))))
def f_Menus_at : List D → SrcT → Rs D := fnF 2 4 b_Menus_at
def b_used : Sx := (seqS (setS 3 (tabGF (vF 0) (consF (vF 1) (consF (vF 2) nilF))))
  (retS (iteF (blT (binF (isND false) (vF 3) (cF .non))) (tupF (consF (cF (.str "pass")) (consF (cF (.bl false)) (consF (vF 1) nilF)))) (slF (binF idxD (unF (loopFD "own_rules") (vF 0)) (vF 3)) (someF (cF (.int 2))) noF))))
def f_used : List D → SrcT → Rs D := fnF 3 4 b_used
def b_Loops_react : Sx := (seqS (asgS (callF f_used (consF (fldOF "Loops" "one" (vF 0)) (consF (vF 1) (consF (vF 3) nilF)))) (gT 3 (gsCons (gN 5) (gsCons (gN 6) (gsCons (gN 7) gsNil)))))
  (seqS (asgS (callF f_used (consF (fldOF "Loops" "other" (vF 0)) (consF (vF 2) (consF (vF 4) nilF)))) (gT 3 (gsCons (gN 8) (gsCons (gN 9) (gsCons (gN 10) gsNil)))))
  (seqS (setS 11 (andF (binF (inD false) (fldOF "Loops" "by" (vF 0)) (tupF (consF (cF (.str "words")) (consF (cF (.str "all")) nilF)))) (binF (eqD true) (vF 5) (vF 8))))
  (seqS (setS 11 (orF (vF 11) (andF (binF (inD false) (fldOF "Loops" "by" (vF 0)) (tupF (consF (cF (.str "keeps")) (consF (cF (.str "all")) nilF)))) (binF (eqD true) (vF 6) (vF 9)))))
  (retS (tupF (consF (vF 7) (consF (vF 10) (consF (vF 6) (consF (vF 9) (consF (vF 11) nilF)))))))))))
def f_Loops_react : List D → SrcT → Rs D := fnF 5 12 b_Loops_react
def b_moves_of : Sx := (seqS (asgS (vF 2) (gT 3 (gsCons (gN 3) (gsCons (gN 4) (gsCons (gN 5) gsNil)))))
  (seqS (setS 6 (lstMF nilF))
  (seqS (forS (seqF (methVF "Menus" "at" f_Menus_at (vF 1) (consF (vF 5) nilF))) (gT 3 (gsCons (gT 2 (gsCons (gN 7) (gsCons (gN 8) gsNil))) (gsCons (gN 9) (gsCons (gN 10) gsNil))))
  (seqS (asgS (liftK (methF f_Loops_react (isObjM "Loops" "react") (vF 0) (consF (vF 3) (consF (vF 4) (consF (vF 7) (consF (vF 8) nilF)))))) (gT 5 (gsCons (gN 11) (gsCons (gN 12) (gsCons (gN 13) (gsCons (gN 14) (gsCons (gN 15) gsNil)))))))
  (seqS (setS 16 (tupF (consF (vF 13) (consF (vF 14) nilF))))
  (seqS (iteS (blT (inXF true (vF 16) (vF 10)))
  (putXS (vF 10) (vF 16) (callF f_outcomes_of (consF (vF 5) (consF (vF 16) (consF (vF 9) nilF)))))
  nilS)
  (exprS (appMF (vF 6) (consF (tupF (consF (tupF (consF (vF 11) (consF (vF 12) nilF))) (consF (vF 15) (consF (vF 16) (consF (getXF (vF 10) (vF 16)) nilF))))) nilF)))))))
  (retS (vF 6)))))
def f_moves_of : List D → SrcT → Rs D := fnF 3 17 b_moves_of
def b_Loop_states : Sx := (retS (argF tupleD (consF (argF listKD (consF (unF (loopFD "own_answers") (vF 0)) nilF)) nilF)))
def f_Loop_states : List D → SrcT → Rs D := fnF 1 1 b_Loop_states
def b_Loops___init__ : Sx := (seqS (setMS "Loops" "one" (vF 0) (vF 1))
  (seqS (setMS "Loops" "other" (vF 0) (vF 2))
  (setMS "Loops" "by" (vF 0) (vF 3))))
def f_Loops___init__ : List D → SrcT → Rs D := fnF 4 4 b_Loops___init__
def b_is_gap : Sx := (seqS (iteS (tstF (unF isStr (vF 0)))
  (retS (binF (inD false) (vF 0) (cF c_GAP_WORDS)))
  nilS)
  (seqS (iteS (orT (notT (tstF (unF isSq (vF 0)))) (orT (blT (binF (eqD true) (argF lenD (consF (vF 0) nilF)) (cF (.int 2)))) (notT (tstF (callF f_is_number (consF (binF idxD (vF 0) (cF (.int 0))) nilF))))))
  (retS (cF (.bl false)))
  nilS)
  (retS (andF (unF isStr (binF idxD (vF 0) (cF (.int 1)))) (binF (inD false) (binF idxD (vF 0) (cF (.int 1))) (cF c_SIGNS))))))
def f_is_gap : List D → SrcT → Rs D := fnF 1 1 b_is_gap
def b_as_joint : Sx := (seqS (iteS (orT (notT (tstF (unF isSq (vF 2)))) (orT (blT (binF (eqD true) (argF lenD (consF (vF 2) nilF)) (cF (.int 3)))) (notT (tstF (callF f_is_gap (consF (binF idxD (vF 2) (cF (.int 2))) nilF))))))
  badS
  nilS)
  (seqS (iteS (orT (blT (binF (inD true) (binF idxD (vF 2) (cF (.int 0))) (propF f_Loop_states isLoopK (vF 0)))) (blT (binF (inD true) (binF idxD (vF 2) (cF (.int 1))) (propF f_Loop_states isLoopK (vF 1)))))
  badS
  nilS)
  (seqS (setS 3 (iteF (tstF (unF isStr (binF idxD (vF 2) (cF (.int 2))))) (binF idxD (vF 2) (cF (.int 2))) (argF tupleD (consF (binF idxD (vF 2) (cF (.int 2))) nilF))))
  (retS (tupF (consF (binF idxD (vF 2) (cF (.int 0))) (consF (binF idxD (vF 2) (cF (.int 1))) (consF (vF 3) nilF))))))))
def f_as_joint : List D → SrcT → Rs D := fnF 3 4 b_as_joint
def b_is_within : Sx := (seqS (iteS (orT (tstF (unF isStr (vF 0))) (tstF (unF isStr (vF 1))))
  (retS (binF (eqD false) (vF 0) (vF 1)))
  nilS)
  (seqS (asgS (vF 0) (gT 3 (gsCons (gN 2) (gsCons (gN 3) (gsCons (gN 4) gsNil)))))
  (retS (andF (binF (eqD false) (vF 4) (binF idxD (vF 1) (cF (.int 1)))) (andF (orF (binF (isND false) (vF 2) (cF .non)) (binF leD (vF 2) (binF idxD (vF 1) (cF (.int 0))))) (orF (binF (isND false) (vF 3) (cF .non)) (binF leD (binF idxD (vF 1) (cF (.int 0))) (vF 3))))))))
def f_is_within : List D → SrcT → Rs D := fnF 2 5 b_is_within
def b_leads : Sx := (seqS (setS 2 (callK f_as_joint (consF (vF 0) (consF (vF 1) (consF (vF 2) nilF)))))
  (seqS (setS 3 (callK f_as_joint (consF (vF 0) (consF (vF 1) (consF (vF 3) nilF)))))
  (seqS (forHS false (callF f_moves_of (consF (liftK (makeFF "Loops" f_Loops___init__ (consF (vF 0) (consF (vF 1) (consF (cF (.str "all")) nilF))))) (consF (makeCF "Menus" f_Menus___init__ nilF) (consF (vF 2) nilF)))) (gT 4 (gsCons (gN 4) (gsCons (gN 5) (gsCons (gN 6) (gsCons (gN 7) gsNil)))))
  (iteS (andT (blT (binF (eqD false) (vF 4) (slF (vF 3) (someF (cF (.int 0))) (someF (cF (.int 2)))))) (tstF (argF anyD (consF (lcF [8] (seqF (vF 7)) (gN 8) yesT (callK f_is_within (consF (binF idxD (vF 8) (cF (.int 0))) (consF (binF idxD (vF 3) (cF (.int 2))) nilF)))) nilF))))
  (retS (cF (.bl true)))
  nilS))
  (retS (cF (.bl false))))))
def f_leads : List D → SrcT → Rs D := fnF 4 9 b_leads
def b__law_pick : Sx := (retS (binF idxD (vF 1) (callF f__law_draw (consF (vF 0) (consF (argF lenD (consF (vF 1) nilF)) nilF)))))
def f__law_pick : List D → SrcT → Rs D := fnF 2 2 b__law_pick
def b__law_name : Sx := (seqS (setS 2 (binF idxD (lstF (consF (cF (.int 8)) (consF (cF (.int 4)) (consF (cF (.int 5)) (consF (cF (.int 6)) (consF (cF (.int 7)) (consF (cF (.int 1)) (consF (cF (.int 2)) (consF (cF (.int 3)) (consF (cF (.int 1)) (consF (cF (.int 2)) (consF (cF (.int 3)) (consF (cF (.int 1)) (consF (cF (.int 2)) nilF)))))))))))))) (callF f__law_draw (consF (vF 0) (consF (cF (.int 13)) nilF)))))
  (seqS (setS 3 (unF (joinD (.str "")) (lcF [4] (rng1F (consF (vF 2) nilF)) (gN 4) yesT (binF idxD (cF (.str "abcdefghijklmnopqrstuvwxyz")) (callF f__law_draw (consF (vF 0) (consF (cF (.int 26)) nilF)))))))
  (seqS (iteS (blT (chF ltD ltD (cF (.int 3)) (vF 2) (cF (.int 8))))
  (setS 3 (binF idxD (lstF (consF (cF (.str "keep")) (consF (cF (.str "pass")) (consF (cF (.str "none")) (consF (cF (.str "near")) (consF (cF (.str "answer")) (consF (binF addD (cF (.str "q")) (slF (vF 3) (someF (cF (.int 1))) noF)) nilF))))))) (callF f__law_draw (consF (vF 0) (consF (cF (.int 6)) nilF)))))
  nilS)
  (seqS (iteS (blT (binF (inD true) (vF 3) (vF 1)))
  (retS (vF 3))
  nilS)
  (retS (binF idxD (lcF [5] (seqF (lcF [6] (strF (cF (.str "abcdefghijklmnopq"))) (gN 6) yesT (binF addD (cF (.str "z")) (vF 6)))) (gN 5) (blT (binF (inD true) (vF 5) (vF 1))) (vF 5)) (cF (.int 0))))))))
def f__law_name : List D → SrcT → Rs D := fnF 2 7 b__law_name
def b__law_names : Sx := (seqS (setN 2 (lstF nilF))
  (seqS (forS (rng1F (consF (vF 1) nilF)) (gN 3)
  (appS 2 (scF (callN f__law_name (consF (vF 0) (consF (vF 2) nilF))))))
  (retS (vF 2))))
def f__law_names : List D → SrcT → Rs D := fnF 2 4 b__law_names
def b__law_places : Sx := (retS (lstF (consF (cF (.str "below")) (consF (cF (.str "-<")) (consF (cF (.str "-=")) (consF (cF (.str "->")) (consF (cF (.str "<")) (consF (cF (.str "=")) (consF (cF (.str ">")) (consF (cF (.str "+<")) (consF (cF (.str "+=")) (consF (cF (.str "+>")) (consF (cF (.str "above")) nilF)))))))))))))
def f__law_places : List D → SrcT → Rs D := fnF 0 0 b__law_places
def b__law_group_names : Sx := (retS (lstF (consF (cF (.str "any")) (consF (cF (.str "near")) (consF (cF (.str "far")) (consF (cF (.str "less")) (consF (cF (.str "more")) (consF (cF (.str "under")) (consF (cF (.str "over")) (consF (cF (.str "cell")) (consF (cF (.str "none")) nilF)))))))))))
def f__law_group_names : List D → SrcT → Rs D := fnF 0 0 b__law_group_names
def b__law_states : Sx := (seqS (setN 1 (lstF nilF))
  (seqS (forS (seqF (vF 0)) (gN 2)
  (forS (seqF (tupF (consF (binF idxD (vF 2) (cF (.int 0))) (consF (binF idxD (vF 2) (cF (.int 4))) nilF)))) (gN 3)
  (iteS (blT (binF (inD true) (vF 3) (vF 1)))
  (appS 1 (vF 3))
  nilS)))
  (retS (vF 1))))
def f__law_states : List D → SrcT → Rs D := fnF 1 4 b__law_states
def b__law_groups : Sx := (seqS (setS 2 (binF addD (slF (callF f__law_group_names nilF) noF (someF (cF (.int 8)))) (callF f__law_places nilF)))
  (seqS (setN 3 (lcF [4] (rng1F (consF (binF addD (cF (.int 1)) (callF f__law_draw (consF (vF 0) (consF (cF (.int 3)) nilF)))) nilF)) (gN 4) yesT (callF f__law_pick (consF (vF 0) (consF (vF 2) nilF)))))
  (seqS (iteS (orT (tstF (vF 1)) (blT (binF (eqD false) (callF f__law_draw (consF (vF 0) (consF (cF (.int 6)) nilF))) (cF (.int 0)))))
  (insS 3 (consF (callF f__law_draw (consF (vF 0) (consF (binF addD (argF lenD (consF (vF 3) nilF)) (cF (.int 1))) nilF))) (consF (cF (.str "none")) nilF)))
  nilS)
  (retS (vF 3)))))
def f__law_groups : List D → SrcT → Rs D := fnF 2 5 b__law_groups
def b__law_rules : Sx := (seqS (setS 3 (callF f__law_names (consF (vF 0) (consF (binF addD (cF (.int 1)) (callF f__law_draw (consF (vF 0) (consF (vF 1) nilF)))) nilF))))
  (seqS (setS 4 (lstF (consF (cF (.str "new")) (consF (cF (.str "old")) (consF (cF (.str "pass")) nilF)))))
  (seqS (setN 5 (lstF (consF (tupF (consF (binF idxD (vF 3) (cF (.int 0))) (consF (callF f__law_groups (consF (vF 0) (consF (cF (.bl true)) nilF))) (consF (callF f__law_pick (consF (vF 0) (consF (vF 4) nilF))) nilF)))) nilF)))
  (seqS (setN 5 (lstF (consF (binF addD (binF idxD (vF 5) (cF (.int 0))) (tupF (consF (binF gtD (callF f__law_draw (consF (vF 0) (consF (cF (.int 4)) nilF))) (cF (.int 0))) (consF (callF f__law_pick (consF (vF 0) (consF (vF 3) nilF))) nilF)))) nilF)))
  (seqS (forS (rng1F (consF (callF f__law_draw (consF (vF 0) (consF (vF 2) nilF))) nilF)) (gN 6)
  (seqS (parS 7 8 (consF (callF f__law_pick (consF (vF 0) (consF (vF 3) nilF))) (consF (callF f__law_groups (consF (vF 0) (consF (cF (.bl false)) nilF))) nilF)))
  (appS 5 (tupF (consF (vF 7) (consF (vF 8) (consF (callF f__law_pick (consF (vF 0) (consF (vF 4) nilF))) (consF (binF (eqD false) (callF f__law_draw (consF (vF 0) (consF (cF (.int 2)) nilF))) (cF (.int 1))) (consF (callF f__law_pick (consF (vF 0) (consF (vF 3) nilF))) nilF)))))))))
  (retS (vF 5)))))))
def f__law_rules : List D → SrcT → Rs D := fnF 3 9 b__law_rules
def b__law_alike : Sx := (retS (argF allD (consF (lcF [1] (seqF (vF 0)) (gN 1) yesT (binF (eqD false) (vF 1) (binF idxD (vF 0) (cF (.int 0))))) nilF)))
def f__law_alike : List D → SrcT → Rs D := fnF 1 2 b__law_alike
def b_law : Sx := (seqS (parS 2 3 (consF (callF f__law_rules (consF (vF 1) (consF (cF (.int 2)) (consF (cF (.int 4)) nilF)))) (consF (callF f__law_rules (consF (vF 1) (consF (cF (.int 2)) (consF (cF (.int 4)) nilF)))) nilF)))
  (seqS (asgS (tupF (consF (callF f_Loop1 (consF (vF 2) nilF)) (consF (callF f_Loop1 (consF (vF 3) nilF)) nilF))) (gT 2 (gsCons (gN 4) (gsCons (gN 5) gsNil))))
  (seqS (parS 6 7 (consF (callF f__law_states (consF (vF 2) nilF)) (consF (callF f__law_states (consF (vF 3) nilF)) nilF)))
  (seqS (setS 8 (lstF (consF (cF (.int 4)) (consF (cF (.int 5)) (consF (cF (.int 9)) (consF (cF (.int 40)) (consF (binF powD (cF (.int 10)) (cF (.int 20))) nilF)))))))
  (seqS (forS (rng1F (consF (cF (.int 6)) nilF)) (gN 9)
  (seqS (asgS (tupF (consF (callF f__law_pick (consF (vF 1) (consF (vF 6) nilF))) (consF (callF f__law_pick (consF (vF 1) (consF (vF 7) nilF))) nilF))) (gT 2 (gsCons (gN 10) (gsCons (gN 11) gsNil))))
  (seqS (asgS (tupF (consF (callF f__law_pick (consF (vF 1) (consF (vF 6) nilF))) (consF (callF f__law_pick (consF (vF 1) (consF (vF 7) nilF))) nilF))) (gT 2 (gsCons (gN 12) (gsCons (gN 13) gsNil))))
  (seqS (asgS (tupF (consF (callF f__law_pick (consF (vF 1) (consF (lstF (consF (cF (.str "<")) (consF (cF (.str "=")) (consF (cF (.str ">")) nilF)))) nilF))) (consF (callF f__law_pick (consF (vF 1) (consF (lstF (consF (cF (.str "<")) (consF (cF (.str "=")) (consF (cF (.str ">")) nilF)))) nilF))) nilF))) (gT 2 (gsCons (gN 14) (gsCons (gN 15) gsNil))))
  (seqS (setS 16 (binF idxD (lstF (consF (cF (.int 1)) (consF (binF subD (cF (.int 0)) (cF (.int 1))) nilF))) (callF f__law_draw (consF (vF 1) (consF (cF (.int 2)) nilF)))))
  (seqS (setS 17 (lcF [18] (seqF (vF 8)) (gN 18) yesT (tupF (consF (vF 10) (consF (vF 11) (consF (tupF (consF (binF mulD (vF 16) (vF 18)) (consF (vF 14) nilF))) nilF))))))
  (seqS (forS (seqF (tupF (consF (binF subD (cF (.int 0)) (cF (.int 2))) (consF (binF subD (cF (.int 0)) (cF (.int 1))) (consF (cF (.int 0)) (consF (cF (.int 1)) (consF (cF (.int 2)) (consF (cF (.int 3)) (consF (cF (.int 7)) (consF (binF powD (cF (.int 10)) (cF (.int 6))) nilF)))))))))) (gN 19)
  (seqS (setS 20 (lcF [18] (seqF (vF 8)) (gN 18) yesT (tupF (consF (vF 12) (consF (vF 13) (consF (tupF (consF (binF mulD (vF 16) (binF addD (vF 18) (vF 19))) (consF (vF 15) nilF))) nilF))))))
  (iteS (notT (tstF (callF f__law_alike (consF (lcF [21, 22] (zipF (consF (vF 17) (consF (vF 20) nilF))) (gT 2 (gsCons (gN 21) (gsCons (gN 22) gsNil))) yesT (callVP f_leads (consF (vF 4) (consF (vF 5) (consF (vF 21) (consF (vF 22) nilF)))))) nilF))))
  (retS (cF (.bl false)))
  nilS)))
  (seqS (forS (seqF (tupF (consF (binF subD (cF (.int 0)) (binF powD (cF (.int 10)) (cF (.int 6)))) (consF (binF subD (cF (.int 0)) (cF (.int 5))) (consF (binF subD (cF (.int 0)) (cF (.int 2))) (consF (binF subD (cF (.int 0)) (cF (.int 1))) (consF (cF (.int 0)) (consF (cF (.int 1)) (consF (cF (.int 2)) nilF))))))))) (gN 23)
  (seqS (setS 22 (tupF (consF (vF 12) (consF (vF 13) (consF (tupF (consF (binF mulD (vF 16) (vF 23)) (consF (vF 15) nilF))) nilF)))))
  (iteS (notT (tstF (callF f__law_alike (consF (lcF [21] (seqF (vF 17)) (gN 21) yesT (callVP f_leads (consF (vF 4) (consF (vF 5) (consF (vF 21) (consF (vF 22) nilF)))))) nilF))))
  (retS (cF (.bl false)))
  nilS)))
  (seqS (setS 24 (lcF [18] (seqF (tupF (consF (cF (.int 11)) (consF (cF (.int 12)) (consF (cF (.int 99)) (consF (binF powD (cF (.int 10)) (cF (.int 20))) nilF)))))) (gN 18) yesT (tupF (consF (vF 12) (consF (vF 13) (consF (tupF (consF (binF mulD (vF 16) (vF 18)) (consF (vF 15) nilF))) nilF))))))
  (seqS (iteS (notT (tstF (callF f__law_alike (consF (lcF [22] (seqF (vF 24)) (gN 22) yesT (callVP f_leads (consF (vF 4) (consF (vF 5) (consF (binF idxD (vF 17) (cF (.int 2))) (consF (vF 22) nilF)))))) nilF))))
  (retS (cF (.bl false)))
  nilS)
  (seqS (setS 25 (lcF [18] (seqF (tupF (consF (cF (.int 2)) (consF (cF (.int 3)) (consF (cF (.int 20)) (consF (cF (.int 38)) nilF)))))) (gN 18) yesT (tupF (consF (vF 12) (consF (vF 13) (consF (tupF (consF (binF mulD (vF 16) (vF 18)) (consF (vF 15) nilF))) nilF))))))
  (iteS (notT (tstF (callF f__law_alike (consF (lcF [22] (seqF (vF 25)) (gN 22) yesT (callVP f_leads (consF (vF 4) (consF (vF 5) (consF (binF idxD (vF 17) (cF (.int 3))) (consF (vF 22) nilF)))))) nilF))))
  (retS (cF (.bl false)))
  nilS))))))))))))
  (retS (cF (.bl true))))))))
end
theorem pick_sat {P : D → SrcT → Prop} {S : SrcT} {ds : List D} (h0 : 0 < ds.length) (h1 : ds.length < 100000) (hc : S.c ≤ 990000) (h : ∀ d S', d ∈ ds → S'.c = S.c + 1 → P d S') : (f__law_pick [.src, .lst ds] S).sat P := by
  refine fnF_sat rfl ?_
  unfold b__law_pick
  walk_at "st"
  refine draw_sat (by omega) (by omega) hc fun r S' r0 r1 c1 => ?_
  obtain ⟨v, hv, hm⟩ := atI_ex r0 r1
  exact ⟨v, hv, h v S' hm c1⟩
theorem name_sat {P : D → SrcT → Prop} {S : SrcT} {ts : List Str} (hts : ts.length ≤ 16) (hc : S.c ≤ 980000) (h : ∀ z S', isNameB z = true → z ∉ ts → S.c ≤ S'.c → S'.c ≤ S.c + 20 → P (.str z) S') : (f__law_name [.src, .lst (ts.map .str)] S).sat P := by
  refine fnF_sat rfl ?_
  unfold b__law_name
  walk_at "st"
  refine draw_sat (by decide) (by decide) (by omega) fun r S1 r0 r1 c1 => ?_
  obtain ⟨v, hv, hm⟩ := atI_ex (xs := ([8, 4, 5, 6, 7, 1, 2, 3, 1, 2, 3, 1, 2] : List Int).map D.int) r0 r1
  obtain ⟨n, hn, rfl⟩ := List.mem_map.mp hm
  obtain ⟨n1, n8⟩ : 1 ≤ n ∧ n ≤ 8 := by
    simp only [List.mem_cons, List.not_mem_nil, or_false] at hn
    omega
  refine ⟨_, hv, ?_⟩
  walk_at "st"
  refine ⟨okR_of (by omega) (by omega), by rw [rngD_len]; omega, ?_⟩
  -- letters
  refine lc_sat (fun i acc S' => ∃ cs : List Nat, acc = (cs.map oneS).map D.str ∧ cs.length = i ∧ (∀ x ∈ cs, x ∈ ALPHA) ∧ S'.c = S1.c + i) ?_ ?_ ?_
  · rintro i d acc S2 hd ⟨cs, rfl, hcs, hal, hc2⟩
    obtain ⟨hi, rfl⟩ := rngD_at hd
    refine ⟨_, rfl, yesT_sat ?_⟩
    rw [if_pos rfl]
    walk_at "st"
    refine draw_sat (by decide) (by decide) (by omega) fun r S3 r0 r1 c3 => ?_
    obtain ⟨x, hx, hxm⟩ := atI_mem (xs := ALPHA) r0 r1
    refine ⟨.str ⟨#[x]⟩, ?_, cs ++ [x], ?_, by simp [hcs], ?_, by rw [c3, hc2]; omega⟩
    · unfold idxD; dsimp only
      rw [if_pos (by decide +kernel)]
      show Option.map _ (atI ALPHA r) = _
      rw [hx]; rfl
    · rw [List.map_append, List.map_append]; rfl
    · intro y hy
      rcases List.mem_append.mp hy with hy | hy
      · exact hal y hy
      · rw [List.mem_singleton.mp hy]; exact hxm
  · rintro acc S2 ⟨cs, rfl, hcs, hal, hc2⟩
    rw [rngD_len] at hcs hc2
    have hjl : (Txt.join "" (cs.map oneS)).length = cs.length := by
      have := congrArg List.length (join_cps cs); simpa [Str.length] using this
    refine ⟨.str (Txt.join "" (cs.map oneS)), ?_, ?_⟩
    · show (match strsD ((cs.map oneS).map D.str) with | some ys => _ | none => _) = _
      rw [strsD_map]
      dsimp only
      rw [if_pos]
      rw [ones_sum, List.length_map]
      show cs.length + cs.length * 0 ≤ _
      omega
    -- the word
    refine seqS_sat ?_
    have mid : ∀ (z : Str) (S3 : SrcT), isNameB z = true → S.c ≤ S3.c → S3.c ≤ S.c + 20 → ((seqS (iteS (blT (binF (inD true) (vF 3) (vF 1))) (retS (vF 3)) nilS) (retS (binF idxD (lcF [5] (seqF (lcF [6] (strF (cF (.str "abcdefghijklmnopq"))) (gN 6) yesT (binF addD (cF (.str "z")) (vF 6)))) (gN 5) (blT (binF (inD true) (vF 5) (vF 1))) (vF 5)) (cF (.int 0))))) [some .src, some (.lst (ts.map .str)), some (.int n), some (.str z), none, none, none] S3).sat fun r S' => match r with
      | (.ret d, _) => P d S'
      | (.nx, _) => P .non S'
      | _ => False := fun z S3 hz b1 b2 => by
      have hin : ∀ y : Str, inD true (.str y) (.lst (ts.map .str)) = some (.bl (!decide (y ∈ ts))) := fun y => by
        have e1 : (ts.map D.str).map vOf = ts.map V.str := by rw [List.map_map]; rfl
        show (if _ then some (D.bl (!inV (.str y) ((ts.map D.str).map vOf))) else none) = _
        rw [e1, inV_strs, if_pos]
        simp [isSc]
      walk_at "st"
      refine ⟨_, hin z, _, rfl, ?_⟩
      by_cases hzt : z ∈ ts
      · rw [if_neg (by simp [hzt])]
        walk_at "st"
        refine ⟨by decide +kernel, ?_⟩
        refine lc_sat (fun i acc S' => acc = (((signsD "abcdefghijklmnopq").take i).map fun d => match d with | .str y => D.str ("z" ++ y) | _ => .non) ∧ S' = S3) ?_ ?_ ?_
        · rintro i d acc S4 hd ⟨rfl, rfl⟩
          refine ⟨_, rfl, yesT_sat ?_⟩
          rw [if_pos rfl]
          have hd2 : ∃ c, d = .str ⟨#[c]⟩ := by
            unfold signsD at hd
            rw [List.getElem?_map] at hd
            obtain ⟨x, hx, rfl⟩ := Option.map_eq_some_iff.mp hd
            exact ⟨x, rfl⟩
          obtain ⟨x, rfl⟩ := hd2
          walk_at "st"
          refine ⟨?_, rfl⟩
          rw [take_snoc hd, List.map_append]; rfl
        · rintro acc S4 ⟨rfl, rfl⟩
          rw [List.take_length]
          have eF : ((signsD "abcdefghijklmnopq").map fun d => match d with | .str y => D.str ("z" ++ y) | _ => .non) = ZS.map D.str := by
            have : signsD "abcdefghijklmnopq" = (("abcdefghijklmnopq" : Str).cps.toList.map oneS).map D.str := by unfold signsD oneS; rw [List.map_map]; rfl
            rw [this, List.map_map]
            have e2 : ZS = (("abcdefghijklmnopq" : Str).cps.toList.map oneS).map fun y => ("z" : Str) ++ y := by decide +kernel
            rw [e2, List.map_map]; rfl
          rw [eF]
          refine ⟨_, rfl, ?_⟩
          refine ⟨by decide +kernel, ?_⟩
          refine lc_sat (fun i acc S' => acc = ((ZS.take i).filter fun y => !decide (y ∈ ts)).map D.str ∧ S' = S4) ?_ ?_ ?_
          · rintro i d acc S5 hd ⟨rfl, rfl⟩
            rw [List.getElem?_map] at hd
            obtain ⟨x, hx, rfl⟩ := Option.map_eq_some_iff.mp hd
            refine ⟨_, rfl, ?_⟩
            walk_at "st"
            refine ⟨_, hin x, _, rfl, ?_⟩
            rw [take_snoc hx, List.filter_append]
            by_cases hxt : x ∈ ts
            · rw [if_neg (by simp [hxt])]
              simp [hxt]
            · rw [if_pos (by simp [hxt])]
              walk_at "st"
              simp [hxt]
          · rintro acc S5 ⟨rfl, rfl⟩
            obtain ⟨z2, r2, e2, n2, f2⟩ := z_free hts
            rw [List.length_map, List.take_length, e2]
            refine ⟨.str z2, atI_nat (xs := (z2 :: r2).map D.str) (j := 0) rfl, ?_⟩
            exact h z2 _ n2 f2 b1 b2
          · exact ⟨rfl, rfl⟩
        · exact ⟨rfl, rfl⟩
      · rw [if_pos (by simp [hzt])]
        walk_at "st"
        exact h z _ hz hzt b1 b2
    have hnm := join_name (cs := cs) (by omega) (by omega) hal
    walk_at "st"
    by_cases c1' : 3 < n
    · rw [if_pos (decide_eq_true c1')]
      walk_at "st"
      by_cases c2' : n < 8
      · rw [if_pos (decide_eq_true c2')]
        have hq := q_name (cs := cs) (by omega) (by omega) hal
        have hql := name_len hq
        have hcl : (cutS (Txt.join "" (cs.map oneS)) (some 1) none).length + 1 ≤ 8 := by
          have : (("q" : Str) ++ cutS (Txt.join "" (cs.map oneS)) (some 1) none).length = ("q" : Str).length + (cutS (Txt.join "" (cs.map oneS)) (some 1) none).length := by
            show (Array.size (_ ++ _)) = _
            rw [Array.size_append]; rfl
          have h1 : ("q" : Str).length = 1 := rfl
          omega
        walk_at "st"
        refine ⟨.str (cutS (Txt.join "" (cs.map oneS)) (some 1) none), ?_, .str ("q" ++ cutS (Txt.join "" (cs.map oneS)) (some 1) none), ?_, ?_⟩
        · unfold sliceD; dsimp only; rw [if_pos (by omega)]
        · unfold addD; dsimp only; rw [if_pos (by show 1 + _ ≤ _; omega)]
        walk_at "st"
        refine draw_sat (by decide) (by decide) (by omega) fun r S3 r0 r1 c3 => ?_
        obtain ⟨v, hv, hm⟩ := atI_mem (xs := ([("keep" : Str), "pass", "none", "near", "answer", "q" ++ cutS (Txt.join "" (cs.map oneS)) (some 1) none] : List Str).map D.str) r0 r1
        obtain ⟨z, hz, rfl⟩ := List.mem_map.mp hm
        refine ⟨_, hv, ?_⟩
        refine mid z S3 ?_ (by omega) (by omega)
        simp only [List.mem_cons, List.not_mem_nil, or_false] at hz
        rcases hz with rfl | rfl | rfl | rfl | rfl | rfl
        · decide +kernel
        · decide +kernel
        · decide +kernel
        · decide +kernel
        · decide +kernel
        · exact hq
      · rw [if_neg (by simpa using c2')]
        exact mid _ S2 hnm (by omega) (by omega)
    · rw [if_neg (by simpa using c1')]
      walk_at "st"
      rw [if_neg (by decide)]
      exact mid _ S2 hnm (by omega) (by omega)
  · exact ⟨[], rfl, rfl, fun x hx => (nomatch hx), by omega⟩
theorem names_sat {P : D → SrcT → Prop} {S : SrcT} {k : Int} (k0 : 0 ≤ k) (k1 : k ≤ 16) (hc : S.c ≤ 970000) (h : ∀ (zs : List Str) S', (zs.length : Int) = k → zs.Nodup → (∀ z ∈ zs, isNameB z = true) → S.c ≤ S'.c → S'.c ≤ S.c + 20 * k → P (.lst (zs.map .str)) S') : (f__law_names [.src, .int k] S).sat P := by
  refine fnF_sat rfl ?_
  unfold b__law_names
  walk_at "st"
  refine ⟨okR_of (by omega) (by omega), ?_⟩
  refine for_sat (fun i ρ S' => ∃ (zs : List Str) (v : Option D), ρ = [some .src, some (.int k), some (.lst (zs.map .str)), v] ∧ zs.length = i ∧ zs.Nodup ∧ (∀ z ∈ zs, isNameB z = true) ∧ S.c ≤ S'.c ∧ S'.c ≤ S.c + 20 * i) ?_ ?_ ?_
  · rintro i d ρ S1 hd ⟨zs, v, rfl, hl, hn, hz, c1, c2⟩
    obtain ⟨hi, rfl⟩ := rngD_at hd
    refine ⟨_, rfl, ?_⟩
    walk_at "st"
    · rw [List.length_map]; omega
    walk_at "st"
    refine name_sat (by omega) (by omega) fun z S2 z1 z2 c3 c4 => ⟨rfl, zs ++ [z], _, by rw [List.map_append]; rfl, by simp [hl], nd_snoc hn z2, fun y hy => ?_, by omega, by omega⟩
    rcases List.mem_append.mp hy with hy | hy
    · exact hz y hy
    · rw [List.mem_singleton.mp hy]; exact z1
  · rintro ρ S1 ⟨zs, v, rfl, hl, hn, hz, c1, c2⟩
    rw [rngD_len] at hl c2
    walk_at "st"
    exact h zs S1 (by omega) hn hz c1 (by omega)
  · exact ⟨[], none, rfl, rfl, List.nodup_nil, fun z hz => (nomatch hz), by omega, by omega⟩
theorem groups_sat {P : D → SrcT → Prop} {S : SrcT} {b : Bool} (hc : S.c ≤ 970000) (h : ∀ (gs : List Str) S', 0 < gs.length → gs.length ≤ 4 → (∀ g ∈ gs, isGroupB g = true) → (b = true → ("none" : Str) ∈ gs) → S.c ≤ S'.c → S'.c ≤ S.c + 8 → P (.lst (gs.map .str)) S') : (f__law_groups [.src, .bl b] S).sat P := by
  refine fnF_sat rfl ?_
  unfold b__law_groups
  walk_at "st"
  refine draw_sat (by decide) (by decide) (by omega) fun r S1 r0 r1 c1 => ?_
  walk_at "st"
  refine ⟨okR_of (by omega) (by omega), by rw [rngD_len]; omega, ?_⟩
  refine lc_sat (fun i acc S' => ∃ gs : List Str, acc = gs.map D.str ∧ gs.length = i ∧ (∀ g ∈ gs, isGroupB g = true) ∧ S'.c = S1.c + i) ?_ ?_ ?_
  · rintro i d acc S2 hd ⟨gs, rfl, hl, hg, c2⟩
    obtain ⟨hi, rfl⟩ := rngD_at hd
    refine ⟨_, rfl, yesT_sat ?_⟩
    rw [if_pos rfl]
    walk_at "st"
    refine pick_sat (by decide) (by decide) (by omega) fun d S3 hd c3 => ?_
    obtain ⟨g, hg1, rfl⟩ := List.mem_map.mp (show d ∈ N19.map D.str from hd)
    refine ⟨gs ++ [g], by rw [List.map_append]; rfl, by simp [hl], fun y hy => ?_, by rw [c3, c2]; omega⟩
    rcases List.mem_append.mp hy with hy | hy
    · exact hg y hy
    · rw [List.mem_singleton.mp hy]; exact N19_group g hg1
  · rintro acc S2 ⟨gs, rfl, hl, hg, c2⟩
    rw [rngD_len] at hl c2
    have fin : ∀ S3, S2.c ≤ S3.c → S3.c ≤ S2.c + 2 → ((insS 3 (consF (callF f__law_draw (consF (vF 0) (consF (binF addD (argF lenD (consF (vF 3) nilF)) (cF (.int 1))) nilF))) (consF (cF (.str "none")) nilF))) [some .src, some (.bl b), some (.lst (N19.map .str)), some (.lst (gs.map .str)), none] S3).sat fun r S1 => match r with
      | (.nx, ρ1) => ((retS (vF 3)) ρ1 S1).sat fun r S' => match r with
        | (.ret d, _) => P d S'
        | (.nx, _) => P .non S'
        | _ => False
      | r => match r with
        | (.ret d, _) => P d S1
        | (.nx, _) => P .non S1
        | _ => False := fun S3 d1 d2 => by
      walk_at "st"
      · rw [List.length_map]; omega
      walk_at "st"
      refine draw_sat (by rw [List.length_map]; omega) (by rw [List.length_map]; omega) (by omega) fun r S4 q0 q1 c4 => ?_
      rw [List.length_map] at q1
      walk_at "st"
      refine ⟨q0, by omega, ?_⟩
      walk_at "st"
      have e : ((gs.map D.str).take r.toNat ++ [D.str "none"] ++ (gs.map D.str).drop r.toNat) = (gs.take r.toNat ++ [("none" : Str)] ++ gs.drop r.toNat).map D.str := by
        rw [List.map_append, List.map_append, List.map_take, List.map_drop]; rfl
      rw [e]
      refine h _ S4 (by simp; omega) ?_ (fun g hgm => ?_) (fun _ => by simp) (by omega) (by omega)
      · rw [List.length_append, List.length_append, List.length_take, List.length_drop]
        simp only [List.length_cons, List.length_nil]
        omega
      · rcases List.mem_append.mp hgm with hgm | hgm
        · rcases List.mem_append.mp hgm with hgm | hgm
          · exact hg g (List.mem_of_mem_take hgm)
          · rw [List.mem_singleton.mp hgm]; decide +kernel
        · exact hg g (List.mem_of_mem_drop hgm)
    walk_at "st"
    cases b with
    | true =>
      rw [if_pos rfl]
      rw [if_pos rfl]
      exact fin S2 (by omega) (by omega)
    | false =>
      rw [if_neg (by decide)]
      walk_at "st"
      refine draw_sat (by decide) (by decide) (by omega) fun r S3 q0 q1 c3 => ?_
      walk_at "st"
      refine ifB _ (fun _ => fin S3 (by omega) (by omega)) (fun _ => ?_)
      walk_at "st"
      exact h gs S3 (by omega) (by omega) hg (fun z => by cases z) (by omega) (by omega)
  · exact ⟨[], rfl, rfl, fun x hx => (nomatch hx), by omega⟩
theorem pickS_sat {P : D → SrcT → Prop} {S : SrcT} {zs : List Str} (h0 : 0 < zs.length) (h1 : zs.length < 100000) (hc : S.c ≤ 990000) (h : ∀ z S', z ∈ zs → S'.c = S.c + 1 → P (.str z) S') : (f__law_pick [.src, .lst (zs.map .str)] S).sat P := by
  refine pick_sat (by rw [List.length_map]; exact h0) (by rw [List.length_map]; exact h1) hc fun d S' hd c1 => ?_
  obtain ⟨z, hz, rfl⟩ := List.mem_map.mp hd
  exact h z S' hz c1
theorem rules_sat {P : D → SrcT → Prop} {S : SrcT} {many most : Int} (m1 : 1 ≤ many) (m6 : many ≤ 6) (k1 : 1 ≤ most) (k40 : most ≤ 40) (hc : S.c ≤ 960000) (h : ∀ (rs : List Rule) S', Drawn rs many most → S.c ≤ S'.c → S'.c ≤ S.c + 1000 → P (.lst (rs.map rD)) S') : (f__law_rules [.src, .int many, .int most] S).sat P := by
  refine fnF_sat rfl ?_
  unfold b__law_rules
  walk_at "st"
  refine draw_sat (by omega) (by omega) (by omega) fun r S1 r0 r1 c1 => ?_
  walk_at "st"
  refine names_sat (by omega) (by omega) (by omega) fun zs S2 zl zn zm c2 c3 => ?_
  have hz0 : 0 < zs.length := by omega
  obtain ⟨s0, zr, hzs⟩ : ∃ s0 zr, zs = s0 :: zr := by
    cases zs with
    | nil => simp at hz0
    | cons a b => exact ⟨a, b, rfl⟩
  have hs0 : s0 ∈ zs := hzs ▸ List.mem_cons_self
  walk_at "st"
  refine ⟨.str s0, by rw [hzs]; exact atI_nat (xs := (s0 :: zr).map D.str) (j := 0) rfl, ?_⟩
  walk_at "st"
  refine groups_sat (by omega) fun gs S3 g0 g4 gg _ c4 c5 => ?_
  walk_at "st"
  refine pickS_sat (zs := W3) (by decide) (by decide) (by omega) fun w S4 hw c6 => ?_
  walk_at "st"
  refine draw_sat (by decide) (by decide) (by omega) fun r4 S5 _ _ c7 => ?_
  walk_at "st"
  refine pickS_sat hz0 (by omega) (by omega) fun nx S6 hnx c8 => ?_
  walk_at "st"
  refine draw_sat (by omega) (by omega) (by omega) fun r5 S7 q0 q1 c9 => ?_
  walk_at "st"
  refine ⟨okR_of (by omega) (by omega), ?_⟩
  refine for_sat (fun i ρ S' => ∃ (rs : List Rule) (v6 v7 v8 : Option D), ρ = [some .src, some (.int many), some (.int most), some (.lst (zs.map .str)), some (.lst (W3.map .str)), some (.lst (rs.map rD)), v6, v7, v8] ∧ rs.length = i + 1 ∧ (∀ r ∈ rs, wfRule r = true ∧ r.gs.length ≤ 4 ∧ r.wd ∈ W3 ∧ r.st ∈ zs ∧ r.nx ∈ zs) ∧ S7.c ≤ S'.c ∧ S'.c ≤ S7.c + 15 * i) ?_ ?_ ?_
  · rintro i d ρ T1 hd ⟨rs, v6, v7, v8, rfl, hl, hr, e1, e2⟩
    obtain ⟨hi, rfl⟩ := rngD_at hd
    refine ⟨_, rfl, ?_⟩
    walk_at "st"
    refine pickS_sat hz0 (by omega) (by omega) fun st T2 hst d1 => ?_
    walk_at "st"
    refine groups_sat (by omega) fun gs T3 g0 g4 gg _ d2 d3 => ?_
    walk_at "st"
    · rw [List.length_map]; omega
    walk_at "st"
    refine pickS_sat (zs := W3) (by decide) (by decide) (by omega) fun w T4 hw d4 => ?_
    walk_at "st"
    refine draw_sat (by decide) (by decide) (by omega) fun r4 T5 _ _ d5 => ?_
    walk_at "st"
    refine pickS_sat hz0 (by omega) (by omega) fun nx T6 hnx d6 => ?_
    walk_at "st"
    refine ⟨rs ++ [⟨st, gs, w, PyData.eqv (.int r4) (.int 1), nx⟩], _, _, _, by rw [List.map_append]; rfl, by simp [hl], fun x hx => ?_, by omega, by omega⟩
    rcases List.mem_append.mp hx with hx | hx
    · exact hr x hx
    · rw [List.mem_singleton.mp hx]
      exact ⟨wfRule_of (zm _ hst) (W3_name _ hw) (zm _ hnx) g0 gg, g4, hw, hst, hnx⟩
  · rintro ρ T1 ⟨rs, v6, v7, v8, rfl, hl, hr, e1, e2⟩
    rw [rngD_len] at hl e2
    walk_at "st"
    refine h rs T1 ⟨by omega, by omega, fun x hx => (hr x hx).1, fun x hx => (hr x hx).2.1, fun x hx => (hr x hx).2.2.1, ?_⟩ (by omega) (by omega)
    have := states_sub fun x hx => (hr x hx).2.2.2
    omega
  · refine ⟨[⟨s0, gs, w, _, nx⟩], _, _, _, rfl, rfl, fun x hx => ?_, by omega, by omega⟩
    rw [List.mem_singleton.mp hx]
    exact ⟨wfRule_of (zm _ hs0) (W3_name _ hw) (zm _ hnx) g0 gg, g4, hw, hs0, hnx⟩
theorem inD_strs (neg : Bool) (y : Str) (ts : List Str) : inD neg (.str y) (.lst (ts.map .str)) = some (.bl (if neg then !decide (y ∈ ts) else decide (y ∈ ts))) := by
  have e1 : (ts.map D.str).map vOf = ts.map V.str := by rw [List.map_map]; rfl
  show (if _ then some (D.bl (if neg then !inV (.str y) ((ts.map D.str).map vOf) else inV (.str y) ((ts.map D.str).map vOf))) else none) = _
  rw [e1, inV_strs, if_pos]
  simp [isSc]
theorem states_sat {P : D → SrcT → Prop} {S : SrcT} {rs : List Rule} (hl : rs.length ≤ 1000) (h : P (.lst ((statesR rs).map .str)) S) : (f__law_states [.lst (rs.map rD)] S).sat P := by
  refine fnF_sat rfl ?_
  unfold b__law_states
  walk_at "st"
  refine for_sat (fun i ρ S' => ∃ (v2 v3 : Option D), ρ = [some (.lst (rs.map rD)), some (.lst ((statesR (rs.take i)).map .str)), v2, v3] ∧ S' = S) ?_ ?_ ?_
  · rintro i d ρ S1 hd ⟨v2, v3, rfl, rfl⟩
    rw [List.getElem?_map] at hd
    obtain ⟨r, hr, rfl⟩ := Option.map_eq_some_iff.mp hd
    refine ⟨_, rfl, ?_⟩
    walk_at "st"
    have hb := statesF_bound [] (rs.take i)
    have hbl : (rs.take i).length ≤ 1000 := by rw [List.length_take]; omega
    have hb : (statesR (rs.take i)).length ≤ 2000 := by unfold statesR; simp only [List.length_nil] at hb; omega
    refine for_sat (fun j ρ S' => ∃ (v3 : Option D), ρ = [some (.lst (rs.map rD)), some (.lst ((if j = 0 then statesR (rs.take i) else if j = 1 then addS (statesR (rs.take i)) r.st else addS (addS (statesR (rs.take i)) r.st) r.nx).map .str)), some (rD r), v3] ∧ S' = S1) ?_ ?_ ?_
    · have one : ∀ (acc : List Str) (z : Str) (v3 : Option D), acc.length ≤ 3000 → ((iteS (blT (binF (inD true) (vF 3) (vF 1))) (appS 1 (vF 3)) nilS) [some (.lst (rs.map rD)), some (.lst (acc.map .str)), some (rD r), some (.str z)] S1).sat fun q S' => q = (.nx, [some (.lst (rs.map rD)), some (.lst ((addS acc z).map .str)), some (rD r), some (.str z)]) ∧ S' = S1 := fun acc z v3 hal => by
        walk_at "st"
        refine ⟨_, inD_strs true z acc, ?_⟩
        walk_at "st"
        by_cases hz : z ∈ acc
        · rw [if_neg (by simp [hz])]
          walk_at "st"
          unfold addS; rw [if_pos hz]; exact ⟨rfl, rfl⟩
        · rw [if_pos (by simp [hz])]
          walk_at "st"
          · rw [List.length_map]; omega
          walk_at "st"
          unfold addS; rw [if_neg hz, List.map_append]; exact ⟨rfl, rfl⟩
      rintro j d ρ S2 hd ⟨v3, rfl, rfl⟩
      match j, hd with
      | 0, hd =>
        cases hd
        refine ⟨_, rfl, ?_⟩
        refine (one (statesR (rs.take i)) r.st v3 (by omega)).mono ?_
        rintro q S' ⟨rfl, rfl⟩
        exact ⟨_, rfl, rfl⟩
      | 1, hd =>
        cases hd
        refine ⟨_, rfl, ?_⟩
        have := (addS_len (statesR (rs.take i)) r.st).2
        refine (one (addS (statesR (rs.take i)) r.st) r.nx v3 (by omega)).mono ?_
        rintro q S' ⟨rfl, rfl⟩
        exact ⟨_, rfl, rfl⟩
      | j + 2, hd => simp at hd
    · rintro ρ S2 ⟨v3, rfl, rfl⟩
      refine ⟨some (rD r), v3, ?_, rfl⟩
      rw [take_snoc hr]
      unfold statesR
      rw [statesF_snoc]; rfl
    · exact ⟨_, rfl, rfl⟩
  · rintro ρ S1 ⟨v2, v3, rfl, rfl⟩
    rw [List.length_map, List.take_length]
    walk_at "st"
    exact h
  · exact ⟨_, _, rfl, rfl⟩
/-! rules -/
theorem eqD_bool {neg : Bool} {a b : Bool} : eqD neg (.bl a) (.bl b) = some (.bl (if neg then !decide (a = b) else decide (a = b))) := by
  cases a <;> cases b <;> cases neg <;> rfl
theorem any_bools (bs : List Bool) : anyD [.lst (bs.map .bl)] = some (.bl (bs.any id)) := by
  unfold anyD
  dsimp only
  rw [boolsD_map]; rfl
theorem wf_parts {r : Rule} (h : wfRule r = true) : isNameB r.st = true ∧ isNameB r.wd = true ∧ isNameB r.nx = true ∧ ∀ g ∈ r.gs, isGroupB g = true := by
  unfold wfRule at h
  simp only [Bool.and_eq_true, List.all_eq_true] at h
  exact ⟨h.1.1.1.1, h.1.1.1.2, h.1.1.2, h.2⟩
theorem name_st {rs : List Rule} (h : ∀ r ∈ rs, wfRule r = true) {s : Str} (hs : s ∈ statesR rs) : isNameB s = true := by
  unfold statesR at hs
  rcases statesF_mem.mp hs with hs | ⟨r, hr, h1 | h1⟩
  · exact nomatch hs
  · rw [h1]; exact (wf_parts (h r hr)).1
  · rw [h1]; exact (wf_parts (h r hr)).2.2.1
/-! equal data that is flat, or tuples of it -/
def flt : D → Bool
  | .non => true
  | .int _ => true
  | .str z => PyData.strOk z
  | _ => false
def flt1 : D → Bool
  | .tup ds => ds.all flt
  | d => flt d
theorem flt_fine {d : D} {n : Nat} (h : flt d = true) : fineN n d := by
  cases d with
  | non => exact fineO
  | int i => exact fineI i
  | str z => exact fineS h
  | _ => cases h
theorem flt1_fine {d : D} (h : flt1 d = true) : fineN 60 d := by
  cases d with
  | tup ds => exact (fineT (n := 0) fun x hx => flt_fine (List.all_eq_true.mp h x hx)).mono (by omega)
  | non => exact fineO
  | int i => exact fineI i
  | str z => exact fineS h
  | _ => cases h
theorem eqv_flt {d1 d2 : D} {p q : PyData} (h1 : flt d1 = true) (h2 : flt d2 = true) (e1 : toP d1 = some p) (e2 : toP d2 = some q) : PyData.eqv p q = true ↔ d1 = d2 := by
  cases d1 with
  | non =>
    rw [toP] at e1; cases e1
    cases d2 with
    | non => rw [toP] at e2; cases e2; simp [PyData.eqv]
    | int j => rw [toP] at e2; cases e2; simp [PyData.eqv]
    | str j => rw [toP] at e2; cases e2; simp [PyData.eqv]
    | _ => cases h2
  | int i =>
    rw [toP] at e1; cases e1
    cases d2 with
    | non => rw [toP] at e2; cases e2; simp [PyData.eqv]
    | int j => rw [toP] at e2; cases e2; rw [eqv_ints]; simp
    | str j => rw [toP] at e2; cases e2; simp [PyData.eqv]
    | _ => cases h2
  | str i =>
    rw [toP] at e1; cases e1
    cases d2 with
    | non => rw [toP] at e2; cases e2; simp [PyData.eqv]
    | int j => rw [toP] at e2; cases e2; simp [PyData.eqv]
    | str j => rw [toP] at e2; cases e2; rw [eqv_strs]; simp
    | _ => cases h2
  | _ => cases h1
theorem eqvs_flt : ∀ {l1 l2 : List D} {ps qs : List PyData}, l1.all flt = true → l2.all flt = true → toPs l1 = some ps → toPs l2 = some qs → (PyData.eqvAll ps qs = true ↔ l1 = l2)
  | [], [], ps, qs, _, _, e1, e2 => by rw [toPs] at e1 e2; cases e1; cases e2; simp [PyData.eqvAll]
  | [], d :: l, ps, qs, _, _, e1, e2 => by
    rw [toPs] at e1
    cases e1
    unfold toPs at e2
    split at e2
    · cases e2; simp [PyData.eqvAll]
    · cases e2
  | d :: l, [], ps, qs, _, _, e1, e2 => by
    rw [toPs] at e2
    cases e2
    unfold toPs at e1
    split at e1
    · cases e1; simp [PyData.eqvAll]
    · cases e1
  | d1 :: l1, d2 :: l2, ps, qs, h1, h2, e1, e2 => by
    unfold toPs at e1 e2
    rw [List.all_cons, Bool.and_eq_true] at h1 h2
    split at e1
    · rename_i p1 ps1 k1 k2
      cases e1
      split at e2
      · rename_i p2 ps2 k3 k4
        cases e2
        rw [PyData.eqvAll, Bool.and_eq_true, eqv_flt h1.1 h2.1 k1 k3, eqvs_flt h1.2 h2.2 k2 k4]
        simp
      · cases e2
    · cases e1
theorem eqv_flt1 {d1 d2 : D} {p q : PyData} (h1 : flt1 d1 = true) (h2 : flt1 d2 = true) (e1 : toP d1 = some p) (e2 : toP d2 = some q) : PyData.eqv p q = true ↔ d1 = d2 := by
  have nt : ∀ {d : D} {p : PyData}, flt1 d = true → toP d = some p → (∃ l ps, d = .tup l ∧ l.all flt = true ∧ toPs l = some ps ∧ p = .tuple ps) ∨ (flt d = true ∧ (p = .none ∨ (∃ i, p = .int i) ∨ ∃ z, p = .str z) ∧ ∀ l, d ≠ .tup l) := fun {d p} h e => by
    cases d with
    | tup l =>
      rw [toP] at e
      obtain ⟨ps, k, e⟩ := Option.map_eq_some_iff.mp e
      exact .inl ⟨l, ps, rfl, h, k, e.symm⟩
    | non => rw [toP] at e; cases e; exact .inr ⟨h, .inl rfl, fun _ => by simp⟩
    | int i => rw [toP] at e; cases e; exact .inr ⟨h, .inr (.inl ⟨i, rfl⟩), fun _ => by simp⟩
    | str i => rw [toP] at e; cases e; exact .inr ⟨h, .inr (.inr ⟨i, rfl⟩), fun _ => by simp⟩
    | _ => cases h
  rcases nt h1 e1 with ⟨l, ps, rfl, f1, k1, rfl⟩ | ⟨f1, c1, n1⟩
  · rcases nt h2 e2 with ⟨l', ps', rfl, f2, k2, rfl⟩ | ⟨f2, c2, n2⟩
    · rw [PyData.eqv, eqvs_flt f1 f2 k1 k2]
      exact ⟨fun h => by rw [h], fun h => by injection h⟩
    · refine ⟨fun h => ?_, fun h => absurd h.symm (n2 l)⟩
      rcases c2 with rfl | ⟨i, rfl⟩ | ⟨z, rfl⟩ <;> simp [PyData.eqv] at h
  · rcases nt h2 e2 with ⟨l', ps', rfl, f2, k2, rfl⟩ | ⟨f2, c2, n2⟩
    · refine ⟨fun h => ?_, fun h => absurd h (n1 l')⟩
      rcases c1 with rfl | ⟨i, rfl⟩ | ⟨z, rfl⟩ <;> simp [PyData.eqv] at h
    · exact eqv_flt f1 f2 e1 e2
theorem eqD_flt {d1 d2 : D} (t1 : flt1 d1 = true) (t2 : flt1 d2 = true) : ∃ b, (∀ neg, eqD neg d1 d2 = some (.bl (if neg then !b else b))) ∧ (b = true ↔ d1 = d2) := by
  obtain ⟨p1, k1, k2, k3⟩ := flt1_fine t1
  obtain ⟨p2, k4, k5, k6⟩ := flt1_fine t2
  refine ⟨PyData.eqv p1 p2, fun neg => ?_, eqv_flt1 t1 t2 k1 k4⟩
  unfold eqD
  rw [k1, k4]
  dsimp only
  rw [if_pos (by rw [shaped_of k2 (by omega), shaped_of k5 (by omega)]; rfl)]
theorem eqF_flt {d1 d2 : D} {b : Bool} (t1 : flt1 d1 = true) (t2 : flt1 d2 = true) (h : b = true ↔ d1 = d2) : eqD false d1 d2 = some (.bl b) := by
  obtain ⟨b', h1, h2⟩ := eqD_flt t1 t2
  have : b' = b := by rw [Bool.eq_iff_iff, h2, h]
  rw [h1 false, this]; rfl
/-! gaps of two kept numbers, and what a number does to them: mathematics -/
inductive Sg where
  | lt
  | eq
  | gt
  deriving DecidableEq
def sgS : Sg → Str
  | .lt => "<"
  | .eq => "="
  | .gt => ">"
def Sg.t : Sg → Sg
  | .lt => .gt
  | .eq => .eq
  | .gt => .lt
theorem sgS_inj : ∀ {a b : Sg}, sgS a = sgS b → a = b := by
  intro a b; cases a <;> cases b <;> first | (intro _; rfl) | (intro h; exact absurd h (by decide +kernel))
theorem sgS_len (s : Sg) : (sgS s).length ≤ 10 := by cases s <;> decide
theorem sgS_ok (s : Sg) : PyData.strOk (sgS s) = true := by cases s <;> decide +kernel
inductive Gp where
  | none
  | first
  | second
  | two (d : Int) (s : Sg)
  deriving DecidableEq
def gpD : Gp → D
  | .none => .str "none"
  | .first => .str "first"
  | .second => .str "second"
  | .two d s => .tup [.int d, .str (sgS s)]
/-- the signs that a number can have at two kept ones -/
def RP : Sg → List (Sg × Sg)
  | .lt => [(.lt, .lt), (.lt, .eq), (.lt, .gt), (.eq, .gt), (.gt, .gt)]
  | .eq => [(.lt, .lt), (.eq, .eq), (.gt, .gt)]
  | .gt => [(.lt, .lt), (.eq, .lt), (.gt, .lt), (.gt, .eq), (.gt, .gt)]
/-- a number: its signs at the kept ones -/
abbrev Sn := Option Sg × Option Sg
def okN : Gp → Int → Sn → Prop
  | .none, c, n => c = 0 ∧ n = (none, none)
  | .first, _, n => ∃ s, n = (some s, none)
  | .second, _, n => ∃ s, n = (none, some s)
  | .two _ r, _, n => ∃ q ∈ RP r, n = (some q.1, some q.2)
def plc (c : Int) : Option Sg → Str
  | none => "none"
  | some s => placeOfS c (sgS s)
/-- where the second kept number stands -/
def Gp.off : Gp → Int
  | .two d _ => d
  | _ => 0
def places (g : Gp) (c : Int) (n : Sn) : Str × Str := (plc c n.1, plc (c - g.off) n.2)
def sgT (o : Option Sg) : Sg := (o.getD .eq).t
/-- the gap behind a number -/
def stepG (g : Gp) (c : Int) (n : Sn) (k : Bool × Bool) : Gp := match k with
  | (true, true) => .two 0 .eq
  | (true, false) => match g with
    | .none => .first
    | .first => .first
    | .second => .two (0 - c) (sgT n.2)
    | .two d _ => .two (d - c) (sgT n.2)
  | (false, true) => match g with
    | .none => .second
    | .first => .two c (n.1.getD .eq)
    | .second => .second
    | .two _ _ => .two c (n.1.getD .eq)
  | (false, false) => g
/-- a step of two loops -/
def StepJ (r1 r2 : List Rule) (s o : Str) (g : Gp) (s' o' : Str) (g' : Gp) : Prop := ∃ c n, okN g c n ∧ (usedR r1 s (places g c n).1).2.2 = s' ∧ (usedR r2 o (places g c n).2).2.2 = o' ∧ stepG g c n ((usedR r1 s (places g c n).1).2.1, (usedR r2 o (places g c n).2).2.1) = g'
/-! spans -/
abbrev Span := Option Int × Option Int
def inSpan (c : Int) (p : Span) : Prop := (∀ l, p.1 = some l → l ≤ c) ∧ (∀ h, p.2 = some h → c ≤ h)
def repS (p : Span) : Int := match p.1 with
  | none => p.2.getD 0
  | some l => l
def farSpans (d : Int) : List Span := [(none, some (min 0 d - 2)), (some (max 0 d + 2), none)] ++ (if max 0 d - min 0 d > 3 then [(some (min 0 d + 2), some (max 0 d - 2))] else [])
def nearSpans (d : Int) : List Span := ([-1, 0, 1] : List Int).flatMap fun c => (some c, some c) :: (if c + d ∈ ([-1, 0, 1] : List Int) then [] else [(some (c + d), some (c + d))])
def spansL (d : Int) : List Span := farSpans d ++ nearSpans d
theorem span_all (d c : Int) : ∃ p ∈ spansL d, inSpan c p := by
  have mk : ∀ x : Int, inSpan x (some x, some x) := fun x => ⟨fun l h => by cases h; exact Int.le_refl _, fun l h => by cases h; exact Int.le_refl _⟩
  have near0 : -1 ≤ c → c ≤ 1 → (some c, some c) ∈ nearSpans d := fun h1 h2 => List.mem_flatMap.mpr ⟨c, by simp only [List.mem_cons, List.not_mem_nil, or_false]; omega, List.mem_cons_self⟩
  have nearD : -1 ≤ c - d → c - d ≤ 1 → (some c, some c) ∈ nearSpans d := fun h1 h2 => by
    by_cases h0 : -1 ≤ c ∧ c ≤ 1
    · exact near0 h0.1 h0.2
    · refine List.mem_flatMap.mpr ⟨c - d, by simp only [List.mem_cons, List.not_mem_nil, or_false]; omega, List.mem_cons_of_mem _ ?_⟩
      rw [if_neg (by simp only [List.mem_cons, List.not_mem_nil, or_false]; omega), show c - d + d = c by omega]
      exact List.mem_cons_self
  by_cases a1 : -1 ≤ c ∧ c ≤ 1
  · exact ⟨_, List.mem_append_right _ (near0 a1.1 a1.2), mk c⟩
  by_cases a2 : -1 ≤ c - d ∧ c - d ≤ 1
  · exact ⟨_, List.mem_append_right _ (nearD a2.1 a2.2), mk c⟩
  by_cases a3 : c ≤ min 0 d - 2
  · exact ⟨(none, some (min 0 d - 2)), List.mem_append_left _ (by simp [farSpans]), fun l h => (by cases h), fun l h => by cases h; exact a3⟩
  by_cases a4 : max 0 d + 2 ≤ c
  · exact ⟨(some (max 0 d + 2), none), List.mem_append_left _ (by simp [farSpans]), fun l h => by cases h; exact a4, fun l h => (by cases h)⟩
  · refine ⟨(some (min 0 d + 2), some (max 0 d - 2)), List.mem_append_left _ ?_, fun l h => by cases h; omega, fun l h => by cases h; omega⟩
    unfold farSpans
    rw [if_pos (by omega)]
    simp
def abs2 (x : Int) : Bool := decide (-2 < x ∧ x < 2)
def nearB (d : Int) (p : Span) : Bool := decide (p.1 = p.2) && (abs2 (repS p) || abs2 (repS p - d))
theorem near_one (d c : Int) (h : (-2 < c ∧ c < 2) ∨ (-2 < c - d ∧ c - d < 2)) : nearB d (some c, some c) = true := by
  show (decide ((some c : Option Int) = some c) && (abs2 c || abs2 (c - d))) = true
  rw [decide_eq_true rfl, Bool.true_and, Bool.or_eq_true]
  exact h.imp (fun h => decide_eq_true h) (fun h => decide_eq_true h)
theorem near_mem {d : Int} {p : Span} (h : p ∈ nearSpans d) : ∃ c, p = (some c, some c) ∧ nearB d p = true := by
  obtain ⟨c, hc, hp⟩ := List.mem_flatMap.mp h
  have hc : c = -1 ∨ c = 0 ∨ c = 1 := by simpa using hc
  rcases List.mem_cons.mp hp with rfl | hp
  · exact ⟨c, rfl, near_one d c (by omega)⟩
  · split at hp
    · cases hp
    · rw [List.mem_singleton] at hp
      subst hp
      exact ⟨c + d, rfl, near_one d _ (by omega)⟩
theorem far_mem {d : Int} {p : Span} (h : p ∈ farSpans d) : nearB d p = false ∧ ∀ c, inSpan c p → (c < -1 ∨ 1 < c) ∧ (c - d < -1 ∨ 1 < c - d) ∧ (c < -1 ↔ repS p < -1) ∧ (c - d < -1 ↔ repS p - d < -1) := by
  unfold farSpans at h
  have hm : p = (none, some (min 0 d - 2)) ∨ p = (some (max 0 d + 2), none) ∨ (max 0 d - min 0 d > 3 ∧ p = (some (min 0 d + 2), some (max 0 d - 2))) := by
    rcases List.mem_append.mp h with h | h
    · simp at h; rcases h with h | h
      · exact .inl h
      · exact .inr (.inl h)
    · split at h
      · rename_i h3; rw [List.mem_singleton] at h; exact .inr (.inr ⟨h3, h⟩)
      · cases h
  rcases hm with rfl | rfl | ⟨h3, rfl⟩
  · refine ⟨by simp [nearB], fun c hc => ?_⟩
    have := hc.2 _ rfl
    show _ ∧ _ ∧ (c < -1 ↔ min 0 d - 2 < -1) ∧ (c - d < -1 ↔ min 0 d - 2 - d < -1)
    omega
  · refine ⟨by simp [nearB], fun c hc => ?_⟩
    have := hc.1 _ rfl
    show _ ∧ _ ∧ (c < -1 ↔ max 0 d + 2 < -1) ∧ (c - d < -1 ↔ max 0 d + 2 - d < -1)
    omega
  · refine ⟨?_, fun c hc => ?_⟩
    · show (decide ((some (min 0 d + 2) : Option Int) = some (max 0 d - 2)) && (abs2 (min 0 d + 2) || abs2 (min 0 d + 2 - d))) = false
      have e1 : abs2 (min 0 d + 2) = (false || abs2 (min 0 d + 2)) := by simp
      by_cases e : min 0 d + 2 = max 0 d - 2
      · have a1 : abs2 (min 0 d + 2) = false := decide_eq_false (by omega)
        have a2 : abs2 (min 0 d + 2 - d) = false := decide_eq_false (by omega)
        rw [a1, a2]; simp
      · rw [decide_eq_false (fun h => e (Option.some.inj h))]; rfl
    have h1 := hc.1 _ rfl
    have h2 := hc.2 _ rfl
    show _ ∧ _ ∧ (c < -1 ↔ min 0 d + 2 < -1) ∧ (c - d < -1 ↔ min 0 d + 2 - d < -1)
    omega
theorem far_plc {c c' : Int} (h : c < -1 ∨ 1 < c) (h2 : c' < -1 ∨ 1 < c') (e : c < -1 ↔ c' < -1) (z z' : Str) : placeOfS c z = placeOfS c' z' := by
  unfold placeOfS
  by_cases q : c < -1
  · rw [if_pos q, if_pos (e.mp q)]
  · rw [if_neg q, if_neg (fun z => q (e.mpr z)), if_pos (by omega), if_pos (by have : ¬ c' < -1 := fun z => q (e.mpr z); omega)]
/-! what stands behind a span -/
inductive Bh where
  | word (g : Gp)
  | span (l h : Option Int) (s : Sg)
  deriving DecidableEq
def turnSp (p : Span) (d : Int) : Span := (p.2.map (d - ·), p.1.map (d - ·))
abbrev NumP := Span × Sn
def behindP (g : Gp) (x : NumP) (k : Bool × Bool) : Bh := match k with
  | (true, true) => .span (some 0) (some 0) .eq
  | (true, false) => match g with
    | .none => .word .first
    | .first => .word .first
    | .second => .span (turnSp x.1 0).1 (turnSp x.1 0).2 (sgT x.2.2)
    | .two d _ => .span (turnSp x.1 d).1 (turnSp x.1 d).2 (sgT x.2.2)
  | (false, true) => match g with
    | .none => .word .second
    | .first => .span x.1.1 x.1.2 (x.2.1.getD .eq)
    | .second => .word .second
    | .two _ _ => .span x.1.1 x.1.2 (x.2.1.getD .eq)
  | (false, false) => match g with
    | .two d r => .span (some d) (some d) r
    | g => .word g
def within : Bh → Gp → Prop
  | .word g, g' => g = g'
  | .span l h s, .two d s' => s = s' ∧ inSpan d (l, h)
  | .span _ _ _, _ => False
theorem inSpan_turn {c d : Int} {p : Span} : inSpan c p ↔ inSpan (d - c) (turnSp p d) := by
  obtain ⟨l, h⟩ := p
  unfold inSpan turnSp
  constructor
  · rintro ⟨h1, h2⟩
    refine ⟨fun x hx => ?_, fun x hx => ?_⟩
    · cases h with
      | none => cases hx
      | some y => have := h2 y rfl; cases hx; show d - y ≤ d - c; omega
    · cases l with
      | none => cases hx
      | some y => have := h1 y rfl; cases hx; show d - c ≤ d - y; omega
  · rintro ⟨h1, h2⟩
    refine ⟨fun x hx => ?_, fun x hx => ?_⟩
    · have hx : l = some x := hx
      subst hx
      have := h2 (d - x) rfl
      omega
    · have hx : h = some x := hx
      subst hx
      have := h1 (d - x) rfl
      omega
theorem within_iff {g g' : Gp} {x : NumP} {k : Bool × Bool} (he : ∃ c, inSpan c x.1) : within (behindP g x k) g' ↔ ∃ c, inSpan c x.1 ∧ stepG g c x.2 k = g' := by
  obtain ⟨c0, hc0⟩ := he
  have cst : ∀ h : Gp, (h = g') ↔ ∃ c, inSpan c x.1 ∧ h = g' := fun h => ⟨fun e => ⟨c0, hc0, e⟩, fun ⟨_, _, e⟩ => e⟩
  have two : ∀ (a b : Gp → Prop), True := fun _ _ => trivial
  have one : ∀ (d : Int) (r : Sg), within (.span (some d) (some d) r) g' ↔ Gp.two d r = g' := fun d r => by
    cases g' with
    | two d' s' =>
      constructor
      · rintro ⟨rfl, h1, h2⟩
        have := h1 d rfl; have := h2 d rfl
        rw [show d = d' by omega]
      · intro e; cases e
        exact ⟨rfl, fun l h => by cases h; exact Int.le_refl _, fun l h => by cases h; exact Int.le_refl _⟩
    | _ => exact ⟨fun h => h.elim, fun e => nomatch e⟩
  have spn : ∀ (s : Sg), within (.span x.1.1 x.1.2 s) g' ↔ ∃ c, inSpan c x.1 ∧ Gp.two c s = g' := fun s => by
    cases g' with
    | two d' s' =>
      constructor
      · rintro ⟨rfl, h⟩; exact ⟨d', h, rfl⟩
      · rintro ⟨c, h, e⟩; cases e; exact ⟨rfl, h⟩
    | _ => exact ⟨fun h => h.elim, fun ⟨_, _, e⟩ => nomatch e⟩
  have trn : ∀ (d : Int) (s : Sg), within (.span (turnSp x.1 d).1 (turnSp x.1 d).2 s) g' ↔ ∃ c, inSpan c x.1 ∧ Gp.two (d - c) s = g' := fun d s => by
    cases g' with
    | two d' s' =>
      constructor
      · rintro ⟨rfl, h⟩
        refine ⟨d - d', (inSpan_turn (d := d)).mpr (by rw [show d - (d - d') = d' by omega]; exact h), by rw [show d - (d - d') = d' by omega]⟩
      · rintro ⟨c, h, e⟩; cases e; exact ⟨rfl, inSpan_turn.mp h⟩
    | _ => exact ⟨fun h => h.elim, fun ⟨_, _, e⟩ => nomatch e⟩
  obtain ⟨k1, k2⟩ := k
  cases k1 <;> cases k2 <;> cases g <;> first | exact cst _ | exact (one _ _).trans (cst _) | exact spn _ | exact trn _ _
/-! menus -/
abbrev Menu := List ((Str × Str) × List NumP)
def InM (M : Menu) (p : Str × Str) (x : NumP) : Prop := ∃ l, (p, l) ∈ M ∧ x ∈ l
def addM : Menu → (Str × Str) → NumP → Menu
  | [], p, x => [(p, [x])]
  | q :: M, p, x => if q.1 = p then (q.1, q.2 ++ [x]) :: M else q :: addM M p x
def setM : Menu → (Str × Str) → List NumP → Menu
  | [], p, l => [(p, l)]
  | q :: M, p, l => if q.1 = p then (q.1, l) :: M else q :: setM M p l
theorem inM_add {M : Menu} {p q : Str × Str} {x y : NumP} (h : InM (addM M p x) q y) : InM M q y ∨ (q = p ∧ y = x) := by
  induction M with
  | nil =>
    obtain ⟨l, hl, hy⟩ := h
    rw [addM, List.mem_singleton] at hl
    cases hl
    rw [List.mem_singleton] at hy
    exact .inr ⟨rfl, hy⟩
  | cons r M ih =>
    obtain ⟨l, hl, hy⟩ := h
    rw [addM] at hl
    split at hl
    · rename_i e
      rcases List.mem_cons.mp hl with hl | hl
      · cases hl
        rcases List.mem_append.mp hy with hy | hy
        · exact .inl ⟨r.2, List.mem_cons_self, hy⟩
        · rw [List.mem_singleton] at hy; exact .inr ⟨e, hy⟩
      · exact .inl ⟨l, List.mem_cons_of_mem _ hl, hy⟩
    · rcases List.mem_cons.mp hl with hl | hl
      · exact .inl ⟨l, by rw [← hl]; exact List.mem_cons_self, hy⟩
      · rcases ih ⟨l, hl, hy⟩ with ⟨l', h1, h2⟩ | h
        · exact .inl ⟨l', List.mem_cons_of_mem _ h1, h2⟩
        · exact .inr h
theorem add_inM {M : Menu} {p q : Str × Str} {x y : NumP} (h : InM M q y ∨ (q = p ∧ y = x)) : InM (addM M p x) q y := by
  induction M with
  | nil =>
    rcases h with ⟨l, hl, _⟩ | ⟨rfl, rfl⟩
    · cases hl
    · exact ⟨_, List.mem_singleton.mpr rfl, List.mem_singleton.mpr rfl⟩
  | cons r M ih =>
    unfold addM
    by_cases e : r.1 = p
    · rw [if_pos e]
      rcases h with ⟨l, hl, hy⟩ | ⟨rfl, rfl⟩
      · rcases List.mem_cons.mp hl with hl | hl
        · subst hl
          exact ⟨_, List.mem_cons_self, List.mem_append_left _ hy⟩
        · exact ⟨l, List.mem_cons_of_mem _ hl, hy⟩
      · exact ⟨r.2 ++ [y], by rw [e]; exact List.mem_cons_self, by simp⟩
    · rw [if_neg e]
      rcases h with ⟨l, hl, hy⟩ | h
      · rcases List.mem_cons.mp hl with hl | hl
        · exact ⟨l, by rw [hl]; exact List.mem_cons_self, hy⟩
        · obtain ⟨l', h1, h2⟩ := ih (.inl ⟨l, hl, hy⟩)
          exact ⟨l', List.mem_cons_of_mem _ h1, h2⟩
      · obtain ⟨l', h1, h2⟩ := ih (.inr h)
        exact ⟨l', List.mem_cons_of_mem _ h1, h2⟩
theorem inM_set {M : Menu} {p q : Str × Str} {l0 : List NumP} {y : NumP} (h : InM (setM M p l0) q y) : InM M q y ∨ (q = p ∧ y ∈ l0) := by
  induction M with
  | nil =>
    obtain ⟨l, hl, hy⟩ := h
    rw [setM, List.mem_singleton] at hl
    cases hl
    exact .inr ⟨rfl, hy⟩
  | cons r M ih =>
    obtain ⟨l, hl, hy⟩ := h
    rw [setM] at hl
    split at hl
    · rename_i e
      rcases List.mem_cons.mp hl with hl | hl
      · cases hl; exact .inr ⟨e, hy⟩
      · exact .inl ⟨l, List.mem_cons_of_mem _ hl, hy⟩
    · rcases List.mem_cons.mp hl with hl | hl
      · exact .inl ⟨l, by rw [← hl]; exact List.mem_cons_self, hy⟩
      · rcases ih ⟨l, hl, hy⟩ with ⟨l', h1, h2⟩ | h
        · exact .inl ⟨l', List.mem_cons_of_mem _ h1, h2⟩
        · exact .inr h
theorem set_inM {M : Menu} {p q : Str × Str} {l0 : List NumP} {y : NumP} (hn : ∀ l, (p, l) ∉ M) (h : InM M q y ∨ (q = p ∧ y ∈ l0)) : InM (setM M p l0) q y := by
  induction M with
  | nil =>
    rcases h with ⟨l, hl, _⟩ | ⟨rfl, hy⟩
    · cases hl
    · exact ⟨_, List.mem_singleton.mpr rfl, hy⟩
  | cons r M ih =>
    unfold setM
    have e : ¬ r.1 = p := fun e => hn r.2 (by rw [← e]; exact List.mem_cons_self)
    rw [if_neg e]
    have hn' : ∀ l, (p, l) ∉ M := fun l hl => hn l (List.mem_cons_of_mem _ hl)
    rcases h with ⟨l, hl, hy⟩ | h
    · rcases List.mem_cons.mp hl with hl | hl
      · exact ⟨l, by rw [hl]; exact List.mem_cons_self, hy⟩
      · obtain ⟨l', h1, h2⟩ := ih hn' (.inl ⟨l, hl, hy⟩)
        exact ⟨l', List.mem_cons_of_mem _ h1, h2⟩
    · obtain ⟨l', h1, h2⟩ := ih hn' (.inr h)
      exact ⟨l', List.mem_cons_of_mem _ h1, h2⟩
theorem setM_keys {M : Menu} {p q : Str × Str} {l0 l : List NumP} (h : (q, l) ∈ setM M p l0) : q = p ∨ ∃ l', (q, l') ∈ M := by
  induction M with
  | nil => rw [setM, List.mem_singleton] at h; cases h; exact .inl rfl
  | cons r M ih =>
    rw [setM] at h
    split at h
    · rename_i e
      rcases List.mem_cons.mp h with h | h
      · cases h; exact .inl e
      · exact .inr ⟨l, List.mem_cons_of_mem _ h⟩
    · rcases List.mem_cons.mp h with h | h
      · exact .inr ⟨l, by rw [h]; exact List.mem_cons_self⟩
      · rcases ih h with h | ⟨l', h⟩
        · exact .inl h
        · exact .inr ⟨l', List.mem_cons_of_mem _ h⟩
/-- a menu is right for a gap -/
structure MenuOk (g : Gp) (M : Menu) : Prop where
  sound : ∀ p x, InM M p x → (∃ c, inSpan c x.1) ∧ ∀ c, inSpan c x.1 → okN g c x.2 ∧ places g c x.2 = p
  all : ∀ c n, okN g c n → ∃ p x, InM M p x ∧ inSpan c x.1 ∧ x.2 = n
theorem MenuOk.step {g : Gp} {M : Menu} (h : MenuOk g M) {r1 r2 : List Rule} {s o s' o' : Str} {g' : Gp} : StepJ r1 r2 s o g s' o' g' ↔ ∃ q ∈ M, (usedR r1 s q.1.1).2.2 = s' ∧ (usedR r2 o q.1.2).2.2 = o' ∧ ∃ x ∈ q.2, within (behindP g x ((usedR r1 s q.1.1).2.1, (usedR r2 o q.1.2).2.1)) g' := by
  constructor
  · rintro ⟨c, n, hn, h1, h2, h3⟩
    obtain ⟨p, x, ⟨l, hl, hx⟩, hc, rfl⟩ := h.all c n hn
    have hp := ((h.sound p x ⟨l, hl, hx⟩).2 c hc).2
    subst hp
    exact ⟨_, hl, h1, h2, x, hx, (within_iff ⟨c, hc⟩).mpr ⟨c, hc, h3⟩⟩
  · rintro ⟨⟨p, l⟩, hl, h1, h2, x, hx, h3⟩
    obtain ⟨he, hs⟩ := h.sound p x ⟨l, hl, hx⟩
    obtain ⟨c, hc, h4⟩ := (within_iff he).mp h3
    obtain ⟨q1, q2⟩ := hs c hc
    subst q2
    exact ⟨c, x.2, q1, h1, h2, h4⟩
/-- the menu of a gap with one kept number, or two -/
def loneL : List Span := [(none, some (-2)), (some (-1), some (-1)), (some 0, some 0), (some 1, some 1), (some 2, none)]
def sgL : List Sg := [.lt, .eq, .gt]
def loneN (b : Bool) (s : Sg) : Sn := if b = true then (some s, none) else (none, some s)
def loneP (b : Bool) (z : Str) : Str × Str := if b = true then (z, "none") else ("none", z)
def loneStep (b : Bool) (p : Span) (M : Menu) (s : Sg) : Menu := addM M (loneP b (placeOfS (repS p) (sgS s))) (p, loneN b s)
def loneM (b : Bool) (l : List Span) : Menu := l.foldl (fun M p => sgL.foldl (loneStep b p) M) []
def twoStep (d : Int) (r : Sg) (M : Menu) (p : Span) : Menu :=
  if nearB d p = true then (RP r).foldl (fun M q => addM M (placeOfS (repS p) (sgS q.1), placeOfS (repS p - d) (sgS q.2)) (p, (some q.1, some q.2))) M
  else setM M (placeOfS (repS p) "=", placeOfS (repS p - d) "=") ((RP r).map fun q => (p, (some q.1, some q.2)))
def twoM (d : Int) (r : Sg) (l : List Span) : Menu := l.foldl (twoStep d r) []
def menuOf : Gp → Menu
  | .none => [(("none", "none"), [((some 0, some 0), (none, none))])]
  | .first => loneM true loneL
  | .second => loneM false loneL
  | .two d r => twoM d r (spansL d)
theorem lone_all (c : Int) : ∃ p ∈ loneL, inSpan c p := by
  have mk : ∀ x : Int, inSpan x (some x, some x) := fun x => ⟨fun l h => by cases h; exact Int.le_refl _, fun l h => by cases h; exact Int.le_refl _⟩
  by_cases h1 : c ≤ -2
  · exact ⟨(none, some (-2)), by simp [loneL], fun l h => (by cases h), fun l h => by cases h; exact h1⟩
  by_cases h2 : 2 ≤ c
  · exact ⟨(some 2, none), by simp [loneL], fun l h => by cases h; exact h2, fun l h => (by cases h)⟩
  have : c = -1 ∨ c = 0 ∨ c = 1 := by omega
  rcases this with rfl | rfl | rfl
  · exact ⟨_, by simp [loneL], mk _⟩
  · exact ⟨_, by simp [loneL], mk _⟩
  · exact ⟨_, by simp [loneL], mk _⟩
theorem lone_plc {p : Span} (h : p ∈ loneL) (z : Str) : (∃ c, inSpan c p) ∧ ∀ c, inSpan c p → placeOfS c z = placeOfS (repS p) z := by
  have sing : ∀ x : Int, (∃ c, inSpan c (some x, some x)) ∧ ∀ c, inSpan c (some x, some x) → placeOfS c z = placeOfS x z := fun x => by
    refine ⟨⟨x, fun l h => by cases h; exact Int.le_refl _, fun l h => by cases h; exact Int.le_refl _⟩, fun c hc => ?_⟩
    have := hc.1 x rfl; have := hc.2 x rfl
    rw [show c = x by omega]
  simp only [loneL, List.mem_cons, List.not_mem_nil, or_false] at h
  rcases h with rfl | rfl | rfl | rfl | rfl
  · refine ⟨⟨-2, fun l h => (by cases h), fun l h => by cases h; exact Int.le_refl _⟩, fun c hc => ?_⟩
    have := hc.2 (-2) rfl
    exact far_plc (by omega) (.inl (by decide)) ⟨fun _ => by decide, fun _ => by omega⟩ _ _
  · exact sing _
  · exact sing _
  · exact sing _
  · refine ⟨⟨2, fun l h => by cases h; exact Int.le_refl _, fun l h => (by cases h)⟩, fun c hc => ?_⟩
    have := hc.1 2 rfl
    exact far_plc (by omega) (.inr (by decide)) ⟨fun h => absurd h (by omega), fun h => absurd h (by decide)⟩ _ _
/-- a list of numbers comes into a menu, one by one -/
theorem foldM {α : Type} {f : Menu → α → Menu} {key : α → Str × Str} {num : α → NumP} (hf : ∀ M a, f M a = addM M (key a) (num a)) (l : List α) (M : Menu) (p : Str × Str) (x : NumP) : InM (l.foldl f M) p x ↔ InM M p x ∨ ∃ a ∈ l, p = key a ∧ x = num a := by
  induction l generalizing M with
  | nil => exact ⟨.inl, fun h => h.elim id fun ⟨a, ha, _⟩ => nomatch ha⟩
  | cons a l ih =>
    rw [List.foldl_cons, ih, hf]
    constructor
    · rintro (h | ⟨b, hb, h⟩)
      · rcases inM_add h with h | h
        · exact .inl h
        · exact .inr ⟨a, List.mem_cons_self, h⟩
      · exact .inr ⟨b, List.mem_cons_of_mem _ hb, h⟩
    · rintro (h | ⟨b, hb, h⟩)
      · exact .inl (add_inM (.inl h))
      · rcases List.mem_cons.mp hb with rfl | hb
        · exact .inl (add_inM (.inr h))
        · exact .inr ⟨b, hb, h⟩
theorem loneM_in (b : Bool) (l : List Span) (M : Menu) (p : Str × Str) (x : NumP) : InM (l.foldl (fun M p => sgL.foldl (loneStep b p) M) M) p x ↔ InM M p x ∨ ∃ sp ∈ l, ∃ s ∈ sgL, p = loneP b (placeOfS (repS sp) (sgS s)) ∧ x = (sp, loneN b s) := by
  induction l generalizing M with
  | nil => exact ⟨.inl, fun h => h.elim id fun ⟨a, ha, _⟩ => nomatch ha⟩
  | cons a l ih =>
    rw [List.foldl_cons, ih, show InM (sgL.foldl (loneStep b a) M) p x ↔ _ from foldM (f := loneStep b a) (key := fun s => loneP b (placeOfS (repS a) (sgS s))) (num := fun s => (a, loneN b s)) (fun M s => rfl) sgL M p x]
    constructor
    · rintro ((h | ⟨s, hs, h⟩) | ⟨sp, hsp, h⟩)
      · exact .inl h
      · exact .inr ⟨a, List.mem_cons_self, s, hs, h⟩
      · exact .inr ⟨sp, List.mem_cons_of_mem _ hsp, h⟩
    · rintro (h | ⟨sp, hsp, s, hs, h⟩)
      · exact .inl (.inl h)
      · rcases List.mem_cons.mp hsp with rfl | hsp
        · exact .inl (.inr ⟨s, hs, h⟩)
        · exact .inr ⟨sp, hsp, s, hs, h⟩
theorem sgL_all (s : Sg) : s ∈ sgL := by cases s <;> simp [sgL]
theorem not_InM (p : Str × Str) (x : NumP) : ¬ InM [] p x := fun ⟨_, h, _⟩ => nomatch h
theorem menu_lone (b : Bool) : MenuOk (if b = true then .first else .second) (loneM b loneL) := by
  refine ⟨fun p x h => ?_, fun c n hn => ?_⟩
  · rcases (loneM_in b loneL [] p x).mp h with h | ⟨sp, hsp, s, _, rfl, rfl⟩
    · exact absurd h (not_InM _ _)
    · obtain ⟨q1, q2⟩ := lone_plc hsp (sgS s)
      refine ⟨q1, fun c hc => ?_⟩
      cases b with
      | true => exact ⟨⟨s, rfl⟩, by show (placeOfS c (sgS s), ("none" : Str)) = _; rw [q2 c hc]; rfl⟩
      | false => exact ⟨⟨s, rfl⟩, by show (("none" : Str), placeOfS (c - 0) (sgS s)) = _; rw [Int.sub_zero, q2 c hc]; rfl⟩
  · obtain ⟨sp, hsp, hc⟩ := lone_all c
    cases b with
    | true =>
      obtain ⟨s, rfl⟩ := hn
      exact ⟨_, (sp, loneN true s), (loneM_in true loneL [] _ _).mpr (.inr ⟨sp, hsp, s, sgL_all s, rfl, rfl⟩), hc, rfl⟩
    | false =>
      obtain ⟨s, rfl⟩ := hn
      exact ⟨_, (sp, loneN false s), (loneM_in false loneL [] _ _).mpr (.inr ⟨sp, hsp, s, sgL_all s, rfl, rfl⟩), hc, rfl⟩
/-- what stands in the menu of two kept numbers -/
def twoP (d : Int) (p : Span) (q : Sg × Sg) : Str × Str := if nearB d p = true then (placeOfS (repS p) (sgS q.1), placeOfS (repS p - d) (sgS q.2)) else (placeOfS (repS p) "=", placeOfS (repS p - d) "=")
theorem two_sound (d : Int) (r : Sg) (l : List Span) (M : Menu) (p : Str × Str) (x : NumP) (h : InM (l.foldl (twoStep d r) M) p x) : InM M p x ∨ ∃ sp ∈ l, ∃ q ∈ RP r, p = twoP d sp q ∧ x = (sp, (some q.1, some q.2)) := by
  induction l generalizing M with
  | nil => exact .inl h
  | cons a l ih =>
    rw [List.foldl_cons] at h
    rcases ih _ h with h | ⟨sp, hsp, h⟩
    · unfold twoStep at h
      split at h
      · rename_i hn
        rcases (foldM (key := fun q : Sg × Sg => (placeOfS (repS a) (sgS q.1), placeOfS (repS a - d) (sgS q.2))) (num := fun q => (a, (some q.1, some q.2))) (fun M q => rfl) _ _ _ _).mp h with h | ⟨q, hq, h1, h2⟩
        · exact .inl h
        · exact .inr ⟨a, List.mem_cons_self, q, hq, by unfold twoP; rw [if_pos hn]; exact h1, h2⟩
      · rename_i hn
        rcases inM_set h with h | ⟨h1, h2⟩
        · exact .inl h
        · obtain ⟨q, hq, rfl⟩ := List.mem_map.mp h2
          exact .inr ⟨a, List.mem_cons_self, q, hq, by unfold twoP; rw [if_neg hn]; exact h1, rfl⟩
    · exact .inr ⟨sp, List.mem_cons_of_mem _ hsp, h⟩
/-- near ones lose nothing -/
theorem near_keep (d : Int) (r : Sg) (l : List Span) (hl : ∀ p ∈ l, nearB d p = true) (M : Menu) (p : Str × Str) (x : NumP) (h : InM M p x ∨ ∃ sp ∈ l, ∃ q ∈ RP r, p = twoP d sp q ∧ x = (sp, (some q.1, some q.2))) : InM (l.foldl (twoStep d r) M) p x := by
  induction l generalizing M with
  | nil => exact h.elim id fun ⟨_, hs, _⟩ => nomatch hs
  | cons a l ih =>
    rw [List.foldl_cons]
    have hn := hl a List.mem_cons_self
    refine ih (fun p hp => hl p (List.mem_cons_of_mem _ hp)) _ ?_
    have key : InM (twoStep d r M a) p x ↔ InM M p x ∨ ∃ q ∈ RP r, p = (placeOfS (repS a) (sgS q.1), placeOfS (repS a - d) (sgS q.2)) ∧ x = (a, (some q.1, some q.2)) := by
      unfold twoStep
      rw [if_pos hn]
      exact foldM (key := fun q : Sg × Sg => (placeOfS (repS a) (sgS q.1), placeOfS (repS a - d) (sgS q.2))) (num := fun q => (a, (some q.1, some q.2))) (fun M q => rfl) _ _ _ _
    rcases h with h | ⟨sp, hsp, q, hq, h1, h2⟩
    · exact .inl (key.mpr (.inl h))
    · rcases List.mem_cons.mp hsp with rfl | hsp
      · unfold twoP at h1
        rw [if_pos hn] at h1
        exact .inl (key.mpr (.inr ⟨q, hq, h1, h2⟩))
      · exact .inr ⟨sp, hsp, q, hq, h1, h2⟩
theorem far_keep (d : Int) (r : Sg) (p : Str × Str) (x : NumP) (h : ∃ sp ∈ farSpans d, ∃ q ∈ RP r, p = twoP d sp q ∧ x = (sp, (some q.1, some q.2))) : InM (twoM d r (farSpans d)) p x := by
  obtain ⟨sp, hsp, q, hq, h1, h2⟩ := h
  have hf := (far_mem hsp).1
  unfold twoP at h1
  rw [if_neg (by rw [hf]; decide)] at h1
  have nf : ∀ {p}, p ∈ farSpans d → nearB d p = false := fun h => (far_mem h).1
  have st : ∀ (M : Menu) {p}, p ∈ farSpans d → twoStep d r M p = setM M (placeOfS (repS p) "=", placeOfS (repS p - d) "=") ((RP r).map fun q => (p, (some q.1, some q.2))) := fun M {p} h => by
    unfold twoStep; rw [if_neg (by rw [nf h]; decide)]
  have mA : (none, some (min 0 d - 2)) ∈ farSpans d := by simp [farSpans]
  have mB : (some (max 0 d + 2), none) ∈ farSpans d := by simp [farSpans]
  have kA : (placeOfS (repS (none, some (min 0 d - 2))) "=", placeOfS (repS (none, some (min 0 d - 2)) - d) "=") = (("below" : Str), ("below" : Str)) := by
    show (placeOfS (min 0 d - 2) "=", placeOfS (min 0 d - 2 - d) "=") = _
    unfold placeOfS; rw [if_pos (by omega), if_pos (by omega)]
  have kB : (placeOfS (repS (some (max 0 d + 2), none)) "=", placeOfS (repS (some (max 0 d + 2), none) - d) "=") = (("above" : Str), ("above" : Str)) := by
    show (placeOfS (max 0 d + 2) "=", placeOfS (max 0 d + 2 - d) "=") = _
    unfold placeOfS; rw [if_neg (by omega), if_pos (by omega), if_neg (by omega), if_pos (by omega)]
  have neAB : (("above" : Str), ("above" : Str)) ≠ (("below" : Str), ("below" : Str)) := by decide +kernel
  have e2 : ∀ M : Menu, ([(none, some (min 0 d - 2)), (some (max 0 d + 2), none)] : List Span).foldl (twoStep d r) M = setM (setM M (("below" : Str), ("below" : Str)) ((RP r).map fun q => ((none, some (min 0 d - 2)), (some q.1, some q.2)))) (("above" : Str), ("above" : Str)) ((RP r).map fun q => ((some (max 0 d + 2), none), (some q.1, some q.2))) := fun M => by
    rw [List.foldl_cons, List.foldl_cons, List.foldl_nil, st _ mA, st _ mB, kA, kB]
  have nk1 : ∀ l, ((("above" : Str), ("above" : Str)), l) ∉ setM ([] : Menu) (("below" : Str), ("below" : Str)) ((RP r).map fun q => ((none, some (min 0 d - 2)), (some q.1, some q.2))) := fun l hl => by
    rcases setM_keys hl with h | ⟨_, h⟩
    · exact neAB h
    · cases h
  by_cases h3 : max 0 d - min 0 d > 3
  · have eF : farSpans d = [(none, some (min 0 d - 2)), (some (max 0 d + 2), none)] ++ [(some (min 0 d + 2), some (max 0 d - 2))] := by unfold farSpans; rw [if_pos h3]
    have mC : (some (min 0 d + 2), some (max 0 d - 2)) ∈ farSpans d := by rw [eF]; simp
    have kC : ∀ z, (placeOfS (repS (some (min 0 d + 2), some (max 0 d - 2))) "=", placeOfS (repS (some (min 0 d + 2), some (max 0 d - 2)) - d) "=") ≠ ((z : Str), z) := fun z => by
      show (placeOfS (min 0 d + 2) "=", placeOfS (min 0 d + 2 - d) "=") ≠ _
      unfold placeOfS
      intro e
      have e1 := (Prod.mk.inj e).1
      have e2 := (Prod.mk.inj e).2
      rw [← e2] at e1
      by_cases hd : 0 < d
      · rw [if_neg (by omega), if_pos (by omega), if_pos (by omega)] at e1
        exact absurd e1 (by decide +kernel)
      · rw [if_pos (by omega), if_neg (by omega), if_pos (by omega)] at e1
        exact absurd e1 (by decide +kernel)
    have eM : twoM d r (farSpans d) = setM (([(none, some (min 0 d - 2)), (some (max 0 d + 2), none)] : List Span).foldl (twoStep d r) []) (placeOfS (repS (some (min 0 d + 2), some (max 0 d - 2))) "=", placeOfS (repS (some (min 0 d + 2), some (max 0 d - 2)) - d) "=") ((RP r).map fun q => ((some (min 0 d + 2), some (max 0 d - 2)), (some q.1, some q.2))) := by
      unfold twoM
      rw [eF, List.foldl_append]
      show twoStep d r _ _ = _
      rw [st _ mC]
    rw [eM]
    have nk2 : ∀ l, ((placeOfS (repS (some (min 0 d + 2), some (max 0 d - 2))) "=", placeOfS (repS (some (min 0 d + 2), some (max 0 d - 2)) - d) "="), l) ∉ (([(none, some (min 0 d - 2)), (some (max 0 d + 2), none)] : List Span).foldl (twoStep d r) []) := fun l hl => by
      rw [e2] at hl
      rcases setM_keys hl with h | ⟨l', h⟩
      · exact kC _ h
      · rcases setM_keys h with h | ⟨_, h⟩
        · exact kC _ h
        · cases h
    refine set_inM nk2 ?_
    rw [eF] at hsp
    rcases List.mem_append.mp hsp with hsp | hsp
    · left
      rw [e2]
      refine set_inM nk1 ?_
      simp only [List.mem_cons, List.not_mem_nil, or_false] at hsp
      rcases hsp with rfl | rfl
      · rw [kA] at h1
        exact .inl (set_inM (fun l hl => nomatch hl) (.inr ⟨h1, List.mem_map.mpr ⟨q, hq, h2.symm⟩⟩))
      · rw [kB] at h1
        exact .inr ⟨h1, List.mem_map.mpr ⟨q, hq, h2.symm⟩⟩
    · right
      rw [List.mem_singleton] at hsp
      subst hsp
      exact ⟨h1, List.mem_map.mpr ⟨q, hq, h2.symm⟩⟩
  · have eF : farSpans d = [(none, some (min 0 d - 2)), (some (max 0 d + 2), none)] := by unfold farSpans; rw [if_neg h3]; rfl
    unfold twoM
    rw [eF, e2]
    refine set_inM nk1 ?_
    rw [eF] at hsp
    simp only [List.mem_cons, List.not_mem_nil, or_false] at hsp
    rcases hsp with rfl | rfl
    · rw [kA] at h1
      exact .inl (set_inM (fun l hl => nomatch hl) (.inr ⟨h1, List.mem_map.mpr ⟨q, hq, h2.symm⟩⟩))
    · rw [kB] at h1
      exact .inr ⟨h1, List.mem_map.mpr ⟨q, hq, h2.symm⟩⟩
theorem menu_two (d : Int) (r : Sg) : MenuOk (.two d r) (twoM d r (spansL d)) := by
  refine ⟨fun p x h => ?_, fun c n hn => ?_⟩
  · rcases two_sound d r (spansL d) [] p x h with h | ⟨sp, hsp, q, hq, rfl, rfl⟩
    · exact absurd h (not_InM _ _)
    · rcases List.mem_append.mp hsp with hsp | hsp
      · obtain ⟨h1, h2⟩ := far_mem hsp
        have hex : ∃ c, inSpan c sp := by
          unfold farSpans at hsp
          rcases List.mem_append.mp hsp with h | h
          · simp only [List.mem_cons, List.not_mem_nil, or_false] at h
            rcases h with rfl | rfl
            · exact ⟨min 0 d - 2, fun l h => (by cases h), fun l h => by cases h; exact Int.le_refl _⟩
            · exact ⟨max 0 d + 2, fun l h => by cases h; exact Int.le_refl _, fun l h => (by cases h)⟩
          · split at h
            · rename_i h3
              rw [List.mem_singleton] at h
              subst h
              exact ⟨min 0 d + 2, fun l h => by cases h; exact Int.le_refl _, fun l h => by cases h; omega⟩
            · cases h
        refine ⟨hex, fun c hc => ⟨⟨q, hq, rfl⟩, ?_⟩⟩
        obtain ⟨c0, hc0⟩ := hex
        obtain ⟨a1, a2, a3, a4⟩ := h2 c hc
        have hr : inSpan (repS sp) sp := by
          unfold farSpans at hsp
          rcases List.mem_append.mp hsp with h | h
          · simp only [List.mem_cons, List.not_mem_nil, or_false] at h
            rcases h with rfl | rfl
            · exact ⟨fun l h => (by cases h), fun l h => by cases h; exact Int.le_refl _⟩
            · exact ⟨fun l h => by cases h; exact Int.le_refl _, fun l h => (by cases h)⟩
          · split at h
            · rename_i h3
              rw [List.mem_singleton] at h
              subst h
              exact ⟨fun l h => by cases h; exact Int.le_refl _, fun l h => by cases h; show min 0 d + 2 ≤ max 0 d - 2; omega⟩
            · cases h
        obtain ⟨b1, b2, _, _⟩ := h2 _ hr
        unfold twoP
        rw [if_neg (by rw [h1]; decide)]
        show (placeOfS c (sgS q.1), placeOfS (c - d) (sgS q.2)) = _
        rw [far_plc a1 b1 a3 (sgS q.1) "=", far_plc a2 b2 a4 (sgS q.2) "="]
      · obtain ⟨c, rfl, hn⟩ := near_mem hsp
        refine ⟨⟨c, fun l h => by cases h; exact Int.le_refl _, fun l h => by cases h; exact Int.le_refl _⟩, fun c' hc => ⟨⟨q, hq, rfl⟩, ?_⟩⟩
        have := hc.1 c rfl; have := hc.2 c rfl
        have e : c' = c := by omega
        subst e
        unfold twoP
        rw [if_pos hn]; rfl
  · obtain ⟨q, hq, rfl⟩ := hn
    obtain ⟨sp, hsp, hc⟩ := span_all d c
    refine ⟨twoP d sp q, (sp, (some q.1, some q.2)), ?_, hc, rfl⟩
    unfold twoM spansL
    rw [List.foldl_append]
    refine near_keep d r _ (fun p hp => ?_) _ _ _ ?_
    · obtain ⟨c, _, h⟩ := near_mem hp; exact h
    · rcases List.mem_append.mp hsp with hsp | hsp
      · exact .inl (far_keep d r _ _ ⟨sp, hsp, q, hq, rfl, rfl⟩)
      · exact .inr ⟨sp, hsp, q, hq, rfl, rfl⟩
theorem menu_ok (g : Gp) : MenuOk g (menuOf g) := by
  cases g with
  | none =>
    refine ⟨fun p x ⟨l, hl, hx⟩ => ?_, fun c n hn => ?_⟩
    · rw [menuOf, List.mem_singleton] at hl
      cases hl
      rw [List.mem_singleton] at hx
      subst hx
      refine ⟨⟨0, fun l h => by cases h; exact Int.le_refl _, fun l h => by cases h; exact Int.le_refl _⟩, fun c hc => ?_⟩
      have := hc.1 0 rfl; have := hc.2 0 rfl
      exact ⟨⟨by omega, rfl⟩, rfl⟩
    · obtain ⟨rfl, rfl⟩ := hn
      exact ⟨_, _, ⟨_, List.mem_singleton.mpr rfl, List.mem_singleton.mpr rfl⟩, ⟨fun l h => by cases h; exact Int.le_refl _, fun l h => by cases h; exact Int.le_refl _⟩, rfl⟩
  | first => exact menu_lone true
  | second => exact menu_lone false
  | two d r => exact menu_two d r
/-! menus, as the program makes them -/
def oI : Option Int → D
  | none => .non
  | some i => .int i
def oS : Option Sg → D
  | none => .non
  | some s => .str (sgS s)
def spanD (p : Span) : D := .tup [oI p.1, oI p.2]
def snD (n : Sn) : D := .tup [oS n.1, oS n.2]
def numD (x : NumP) : D := .tup [spanD x.1, snD x.2]
def plD (p : Str × Str) : D := .tup [.str p.1, .str p.2]
def keyP (p : Str × Str) : NestedKey := .tup [.text p.1, .text p.2]
theorem key_plD (p : Str × Str) : keyN (plD p) = some (keyP p) := rfl
theorem keyP_inj {p q : Str × Str} (h : keyP p = keyP q) : p = q := by
  injection h with h
  injection h with h1 h2
  injection h1 with h1
  injection h2 with h2 _
  injection h2 with h2
  exact Prod.ext h1 h2
theorem for_cons {g : Tgt} {A : Sx} {d : D} {ds : List D} {ρ ρ1 : NL.Env} {S : SrcT} {P : Fl × NL.Env → SrcT → Prop} (hg : g d ρ = some ρ1) (h : (A ρ1 S).sat fun r S1 => match r with
    | (.nx, ρ2) => (forGo g A ds ρ2 S1).sat P
    | (.cont, ρ2) => (forGo g A ds ρ2 S1).sat P
    | (.brk, ρ2) => P (.nx, ρ2) S1
    | (.ret d, ρ2) => P (.ret d, ρ2) S1) : (forGo g A (d :: ds) ρ S).sat P := by
  rw [forGo, hg]
  dsimp only
  rw [sat_bind]
  refine h.mono fun r S1 hr => ?_
  obtain ⟨f, ρ2⟩ := r
  cases f <;> exact hr
theorem viaD {r : Rs D} {d : D} {S : SrcT} {P : D → SrcT → Prop} (h : ∀ Q : D → SrcT → Prop, Q d S → r.sat Q) (hp : P d S) : r.sat P := h P hp
local macro_rules | `(tactic| walk_at "v1") => `(tactic| first | (with_reducible refine NL.sdXF_sat ?_) | (with_reducible refine NL.inXF_sat ?_) | (with_reducible refine NL.getXF_sat ?_) | (with_reducible refine NL.putXS_sat ?_) | (with_reducible refine NL.lcHF_sat ?_) | (with_reducible refine NL.forHS_sat ?_) | (with_reducible refine NL.disp1XF_sat ?_) | (with_reducible refine NL.makeCF_sat ?_) | (with_reducible refine NL.methVF_sat ?_) | (with_reducible refine NL.callK_sat ?_) | (with_reducible refine NL.fldMF_sat ?_) | (with_reducible refine NL.setMS_sat ?_) | (with_reducible refine NL.lstMF_sat ?_) | (with_reducible refine NL.appMF_sat ?_) | (with_reducible refine NL.newMF_sat ?_) | (with_reducible refine NL.liftK_sat ?_) | (with_reducible refine NL.cellF_sat ?_) | (with_reducible refine NL.callVP_sat ?_) | walk_at "s3")
local macro_rules | `(tactic| walk_at "vx") => `(tactic| (walk_at "v1"; repeat (walk_at "v1")))
theorem placeof_sat {P : D → SrcT → Prop} {S : SrcT} {a : Int} {z : Str} (hz : z.length ≤ 10) (hp : P (.str (placeOfS a z)) S) : (f_place_of [.int a, .str z] S).sat P := by
  refine fnF_sat rfl ?_
  unfold b_place_of
  unfold placeOfS at hp
  walk_at "st"
  by_cases h1 : a < -1
  · refine NL.ifT (show decide (a < -1) = true from decide_eq_true h1) ?_
    rw [if_pos h1] at hp
    walk_at "sx"
    exact hp
  · refine NL.ifF (show decide (a < -1) = false from decide_eq_false h1) ?_
    rw [if_neg h1] at hp
    walk_at "sx"
    by_cases h2 : 1 < a
    · refine NL.ifT (show decide (1 < a) = true from decide_eq_true h2) ?_
      rw [if_pos h2] at hp
      walk_at "sx"
      exact hp
    · refine NL.ifF (show decide (1 < a) = false from decide_eq_false h2) ?_
      rw [if_neg h2] at hp
      walk_at "sx"
      have fin : ∀ y : Str, y.length ≤ 1 → ∃ d, addD (.str y) (.str z) = some d ∧ d = .str (y ++ z) := fun y hy => ⟨_, by show (if _ then _ else _) = _; rw [if_pos (by omega)], rfl⟩
      by_cases h3 : a = -1
      · refine NL.ifT (show PyData.eqv (.int a) (.int (-1)) = true by rw [eqv_ints]; exact decide_eq_true h3) (cF_sat ?_)
        rw [if_pos h3] at hp
        obtain ⟨d, e1, rfl⟩ := fin "-" (by decide)
        exact ⟨_, e1, hp⟩
      · refine NL.ifF (show PyData.eqv (.int a) (.int (-1)) = false by rw [eqv_ints]; exact decide_eq_false h3) ?_
        rw [if_neg h3] at hp
        walk_at "st"
        by_cases h4 : a = 1
        · refine NL.ifT (show PyData.eqv (.int a) (.int 1) = true by rw [eqv_ints]; exact decide_eq_true h4) (cF_sat ?_)
          rw [if_pos h4] at hp
          obtain ⟨d, e1, rfl⟩ := fin "+" (by decide)
          exact ⟨_, e1, hp⟩
        · refine NL.ifF (show PyData.eqv (.int a) (.int 1) = false by rw [eqv_ints]; exact decide_eq_false h4) (cF_sat ?_)
          rw [if_neg h4] at hp
          obtain ⟨d, e1, rfl⟩ := fin "" (by decide)
          exact ⟨_, e1, hp⟩
theorem at_ruleT {rs : List Rule} {k : Nat} {r : Rule} (h : rs[k]? = some r) : atI (rs.map rTD) ((k : Nat) : Int) = some (rTD r) := by
  refine atI_nat ?_
  rw [List.getElem?_map, h]; rfl
theorem used_sat {P : D → SrcT → Prop} {S : SrcT} {rs : List Rule} {ans : List (Str × Str)} {s p : Str} (hp : P (.tup [.str (usedR rs s p).1, .bl (usedR rs s p).2.1, .str (usedR rs s p).2.2]) S) : (f_used [.loop rs ans, .str s, .str p] S).sat P := by
  refine fnF_sat rfl ?_
  unfold b_used
  refine seqS_sat (setS_sat (tabGF_sat ?_))
  refine vF_sat rfl ⟨rs, ans, rfl, ?_⟩
  refine consF_sat (vF_sat rfl (consF_sat (vF_sat rfl (nilF_sat ?_))))
  refine ⟨s, p, rfl, ?_⟩
  cases hf : fitIdx rs s p with
  | none =>
    rw [fit_none hf] at hp
    walk_at "sd"
    exact hp
  | some k =>
    obtain ⟨r, hr, hu⟩ := fit_some hf
    rw [hu] at hp
    walk_at "sd"
    refine ⟨_, at_ruleT hr, ?_⟩
    walk_at "sd"
    exact hp
noncomputable def spanBody : Sx := seqS (appS 3 (tupF (consF (vF 4) (consF (vF 4) nilF))))
  (iteS (blT (binF (inD true) (binF addD (vF 4) (vF 0)) (tupF (consF (unF negD (cF (.int 1))) (consF (cF (.int 0)) (consF (cF (.int 1)) nilF))))))
  (appS 3 (tupF (consF (binF addD (vF 4) (vF 0)) (consF (binF addD (vF 4) (vF 0)) nilF))))
  nilS)
theorem in_three (x : Int) : (if true = true then !inV (vOf (.int x)) ([D.int (-1), D.int 0, D.int 1].map vOf) else inV (vOf (.int x)) ([D.int (-1), D.int 0, D.int 1].map vOf)) = !decide (x ∈ ([-1, 0, 1] : List Int)) := by
  rw [if_pos rfl]
  congr 1
  have e : ∀ y : Int, eqV (vOf (.int y)) (vOf (.int x)) = decide (y = x) := fun y => rfl
  unfold inV
  simp only [List.map_cons, List.map_nil, List.any_cons, List.any_nil, e, Bool.or_false, List.mem_cons, List.not_mem_nil, or_false]
  by_cases h1 : x = -1
  · simp [h1]
  by_cases h2 : x = 0
  · simp [h2]
  by_cases h3 : x = 1
  · simp [h3]
  rw [decide_eq_false (by omega), decide_eq_false (by omega), decide_eq_false (by omega), decide_eq_false (by omega)]; rfl
theorem span_one {S : SrcT} {d c : Int} {L : List Span} {v1 v2 : Option D} {P : Fl × NL.Env → SrcT → Prop} (hl : L.length ≤ 20)
    (hp : P (.nx, [some (.int d), v1, v2, some (.lst ((L ++ (some c, some c) :: (if c + d ∈ ([-1, 0, 1] : List Int) then [] else [(some (c + d), some (c + d))])).map spanD)), some (.int c)]) S) :
    (spanBody [some (.int d), v1, v2, some (.lst (L.map spanD)), some (.int c)] S).sat P := by
  unfold spanBody
  walk_at "sx"
  · rw [List.length_map]; omega
  walk_at "sx"
  rw [List.map_append, List.map_cons] at hp
  by_cases h : c + d ∈ ([-1, 0, 1] : List Int)
  · rw [if_pos h] at hp
    refine NL.ifF (by rw [in_three, decide_eq_true h]; rfl) ?_
    exact nilS_sat hp
  · rw [if_neg h] at hp
    refine NL.ifT (by rw [in_three, decide_eq_false h]; rfl) ?_
    walk_at "sx"
    · rw [List.length_append, List.length_map]; simp; omega
    have e : (L.map spanD ++ [D.tup [.int c, .int c]]) ++ [D.tup [.int (c + d), .int (c + d)]] = L.map spanD ++ spanD (some c, some c) :: [(some (c + d), some (c + d))].map spanD := by simp [spanD, oI]
    rw [← e] at hp
    exact hp
theorem spans_tail {P : D → SrcT → Prop} {S : SrcT} {d : Int} {L : List Span} {v1 v2 : Option D} (hl : L.length ≤ 10) (hp : P (.lst ((L ++ nearSpans d).map spanD)) S) :
    ((seqS (forS (seqF (tupF (consF (unF negD (cF (.int 1))) (consF (cF (.int 0)) (consF (cF (.int 1)) nilF))))) (gN 4) spanBody) (retS (vF 3))) [some (.int d), v1, v2, some (.lst (L.map spanD)), none] S).sat fun r S' => match r with
      | (.ret d, _) => P d S'
      | (.nx, _) => P .non S'
      | _ => False := by
  have el : ∀ (L : List Span) c, L.length ≤ 18 → (L ++ (some c, some c) :: (if c + d ∈ ([-1, 0, 1] : List Int) then [] else [(some (c + d), some (c + d))])).length ≤ L.length + 2 := fun L c _ => by
    rw [List.length_append, List.length_cons]; split <;> simp
  walk_at "sx"
  refine for_cons rfl (span_one (by omega) ?_)
  have h1 := el L (-1) (by omega)
  refine for_cons rfl (span_one (by omega) ?_)
  have h2 := el _ 0 (show (L ++ (some (-1), some (-1)) :: (if -1 + d ∈ ([-1, 0, 1] : List Int) then [] else [(some (-1 + d), some (-1 + d))])).length ≤ 18 by omega)
  refine for_cons rfl (span_one (by omega) ?_)
  show (retS (vF 3) _ S).sat _
  refine retS_sat (vF_sat rfl ?_)
  refine Eq.mp ?_ hp
  show P _ S = P _ S
  congr 3
  simp [nearSpans]
theorem spans_sat {P : D → SrcT → Prop} {S : SrcT} {d : Int} (hp : P (.lst ((spansL d).map spanD)) S) : (f_spans_of [.int d] S).sat P := by
  refine fnF_sat rfl ?_
  unfold b_spans_of
  walk_at "sx"
  have emin : (if d < 0 then d else 0) = min 0 d := by split <;> omega
  have emax : (if d > 0 then d else 0) = max 0 d := by split <;> omega
  rw [emin, emax]
  unfold spansL farSpans at hp
  by_cases h : max 0 d - min 0 d > 3
  · rw [if_pos h] at hp
    refine NL.ifT (decide_eq_true h) ?_
    refine appS_sat (i := 3) (ds := [D.tup [.non, .int (min 0 d - 2)], D.tup [.int (max 0 d + 2), .non]]) rfl (show 2 < 100000 by decide) ?_
    refine viaD (d := .tup [.int (min 0 d + 2), .int (max 0 d - 2)]) (S := S) (fun Q hq => by walk_at "sx"; exact hq) ?_
    exact spans_tail (L := [(none, some (min 0 d - 2)), (some (max 0 d + 2), none), (some (min 0 d + 2), some (max 0 d - 2))]) (show 3 ≤ 10 by decide) hp
  · rw [if_neg h] at hp
    refine NL.ifF (decide_eq_false h) ?_
    refine nilS_sat ?_
    exact spans_tail (L := [(none, some (min 0 d - 2)), (some (max 0 d + 2), none)]) (show 2 ≤ 10 by decide) hp
/-! the dict of places, as it stands in the cells -/
def RelQ (m : Addr → Option MC) (q : (Str × Str) × List NumP) (e : D × D) : Prop := e.1 = plD q.1 ∧ ∃ a, e.2 = .loc a ∧ m a = some (.lst (q.2.map numD))
abbrev RepQ (m : Addr → Option MC) : Menu → List (D × D) → Prop := Paired (RelQ m)
theorem loc_inj {a b : Addr} (h : D.loc a = D.loc b) : a = b := by injection h
theorem RepQ.at {m : Addr → Option MC} {M : Menu} {es : List (D × D)} (h : RepQ m M es) : ∀ e ∈ es, ∃ a l, e.2 = .loc a ∧ m a = some (.lst l) := by
  induction h with
  | nil => exact fun _ h => nomatch h
  | cons r _ ih =>
    intro e he
    rcases List.mem_cons.mp he with rfl | he
    · obtain ⟨a, h1, h2⟩ := r.2
      exact ⟨a, _, h1, h2⟩
    · exact ih e he
theorem RepQ.same {m m' : Addr → Option MC} {M : Menu} {es : List (D × D)} (h : RepQ m M es) (hs : ∀ c, D.loc c ∈ es.map (·.2) → m' c = m c) : RepQ m' M es := by
  induction h with
  | nil => exact .nil
  | cons r _ ih =>
    refine .cons ⟨r.1, ?_⟩ (ih fun c hc => hs c (List.mem_cons_of_mem _ hc))
    obtain ⟨a, h1, h2⟩ := r.2
    exact ⟨a, h1, by rw [hs a (by rw [List.map_cons, h1]; exact List.mem_cons_self)]; exact h2⟩
theorem rep_add {m : Addr → Option MC} {p : Str × Str} : ∀ {M : Menu} {es : List (D × D)}, RepQ m M es → (es.map (·.2)).Nodup →
    (valXD es (keyP p) = none ∧ (∀ x, addM M p x = M ++ [(p, [x])]) ∧ (∀ l, setM M p l = M ++ [(p, l)]) ∧ ∀ y v, putXD es (keyP p) y v = es ++ [(y, v)]) ∨
    ∃ b l, valXD es (keyP p) = some (.loc b) ∧ (∃ q ∈ M, q.2 = l) ∧ m b = some (.lst (l.map numD)) ∧ D.loc b ∈ es.map (·.2) ∧ (∀ x m', m' b = some (.lst ((l ++ [x]).map numD)) → (∀ c, D.loc c ∈ es.map (·.2) → c ≠ b → m' c = m c) → RepQ m' (addM M p x) es)
  | _, _, .nil, _ => .inl ⟨rfl, fun _ => rfl, fun _ => rfl, fun _ _ => rfl⟩
  | q :: M, e :: es, .cons r t, hn => by
    rw [List.map_cons, List.nodup_cons] at hn
    obtain ⟨r1, a, r2, r3⟩ := r
    have hk : keyN e.1 = some (keyP q.1) := by rw [r1]; rfl
    by_cases h : q.1 = p
    · right
      refine ⟨a, q.2, ?_, ⟨q, List.mem_cons_self, rfl⟩, r3, by rw [List.map_cons, r2]; exact List.mem_cons_self, fun x m' h1 h2 => ?_⟩
      · unfold valXD; rw [hk, if_pos (by rw [h]), r2]
      · unfold addM
        rw [if_pos h]
        refine .cons ⟨r1, a, r2, h1⟩ (RepQ.same t fun c hc => h2 c (List.mem_cons_of_mem _ hc) fun e2 => ?_)
        subst e2
        rw [r2] at hn
        exact hn.1 hc
    · have hne : ¬ some (keyP q.1) = some (keyP p) := fun z => h (keyP_inj (Option.some.inj z))
      rcases rep_add (p := p) t hn.2 with ⟨h1, h2, h3, h4⟩ | ⟨b, l, h1, h2, h3, h4, h5⟩
      · left
        refine ⟨by unfold valXD; rw [hk, if_neg hne]; exact h1, fun x => by unfold addM; rw [if_neg h, h2]; rfl, fun l => by unfold setM; rw [if_neg h, h3]; rfl, fun y v => by unfold putXD; rw [hk, if_neg hne, h4]; rfl⟩
      · right
        refine ⟨b, l, by unfold valXD; rw [hk, if_neg hne]; exact h1, ?_, h3, List.mem_cons_of_mem _ h4, fun x m' g1 g2 => ?_⟩
        · obtain ⟨q', hq, e'⟩ := h2; exact ⟨q', List.mem_cons_of_mem _ hq, e'⟩
        · unfold addM
          rw [if_neg h]
          have nab : a ≠ b := fun e2 => by
            subst e2
            rw [r2] at hn
            exact hn.1 h4
          exact .cons ⟨r1, a, r2, by rw [g2 a (by rw [List.map_cons, r2]; exact List.mem_cons_self) nab]; exact r3⟩ (h5 x m' g1 fun c hc hcb => g2 c (List.mem_cons_of_mem _ hc) hcb)
theorem addM_size {n : Nat} {p : Str × Str} {x : NumP} : ∀ {M : Menu}, (∀ q ∈ M, q.2.length ≤ n) → ∀ q ∈ addM M p x, q.2.length ≤ n + 1
  | [], _, q, hq => by rw [addM, List.mem_singleton] at hq; subst hq; exact Nat.le_add_left 1 n
  | r :: M, h, q, hq => by
    rw [addM] at hq
    split at hq
    · rcases List.mem_cons.mp hq with rfl | hq
      · show (r.2 ++ [x]).length ≤ _
        rw [List.length_append]
        have := h r List.mem_cons_self
        simp; omega
      · have := h q (List.mem_cons_of_mem _ hq); omega
    · rcases List.mem_cons.mp hq with rfl | hq
      · have := h q List.mem_cons_self; omega
      · exact addM_size (fun q hq => h q (List.mem_cons_of_mem _ hq)) q hq
theorem addM_len (p : Str × Str) (x : NumP) : ∀ M : Menu, (addM M p x).length ≤ M.length + 1
  | [] => Nat.le_refl _
  | r :: M => by
    unfold addM
    split
    · simp
    · have := addM_len p x M; simp; omega
theorem setM_size {n : Nat} {p : Str × Str} {l : List NumP} (hl : l.length ≤ n) : ∀ {M : Menu}, (∀ q ∈ M, q.2.length ≤ n) → ∀ q ∈ setM M p l, q.2.length ≤ n
  | [], _, q, hq => by rw [setM, List.mem_singleton] at hq; subst hq; exact hl
  | r :: M, h, q, hq => by
    rw [setM] at hq
    split at hq
    · rcases List.mem_cons.mp hq with rfl | hq
      · exact hl
      · exact h q (List.mem_cons_of_mem _ hq)
    · rcases List.mem_cons.mp hq with rfl | hq
      · exact h q List.mem_cons_self
      · exact setM_size hl (fun q hq => h q (List.mem_cons_of_mem _ hq)) q hq
theorem setM_len (p : Str × Str) (l : List NumP) : ∀ M : Menu, (setM M p l).length ≤ M.length + 1
  | [] => Nat.le_refl _
  | r :: M => by
    unfold setM
    split
    · simp
    · have := setM_len p l M; simp; omega
/-- where the making of a menu stands -/
structure NB (S : SrcT) (F : Addr) (n : Nat) (M : Menu) (S' : SrcT) : Prop where
  ex : ∃ m' es, S' = { S with m := m' } ∧ m' F = some (.dX es) ∧ RepQ m' M es ∧ (es.map (·.2)).Nodup ∧ (∀ c, D.loc c ∈ es.map (·.2) → S.m c = none) ∧ ∀ b, S.m b ≠ none → m' b = S.m b
  fr : S.m F = none
  len : M.length ≤ n
  sz : ∀ q ∈ M, q.2.length ≤ n
theorem NB.start {S : SrcT} {F : Addr} (h : S.m F = none) : NB S F 0 [] (S.put F (.dX [])) :=
  ⟨⟨_, [], rfl, updM_same, .nil, List.nodup_nil, fun _ h => (nomatch h), fun b hb => updM_ne fun e => hb (e ▸ h)⟩, h, Nat.le_refl _, fun _ h => nomatch h⟩
theorem NB.le {S S' : SrcT} {F : Addr} {n k : Nat} {M : Menu} (h : NB S F n M S') (hk : n ≤ k) : NB S F k M S' := ⟨h.ex, h.fr, Nat.le_trans h.len hk, fun q hq => Nat.le_trans (h.sz q hq) hk⟩
theorem rep_snoc {m m' : Addr → Option MC} {M : Menu} {es : List (D × D)} {p : Str × Str} {l : List NumP} {a : Addr} (h : RepQ m M es) (hn : (es.map (·.2)).Nodup) (na : m a = none) (hs : ∀ c, D.loc c ∈ es.map (·.2) → m' c = m c) (ha : m' a = some (.lst (l.map numD))) :
    RepQ m' (M ++ [(p, l)]) (es ++ [(plD p, .loc a)]) ∧ ((es ++ [(plD p, D.loc a)]).map (·.2)).Nodup := by
  refine ⟨Paired.snoc (h.same hs) ⟨rfl, a, rfl, ha⟩, ?_⟩
  rw [List.map_append, List.nodup_append]
  refine ⟨hn, by simp, fun x hx y hy e => ?_⟩
  rw [List.map_cons, List.map_nil, List.mem_singleton] at hy
  have hy : y = D.loc a := hy
  rw [e, hy] at hx
  obtain ⟨z, hz, e2⟩ := List.mem_map.mp hx
  obtain ⟨b, l', h1, h2⟩ := h.at z hz
  rw [h1] at e2
  rw [loc_inj e2, na] at h2; cases h2
/-- found.setdefault(p, []).append(x) -/
theorem NB.add {S S1 : SrcT} {F : Addr} {n : Nat} {M : Menu} {p : Str × Str} {x : NumP} (h : NB S F n M S1) (hn : n ≤ 1000) {ρ : NL.Env} (h1 : ρ[1]? = some (some (.loc F))) {Fk : Ex} {Fs : Exs} (hk : ∀ (Q : D → SrcT → Prop) T, Q (plD p) T → (Fk ρ T).sat Q) (hv : ∀ (Q : List D → SrcT → Prop) T, Q [numD x] T → (Fs ρ T).sat Q)
    {PS : Fl × NL.Env → SrcT → Prop} (hp : ∀ S2, NB S F (n + 1) (addM M p x) S2 → PS (.nx, ρ) S2) : (exprS (appMF (sdXF (vF 1) Fk (lstMF nilF)) Fs) ρ S1).sat PS := by
  obtain ⟨⟨m, es, rfl, hF, rep, nd, fresh, keep⟩, fr, hlen, hsz⟩ := h
  have hel : es.length ≤ 1000 := by have := Paired.length rep; omega
  refine exprS_sat (appMF_sat (sdXF_sat (vF_sat h1 ⟨F, es, rfl, hF, hk _ _ ?_⟩)))
  refine lstMF_sat (nilF_sat fun a na => ?_)
  have na : m a = none := na
  have naF : a ≠ F := fun e => by rw [e, hF] at na; cases na
  have notin : ∀ c, D.loc c ∈ es.map (·.2) → c ≠ a ∧ c ≠ F := fun c hc => by
    obtain ⟨z, hz, e2⟩ := List.mem_map.mp hc
    obtain ⟨b, l, g1, g2⟩ := rep.at z hz
    have e2 : z.2 = D.loc c := e2
    rw [g1] at e2
    have e3 := loc_inj e2
    subst e3
    exact ⟨fun e => (by rw [e, na] at g2; cases g2), fun e => (by rw [e, hF] at g2; cases g2)⟩
  have hF' : (updM m a (.lst [])) F = some (.dX es) := by rw [updM_ne naF.symm]; exact hF
  have keepa : ∀ b, S.m b ≠ none → b ≠ a := fun b hb e => by
    have := keep b hb
    rw [e, na] at this
    exact hb (by rw [e]; exact this.symm)
  have keepF : ∀ b, S.m b ≠ none → b ≠ F := fun b hb e => hb (e ▸ fr)
  have nSa : S.m a = none := by
    cases hq : S.m a with
    | none => rfl
    | some c => exact absurd rfl (keepa a (by rw [hq]; exact fun z => nomatch z))
  refine ⟨es, keyP p, hF', key_plD p, by omega, ?_⟩
  rcases rep_add (p := p) rep nd with ⟨q1, q2, q3, q4⟩ | ⟨b, l, q1, ⟨q0, hq0, rfl⟩, q3, q4, q5⟩
  · rw [q1, q4]
    dsimp only
    refine ⟨a, rfl, ⟨[], ?_⟩, hv _ _ ⟨[], numD x, ?_, rfl, by decide, ?_⟩⟩
    · show updM (updM m a (.lst [])) F _ a = _
      rw [updM_ne naF, updM_same]
    · show updM (updM m a (.lst [])) F _ a = _
      rw [updM_ne naF, updM_same]
    · obtain ⟨g1, g2⟩ := rep_snoc (p := p) (l := [x]) (a := a) (m' := updM (updM (updM m a (.lst [])) F (.dX (es ++ [(plD p, .loc a)]))) a (.lst ([] ++ [numD x]))) rep nd na (fun c hc => by
        obtain ⟨z1, z2⟩ := notin c hc
        rw [updM_ne z1, updM_ne z2, updM_ne z1]) updM_same
      refine hp _ ⟨⟨_, es ++ [(plD p, .loc a)], rfl, ?_, by rw [q2]; exact g1, g2, fun c hc => ?_, fun b hb => ?_⟩, fr, Nat.le_trans (addM_len p x M) (by omega), addM_size hsz⟩
      · show updM (updM (updM m a (.lst [])) F (.dX (es ++ [(plD p, .loc a)]))) a _ F = _
        rw [updM_ne naF.symm, updM_same]
      · rw [List.map_append] at hc
        rcases List.mem_append.mp hc with hc | hc
        · exact fresh c hc
        · rw [List.map_cons, List.map_nil, List.mem_singleton] at hc
          rw [loc_inj hc]; exact nSa
      · show updM (updM (updM m a (.lst [])) F (.dX (es ++ [(plD p, .loc a)]))) a _ b = _
        rw [updM_ne (keepa b hb), updM_ne (keepF b hb), updM_ne (keepa b hb)]
        exact keep b hb
  · rw [q1]
    dsimp only
    obtain ⟨nba, nbF⟩ := notin b q4
    have hb' : (updM m a (.lst [])) b = some (.lst (q0.2.map numD)) := by rw [updM_ne nba]; exact q3
    refine ⟨b, rfl, ⟨_, hb'⟩, hv _ _ ⟨_, numD x, hb', rfl, ?_, ?_⟩⟩
    · rw [List.length_map]
      have := hsz q0 hq0; omega
    · refine hp _ ⟨⟨_, es, rfl, ?_, ?_, nd, fresh, fun c hc => ?_⟩, fr, Nat.le_trans (addM_len p x M) (by omega), addM_size hsz⟩
      · show updM (updM m a (.lst [])) b _ F = _
        rw [updM_ne nbF.symm]; exact hF'
      · refine q5 x _ ?_ fun c hc hcb => ?_
        · show updM _ b _ b = _
          rw [updM_same, List.map_append]; rfl
        · show updM (updM m a (.lst [])) b _ c = _
          rw [updM_ne hcb, updM_ne (notin c hc).1]
      · show updM (updM m a (.lst [])) b _ c = _
        have hcb : c ≠ b := fun e => hc (by rw [e]; exact fresh b q4)
        rw [updM_ne hcb, updM_ne (keepa c hc)]
        exact keep c hc
theorem rep_set {m m' : Addr → Option MC} {p : Str × Str} {l : List NumP} {a : Addr} (ha : m' a = some (.lst (l.map numD))) : ∀ {M : Menu} {es : List (D × D)}, RepQ m M es → (es.map (·.2)).Nodup → D.loc a ∉ es.map (·.2) → (∀ c, D.loc c ∈ es.map (·.2) → m' c = m c) →
    RepQ m' (setM M p l) (putXD es (keyP p) (plD p) (.loc a)) ∧ ((putXD es (keyP p) (plD p) (.loc a)).map (·.2)).Nodup ∧ ∀ x ∈ (putXD es (keyP p) (plD p) (.loc a)).map (·.2), x ∈ es.map (·.2) ∨ x = .loc a
  | _, _, .nil, _, _, _ => ⟨.cons ⟨rfl, a, rfl, ha⟩ .nil, by simp [putXD], fun x hx => by right; simpa [putXD] using hx⟩
  | q :: M, e :: es, .cons r t, hn, na, hs => by
    rw [List.map_cons, List.nodup_cons] at hn
    rw [List.map_cons, List.mem_cons, not_or] at na
    obtain ⟨r1, b, r2, r3⟩ := r
    have hk : keyN e.1 = some (keyP q.1) := by rw [r1]; rfl
    have hs' : ∀ c, D.loc c ∈ es.map (·.2) → m' c = m c := fun c hc => hs c (List.mem_cons_of_mem _ hc)
    have hb : m' b = m b := hs b (by rw [List.map_cons, r2]; exact List.mem_cons_self)
    unfold setM putXD
    rw [hk]
    by_cases h : q.1 = p
    · rw [if_pos h, if_pos (by rw [h])]
      refine ⟨.cons ⟨r1, a, rfl, ha⟩ (RepQ.same t hs'), ?_, fun x hx => ?_⟩
      · rw [List.map_cons, List.nodup_cons]; exact ⟨na.2, hn.2⟩
      · rw [List.map_cons] at hx ⊢
        rcases List.mem_cons.mp hx with hx | hx
        · exact .inr hx
        · exact .inl (List.mem_cons_of_mem _ hx)
    · rw [if_neg h, if_neg (fun z => h (keyP_inj (Option.some.inj z)))]
      obtain ⟨g1, g2, g3⟩ := rep_set ha t hn.2 na.2 hs'
      refine ⟨.cons ⟨r1, b, r2, by rw [hb]; exact r3⟩ g1, ?_, fun x hx => ?_⟩
      · rw [List.map_cons, List.nodup_cons]
        refine ⟨fun hx => ?_, g2⟩
        rcases g3 _ hx with hx | hx
        · exact hn.1 hx
        · exact na.1 hx.symm
      · rw [List.map_cons] at hx ⊢
        rcases List.mem_cons.mp hx with hx | hx
        · left; rw [hx]; exact List.mem_cons_self
        · rcases g3 _ hx with hx | hx
          · exact .inl (List.mem_cons_of_mem _ hx)
          · exact .inr hx
/-- found[p] = [..] -/
theorem NB.set {S S1 : SrcT} {F : Addr} {n : Nat} {M : Menu} {p : Str × Str} {l : List NumP} (h : NB S F n M S1) (hn : n ≤ 1000) (hl : l.length ≤ n + 5) {ρ : NL.Env} (h1 : ρ[1]? = some (some (.loc F))) {Fk Fv : Ex} (hk : ∀ (Q : D → SrcT → Prop) T, Q (plD p) T → (Fk ρ T).sat Q) (hv : ∀ (Q : D → SrcT → Prop) T, Q (.lst (l.map numD)) T → (Fv ρ T).sat Q)
    {PS : Fl × NL.Env → SrcT → Prop} (hp : ∀ S2, NB S F (n + 5) (setM M p l) S2 → PS (.nx, ρ) S2) : (putXS (vF 1) Fk (cellF Fv) ρ S1).sat PS := by
  obtain ⟨⟨m, es, rfl, hF, rep, nd, fresh, keep⟩, fr, hlen, hsz⟩ := h
  have hel : es.length ≤ 1000 := by have := Paired.length rep; omega
  refine putXS_sat (cellF_sat (hv _ _ ⟨_, rfl, fun a na => vF_sat h1 (hk _ _ ?_)⟩))
  have na : m a = none := na
  have naF : a ≠ F := fun e => by rw [e, hF] at na; cases na
  have notin : ∀ c, D.loc c ∈ es.map (·.2) → c ≠ a ∧ c ≠ F := fun c hc => by
    obtain ⟨z, hz, e2⟩ := List.mem_map.mp hc
    obtain ⟨b, l, g1, g2⟩ := rep.at z hz
    have e2 : z.2 = D.loc c := e2
    rw [g1] at e2
    have e3 := loc_inj e2
    subst e3
    exact ⟨fun e => (by rw [e, na] at g2; cases g2), fun e => (by rw [e, hF] at g2; cases g2)⟩
  have keepa : ∀ b, S.m b ≠ none → b ≠ a := fun b hb e => by
    have := keep b hb
    rw [e, na] at this
    exact hb (by rw [e]; exact this.symm)
  have keepF : ∀ b, S.m b ≠ none → b ≠ F := fun b hb e => hb (e ▸ fr)
  have nSa : S.m a = none := by
    cases hq : S.m a with
    | none => rfl
    | some c => exact absurd rfl (keepa a (by rw [hq]; exact fun z => nomatch z))
  refine ⟨F, es, keyP p, rfl, by show updM m a _ F = _; rw [updM_ne naF.symm]; exact hF, key_plD p, by omega, ?_⟩
  obtain ⟨g1, g2, g3⟩ := rep_set (p := p) (l := l) (a := a) (m' := updM (updM m a (.lst (l.map numD))) F (.dX (putXD es (keyP p) (plD p) (.loc a)))) (by rw [updM_ne naF, updM_same]) rep nd (fun h => (notin a h).1 rfl) (fun c hc => by
    obtain ⟨z1, z2⟩ := notin c hc
    rw [updM_ne z2, updM_ne z1])
  refine hp _ ⟨⟨_, _, rfl, updM_same, g1, g2, fun c hc => ?_, fun b hb => ?_⟩, fr, Nat.le_trans (setM_len p l M) (by omega), setM_size hl fun q hq => Nat.le_trans (hsz q hq) (by omega)⟩
  · rcases g3 _ hc with hc | hc
    · exact fresh c hc
    · rw [loc_inj hc]; exact nSa
  · show updM (updM m a _) F _ b = _
    rw [updM_ne (keepF b hb), updM_ne (keepa b hb)]
    exact keep b hb
theorem eq_txt {a b : Str} {r : Bool} (ha : PyData.strOk a = true) (hb : PyData.strOk b = true) (h : decide (a = b) = r) : eqD false (.str a) (.str b) = some (.bl r) := by
  rw [eqD_str ha hb, if_neg (by decide), h]
theorem rep_val {P : D → SrcT → Prop} {S : SrcT} {ρ : NL.Env} {k : Nat} {p : Span} (hk : ρ[k]? = some (some (spanD p))) (hr : p.1 = none → ∃ h, p.2 = some h) (hp : P (.int (repS p)) S) : (iteF (blT (binF (isND false) (binF idxD (vF k) (cF (.int 0))) (cF .non))) (binF idxD (vF k) (cF (.int 1))) (binF idxD (vF k) (cF (.int 0))) ρ S).sat P := by
  obtain ⟨l, h⟩ := p
  refine iteF_sat (blT_sat (binF_sat (binF_sat (vF_sat hk (cF_sat ⟨oI l, rfl, cF_sat ?_⟩)))))
  cases l with
  | none =>
    obtain ⟨h', e⟩ := hr rfl
    have e : h = some h' := e
    subst e
    refine ⟨_, rfl, true, rfl, ?_⟩
    rw [if_pos rfl]
    exact binF_sat (vF_sat hk (cF_sat ⟨_, rfl, hp⟩))
  | some l =>
    refine ⟨_, rfl, false, rfl, ?_⟩
    rw [if_neg (by decide)]
    exact binF_sat (vF_sat hk (cF_sat ⟨_, rfl, hp⟩))
theorem lone_rep {p : Span} (h : p ∈ loneL) : p.1 = none → ∃ h, p.2 = some h := by
  simp only [loneL, List.mem_cons, List.not_mem_nil, or_false] at h
  rcases h with rfl | rfl | rfl | rfl | rfl <;> first | exact fun _ => ⟨_, rfl⟩ | exact fun h => nomatch h
theorem spans_rep {d : Int} {p : Span} (h : p ∈ spansL d) : p.1 = none → ∃ h, p.2 = some h := by
  rcases List.mem_append.mp h with h | h
  · unfold farSpans at h
    rcases List.mem_append.mp h with h | h
    · simp only [List.mem_cons, List.not_mem_nil, or_false] at h
      rcases h with rfl | rfl
      · exact fun _ => ⟨_, rfl⟩
      · exact fun h => nomatch h
    · split at h
      · rw [List.mem_singleton] at h; subst h; exact fun h => nomatch h
      · cases h
  · obtain ⟨c, rfl, _⟩ := near_mem h
    exact fun h => nomatch h
theorem take_foldl {α β : Type} {f : β → α → β} {l : List α} {i : Nat} {x : α} (h : l[i]? = some x) (b : β) : (l.take (i + 1)).foldl f b = f ((l.take i).foldl f b) x := by
  rw [List.take_add_one, h, List.foldl_append]; rfl
noncomputable def loneBody : Sx := seqS (setS 4 (callK f_place_of (consF (iteF (blT (binF (isND false) (binF idxD (vF 2) (cF (.int 0))) (cF .non))) (binF idxD (vF 2) (cF (.int 1))) (binF idxD (vF 2) (cF (.int 0)))) (consF (vF 3) nilF))))
  (iteS (blT (binF (eqD false) (vF 0) (cF (.str "first"))))
  (exprS (appMF (sdXF (vF 1) (tupF (consF (vF 4) (consF (cF (.str "none")) nilF))) (lstMF nilF)) (consF (tupF (consF (vF 2) (consF (tupF (consF (vF 3) (consF (cF .non) nilF))) nilF))) nilF)))
  (exprS (appMF (sdXF (vF 1) (tupF (consF (cF (.str "none")) (consF (vF 4) nilF))) (lstMF nilF)) (consF (tupF (consF (vF 2) (consF (tupF (consF (cF .non) (consF (vF 3) nilF))) nilF))) nilF))))
theorem lone_one {S S1 : SrcT} {F : Addr} {n : Nat} {M : Menu} {b : Bool} {p : Span} {s : Sg} {v4 : Option D} (h : NB S F n M S1) (hn : n ≤ 1000) (hpl : p ∈ loneL) {PS : Fl × NL.Env → SrcT → Prop}
    (hp : ∀ v4 S2, NB S F (n + 1) (loneStep b p M s) S2 → PS (.nx, [some (.str (if b = true then "first" else "second")), some (.loc F), some (spanD p), some (.str (sgS s)), v4, none, none, none, none, none]) S2) :
    (loneBody [some (.str (if b = true then "first" else "second")), some (.loc F), some (spanD p), some (.str (sgS s)), v4, none, none, none, none, none] S1).sat PS := by
  unfold loneBody
  refine seqS_sat (setS_sat (callK_sat (consF_sat (rep_val rfl (lone_rep hpl) (consF_sat (vF_sat rfl (nilF_sat (placeof_sat (sgS_len s) ?_))))))))
  dsimp only [List.set_cons_succ, List.set_cons_zero]
  refine iteS_sat ?_
  cases b with
  | true =>
    refine blT_sat (binF_sat (vF_sat rfl (cF_sat ⟨_, eq_txt (r := true) (by decide +kernel) (by decide +kernel) (by decide +kernel), true, rfl, ?_⟩)))
    rw [if_pos rfl]
    exact h.add hn rfl (p := loneP true (placeOfS (repS p) (sgS s))) (x := (p, loneN true s)) (fun Q T hq => by walk_at "sx"; exact hq) (fun Q T hq => by walk_at "sx"; exact hq) fun S2 h2 => hp _ S2 h2
  | false =>
    refine blT_sat (binF_sat (vF_sat rfl (cF_sat ⟨_, eq_txt (r := false) (by decide +kernel) (by decide +kernel) (by decide +kernel), false, rfl, ?_⟩)))
    rw [if_neg (by decide)]
    exact h.add hn rfl (p := loneP false (placeOfS (repS p) (sgS s))) (x := (p, loneN false s)) (fun Q T hq => by walk_at "sx"; exact hq) (fun Q T hq => by walk_at "sx"; exact hq) fun S2 h2 => hp _ S2 h2
theorem lone_loop {S S1 : SrcT} {F : Addr} {b : Bool} (h : NB S F 0 [] S1) {PS : Fl × NL.Env → SrcT → Prop} (hp : ∀ ρ S2, NB S F 999 (loneM b loneL) S2 → PS (.ret (.loc F), ρ) S2) :
    ((seqS (forS (seqF (cF c_LONE_SPANS)) (gN 2) (forS (seqF (cF c_SIGNS)) (gN 3) loneBody)) (retS (vF 1))) [some (.str (if b = true then "first" else "second")), some (.loc F), none, none, none, none, none, none, none, none] S1).sat PS := by
  refine seqS_sat (forS_sat (seqF_sat (cF_sat ⟨loneL.map spanD, rfl, ?_⟩)))
  refine for_sat (fun i ρ S' => (∃ v2 v3 v4, ρ = [some (.str (if b = true then "first" else "second")), some (.loc F), v2, v3, v4, none, none, none, none, none]) ∧ NB S F (3 * i) (loneM b (loneL.take i)) S') ?_ ?_ ⟨⟨_, _, _, rfl⟩, h⟩
  · rintro i d ρ S' hd ⟨⟨v2, v3, v4, rfl⟩, hi⟩
    rw [List.getElem?_map] at hd
    obtain ⟨p, hpi, rfl⟩ := Option.map_eq_some_iff.mp hd
    have hi5 : i < 5 := (List.getElem?_eq_some_iff.mp hpi).1
    refine ⟨_, rfl, ?_⟩
    dsimp only [List.set_cons_succ, List.set_cons_zero]
    refine forS_sat (seqF_sat (cF_sat ⟨sgL.map fun s => .str (sgS s), rfl, ?_⟩))
    refine for_sat (fun j ρ S'' => (∃ v3 v4, ρ = [some (.str (if b = true then "first" else "second")), some (.loc F), some (spanD p), v3, v4, none, none, none, none, none]) ∧ NB S F (3 * i + j) ((sgL.take j).foldl (loneStep b p) (loneM b (loneL.take i))) S'') ?_ ?_ ⟨⟨_, _, rfl⟩, hi⟩
    · rintro j d ρ S'' hd ⟨⟨v3, v4, rfl⟩, hj⟩
      rw [List.getElem?_map] at hd
      obtain ⟨s, hsj, rfl⟩ := Option.map_eq_some_iff.mp hd
      have hj3 : j < 3 := (List.getElem?_eq_some_iff.mp hsj).1
      refine ⟨_, rfl, ?_⟩
      dsimp only [List.set_cons_succ, List.set_cons_zero]
      refine lone_one (b := b) hj (by omega) (List.mem_of_getElem? hpi) fun v4 S2 h2 => ?_
      refine ⟨⟨_, _, rfl⟩, ?_⟩
      rw [take_foldl hsj]
      exact h2
    · rintro ρ S'' ⟨⟨v3, v4, rfl⟩, hj⟩
      refine ⟨⟨_, _, _, rfl⟩, ?_⟩
      have e : loneM b (loneL.take (i + 1)) = sgL.foldl (loneStep b p) (loneM b (loneL.take i)) := take_foldl hpi []
      rw [e]
      exact hj
  · rintro ρ S' ⟨⟨v2, v3, v4, rfl⟩, hi⟩
    refine retS_sat (vF_sat rfl (hp _ S' (hi.le (by decide))))
/-! two kept numbers -/
def sgPairD (q : Sg × Sg) : D := .tup [.str (sgS q.1), .str (sgS q.2)]
theorem rest_at (r : Sg) : ixCD c_REST_PLACES (.str (sgS r)) = some (.tup ((RP r).map sgPairD)) := by
  cases r <;> rfl
noncomputable def nearBody : Sx := seqS (setS 9 (tupF (consF (callK f_place_of (consF (vF 7) (consF (binF idxD (vF 8) (cF (.int 0))) nilF))) (consF (callK f_place_of (consF (binF subD (vF 7) (vF 5)) (consF (binF idxD (vF 8) (cF (.int 1))) nilF))) nilF))))
  (exprS (appMF (sdXF (vF 1) (vF 9) (lstMF nilF)) (consF (tupF (consF (vF 2) (consF (vF 8) nilF))) nilF)))
theorem near_one_sat {S S1 : SrcT} {F : Addr} {n : Nat} {M : Menu} {d : Int} {p : Span} {q : Sg × Sg} {v0 v3 v4 v6 v9 : Option D} (h : NB S F n M S1) (hn : n ≤ 1000) {PS : Fl × NL.Env → SrcT → Prop}
    (hp : ∀ v9 S2, NB S F (n + 1) (addM M (placeOfS (repS p) (sgS q.1), placeOfS (repS p - d) (sgS q.2)) (p, (some q.1, some q.2))) S2 → PS (.nx, [v0, some (.loc F), some (spanD p), v3, v4, some (.int d), v6, some (.int (repS p)), some (sgPairD q), v9]) S2) :
    (nearBody [v0, some (.loc F), some (spanD p), v3, v4, some (.int d), v6, some (.int (repS p)), some (sgPairD q), v9] S1).sat PS := by
  unfold nearBody
  refine seqS_sat (setS_sat (tupF_sat (consF_sat (callK_sat (consF_sat (vF_sat rfl (consF_sat (binF_sat (vF_sat rfl (cF_sat ⟨_, rfl, nilF_sat (placeof_sat (sgS_len q.1) ?_)⟩))))))))))
  refine consF_sat (callK_sat (consF_sat (binF_sat (vF_sat rfl (vF_sat rfl ⟨_, rfl, consF_sat (binF_sat (vF_sat rfl (cF_sat ⟨_, rfl, nilF_sat (placeof_sat (sgS_len q.2) (nilF_sat ?_))⟩)))⟩)))))
  dsimp only [List.set_cons_succ, List.set_cons_zero]
  exact h.add hn rfl (p := (placeOfS (repS p) (sgS q.1), placeOfS (repS p - d) (sgS q.2))) (x := (p, (some q.1, some q.2))) (fun Q T hq => vF_sat rfl hq) (fun Q T hq => by walk_at "sx"; exact hq) fun S2 h2 => hp _ S2 h2
noncomputable def spanTwo : Sx := seqS (setS 7 (iteF (blT (binF (isND false) (binF idxD (vF 2) (cF (.int 0))) (cF .non))) (binF idxD (vF 2) (cF (.int 1))) (binF idxD (vF 2) (cF (.int 0)))))
  (iteS (andT (blT (binF (eqD false) (binF idxD (vF 2) (cF (.int 0))) (binF idxD (vF 2) (cF (.int 1))))) (orT (blT (binF ltD (argF absD (consF (vF 7) nilF)) (cF (.int 2)))) (blT (binF ltD (argF absD (consF (binF subD (vF 7) (vF 5)) nilF)) (cF (.int 2))))))
  (forS (seqF (unF (ixCD c_REST_PLACES) (vF 6))) (gN 8) nearBody)
  (seqS (setS 9 (tupF (consF (callK f_place_of (consF (vF 7) (consF (cF (.str "=")) nilF))) (consF (callK f_place_of (consF (binF subD (vF 7) (vF 5)) (consF (cF (.str "=")) nilF))) nilF))))
  (putXS (vF 1) (vF 9) (cellF (lcF [8] (seqF (unF (ixCD c_REST_PLACES) (vF 6))) (gN 8) yesT (tupF (consF (vF 2) (consF (vF 8) nilF))))))))
theorem abs2_eq (x : Int) : decide ((if x < 0 then -x else x) < 2) = abs2 x := by
  unfold abs2
  by_cases h : x < 0
  · rw [if_pos h]; exact decide_eq_decide.mpr ⟨fun h => by omega, fun h => by omega⟩
  · rw [if_neg h]; exact decide_eq_decide.mpr ⟨fun h => by omega, fun h => by omega⟩
theorem eq_oI (a b : Option Int) : eqD false (oI a) (oI b) = some (.bl (decide (a = b))) := by
  cases a <;> cases b
  · rfl
  · rfl
  · rfl
  · rename_i x y
    show eqD false (.int x) (.int y) = _
    unfold eqD
    show (if _ then some (D.bl (if false = true then _ else PyData.eqv (.int x) (.int y))) else none) = _
    rw [if_pos (show (SeqAt.shaped (PyData.int x) && SeqAt.shaped (PyData.int y)) = true from rfl), if_neg (by decide), eqv_ints]
    congr 2
    exact decide_eq_decide.mpr ⟨fun h => by rw [h], fun h => Option.some.inj h⟩
theorem RP_len (r : Sg) : (RP r).length ≤ 5 := by cases r <;> decide
theorem span_two_sat {S S1 : SrcT} {F : Addr} {n : Nat} {M : Menu} {d : Int} {r : Sg} {p : Span} {v0 v3 v4 v7 v8 v9 : Option D} (h : NB S F n M S1) (hn : n ≤ 900) (hpl : p ∈ spansL d) {PS : Fl × NL.Env → SrcT → Prop}
    (hp : ∀ v7 v8 v9 S2, NB S F (n + 5) (twoStep d r M p) S2 → PS (.nx, [v0, some (.loc F), some (spanD p), v3, v4, some (.int d), some (.str (sgS r)), v7, v8, v9]) S2) :
    (spanTwo [v0, some (.loc F), some (spanD p), v3, v4, some (.int d), some (.str (sgS r)), v7, v8, v9] S1).sat PS := by
  unfold spanTwo
  refine seqS_sat (setS_sat (rep_val rfl (spans_rep hpl) ?_))
  dsimp only [List.set_cons_succ, List.set_cons_zero]
  refine iteS_sat (andT_sat (blT_sat (binF_sat (binF_sat (vF_sat rfl (cF_sat ⟨oI p.1, rfl, binF_sat (vF_sat rfl (cF_sat ⟨oI p.2, rfl, _, eq_oI _ _, _, rfl, ?_⟩))⟩))))))
  have near : ∀ {b : Bool}, b = nearB d p → (if b = true then ((forS (seqF (unF (ixCD c_REST_PLACES) (vF 6))) (gN 8) nearBody) [v0, some (.loc F), some (spanD p), v3, v4, some (.int d), some (.str (sgS r)), some (.int (repS p)), v8, v9] S1).sat PS else
      ((seqS (setS 9 (tupF (consF (callK f_place_of (consF (vF 7) (consF (cF (.str "=")) nilF))) (consF (callK f_place_of (consF (binF subD (vF 7) (vF 5)) (consF (cF (.str "=")) nilF))) nilF))))
      (putXS (vF 1) (vF 9) (cellF (lcF [8] (seqF (unF (ixCD c_REST_PLACES) (vF 6))) (gN 8) yesT (tupF (consF (vF 2) (consF (vF 8) nilF))))))) [v0, some (.loc F), some (spanD p), v3, v4, some (.int d), some (.str (sgS r)), some (.int (repS p)), v8, v9] S1).sat PS) := fun {b} eb => by
    subst eb
    unfold twoStep at hp
    cases hb : nearB d p with
    | true =>
      rw [hb] at hp
      rw [if_pos rfl] at hp ⊢
      refine forS_sat (seqF_sat (unF_sat (vF_sat rfl ⟨_, rest_at r, (RP r).map sgPairD, rfl, ?_⟩)))
      refine for_sat (fun j ρ S'' => (∃ v8 v9, ρ = [v0, some (.loc F), some (spanD p), v3, v4, some (.int d), some (.str (sgS r)), some (.int (repS p)), v8, v9]) ∧ NB S F (n + j) (((RP r).take j).foldl (fun M q => addM M (placeOfS (repS p) (sgS q.1), placeOfS (repS p - d) (sgS q.2)) (p, (some q.1, some q.2))) M) S'') ?_ ?_ ⟨⟨_, _, rfl⟩, h⟩
      · rintro j x ρ S'' hd ⟨⟨v8, v9, rfl⟩, hj⟩
        rw [List.getElem?_map] at hd
        obtain ⟨q, hqj, rfl⟩ := Option.map_eq_some_iff.mp hd
        have hj5 : j < (RP r).length := (List.getElem?_eq_some_iff.mp hqj).1
        have := RP_len r
        refine ⟨_, rfl, ?_⟩
        dsimp only [List.set_cons_succ, List.set_cons_zero]
        refine near_one_sat hj (by omega) fun v9 S2 h2 => ?_
        refine ⟨⟨_, _, rfl⟩, ?_⟩
        rw [take_foldl hqj]
        exact h2
      · rintro ρ S'' ⟨⟨v8, v9, rfl⟩, hj⟩
        rw [List.length_map, List.take_length] at hj
        exact hp _ _ _ S'' (hj.le (by have := RP_len r; omega))
    | false =>
      rw [hb] at hp
      rw [if_neg (by decide)] at hp ⊢
      refine seqS_sat (setS_sat (tupF_sat (consF_sat (callK_sat (consF_sat (vF_sat rfl (consF_sat (cF_sat (nilF_sat (placeof_sat (by decide) ?_))))))))))
      refine consF_sat (callK_sat (consF_sat (binF_sat (vF_sat rfl (vF_sat rfl ⟨_, rfl, consF_sat (cF_sat (nilF_sat (placeof_sat (by decide) (nilF_sat ?_))))⟩)))))
      dsimp only [List.set_cons_succ, List.set_cons_zero]
      refine h.set (by omega) (l := (RP r).map fun q => (p, (some q.1, some q.2))) (by rw [List.length_map]; have := RP_len r; omega) rfl (p := (placeOfS (repS p) "=", placeOfS (repS p - d) "=")) (fun Q T hq => vF_sat rfl hq) (fun Q T hq => ?_) fun S2 h2 => hp _ _ _ S2 h2
      refine lcF_sat (seqF_sat (unF_sat (vF_sat rfl ⟨_, rest_at r, (RP r).map sgPairD, rfl, ?_⟩)))
      refine ⟨by rw [List.length_map]; have := RP_len r; omega, lc_mapM (φ := sgPairD) (xs := RP r) (fun q => numD (p, (some q.1, some q.2))) (fun q _ => ⟨_, rfl, yesT_sat ⟨rfl, rfl⟩, by walk_at "sx"; exact ⟨rfl, rfl⟩⟩) ?_⟩
      rw [List.map_map] at hq
      exact hq
  unfold nearB at near
  by_cases e : p.1 = p.2
  · rw [decide_eq_true e]
    rw [if_pos rfl]
    refine orT_sat (blT_sat (binF_sat (argF_sat (consF_sat (vF_sat rfl (nilF_sat ⟨_, rfl, cF_sat ⟨_, rfl, _, rfl, ?_⟩⟩))))))
    rw [decide_eq_true e, Bool.true_and] at near
    by_cases h1 : abs2 (repS p) = true
    · rw [if_pos (by show decide ((if repS p < 0 then -(repS p) else repS p) < 2) = true; rw [abs2_eq]; exact h1)]
      have := near (b := true) (by rw [h1]; rfl)
      exact this
    · rw [if_neg (by show ¬ decide ((if repS p < 0 then -(repS p) else repS p) < 2) = true; rw [abs2_eq]; exact h1)]
      have h1 : abs2 (repS p) = false := by simpa using h1
      refine blT_sat (binF_sat (argF_sat (consF_sat (binF_sat (vF_sat rfl (vF_sat rfl ⟨_, rfl, nilF_sat ⟨_, rfl, cF_sat ⟨_, rfl, _, rfl, ?_⟩⟩⟩))))))
      have := near (b := abs2 (repS p - d)) (by rw [h1, Bool.false_or])
      rw [← abs2_eq] at this
      exact this
  · rw [decide_eq_false e]
    rw [if_neg (by decide)]
    have := near (b := false) (by rw [decide_eq_false e]; rfl)
    exact this
theorem flt_two (d : Int) (r : Sg) : flt1 (.tup [.int d, .str (sgS r)]) = true := by
  show (flt (.int d) && (flt (.str (sgS r)) && true)) = true
  rw [show flt (.str (sgS r)) = true from sgS_ok r]; rfl
theorem spans_len (d : Int) : (spansL d).length ≤ 20 := by
  have f : (farSpans d).length ≤ 3 := by unfold farSpans; split <;> simp
  have n : ∀ c : Int, ((some c, some c) :: (if c + d ∈ ([-1, 0, 1] : List Int) then [] else [(some (c + d), some (c + d))]) : List Span).length ≤ 2 := by intro c; split <;> simp
  unfold spansL nearSpans
  rw [List.length_append]
  simp only [List.flatMap_cons, List.flatMap_nil, List.length_append, List.length_nil]
  have := n (-1); have := n 0; have := n 1
  omega
theorem numbers_sat {P : D → SrcT → Prop} {S : SrcT} {g : Gp} (hp : ∀ F S', NB S F 999 (menuOf g) S' → P (.loc F) S') : (f_numbers_by_places [gpD g] S).sat P := by
  refine fnF_sat (by cases g <;> rfl) ?_
  unfold b_numbers_by_places
  cases g with
  | none =>
    refine seqS_sat (iteS_sat (blT_sat (binF_sat (vF_sat rfl (cF_sat ⟨_, eq_txt (r := true) (by decide +kernel) (by decide +kernel) (by decide +kernel), true, rfl, ?_⟩)))))
    rw [if_pos rfl]
    refine retS_sat (disp1XF_sat (viaD (d := plD ("none", "none")) (S := S) (fun Q hq => by walk_at "sx"; exact hq) ?_))
    refine lstMF_sat (consF_sat (viaD (d := numD ((some 0, some 0), (none, none))) (S := S) (fun Q hq => by walk_at "sx"; exact hq) (nilF_sat fun a na => ?_)))
    refine ⟨_, keyP ("none", "none"), rfl, rfl, fun F nF => hp F _ ?_⟩
    have nF : updM S.m a (.lst [numD ((some 0, some 0), (none, none))]) F = none := nF
    have neF : F ≠ a := fun e => by rw [e, updM_same] at nF; cases nF
    rw [updM_ne neF] at nF
    refine ⟨⟨_, [(plD ("none", "none"), .loc a)], rfl, updM_same, .cons ⟨rfl, a, rfl, ?_⟩ .nil, by simp, fun c hc => ?_, fun b hb => ?_⟩, nF, by decide, fun q hq => ?_⟩
    · show updM (updM S.m a _) F _ a = _
      rw [updM_ne neF.symm, updM_same]; rfl
    · have : D.loc c = D.loc a := by simpa using hc
      rw [loc_inj this]; exact na
    · show updM (updM S.m a _) F _ b = _
      rw [updM_ne (fun e => hb (by rw [e]; exact nF)), updM_ne (fun e => hb (by rw [e]; exact na))]
    · rw [menuOf, List.mem_singleton] at hq; subst hq; decide
  | first =>
    refine seqS_sat (iteS_sat (blT_sat (binF_sat (vF_sat rfl (cF_sat ⟨_, eq_txt (r := false) (by decide +kernel) (by decide +kernel) (by decide +kernel), false, rfl, ?_⟩)))))
    rw [if_neg (by decide)]
    refine nilS_sat ?_
    refine seqS_sat (setS_sat (newMF_sat fun F nF => ?_))
    dsimp only [List.set_cons_succ, List.set_cons_zero]
    refine seqS_sat (iteS_sat (tstF_sat (unF_sat (vF_sat rfl ⟨_, rfl, true, rfl, ?_⟩))))
    rw [if_pos rfl]
    exact lone_loop (b := true) (NB.start nF) fun _ S2 h2 => hp F S2 h2
  | second =>
    refine seqS_sat (iteS_sat (blT_sat (binF_sat (vF_sat rfl (cF_sat ⟨_, eq_txt (r := false) (by decide +kernel) (by decide +kernel) (by decide +kernel), false, rfl, ?_⟩)))))
    rw [if_neg (by decide)]
    refine nilS_sat ?_
    refine seqS_sat (setS_sat (newMF_sat fun F nF => ?_))
    dsimp only [List.set_cons_succ, List.set_cons_zero]
    refine seqS_sat (iteS_sat (tstF_sat (unF_sat (vF_sat rfl ⟨_, rfl, true, rfl, ?_⟩))))
    rw [if_pos rfl]
    exact lone_loop (b := false) (NB.start nF) fun _ S2 h2 => hp F S2 h2
  | two d r =>
    refine seqS_sat (iteS_sat (blT_sat (binF_sat (vF_sat rfl (cF_sat ⟨.bl false, ?_, false, rfl, ?_⟩)))))
    · exact eqF_flt (flt_two d r) (by decide +kernel) (b := false) ⟨fun h => (nomatch h), fun h => (nomatch h)⟩
    rw [if_neg (by decide)]
    refine nilS_sat ?_
    refine seqS_sat (setS_sat (newMF_sat fun F nF => ?_))
    dsimp only [List.set_cons_succ, List.set_cons_zero]
    refine seqS_sat (iteS_sat (tstF_sat (unF_sat (vF_sat rfl ⟨_, rfl, false, rfl, ?_⟩))))
    rw [if_neg (by decide)]
    refine nilS_sat ?_
    refine seqS_sat (asgS_sat (vF_sat rfl ⟨_, rfl, ?_⟩))
    dsimp only [List.set_cons_succ, List.set_cons_zero]
    refine seqS_sat (forS_sat (seqF_sat (callK_sat (consF_sat (vF_sat rfl (nilF_sat (spans_sat ⟨(spansL d).map spanD, rfl, ?_⟩)))))))
    have hlen := spans_len d
    refine for_sat (fun i ρ S' => (∃ v0 v2 v3 v4 v7 v8 v9, ρ = [v0, some (.loc F), v2, v3, v4, some (.int d), some (.str (sgS r)), v7, v8, v9]) ∧ NB S F (5 * i) (twoM d r ((spansL d).take i)) S') ?_ ?_ ⟨⟨_, _, _, _, _, _, _, rfl⟩, NB.start nF⟩
    · rintro i x ρ S' hd ⟨⟨v0, v2, v3, v4, v7, v8, v9, rfl⟩, hi⟩
      rw [List.getElem?_map] at hd
      obtain ⟨p, hpi, rfl⟩ := Option.map_eq_some_iff.mp hd
      have hi5 : i < (spansL d).length := (List.getElem?_eq_some_iff.mp hpi).1
      refine ⟨_, rfl, ?_⟩
      dsimp only [List.set_cons_succ, List.set_cons_zero]
      refine span_two_sat hi (by omega) (List.mem_of_getElem? hpi) fun v7 v8 v9 S2 h2 => ?_
      refine ⟨⟨_, _, _, _, _, _, _, rfl⟩, ?_⟩
      have e : twoM d r ((spansL d).take (i + 1)) = twoStep d r (twoM d r ((spansL d).take i)) p := take_foldl hpi []
      rw [e]
      exact h2
    · rintro ρ S' ⟨⟨v0, v2, v3, v4, v7, v8, v9, rfl⟩, hi⟩
      rw [List.length_map, List.take_length] at hi
      exact retS_sat (vF_sat rfl (hp F S' (hi.le (by omega))))
/-! what the program does with a menu -/
def bhD : Bh → D
  | .word g => gpD g
  | .span l h s => .tup [oI l, oI h, .str (sgS s)]
def kD (k : Bool × Bool) : D := .tup [.bl k.1, .bl k.2]
/-- signs that go with a gap -/
def shapeN : Gp → Sn → Prop
  | .none, n => n = (none, none)
  | .first, n => ∃ s, n = (some s, none)
  | .second, n => ∃ s, n = (none, some s)
  | .two _ _, n => ∃ a b, n = (some a, some b)
theorem okN_shape {g : Gp} {c : Int} {n : Sn} (h : okN g c n) : shapeN g n := by
  cases g with
  | none => exact h.2
  | first => exact h
  | second => exact h
  | two d r => obtain ⟨q, _, e⟩ := h; exact ⟨_, _, e⟩
theorem turnedspan_sat {P : D → SrcT → Prop} {S : SrcT} {p : Span} {d : Int} (hp : P (spanD (turnSp p d)) S) : (f_turned_span [spanD p, .int d] S).sat P := by
  refine fnF_sat rfl ?_
  unfold b_turned_span
  obtain ⟨l, h⟩ := p
  cases l <;> cases h <;> (walk_at "sx"; exact hp)
theorem eq_two (d : Int) (r : Sg) (w : Str) (hw : PyData.strOk w = true) : eqD false (.tup [.int d, .str (sgS r)]) (.str w) = some (.bl false) :=
  eqF_flt (flt_two d r) hw (b := false) ⟨fun h => (nomatch h), fun h => (nomatch h)⟩
def isG (g h : Gp) : Bool := decide (g = h)
theorem gp_eq_none (g : Gp) : eqD false (gpD g) (.str "none") = some (.bl (isG g .none)) := by
  cases g
  · exact eq_txt (by decide +kernel) (by decide +kernel) (by decide +kernel)
  · exact eq_txt (by decide +kernel) (by decide +kernel) (by decide +kernel)
  · exact eq_txt (by decide +kernel) (by decide +kernel) (by decide +kernel)
  · exact eq_two _ _ _ (by decide +kernel)
theorem gp_eq_first (g : Gp) : eqD false (gpD g) (.str "first") = some (.bl (isG g .first)) := by
  cases g
  · exact eq_txt (by decide +kernel) (by decide +kernel) (by decide +kernel)
  · exact eq_txt (by decide +kernel) (by decide +kernel) (by decide +kernel)
  · exact eq_txt (by decide +kernel) (by decide +kernel) (by decide +kernel)
  · exact eq_two _ _ _ (by decide +kernel)
theorem gp_eq_second (g : Gp) : eqD false (gpD g) (.str "second") = some (.bl (isG g .second)) := by
  cases g
  · exact eq_txt (by decide +kernel) (by decide +kernel) (by decide +kernel)
  · exact eq_txt (by decide +kernel) (by decide +kernel) (by decide +kernel)
  · exact eq_txt (by decide +kernel) (by decide +kernel) (by decide +kernel)
  · exact eq_two _ _ _ (by decide +kernel)
theorem turned_at (s : Sg) : ixCD c_TURNED_SIGNS (.str (sgS s)) = some (.str (sgS s.t)) := by cases s <;> rfl
theorem gap_sat {P : D → SrcT → Prop} {S : SrcT} {g : Gp} {p : Span} {n : Sn} {k : Bool × Bool} (hn : shapeN g n) (hp : P (bhD (behindP g (p, n) k)) S) : (f_gap_behind [gpD g, spanD p, snD n, kD k] S).sat P := by
  refine fnF_sat rfl ?_
  unfold b_gap_behind
  obtain ⟨k1, k2⟩ := k
  refine seqS_sat (iteS_sat (andT_sat (tstF_sat (binF_sat (vF_sat rfl (cF_sat ⟨_, rfl, k1, rfl, ?_⟩))))))
  have rest : ∀ (Q : Fl × NL.Env → SrcT → Prop), (k1 = true → k2 = false) → (∀ d, P d S → Q (.ret d, [some (gpD g), some (spanD p), some (snD n), some (kD (k1, k2))]) S) → ((seqS (iteS (blT (binF (eqD false) (vF 0) (cF (.str "none"))))
      (retS (iteF (tstF (binF idxD (vF 3) (cF (.int 0)))) (cF (.str "first")) (iteF (tstF (binF idxD (vF 3) (cF (.int 1)))) (cF (.str "second")) (cF (.str "none")))))
      nilS)
      (seqS (iteS (blT (binF (eqD false) (vF 0) (cF (.str "first"))))
      (retS (iteF (tstF (binF idxD (vF 3) (cF (.int 1)))) (binF addD (vF 1) (tupF (consF (binF idxD (vF 2) (cF (.int 0))) nilF))) (cF (.str "first"))))
      nilS)
      (seqS (iteS (blT (binF (eqD false) (vF 0) (cF (.str "second"))))
      (retS (iteF (tstF (binF idxD (vF 3) (cF (.int 0)))) (binF addD (callF f_turned_span (consF (vF 1) (consF (cF (.int 0)) nilF))) (tupF (consF (unF (ixCD c_TURNED_SIGNS) (binF idxD (vF 2) (cF (.int 1)))) nilF))) (cF (.str "second"))))
      nilS)
      (seqS (iteS (tstF (binF idxD (vF 3) (cF (.int 0))))
      (retS (binF addD (callF f_turned_span (consF (vF 1) (consF (binF idxD (vF 0) (cF (.int 0))) nilF))) (tupF (consF (unF (ixCD c_TURNED_SIGNS) (binF idxD (vF 2) (cF (.int 1)))) nilF))))
      nilS)
      (retS (iteF (tstF (binF idxD (vF 3) (cF (.int 1)))) (binF addD (vF 1) (tupF (consF (binF idxD (vF 2) (cF (.int 0))) nilF))) (tupF (consF (binF idxD (vF 0) (cF (.int 0))) (consF (binF idxD (vF 0) (cF (.int 0))) (consF (binF idxD (vF 0) (cF (.int 1))) nilF)))))))))) [some (gpD g), some (spanD p), some (snD n), some (kD (k1, k2))] S).sat Q := fun Q hk hq => by
    have add3 : ∀ (q : Span) (z : Str), addD (spanD q) (.tup [.str z]) = some (.tup [oI q.1, oI q.2, .str z]) := fun q z => rfl
    refine seqS_sat (iteS_sat (blT_sat (binF_sat (vF_sat rfl (cF_sat ⟨_, gp_eq_none g, _, rfl, ?_⟩)))))
    cases g with
    | none =>
      refine NL.ifT (by decide) ?_
      cases k1
      · cases k2 <;> (walk_at "sx"; exact hq _ hp)
      · have := hk rfl
        subst this
        walk_at "sx"; exact hq _ hp
    | first =>
      refine NL.ifF (by decide) ?_
      obtain ⟨s, rfl⟩ := hn
      refine nilS_sat (seqS_sat (iteS_sat (blT_sat (binF_sat (vF_sat rfl (cF_sat ⟨_, gp_eq_first .first, _, rfl, ?_⟩))))))
      refine NL.ifT (by decide) ?_
      cases k2
      · refine retS_sat (iteF_sat (tstF_sat (binF_sat (vF_sat rfl (cF_sat ⟨_, rfl, false, rfl, ?_⟩)))))
        rw [if_neg (by decide)]
        refine cF_sat (hq _ ?_)
        cases k1
        · exact hp
        · exact hp
      · have : k1 = false := by cases k1; rfl; exact nomatch hk rfl
        subst this
        refine retS_sat (iteF_sat (tstF_sat (binF_sat (vF_sat rfl (cF_sat ⟨_, rfl, true, rfl, ?_⟩)))))
        rw [if_pos rfl]
        refine binF_sat (vF_sat rfl (tupF_sat (consF_sat (binF_sat (vF_sat rfl (cF_sat ⟨_, rfl, nilF_sat ⟨_, add3 p (sgS s), hq _ hp⟩⟩))))))
    | second =>
      refine NL.ifF (by decide) ?_
      obtain ⟨s, rfl⟩ := hn
      refine nilS_sat (seqS_sat (iteS_sat (blT_sat (binF_sat (vF_sat rfl (cF_sat ⟨_, gp_eq_first .second, _, rfl, ?_⟩))))))
      refine NL.ifF (by decide) ?_
      refine nilS_sat (seqS_sat (iteS_sat (blT_sat (binF_sat (vF_sat rfl (cF_sat ⟨_, gp_eq_second .second, _, rfl, ?_⟩))))))
      refine NL.ifT (by decide) ?_
      cases k1
      · refine retS_sat (iteF_sat (tstF_sat (binF_sat (vF_sat rfl (cF_sat ⟨_, rfl, false, rfl, ?_⟩)))))
        rw [if_neg (by decide)]
        refine cF_sat (hq _ ?_)
        cases k2
        · exact hp
        · exact hp
      · have := hk rfl
        subst this
        refine retS_sat (iteF_sat (tstF_sat (binF_sat (vF_sat rfl (cF_sat ⟨_, rfl, true, rfl, ?_⟩)))))
        rw [if_pos rfl]
        refine binF_sat (callF_sat (consF_sat (vF_sat rfl (consF_sat (cF_sat (nilF_sat (turnedspan_sat ?_)))))))
        refine tupF_sat (consF_sat (unF_sat (binF_sat (vF_sat rfl (cF_sat ⟨_, rfl, _, turned_at s, nilF_sat ⟨_, add3 _ _, hq _ hp⟩⟩)))))
    | two d r =>
      refine NL.ifF (show isG (.two d r) .none = false from decide_eq_false (fun h => nomatch h)) ?_
      obtain ⟨a, b, rfl⟩ := hn
      refine nilS_sat (seqS_sat (iteS_sat (blT_sat (binF_sat (vF_sat rfl (cF_sat ⟨_, gp_eq_first (.two d r), _, rfl, ?_⟩))))))
      refine NL.ifF (show isG (.two d r) .first = false from decide_eq_false (fun h => nomatch h)) ?_
      refine nilS_sat (seqS_sat (iteS_sat (blT_sat (binF_sat (vF_sat rfl (cF_sat ⟨_, gp_eq_second (.two d r), _, rfl, ?_⟩))))))
      refine NL.ifF (show isG (.two d r) .second = false from decide_eq_false (fun h => nomatch h)) ?_
      refine nilS_sat (seqS_sat (iteS_sat (tstF_sat (binF_sat (vF_sat rfl (cF_sat ⟨_, rfl, k1, rfl, ?_⟩))))))
      cases k1
      · rw [if_neg (by decide)]
        refine nilS_sat (retS_sat (iteF_sat (tstF_sat (binF_sat (vF_sat rfl (cF_sat ⟨_, rfl, k2, rfl, ?_⟩))))))
        cases k2
        · rw [if_neg (by decide)]
          walk_at "sx"; exact hq _ hp
        · rw [if_pos rfl]
          refine binF_sat (vF_sat rfl (tupF_sat (consF_sat (binF_sat (vF_sat rfl (cF_sat ⟨_, rfl, nilF_sat ⟨_, add3 p (sgS a), hq _ hp⟩⟩))))))
      · rw [if_pos rfl]
        have := hk rfl
        subst this
        refine retS_sat (binF_sat (callF_sat (consF_sat (vF_sat rfl (consF_sat (binF_sat (vF_sat rfl (cF_sat ⟨.int d, rfl, nilF_sat (turnedspan_sat ?_)⟩))))))))
        refine tupF_sat (consF_sat (unF_sat (binF_sat (vF_sat rfl (cF_sat ⟨_, rfl, _, turned_at b, nilF_sat ⟨_, add3 _ _, hq _ hp⟩⟩)))))
  cases k1
  · rw [if_neg (by decide), if_neg (by decide)]
    exact nilS_sat (rest _ (fun h => nomatch h) fun d hd => hd)
  · rw [if_pos rfl]
    refine tstF_sat (binF_sat (vF_sat rfl (cF_sat ⟨_, rfl, k2, rfl, ?_⟩)))
    cases k2
    · rw [if_neg (by decide)]
      exact nilS_sat (rest _ (fun _ => rfl) fun d hd => hd)
    · rw [if_pos rfl]
      walk_at "sx"
      exact hp
/-! keys -/
def keyO : Option Int → NestedKey
  | none => .none
  | some i => .num i
def keyG : Gp → NestedKey
  | .none => .text "none"
  | .first => .text "first"
  | .second => .text "second"
  | .two d s => .tup [.num d, .text (sgS s)]
def keyBh : Bh → NestedKey
  | .word g => keyG g
  | .span l h s => .tup [keyO l, keyO h, .text (sgS s)]
theorem key_gp (g : Gp) : keyN (gpD g) = some (keyG g) := by cases g <;> rfl
theorem key_bh (b : Bh) : keyN (bhD b) = some (keyBh b) := by
  cases b with
  | word g => exact key_gp g
  | span l h s => cases l <;> cases h <;> rfl
theorem keyO_inj {a b : Option Int} (h : keyO a = keyO b) : a = b := by
  cases a <;> cases b
  · rfl
  · cases h
  · cases h
  · injection h with h; rw [h]
theorem keyG_inj {a b : Gp} (h : keyG a = keyG b) : a = b := by
  cases a <;> cases b <;> first
    | rfl
    | (injection h with h; exact absurd h (by decide +kernel))
    | cases h
    | (injection h with h
       injection h with h1 h2
       injection h1 with h1
       injection h2 with h2 _
       injection h2 with h2
       rw [h1, sgS_inj h2])
theorem keyBh_inj {a b : Bh} (h : keyBh a = keyBh b) : a = b := by
  cases a with
  | word g => cases b with
    | word g' => rw [keyG_inj h]
    | span l hh s =>
      have h : keyG g = .tup [keyO l, keyO hh, .text (sgS s)] := h
      cases g with
      | two d r => injection h with h; injection h with _ h; injection h with _ h; cases h
      | _ => cases h
  | span l hh s => cases b with
    | word g' =>
      have h : NestedKey.tup [keyO l, keyO hh, .text (sgS s)] = keyG g' := h
      cases g' with
      | two d r => injection h with h; injection h with _ h; injection h with _ h; cases h
      | _ => cases h
    | span l' hh' s' =>
      injection h with h
      injection h with h1 h
      injection h with h2 h
      injection h with h3 _
      injection h3 with h3
      rw [keyO_inj h1, keyO_inj h2, sgS_inj h3]
/-- some cells more, the old ones as they were -/
def Ext (S S' : SrcT) : Prop := ∃ m', S' = { S with m := m' } ∧ ∀ b, S.m b ≠ none → m' b = S.m b
theorem Ext.refl (S : SrcT) : Ext S S := ⟨S.m, rfl, fun _ _ => rfl⟩
theorem Ext.trans {S S1 S2 : SrcT} (h1 : Ext S S1) (h2 : Ext S1 S2) : Ext S S2 := by
  obtain ⟨m1, rfl, k1⟩ := h1
  obtain ⟨m2, rfl, k2⟩ := h2
  exact ⟨m2, rfl, fun b hb => by rw [k2 b (by show m1 b ≠ none; rw [k1 b hb]; exact hb)]; exact k1 b hb⟩
theorem Ext.at {S S' : SrcT} (h : Ext S S') {a : Addr} {c : MC} (hc : S.m a = some c) : S'.m a = some c := by
  obtain ⟨m', rfl, k⟩ := h
  show m' a = _
  rw [k a (by rw [hc]; exact fun z => nomatch z), hc]
theorem Ext.put {S : SrcT} {a : Addr} {c : MC} (h : S.m a = none) : Ext S (S.put a c) := ⟨_, rfl, fun b hb => updM_ne fun e => hb (e ▸ h)⟩
theorem Ext.c {S S' : SrcT} (h : Ext S S') : S'.c = S.c := by obtain ⟨m', rfl, _⟩ := h; rfl
/-! outcomes -/
def entD (g : Gp) (k : Bool × Bool) (x : NumP) : D × D := (bhD (behindP g x k), .tup [spanD x.1, snD x.2])
def outD (g : Gp) (k : Bool × Bool) (x : NumP) : D := .tup [bhD (behindP g x k), spanD x.1, snD x.2]
def OutL (g : Gp) (k : Bool × Bool) (l ys : List NumP) : Prop := (∀ y ∈ ys, y ∈ l) ∧ ∀ x ∈ l, ∃ y ∈ ys, behindP g y k = behindP g x k
theorem ent_at {g : Gp} {k : Bool × Bool} {b : Bh} : ∀ ys : List NumP, (valXD (ys.map (entD g k)) (keyBh b) = none ∧ ∀ y v, putXD (ys.map (entD g k)) (keyBh b) y v = ys.map (entD g k) ++ [(y, v)]) ∨ ((∃ v, valXD (ys.map (entD g k)) (keyBh b) = some v) ∧ ∃ y ∈ ys, behindP g y k = b)
  | [] => .inl ⟨rfl, fun _ _ => rfl⟩
  | y :: ys => by
    have hk : keyN (entD g k y).1 = some (keyBh (behindP g y k)) := key_bh _
    by_cases e : behindP g y k = b
    · right
      refine ⟨⟨(entD g k y).2, ?_⟩, y, List.mem_cons_self, e⟩
      rw [List.map_cons]; unfold valXD; rw [hk, if_pos (by rw [e])]
    · have hne : ¬ some (keyBh (behindP g y k)) = some (keyBh b) := fun h => e (keyBh_inj (Option.some.inj h))
      rcases ent_at (g := g) (k := k) (b := b) ys with ⟨h1, h2⟩ | ⟨⟨v, h1⟩, z, hz, h2⟩
      · left
        rw [List.map_cons]
        refine ⟨by unfold valXD; rw [hk, if_neg hne]; exact h1, fun y v => by unfold putXD; rw [hk, if_neg hne, h2]; rfl⟩
      · right
        rw [List.map_cons]
        exact ⟨⟨v, by unfold valXD; rw [hk, if_neg hne]; exact h1⟩, z, List.mem_cons_of_mem _ hz, h2⟩
theorem outcomes_sat {P : D → SrcT → Prop} {S : SrcT} {g : Gp} {k : Bool × Bool} {l : List NumP} {a : Addr} (ha : S.m a = some (.lst (l.map numD))) (hl : l.length ≤ 2000) (hs : ∀ x ∈ l, shapeN g x.2) (hp : ∀ ys S', OutL g k l ys → ys.length ≤ l.length → Ext S S' → P (.lst (ys.map (outD g k))) S') : (f_outcomes_of [gpD g, kD k, .loc a] S).sat P := by
  refine fnF_sat rfl ?_
  unfold b_outcomes_of
  refine seqS_sat (setS_sat (newMF_sat fun F nF => ?_))
  dsimp only [List.set_cons_succ, List.set_cons_zero]
  have neF : F ≠ a := fun e => by rw [e, ha] at nF; cases nF
  refine seqS_sat (forHS_sat (vF_sat rfl ⟨a, .lst (l.map numD), l.map numD, ?_, ?_⟩))
  · show (match updM S.m F (.dX []) a with | some (.lst ds) => _ | some (.dX es) => _ | _ => none) = _
    rw [updM_ne neF.symm, ha]; rfl
  refine for_sat (fun i ρ S' => (∃ v4 v5, ρ = [some (gpD g), some (kD k), some (.loc a), some (.loc F), v4, v5, none]) ∧ ∃ m' ys, S' = { S with m := m' } ∧ m' F = some (.dX (ys.map (entD g k))) ∧ ys.length ≤ i ∧ OutL g k (l.take i) ys ∧ ∀ b, b ≠ F → b ≠ a → m' b = S.m b) ?_ ?_ ⟨⟨_, _, rfl⟩, _, [], rfl, ?_, Nat.le_refl _, ⟨fun _ h => (nomatch h), fun _ h => (nomatch h)⟩, fun b h1 h2 => ?_⟩
  · rintro i d ρ S' hd ⟨⟨v4, v5, rfl⟩, m', ys, rfl, hF, hlen, hout, hoth⟩
    rw [List.getElem?_map] at hd
    obtain ⟨x, hx, rfl⟩ := Option.map_eq_some_iff.mp hd
    have hxl : x ∈ l := List.mem_of_getElem? hx
    have hi : i < l.length := (List.getElem?_eq_some_iff.mp hx).1
    have htk : l.take (i + 1) = l.take i ++ [x] := by rw [List.take_add_one, hx]; rfl
    refine ⟨_, rfl, ?_⟩
    dsimp only [List.set_cons_succ, List.set_cons_zero]
    refine exprS_sat (sdXF_sat (vF_sat rfl ⟨F, _, rfl, hF, callK_sat (consF_sat (vF_sat rfl (consF_sat (vF_sat rfl (consF_sat (vF_sat rfl (consF_sat (vF_sat rfl (nilF_sat (gap_sat (p := x.1) (n := x.2) (hs x hxl) ?_))))))))))⟩))
    refine tupF_sat (consF_sat (vF_sat rfl (consF_sat (vF_sat rfl (nilF_sat ⟨_, keyBh (behindP g x k), hF, key_bh _, by rw [List.length_map]; omega, ?_⟩)))))
    rcases ent_at (g := g) (k := k) (b := behindP g x k) ys with ⟨h1, h2⟩ | ⟨⟨v, h1⟩, y, hy, h2⟩
    · rw [h1]
      dsimp only
      rw [h2]
      refine ⟨⟨_, _, rfl⟩, _, ys ++ [x], rfl, by rw [List.map_append]; exact updM_same, by rw [List.length_append]; exact Nat.succ_le_succ hlen, ⟨fun y hy => ?_, fun y hy => ?_⟩, fun b hb1 hb2 => ?_⟩
      · rw [htk]
        rcases List.mem_append.mp hy with hy | hy
        · exact List.mem_append_left _ (hout.1 y hy)
        · exact List.mem_append_right _ hy
      · rw [htk] at hy
        rcases List.mem_append.mp hy with hy | hy
        · obtain ⟨z, hz, e⟩ := hout.2 y hy
          exact ⟨z, List.mem_append_left _ hz, e⟩
        · rw [List.mem_singleton] at hy; subst hy
          exact ⟨y, List.mem_append_right _ (List.mem_singleton.mpr rfl), rfl⟩
      · rw [updM_ne hb1]; exact hoth b hb1 hb2
    · rw [h1]
      dsimp only
      refine ⟨⟨_, _, rfl⟩, m', ys, rfl, hF, Nat.le_succ_of_le hlen, ⟨fun y hy => ?_, fun z hz => ?_⟩, hoth⟩
      · rw [htk]; exact List.mem_append_left _ (hout.1 y hy)
      · rw [htk] at hz
        rcases List.mem_append.mp hz with hz | hz
        · exact hout.2 z hz
        · rw [List.mem_singleton] at hz; subst hz
          exact ⟨y, hy, h2⟩
  · rintro ρ S' ⟨⟨v4, v5, rfl⟩, m', ys, rfl, hF, hlen, hout, hoth⟩
    rw [List.length_map] at hlen hout
    rw [List.take_length] at hout
    refine retS_sat (lcHF_sat (vF_sat rfl ⟨F, .dX (ys.map (entD g k)), (ys.map (entD g k)).map fun e => .tup [e.1, e.2], ?_, by rw [List.length_map, List.length_map]; omega, ?_⟩))
    · show (match updM m' a (.lst (l.map numD)) F with | some (.lst ds) => _ | some (.dX es) => _ | _ => none) = _
      rw [updM_ne neF, hF]; rfl
    rw [List.map_map]
    refine lc_mapM (φ := fun x => D.tup [(entD g k x).1, (entD g k x).2]) (xs := ys) (outD g k) (fun x _ => ⟨_, rfl, yesT_sat ⟨rfl, rfl⟩, by walk_at "sx"; exact ⟨rfl, rfl⟩⟩) ?_
    refine hp ys _ hout hlen ⟨_, rfl, fun b hb => ?_⟩
    have hbF : b ≠ F := fun e => hb (e ▸ nF)
    show updM (fun b => if b = F then none else updM m' a (.lst (l.map numD)) b) F (.dX (ys.map (entD g k))) b = S.m b
    rw [updM_ne hbF, if_neg hbF]
    by_cases e : b = a
    · subst e; rw [updM_same, ha]
    · rw [updM_ne e]; exact hoth b hbF e
  · show (if F = a then none else updM S.m F (.dX []) F) = _
    rw [if_neg neF, updM_same]; rfl
  · show (if b = a then none else updM S.m F (.dX []) b) = _
    rw [if_neg h2, updM_ne h1]
theorem flt_oI (o : Option Int) : flt (oI o) = true := by cases o <;> rfl
theorem flt_gp (g : Gp) : flt1 (gpD g) = true := by
  cases g with
  | two d s => exact flt_two d s
  | _ => decide +kernel
theorem gpD_inj {g g' : Gp} (h : gpD g = gpD g') : g = g' := keyG_inj (Option.some.inj (by rw [← key_gp g, ← key_gp g', h]))
theorem flt_bh (b : Bh) : flt1 (bhD b) = true := by
  cases b with
  | word g => exact flt_gp g
  | span l h s =>
    show ([oI l, oI h, .str (sgS s)].all flt) = true
    rw [List.all_cons, List.all_cons, List.all_cons, flt_oI, flt_oI, show flt (.str (sgS s)) = true from sgS_ok s]; rfl
/-! which gaps stand behind a number -/
def leO (l : Option Int) (d : Int) : Bool := match l with
  | none => true
  | some a => decide (a ≤ d)
def geO (d : Int) (h : Option Int) : Bool := match h with
  | none => true
  | some b => decide (d ≤ b)
def withinB : Bh → Gp → Bool
  | .word g, g' => decide (g = g')
  | .span l h s, .two d s' => decide (s = s') && (leO l d && geO d h)
  | .span _ _ _, _ => false
theorem withinB_iff {b : Bh} {g : Gp} : withinB b g = true ↔ within b g := by
  cases b with
  | word h => exact decide_eq_true_iff
  | span l h s => cases g with
    | two d s' =>
      show (decide (s = s') && (leO l d && geO d h)) = true ↔ s = s' ∧ inSpan d (l, h)
      rw [Bool.and_eq_true, Bool.and_eq_true, decide_eq_true_iff]
      refine and_congr Iff.rfl (and_congr ?_ ?_)
      · cases l with
        | none => exact ⟨fun _ x hx => (nomatch hx), fun _ => rfl⟩
        | some a => exact ⟨fun h x hx => by cases hx; exact of_decide_eq_true h, fun h => decide_eq_true (h a rfl)⟩
      · cases h with
        | none => exact ⟨fun _ x hx => (nomatch hx), fun _ => rfl⟩
        | some a => exact ⟨fun h x hx => by cases hx; exact of_decide_eq_true h, fun h => decide_eq_true (h a rfl)⟩
    | _ => exact ⟨fun h => (nomatch h), fun h => h.elim⟩
/-- a text, or not -/
def isW : Gp → Bool
  | .two _ _ => false
  | _ => true
def wordB : Bh → Bool
  | .word _ => true
  | .span _ _ _ => false
/-- words only for gaps that are words -/
def fineBh : Bh → Prop
  | .word g => isW g = true
  | _ => True
theorem behind_fine (g : Gp) (x : NumP) (k : Bool × Bool) : fineBh (behindP g x k) := by
  obtain ⟨k1, k2⟩ := k
  cases k1 <;> cases k2 <;> cases g <;> first | exact True.intro | exact rfl
theorem isStr_gp (g : Gp) : isStr (gpD g) = some (.bl (isW g)) := by cases g <;> rfl
theorem isStr_bh {b : Bh} (h : fineBh b) : isStr (bhD b) = some (.bl (wordB b)) := by
  cases b with
  | word g => rw [show bhD (.word g) = gpD g from rfl, isStr_gp, h]; rfl
  | span l hh s => rfl
noncomputable def withinT : Sx := (seqS (iteS (orT (tstF (unF isStr (vF 0))) (tstF (unF isStr (vF 1))))
  (retS (binF (eqD false) (vF 0) (vF 1)))
  nilS)
  (seqS (asgS (vF 0) (gT 3 (gsCons (gN 2) (gsCons (gN 3) (gsCons (gN 4) gsNil)))))
  (retS (andF (binF (eqD false) (vF 4) (binF idxD (vF 1) (cF (.int 1)))) (andF (orF (binF (isND false) (vF 2) (cF .non)) (binF leD (vF 2) (binF idxD (vF 1) (cF (.int 0))))) (orF (binF (isND false) (vF 3) (cF .non)) (binF leD (binF idxD (vF 1) (cF (.int 0))) (vF 3))))))))
theorem withinT_sat {P : D → SrcT → Prop} {S : SrcT} {b : Bh} {g : Gp} (hb : fineBh b) (hp : P (.bl (withinB b g)) S) : (withinT [some (bhD b), some (gpD g), none, none, none] S).sat fun r S' => match r with
      | (.ret d, _) => P d S'
      | (.nx, _) => P .non S'
      | _ => False := by
  unfold withinT
  refine seqS_sat (iteS_sat (orT_sat (tstF_sat (unF_sat (vF_sat rfl ⟨_, isStr_bh hb, wordB b, rfl, ?_⟩)))))
  cases b with
  | word h =>
    refine NL.ifT rfl ?_
    rw [if_pos rfl]
    refine retS_sat (binF_sat (vF_sat rfl (vF_sat rfl ⟨_, eqF_flt (flt_bh _) (flt_gp g) (b := withinB (.word h) g) ?_, hp⟩)))
    show decide (h = g) = true ↔ gpD h = gpD g
    rw [decide_eq_true_iff]
    exact ⟨fun e => by rw [e], gpD_inj⟩
  | span l h s =>
    refine NL.ifF rfl ?_
    refine tstF_sat (unF_sat (vF_sat rfl ⟨_, isStr_gp g, isW g, rfl, ?_⟩))
    have other : isW g = true → ∀ Q : Fl × NL.Env → SrcT → Prop, Q (.ret (.bl false), [some (bhD (.span l h s)), some (gpD g), none, none, none]) S → ((retS (binF (eqD false) (vF 0) (vF 1))) [some (bhD (.span l h s)), some (gpD g), none, none, none] S).sat Q := fun hw Q hq => by
      refine retS_sat (binF_sat (vF_sat rfl (vF_sat rfl ⟨_, eqF_flt (flt_bh _) (flt_gp g) (b := false) ?_, hq⟩)))
      refine ⟨fun z => (nomatch z), fun e => ?_⟩
      cases g with
      | two d r => cases hw
      | _ => cases e
    cases g with
    | two d r =>
      clear other
      refine NL.ifF rfl ?_
      refine nilS_sat (seqS_sat (asgS_sat (vF_sat rfl ⟨_, rfl, ?_⟩)))
      dsimp only [List.set_cons_succ, List.set_cons_zero]
      have es : ∀ s r : Sg, eqD false (.str (sgS s)) (.str (sgS r)) = some (.bl (decide (s = r))) := fun s r => by cases s <;> cases r <;> exact eq_txt (by decide +kernel) (by decide +kernel) (by decide +kernel)
      refine retS_sat (andF_sat (binF_sat (vF_sat (d := .str (sgS s)) rfl (binF_sat (vF_sat rfl (cF_sat ⟨.str (sgS r), rfl, _, es s r, _, rfl, ?_⟩))))))
      have hw : withinB (.span l h s) (.two d r) = (decide (s = r) && (leO l d && geO d h)) := rfl
      rw [hw] at hp
      cases hd : decide (s = r) with
      | false => rw [hd] at hp; rw [if_neg (by decide)]; exact hp
      | true =>
        rw [hd, Bool.true_and] at hp
        rw [if_pos rfl]
        refine andF_sat (orF_sat (binF_sat (vF_sat (d := oI l) rfl (cF_sat ?_))))
        have hh : ∀ {Q : D → SrcT → Prop}, (geO d h = true → Q (.bl true) S) → (geO d h = false → Q (.bl false) S) → ((orF (binF (isND false) (vF 3) (cF .non)) (binF leD (binF idxD (vF 1) (cF (.int 0))) (vF 3))) [some (bhD (.span l h s)), some (gpD (.two d r)), some (oI l), some (oI h), some (.str (sgS s))] S).sat Q := fun {Q} q1 q2 => by
          refine orF_sat (binF_sat (vF_sat (d := oI h) rfl (cF_sat ?_)))
          cases h with
          | none => exact ⟨_, rfl, true, rfl, by rw [if_pos rfl]; exact q1 rfl⟩
          | some b =>
            refine ⟨_, rfl, false, rfl, ?_⟩
            rw [if_neg (by decide)]
            refine binF_sat (binF_sat (vF_sat rfl (cF_sat ⟨.int d, rfl, vF_sat (d := .int b) rfl ⟨_, rfl, ?_⟩⟩)))
            show Q (.bl (decide (d ≤ b))) S
            cases e : decide (d ≤ b) with
            | true => exact q1 e
            | false => exact q2 e
        cases l with
        | none =>
          refine ⟨_, rfl, true, rfl, ?_⟩
          rw [if_pos rfl]
          refine ⟨true, rfl, ?_⟩
          rw [if_pos rfl]
          exact hh (fun e => by rw [e] at hp; exact hp) fun e => by rw [e] at hp; exact hp
        | some a =>
          refine ⟨_, rfl, false, rfl, ?_⟩
          rw [if_neg (by decide)]
          refine binF_sat (vF_sat (d := .int a) rfl (binF_sat (vF_sat rfl (cF_sat ⟨.int d, rfl, _, rfl, decide (a ≤ d), rfl, ?_⟩))))
          have hl : leO (some a) d = decide (a ≤ d) := rfl
          rw [hl] at hp
          cases e : decide (a ≤ d) with
          | false => rw [e] at hp; rw [if_neg (by decide)]; exact hp
          | true =>
            rw [e, Bool.true_and] at hp
            rw [if_pos rfl]
            exact hh (fun e => by rw [e] at hp; exact hp) fun e => by rw [e] at hp; exact hp
    | none => exact NL.ifT rfl (other rfl _ hp)
    | first => exact NL.ifT rfl (other rfl _ hp)
    | second => exact NL.ifT rfl (other rfl _ hp)
theorem within_sat {P : D → SrcT → Prop} {S : SrcT} {b : Bh} {g : Gp} (hb : fineBh b) (hp : P (.bl (withinB b g)) S) : (f_is_within [bhD b, gpD g] S).sat P := fnF_sat rfl (withinT_sat hb hp)
theorem inD_strsU (neg : Bool) (y : Str) (ts : List Str) : inD neg (.str y) (.tup (ts.map .str)) = some (.bl (if neg then !decide (y ∈ ts) else decide (y ∈ ts))) := by
  have e1 : (ts.map D.str).map vOf = ts.map V.str := by rw [List.map_map]; rfl
  show (if _ then some (D.bl (if neg then !inV (.str y) ((ts.map D.str).map vOf) else inV (.str y) ((ts.map D.str).map vOf))) else none) = _
  rw [e1, inV_strs, if_pos]
  simp [isSc]
/-! what the program says of two loops -/
theorem word_ok {rs : List Rule} (hr : ∀ r ∈ rs, wfRule r = true) (s p : Str) : PyData.strOk (usedR rs s p).1 = true := by
  cases h : fitIdx rs s p with
  | none => rw [fit_none h]; exact (by decide +kernel : PyData.strOk ("pass" : Str) = true)
  | some i =>
    obtain ⟨r, h1, h2⟩ := fit_some h
    rw [h2]
    exact name_ok (wf_parts (hr r (List.mem_of_getElem? h1))).2.1
def LoopsD (r1 r2 : List Rule) : D := .obj "Loops" [("one", .loop r1 []), ("other", .loop r2 []), ("by", .str "all")]
theorem in_all (w : Str) (hw : PyData.strOk w = true) : inD false (.str "all") (.tup [.str w, .str "all"]) = some (.bl true) := by
  have e := inD_strsU false "all" [w, "all"]
  simpa using e
theorem react_sat {P : D → SrcT → Prop} {S : SrcT} {r1 r2 : List Rule} {s o p1 p2 : Str} (w1 : ∀ r ∈ r1, wfRule r = true) (w2 : ∀ r ∈ r2, wfRule r = true)
    (hp : ∀ ev, P (.tup [.str (usedR r1 s p1).2.2, .str (usedR r2 o p2).2.2, .bl (usedR r1 s p1).2.1, .bl (usedR r2 o p2).2.1, .bl ev]) S) : (f_Loops_react [LoopsD r1 r2, .str s, .str o, .str p1, .str p2] S).sat P := by
  refine fnF_sat rfl ?_
  unfold b_Loops_react
  walk_at "e0"
  refine seqS_sat (asgS_sat (callF_sat (consF_sat (fldOF_sat (vF_sat rfl ⟨_, rfl, .loop r1 [], rfl, consF_sat (vF_sat rfl (consF_sat (vF_sat rfl (nilF_sat (used_sat ⟨_, rfl, ?_⟩)))))⟩)))))
  dsimp only [List.set_cons_succ, List.set_cons_zero]
  refine seqS_sat (asgS_sat (callF_sat (consF_sat (fldOF_sat (vF_sat rfl ⟨_, rfl, .loop r2 [], rfl, consF_sat (vF_sat rfl (consF_sat (vF_sat rfl (nilF_sat (used_sat ⟨_, rfl, ?_⟩)))))⟩)))))
  dsimp only [List.set_cons_succ, List.set_cons_zero]
  refine seqS_sat (setS_sat (andF_sat (binF_sat (fldOF_sat (vF_sat rfl ⟨_, rfl, .str "all", rfl, tupF_sat (consF_sat (cF_sat (consF_sat (cF_sat (nilF_sat ⟨_, in_all "words" (by decide +kernel), true, rfl, ?_⟩)))))⟩)))))
  rw [if_pos rfl]
  refine binF_sat (vF_sat rfl (vF_sat rfl ⟨_, eqD_str (word_ok w1 s p1) (word_ok w2 o p2), ?_⟩))
  dsimp only [List.set_cons_succ, List.set_cons_zero]
  refine seqS_sat (setS_sat (orF_sat (vF_sat rfl ⟨_, rfl, ?_⟩)))
  have fin : ∀ ev, ((retS (tupF (consF (vF 7) (consF (vF 10) (consF (vF 6) (consF (vF 9) (consF (vF 11) nilF))))))) [some (LoopsD r1 r2), some (.str s), some (.str o), some (.str p1), some (.str p2), some (.str (usedR r1 s p1).1), some (.bl (usedR r1 s p1).2.1), some (.str (usedR r1 s p1).2.2), some (.str (usedR r2 o p2).1), some (.bl (usedR r2 o p2).2.1), some (.str (usedR r2 o p2).2.2), some (.bl ev)] S).sat fun r S' => match r with
      | (.ret d, _) => P d S'
      | (.nx, _) => P .non S'
      | _ => False := fun ev => by
    refine retS_sat (tupF_sat (consF_sat (vF_sat rfl (consF_sat (vF_sat rfl (consF_sat (vF_sat rfl (consF_sat (vF_sat rfl (consF_sat (vF_sat rfl (nilF_sat ?_))))))))))) )
    exact hp ev
  cases hb : decide ((usedR r1 s p1).1 = (usedR r2 o p2).1) with
  | false =>
    rw [if_pos (by simp)]
    exact fin _
  | true =>
    rw [if_neg (by simp)]
    refine andF_sat (binF_sat (fldOF_sat (vF_sat rfl ⟨_, rfl, .str "all", rfl, tupF_sat (consF_sat (cF_sat (consF_sat (cF_sat (nilF_sat ⟨_, in_all "keeps" (by decide +kernel), true, rfl, ?_⟩)))))⟩)))
    rw [if_pos rfl]
    refine binF_sat (vF_sat rfl (vF_sat rfl ⟨_, eqD_bool, ?_⟩))
    exact fin _
/-! the menu, as it is told -/
theorem lc_cons {g : Tgt} {c : Tst} {Fe : Ex} {d : D} {ds : List D} {ρ ρ1 : NL.Env} {S : SrcT} {P : List D → SrcT → Prop} (hg : g d ρ = some ρ1) (h : (c ρ1 S).sat fun b S1 => if b = true then (Fe ρ1 S1).sat fun y S2 => (lcGo g c Fe ρ ds S2).sat fun ys S3 => P (y :: ys) S3 else (lcGo g c Fe ρ ds S1).sat P) : (lcGo g c Fe ρ (d :: ds) S).sat P := by
  rw [lcGo, hg]
  dsimp only
  rw [sat_bind]
  refine h.mono fun b S1 hb => ?_
  cases b with
  | false => rw [if_neg (by decide)] at hb ⊢; exact hb
  | true =>
    rw [if_pos rfl] at hb ⊢
    rw [sat_bind]
    refine hb.mono fun y S2 h2 => ?_
    rw [sat_bind]
    exact h2
def kOf (r1 r2 : List Rule) (s o : Str) (q : (Str × Str) × List NumP) : Bool × Bool := ((usedR r1 s q.1.1).2.1, (usedR r2 o q.1.2).2.1)
def keyK (k : Bool × Bool) : NestedKey := .tup [.num (if k.1 = true then 1 else 0), .num (if k.2 = true then 1 else 0)]
theorem key_kD (k : Bool × Bool) : keyN (kD k) = some (keyK k) := rfl
/-- cells of a told menu, new since m0 -/
def RelI (m0 m : Addr → Option MC) (q : (Str × Str) × List NumP) (d : D) : Prop := ∃ a c es, d = .tup [plD q.1, .loc a, .loc c] ∧ m a = some (.lst (q.2.map numD)) ∧ m c = some (.dX es) ∧ (∀ k, valXD es (keyK k) = none) ∧ es.length ≤ 2000 ∧ m0 a = none ∧ m0 c = none
def cellOf (d : D) : D := match d with
  | .tup [_, _, x] => x
  | _ => .non
abbrev RepI (m0 m : Addr → Option MC) : Menu → List D → Prop := Paired (RelI m0 m)
/-- the same while it is made -/
def RelA (N : Addr → Prop) (m0 m : Addr → Option MC) (q : (Str × Str) × List NumP) (d : D) : Prop := ∃ a c, d = .tup [plD q.1, .loc a, .loc c] ∧ m0 a = some (.lst (q.2.map numD)) ∧ m c = some (.dX []) ∧ m0 c = none ∧ N a
noncomputable def atBody : Ex := tupF (consF (vF 2) (consF (vF 3) (consF (newMF (.dX [])) nilF)))
theorem at_loop {N : Addr → Prop} {ρ : NL.Env} (hρ : ∃ x0 x1, ρ = [x0, x1, none, none]) {P : List D → SrcT → Prop} : ∀ {M : Menu} {es : List (D × D)} {S : SrcT}, RepQ S.m M es → (∀ c, D.loc c ∈ es.map (·.2) → N c) → (∀ ds S', Ext S S' → Paired (RelA N S.m S'.m) M ds → (ds.map cellOf).Nodup → (∀ c, D.loc c ∈ ds.map cellOf → S.m c = none) → P ds S') → (lcGo (gT 2 (gsCons (gN 2) (gsCons (gN 3) gsNil))) yesT atBody ρ (es.map fun e => .tup [e.1, e.2]) S).sat P
  | [], [], S, .nil, hN, h => h [] S (Ext.refl S) .nil .nil fun c hc => nomatch hc
  | q :: M, e :: es, S, .cons ⟨r1, a, r2, r3⟩ t, hN, h => by
    obtain ⟨x0, x1, rfl⟩ := hρ
    rw [List.map_cons]
    refine lc_cons (ρ1 := [x0, x1, some e.1, some e.2]) rfl (yesT_sat ?_)
    rw [if_pos rfl]
    unfold atBody
    refine tupF_sat (consF_sat (vF_sat rfl (consF_sat (vF_sat rfl (consF_sat (newMF_sat fun c nc => nilF_sat ?_))))))
    have x := Ext.put (c := .dX []) nc
    have ec : (S.put c (.dX [])).m c = some (.dX []) := updM_same
    have old : ∀ {b : Addr} {y : MC}, (S.put c (.dX [])).m b = some y → b ≠ c → S.m b = some y := fun {b y} h hb => by
      have h : updM S.m c (.dX []) b = some y := h
      rw [updM_ne hb] at h; exact h
    have old0 : ∀ {b : Addr}, (S.put c (.dX [])).m b = none → S.m b = none := fun {b} h => by
      cases hq : S.m b with
      | none => rfl
      | some y => rw [x.at hq] at h; cases h
    refine at_loop ⟨x0, x1, rfl⟩ (S := S.put c (.dX [])) (RepQ.same t fun b hb => ?_) (fun b hb => hN b (List.mem_cons_of_mem _ hb)) fun ds S' h1 h2 h3 h4 => ?_
    · obtain ⟨z, hz, e2⟩ := List.mem_map.mp hb
      obtain ⟨b', l, g1, g2⟩ := RepQ.at t z hz
      have e2 : z.2 = D.loc b := e2
      rw [g1] at e2
      have e3 := loc_inj e2
      subst e3
      exact updM_ne fun e => by rw [e, nc] at g2; cases g2
    · refine h _ S' (x.trans h1) (.cons ⟨a, c, by rw [r1, r2], r3, h1.at updM_same, nc, hN a (by rw [List.map_cons, r2]; exact List.mem_cons_self)⟩ (Paired.mono (fun q d ⟨a, c', e, k1, k2, k3, k4⟩ => ⟨a, c', e, old k1 (fun e => by rw [e, ec] at k1; cases k1), k2, old0 k3, k4⟩) h2)) ?_ fun b hb => ?_
      · rw [List.map_cons, List.nodup_cons]
        refine ⟨fun hc => ?_, h3⟩
        have hc : D.loc c ∈ ds.map cellOf := hc
        have := h4 c hc
        rw [ec] at this
        cases this
      · rw [List.map_cons] at hb
        rcases List.mem_cons.mp hb with hb | hb
        · rw [loc_inj hb]; exact nc
        · exact old0 (h4 b hb)
theorem NB.rest {S : SrcT} {F : Addr} {n : Nat} {M : Menu} {S' : SrcT} (h : NB S F n M S') : ∃ es, S'.m F = some (.dX es) ∧ RepQ S'.m M es ∧ Ext S S' ∧ es.length ≤ n ∧ (∀ c, D.loc c ∈ es.map (·.2) → c ≠ F ∧ S.m c = none) := by
  obtain ⟨⟨m, es, rfl, hF, rep, nd, fresh, keep⟩, fr, hlen, hsz⟩ := h
  refine ⟨es, hF, rep, ⟨m, rfl, keep⟩, by rw [← Paired.length rep]; exact hlen, fun c hc => ⟨fun e => ?_, fresh c hc⟩⟩
  subst e
  obtain ⟨z, hz, e2⟩ := List.mem_map.mp hc
  obtain ⟨b', l, g1, g2⟩ := RepQ.at rep z hz
  have e2 : z.2 = D.loc c := e2
  rw [g1] at e2
  have e3 := loc_inj e2
  subst e3
  rw [hF] at g2; cases g2
theorem rep_keys {m : Addr → Option MC} (k : Bool × Bool) : ∀ {M : Menu} {es : List (D × D)}, RepQ m M es → valXD es (keyK k) = none
  | _, _, .nil => rfl
  | q :: _, e :: _, .cons r t => by
    unfold valXD
    rw [r.1, key_plD, if_neg]
    · exact rep_keys k t
    · intro h
      have h := Option.some.inj h
      injection h with h
      injection h with h _
      cases h
theorem at_sat {P : D → SrcT → Prop} {S : SrcT} {g : Gp} {x dx K : Addr} (hx : S.m x = some (.obj "Menus" dx [("known", .loc K)])) (hK : S.m K = some (.dX []))
    (hp : ∀ ds S', (∃ m', S' = { S with m := m' } ∧ ∀ b, S.m b ≠ none → b ≠ K → m' b = S.m b) → RepI S.m S'.m (menuOf g) ds → (ds.map cellOf).Nodup → ((menuOf g).length ≤ 999 ∧ ∀ q ∈ menuOf g, q.2.length ≤ 999) → P (.lst ds) S') : (f_Menus_at [.loc x, gpD g] S).sat P := by
  have neK : x ≠ K := fun e => by rw [e, hK] at hx; cases hx
  refine fnF_sat rfl ?_
  unfold b_Menus_at
  walk_at "e0"
  refine seqS_sat (iteS_sat (blT_sat (inXF_sat (vF_sat rfl (fldMF_sat (vF_sat rfl ⟨[("known", .loc K)], ?_, .loc K, rfl, K, [], keyG g, rfl, hK, key_gp g, true, rfl, ?_⟩))))))
  · show (match S.m x with | some (.obj c' _ fs) => if c' = "Menus" then some fs else none | _ => none) = _
    rw [hx]; dsimp only; rw [if_pos rfl]
  rw [if_pos rfl]
  refine putXS_sat (lcHF_sat (callF_sat (consF_sat (vF_sat rfl (nilF_sat (numbers_sat fun F S1 hb => ?_))))))
  obtain ⟨es, hF, rep, ext, hlen, hne⟩ := hb.rest
  refine ⟨F, .dX es, es.map fun e => .tup [e.1, e.2], ?_, by rw [List.length_map]; omega, ?_⟩
  · show (match S1.m F with | some (.lst ds) => _ | some (.dX es) => _ | _ => none) = _
    rw [hF]; rfl
  have hFn : S.m F = none := hb.fr
  have neF : F ≠ K := fun e => by rw [e, hK] at hFn; cases hFn
  refine at_loop (ρ := [some (.loc x), some (gpD g), none, none]) ⟨_, _, rfl⟩ (S := S1.hide F) (N := fun a => a ≠ F ∧ S.m a = none) (RepQ.same rep fun c hc => if_neg (hne c hc).1) hne fun ds S2 e2 rep2 nd2 fr2 => ?_
  obtain ⟨m1, rfl, k1⟩ := ext
  obtain ⟨m2, rfl, k2⟩ := e2
  -- what was there, is there
  have keep1 : ∀ b, S.m b ≠ none → m2 b = S.m b ∧ b ≠ F := fun b hb => by
    have hbF : b ≠ F := fun e => hb (e ▸ hFn)
    have e1 : (if b = F then none else m1 b) = m1 b := if_neg hbF
    have := k2 b (by show (if b = F then none else m1 b) ≠ none; rw [e1, k1 b hb]; exact hb)
    refine ⟨?_, hbF⟩
    rw [this]
    show (if b = F then none else m1 b) = _
    rw [e1, k1 b hb]
  have keep : ∀ b, S.m b ≠ none → updM m2 F (.dX es) b = S.m b := fun b hb => by
    rw [updM_ne (keep1 b hb).2]; exact (keep1 b hb).1
  have hxx := keep x (by rw [hx]; exact fun z => nomatch z)
  have hKK := keep K (by rw [hK]; exact fun z => nomatch z)
  rw [hx] at hxx
  rw [hK] at hKK
  refine fldMF_sat (vF_sat rfl ⟨[("known", .loc K)], ?_, .loc K, rfl, ?_⟩)
  · show (match updM m2 F (.dX es) x with | some (.obj c' _ fs) => if c' = "Menus" then some fs else none | _ => none) = _
    rw [hxx]; dsimp only; rw [if_pos rfl]
  refine vF_sat rfl ⟨K, [], keyG g, rfl, hKK, key_gp g, by decide, ?_⟩
  refine retS_sat (getXF_sat (fldMF_sat (vF_sat rfl ⟨[("known", .loc K)], ?_, .loc K, rfl, ?_⟩)))
  · show (match updM (updM m2 F (.dX es)) K (.dX (putXD [] (keyG g) (gpD g) (.lst ds))) x with | some (.obj c' _ fs) => if c' = "Menus" then some fs else none | _ => none) = _
    rw [updM_ne neK, hxx]; dsimp only; rw [if_pos rfl]
  refine vF_sat rfl ⟨K, _, keyG g, .lst ds, rfl, updM_same, key_gp g, ?_, ?_⟩
  · show (if keyN (gpD g) = some (keyG g) then some (D.lst ds) else none) = _
    rw [if_pos (key_gp g)]
  refine hp ds _ ⟨_, rfl, fun b hb hbK => by rw [updM_ne hbK]; exact keep b hb⟩ ?_ nd2 ⟨hb.len, hb.sz⟩
  refine Paired.mono (fun q d ⟨a, c, e, h1, h2, h3, h4, h5⟩ => ?_) rep2
  have h1' : m2 a = some (.lst (q.2.map numD)) := by rw [k2 a (by rw [h1]; exact fun z => nomatch z)]; exact h1
  have hKm : m2 K = some (.dX []) := by rw [(keep1 K (by rw [hK]; exact fun z => nomatch z)).1, hK]
  have naK : a ≠ K := fun e => by rw [e, hKm] at h1'; cases h1'
  have ncK : c ≠ K := fun e => by
    have h3 : (if c = F then none else m1 c) = none := h3
    rw [e, if_neg neF.symm, k1 K (by rw [hK]; exact fun z => nomatch z), hK] at h3
    cases h3
  have hcn : S.m c = none := by
    by_cases e : c = F
    · rw [e]; exact hFn
    · have h3 : (if c = F then none else m1 c) = none := h3
      rw [if_neg e] at h3
      cases hq : S.m c with
      | none => rfl
      | some y => rw [k1 c (by rw [hq]; exact fun z => nomatch z), hq] at h3; cases h3
  have ha' : updM (updM m2 F (.dX es)) K (.dX (putXD [] (keyG g) (gpD g) (.lst ds))) a = some (.lst (q.2.map numD)) := by
    rw [updM_ne naK, updM_ne h4]; exact h1'
  by_cases e2 : c = F
  · refine ⟨a, c, es, e, ha', ?_, fun k => rep_keys k rep, by omega, h5, hcn⟩
    show updM (updM m2 F (.dX es)) K _ c = _
    rw [updM_ne ncK, e2, updM_same]
  · refine ⟨a, c, [], e, ha', ?_, fun k => rfl, by decide, h5, hcn⟩
    show updM (updM m2 F (.dX es)) K _ c = _
    rw [updM_ne ncK, updM_ne e2]; exact h2
/-! moves -/
def movD (r1 r2 : List Rule) (s o : Str) (g : Gp) (q : (Str × Str) × List NumP) (ev : Bool) (ys : List NumP) : D := .tup [.tup [.str (usedR r1 s q.1.1).2.2, .str (usedR r2 o q.1.2).2.2], .bl ev, kD (kOf r1 r2 s o q), .lst (ys.map (outD g (kOf r1 r2 s o q)))]
def RelM (r1 r2 : List Rule) (s o : Str) (g : Gp) (q : (Str × Str) × List NumP) (d : D) : Prop := ∃ ev ys, OutL g (kOf r1 r2 s o q) q.2 ys ∧ ys.length ≤ q.2.length ∧ d = movD r1 r2 s o g q ev ys
theorem valXD_put {k : NestedKey} {y v : D} (hy : keyN y = some k) : ∀ es : List (D × D), valXD (putXD es k y v) k = some v
  | [] => by unfold putXD valXD; rw [if_pos hy]
  | e :: es => by
    unfold putXD
    by_cases h : keyN e.1 = some k
    · rw [if_pos h]; unfold valXD; rw [if_pos h]
    · rw [if_neg h]; unfold valXD; rw [if_neg h]; exact valXD_put hy es
noncomputable def moveBody : Sx := (seqS (asgS (liftK (methF f_Loops_react (isObjM "Loops" "react") (vF 0) (consF (vF 3) (consF (vF 4) (consF (vF 7) (consF (vF 8) nilF)))))) (gT 5 (gsCons (gN 11) (gsCons (gN 12) (gsCons (gN 13) (gsCons (gN 14) (gsCons (gN 15) gsNil)))))))
  (seqS (setS 16 (tupF (consF (vF 13) (consF (vF 14) nilF))))
  (seqS (iteS (blT (inXF true (vF 16) (vF 10)))
  (putXS (vF 10) (vF 16) (callF f_outcomes_of (consF (vF 5) (consF (vF 16) (consF (vF 9) nilF)))))
  nilS)
  (exprS (appMF (vF 6) (consF (tupF (consF (tupF (consF (vF 11) (consF (vF 12) nilF))) (consF (vF 15) (consF (vF 16) (consF (getXF (vF 10) (vF 16)) nilF))))) nilF))))))
noncomputable def moveT : Tgt := gT 3 (gsCons (gT 2 (gsCons (gN 7) (gsCons (gN 8) gsNil))) (gsCons (gN 9) (gsCons (gN 10) gsNil)))
/-- what one place does -/
def mOut (r1 r2 : List Rule) (s o : Str) (g : Gp) (q : (Str × Str) × List NumP) (es : List (D × D)) (ys : List NumP) : MC := .dX (putXD es (keyK (kOf r1 r2 s o q)) (kD (kOf r1 r2 s o q)) (.lst (ys.map (outD g (kOf r1 r2 s o q)))))
theorem move_kept {r1 r2 : List Rule} {s o : Str} {g : Gp} {v0 v1 v2 : Option D} {Fo : Addr} {q : (Str × Str) × List NumP} {S : SrcT} {a c : Addr} {es : List (D × D)} {movs : List D} {ev : Bool}
    (ha : S.m a = some (.lst (q.2.map numD))) (hc : S.m c = some (.dX es)) (hk : ∀ k, valXD es (keyK k) = none) (hes : es.length ≤ 2000) (hF : S.m Fo = some (.lst movs)) (hcF : c ≠ Fo) (hl : movs.length < 5000) (hql : q.2.length ≤ 2000) (hqs : ∀ x ∈ q.2, shapeN g x.2)
    {PS : Fl × NL.Env → SrcT → Prop} {s' o' : Str} (hs' : s' = (usedR r1 s q.1.1).2.2) (ho' : o' = (usedR r2 o q.1.2).2.2)
    (hp : ∀ ev' ys m1, OutL g (kOf r1 r2 s o q) q.2 ys → ys.length ≤ q.2.length → (∀ b, S.m b ≠ none → m1 b = S.m b) → PS (.nx, [v0, v1, v2, some (.str s), some (.str o), some (gpD g), some (.loc Fo), some (.str q.1.1), some (.str q.1.2), some (.loc a), some (.loc c), some (.str s'), some (.str o'), some (.bl (kOf r1 r2 s o q).1), some (.bl (kOf r1 r2 s o q).2), some (.bl ev), some (kD (kOf r1 r2 s o q))]) { S with m := updM (updM m1 c (mOut r1 r2 s o g q es ys)) Fo (.lst (movs ++ [movD r1 r2 s o g q ev' ys])) }) :
    ((seqS (iteS (blT (inXF true (vF 16) (vF 10)))
  (putXS (vF 10) (vF 16) (callF f_outcomes_of (consF (vF 5) (consF (vF 16) (consF (vF 9) nilF)))))
  nilS)
  (exprS (appMF (vF 6) (consF (tupF (consF (tupF (consF (vF 11) (consF (vF 12) nilF))) (consF (vF 15) (consF (vF 16) (consF (getXF (vF 10) (vF 16)) nilF))))) nilF)))) [v0, v1, v2, some (.str s), some (.str o), some (gpD g), some (.loc Fo), some (.str q.1.1), some (.str q.1.2), some (.loc a), some (.loc c), some (.str s'), some (.str o'), some (.bl (kOf r1 r2 s o q).1), some (.bl (kOf r1 r2 s o q).2), some (.bl ev), some (kD (kOf r1 r2 s o q))] S).sat PS := by
  generalize hkk : kOf r1 r2 s o q = k at hp ⊢
  refine seqS_sat (iteS_sat (blT_sat (inXF_sat (vF_sat (d := kD k) rfl (vF_sat (d := .loc c) rfl ⟨c, es, keyK k, rfl, hc, key_kD _, true, by rw [hk]; rfl, ?_⟩)))))
  refine NL.ifT rfl ?_
  refine putXS_sat (callF_sat (consF_sat (vF_sat (d := gpD g) rfl (consF_sat (vF_sat (d := kD k) rfl (consF_sat (vF_sat (d := .loc a) rfl (nilF_sat (outcomes_sat (l := q.2) ha hql hqs fun ys S1 hout hyl ext => ?_)))))))))
  refine vF_sat (d := .loc c) rfl (vF_sat (d := kD k) rfl ⟨c, es, keyK k, rfl, ext.at hc, key_kD _, by omega, ?_⟩)
  have hF1 : (S1.put c (.dX (putXD es (keyK k) (kD k) (.lst (ys.map (outD g k)))))).m Fo = some (.lst movs) := by
    show updM S1.m c _ Fo = _
    rw [updM_ne hcF.symm]; exact ext.at hF
  refine exprS_sat (appMF_sat (vF_sat (d := .loc Fo) rfl ⟨Fo, rfl, ⟨movs, hF1⟩, consF_sat (tupF_sat (consF_sat (tupF_sat (consF_sat (vF_sat (d := .str s') rfl (consF_sat (vF_sat (d := .str o') rfl (nilF_sat ?_)))))))) ⟩))
  refine consF_sat (vF_sat (d := .bl ev) rfl (consF_sat (vF_sat (d := kD k) rfl (consF_sat (getXF_sat (vF_sat (d := .loc c) rfl (vF_sat (d := kD k) rfl ⟨c, _, keyK k, _, rfl, updM_same, key_kD _, valXD_put (key_kD _) es, nilF_sat (nilF_sat ⟨movs, _, hF1, rfl, by omega, ?_⟩)⟩)))))))
  obtain ⟨m1, rfl, k1⟩ := ext
  have := hp ev ys m1 hout hyl k1
  unfold movD mOut at this
  rw [hkk, ← hs', ← ho'] at this
  exact this
theorem move_one {r1 r2 : List Rule} (w1 : ∀ r ∈ r1, wfRule r = true) (w2 : ∀ r ∈ r2, wfRule r = true) {s o : Str} {g : Gp} {v1 v2 v11 v12 v13 v14 v15 v16 : Option D} {Fo : Addr} {q : (Str × Str) × List NumP} {S : SrcT} {a c : Addr} {es : List (D × D)} {movs : List D}
    (ha : S.m a = some (.lst (q.2.map numD))) (hc : S.m c = some (.dX es)) (hk : ∀ k, valXD es (keyK k) = none) (hes : es.length ≤ 2000) (hF : S.m Fo = some (.lst movs)) (hcF : c ≠ Fo) (hl : movs.length < 5000) (hql : q.2.length ≤ 2000) (hqs : ∀ x ∈ q.2, shapeN g x.2)
    {PS : Fl × NL.Env → SrcT → Prop}
    (hp : ∀ v11 v12 v13 v14 v15 v16 ev ys m1, OutL g (kOf r1 r2 s o q) q.2 ys → ys.length ≤ q.2.length → (∀ b, S.m b ≠ none → m1 b = S.m b) → PS (.nx, [some (LoopsD r1 r2), v1, v2, some (.str s), some (.str o), some (gpD g), some (.loc Fo), some (.str q.1.1), some (.str q.1.2), some (.loc a), some (.loc c), v11, v12, v13, v14, v15, v16]) { S with m := updM (updM m1 c (mOut r1 r2 s o g q es ys)) Fo (.lst (movs ++ [movD r1 r2 s o g q ev ys])) }) :
    (moveBody [some (LoopsD r1 r2), v1, v2, some (.str s), some (.str o), some (gpD g), some (.loc Fo), some (.str q.1.1), some (.str q.1.2), some (.loc a), some (.loc c), v11, v12, v13, v14, v15, v16] S).sat PS := by
  unfold moveBody
  refine seqS_sat (asgS_sat (liftK_sat (methF_sat (vF_sat (d := LoopsD r1 r2) rfl ⟨rfl, consF_sat (vF_sat (d := .str s) rfl (consF_sat (vF_sat (d := .str o) rfl (consF_sat (vF_sat (d := .str q.1.1) rfl (consF_sat (vF_sat (d := .str q.1.2) rfl (nilF_sat (react_sat w1 w2 fun ev => ⟨_, rfl, ?_⟩)))))))))⟩))))
  dsimp only [List.set_cons_succ, List.set_cons_zero]
  refine seqS_sat (setS_sat (tupF_sat (consF_sat (vF_sat rfl (consF_sat (vF_sat rfl (nilF_sat ?_)))))))
  dsimp only [List.set_cons_succ, List.set_cons_zero]
  exact move_kept (r1 := r1) (r2 := r2) (s := s) (o := o) (q := q) ha hc hk hes hF hcF hl hql hqs rfl rfl fun ev' ys m1 h1 h2 h3 => hp _ _ _ _ _ _ ev' ys m1 h1 h2 h3
theorem repI_after {r1 r2 : List Rule} {s o : Str} {g : Gp} {q : (Str × Str) × List NumP} {m0 m m1 : Addr → Option MC} {c Fo : Addr} {es es0 : List (D × D)} {ys : List NumP} {dd : List D} (h0 : m0 Fo ≠ none) (hc : m c = some (.dX es0)) (k1 : ∀ b, m b ≠ none → m1 b = m b) : ∀ {M : Menu} {L : List D}, D.loc c ∉ L.map cellOf → RepI m0 m M L → RepI m0 (updM (updM m1 c (mOut r1 r2 s o g q es ys)) Fo (.lst dd)) M L
  | _, _, _, .nil => .nil
  | q' :: M, d :: L, hc0, .cons r t => by
    obtain ⟨a', c', es', e', ha', hc', hk', hes', fa', fc'⟩ := r
    rw [List.map_cons] at hc0
    refine .cons ⟨a', c', es', e', ?_, ?_, hk', hes', fa', fc'⟩ (repI_after h0 hc k1 (fun h => hc0 (List.mem_cons_of_mem _ h)) t)
    · have n1 : a' ≠ c := fun e => by rw [e, hc] at ha'; cases ha'
      have n0 : a' ≠ Fo := fun e => h0 (by rw [← e]; exact fa')
      rw [updM_ne n0, updM_ne n1, k1 a' (by rw [ha']; exact fun z => nomatch z)]; exact ha'
    · have n1 : c' ≠ c := fun e => hc0 (by rw [e', ← e]; exact List.mem_cons_self)
      have n0 : c' ≠ Fo := fun e => h0 (by rw [← e]; exact fc')
      rw [updM_ne n0, updM_ne n1, k1 c' (by rw [hc']; exact fun z => nomatch z)]; exact hc'
theorem moves_loop {r1 r2 : List Rule} (w1 : ∀ r ∈ r1, wfRule r = true) (w2 : ∀ r ∈ r2, wfRule r = true) {s o : Str} {g : Gp} {v1 v2 : Option D} {Fo : Addr} {m0 : Addr → Option MC} (h0 : m0 Fo ≠ none) {P : Fl × NL.Env → SrcT → Prop} : ∀ {M : Menu} {ds : List D} {S : SrcT} {movs : List D} {ρ : NL.Env}, (∃ v7 v8 v9 v10 v11 v12 v13 v14 v15 v16, ρ = [some (LoopsD r1 r2), v1, v2, some (.str s), some (.str o), some (gpD g), some (.loc Fo), v7, v8, v9, v10, v11, v12, v13, v14, v15, v16]) → RepI m0 S.m M ds → (ds.map cellOf).Nodup → S.m Fo = some (.lst movs) → movs.length + M.length ≤ 5000 →
    (∀ q ∈ M, q.2.length ≤ 2000 ∧ ∀ x ∈ q.2, shapeN g x.2) →
    (∀ ρ m' more, (∃ v7 v8 v9 v10 v11 v12 v13 v14 v15 v16, ρ = [some (LoopsD r1 r2), v1, v2, some (.str s), some (.str o), some (gpD g), some (.loc Fo), v7, v8, v9, v10, v11, v12, v13, v14, v15, v16]) → Paired (RelM r1 r2 s o g) M more → m' Fo = some (.lst (movs ++ more)) → P (.nx, ρ) { S with m := m' }) →
    (forGo moveT moveBody ds ρ S).sat P := by
  intro M
  induction M with
  | nil =>
    intro ds S movs ρ hρ hr hn hF hlen hq hp
    cases hr
    rw [forGo]
    exact hp ρ S.m [] hρ .nil (by rw [List.append_nil]; exact hF)
  | cons q M ih =>
    intro ds S movs ρ hρ hr hn hF hlen hq hp
    cases hr with
    | cons r t =>
    obtain ⟨v7, v8, v9, v10, v11, v12, v13, v14, v15, v16, rfl⟩ := hρ
    obtain ⟨a, c, es, rfl, ha, hc, hk, hes, fa, fc⟩ := r
    rw [List.map_cons, List.nodup_cons] at hn
    have hql := hq q List.mem_cons_self
    have ncF : c ≠ Fo := fun e => h0 (by rw [← e]; exact fc)
    rw [List.length_cons] at hlen
    refine for_cons (ρ1 := [some (LoopsD r1 r2), v1, v2, some (.str s), some (.str o), some (gpD g), some (.loc Fo), some (.str q.1.1), some (.str q.1.2), some (.loc a), some (.loc c), v11, v12, v13, v14, v15, v16]) rfl ?_
    refine move_one w1 w2 ha hc hk hes hF ncF (by omega) hql.1 hql.2 fun v11 v12 v13 v14 v15 v16 ev ys m1 hout hyl k1 => ?_
    refine ih (movs := movs ++ [movD r1 r2 s o g q ev ys]) ⟨_, _, _, _, _, _, _, _, _, _, rfl⟩ (repI_after h0 hc k1 hn.1 t) hn.2 updM_same (by rw [List.length_append, List.length_singleton]; omega) (fun q hq' => hq q (List.mem_cons_of_mem _ hq')) fun ρ m' more hρ hm hF' => ?_
    refine hp ρ m' (movD r1 r2 s o g q ev ys :: more) hρ (.cons ⟨ev, ys, hout, hyl, rfl⟩ hm) ?_
    rw [hF', List.append_assoc]; rfl
theorem menu_shape {g : Gp} : ∀ q ∈ menuOf g, ∀ x ∈ q.2, shapeN g x.2 := fun q hq x hx => by
  obtain ⟨⟨c, hc⟩, h⟩ := (menu_ok g).sound q.1 x ⟨q.2, hq, hx⟩
  exact okN_shape (h c hc).1
theorem moves_sat {P : D → SrcT → Prop} {S : SrcT} {r1 r2 : List Rule} (w1 : ∀ r ∈ r1, wfRule r = true) (w2 : ∀ r ∈ r2, wfRule r = true) {s o : Str} {g : Gp} {x dx K : Addr} (hx : S.m x = some (.obj "Menus" dx [("known", .loc K)])) (hK : S.m K = some (.dX []))
    (hp : ∀ m' F movs, m' F = some (.lst movs) → Paired (RelM r1 r2 s o g) (menuOf g) movs → (menuOf g).length ≤ 999 ∧ (∀ q ∈ menuOf g, q.2.length ≤ 999) → P (.loc F) { S with m := m' }) : (f_moves_of [LoopsD r1 r2, .loc x, .tup [.str s, .str o, gpD g]] S).sat P := by
  refine fnF_sat rfl ?_
  unfold b_moves_of
  walk_at "e0"
  refine seqS_sat (asgS_sat (vF_sat rfl ⟨_, rfl, ?_⟩))
  dsimp only [List.set_cons_succ, List.set_cons_zero]
  refine seqS_sat (setS_sat (lstMF_sat (nilF_sat fun Fo nFo => ?_)))
  dsimp only [List.set_cons_succ, List.set_cons_zero]
  have neX : x ≠ Fo := fun e => by rw [e, nFo] at hx; cases hx
  have neK : K ≠ Fo := fun e => by rw [e, nFo] at hK; cases hK
  have hx' : (S.put Fo (.lst [])).m x = some (.obj "Menus" dx [("known", .loc K)]) := by
    show updM S.m Fo _ x = _
    rw [updM_ne neX]; exact hx
  have hK' : (S.put Fo (.lst [])).m K = some (.dX []) := by
    show updM S.m Fo _ K = _
    rw [updM_ne neK]; exact hK
  refine seqS_sat (forS_sat (seqF_sat (methVF_sat (vF_sat (d := .loc x) rfl ⟨[("known", .loc K)], ?_, rfl, consF_sat (vF_sat (d := gpD g) rfl (nilF_sat (at_sat hx' hK' fun ds S1 hm rep nd sz => ⟨ds, rfl, ?_⟩)))⟩))))
  · show (match (S.put Fo (.lst [])).m x with | some (.obj c' _ fs) => if c' = "Menus" then some fs else none | _ => none) = _
    rw [hx']; dsimp only; rw [if_pos rfl]
  obtain ⟨m1, rfl, k1⟩ := hm
  have hF1 : m1 Fo = some (.lst []) := by rw [k1 Fo (by show updM S.m Fo _ Fo ≠ none; rw [updM_same]; exact fun z => nomatch z) neK.symm]; exact updM_same
  refine moves_loop w1 w2 (g := g) (m0 := (S.put Fo (.lst [])).m) (by show updM S.m Fo _ Fo ≠ none; rw [updM_same]; exact fun z => nomatch z) (movs := []) ⟨_, _, _, _, _, _, _, _, _, _, rfl⟩ rep nd hF1 (by simp; omega) (fun q hq => ⟨Nat.le_trans (sz.2 q hq) (by decide), menu_shape q hq⟩) fun ρ m' more hρ hm hF' => ?_
  obtain ⟨v7, v8, v9, v10, v11, v12, v13, v14, v15, v16, rfl⟩ := hρ
  exact retS_sat (vF_sat (d := .loc Fo) rfl (hp m' Fo more hF' hm sz))
/-! a joint state is taken, as tuples or lists -/
theorem isnum_sat {P : D → SrcT → Prop} {S : SrcT} {i : Int} (h1 : -1000000000000000000000000000000 < i) (h2 : i < 1000000000000000000000000000000) (h : P (.bl true) S) : (f_is_number [.int i] S).sat P := by
  refine fnF_sat rfl ?_
  unfold b_is_number
  walk_at "sx"
  refine NL.ifT (decide_eq_true (show (0 : Int) - 1000000000000000000000000000000 < i by omega)) ?_
  walk_at "sx"
  show P (.bl (decide (i < 1000000000000000000000000000000))) S
  rw [decide_eq_true h2]
  exact h
theorem states1_sat {P : D → SrcT → Prop} {S : SrcT} {rs : List Rule} {ans : List (Str × Str)} (hl : (statesR rs).length ≤ 1000) (h : P (.tup ((statesR rs).map .str)) S) : (f_Loop_states [.loop rs ans] S).sat P := by
  refine fnF_sat rfl ?_
  unfold b_Loop_states
  walk_at "sx"
  have e : listKD [.dct (ansDD rs ans)] = some (.lst ((statesR rs).map .str)) := by
    unfold listKD ansDD
    dsimp only
    rw [if_pos (by rw [List.length_map]; exact hl), List.map_map]; rfl
  refine ⟨_, e, ?_⟩
  walk_at "sx"
  exact h
/-- a gap as tuple or list -/
def gpT (t : Bool) : Gp → D
  | .two d s => if t = true then .tup [.int d, .str (sgS s)] else .lst [.int d, .str (sgS s)]
  | g => gpD g
def jD (t : Bool) (s o : Str) (g : Gp) : D := if t = true then .tup [.str s, .str o, gpT t g] else .lst [.str s, .str o, gpT t g]
def gpB : Gp → Prop
  | .two d _ => -1000000000000000000000000000000 < d ∧ d < 1000000000000000000000000000000
  | _ => True
theorem jD_true (s o : Str) (g : Gp) : jD true s o g = .tup [.str s, .str o, gpD g] := by cases g <;> rfl
theorem words_in (g : Gp) (h : isW g = true) : inD false (gpD g) c_GAP_WORDS = some (.bl true) := by
  have e := fun z => inD_strsU false z ["none", "first", "second"]
  cases g with
  | none => exact (e "none").trans (by simp)
  | first => exact (e "first").trans (by simp)
  | second => exact (e "second").trans (by simp)
  | two d s => cases h
theorem sign_in (s : Sg) : inD false (.str (sgS s)) c_SIGNS = some (.bl true) := by
  refine (inD_strsU false (sgS s) ["<", "=", ">"]).trans ?_
  cases s <;> simp [sgS]
theorem isgap_sat {P : D → SrcT → Prop} {S : SrcT} {t : Bool} {g : Gp} (hb : gpB g) (hp : P (.bl true) S) : (f_is_gap [gpT t g] S).sat P := by
  refine fnF_sat rfl ?_
  unfold b_is_gap
  walk_at "e0"
  have word : isW g = true → gpT t g = gpD g → ((seqS (iteS (tstF (unF isStr (vF 0)))
      (retS (binF (inD false) (vF 0) (cF c_GAP_WORDS)))
      nilS)
      (seqS (iteS (orT (notT (tstF (unF isSq (vF 0)))) (orT (blT (binF (eqD true) (argF lenD (consF (vF 0) nilF)) (cF (.int 2)))) (notT (tstF (callF f_is_number (consF (binF idxD (vF 0) (cF (.int 0))) nilF))))))
      (retS (cF (.bl false)))
      nilS)
      (retS (andF (unF isStr (binF idxD (vF 0) (cF (.int 1)))) (binF (inD false) (binF idxD (vF 0) (cF (.int 1))) (cF c_SIGNS)))))) [some (gpT t g)] S).sat fun r S' => match r with
      | (.ret d, _) => P d S'
      | (.nx, _) => P .non S'
      | _ => False := fun hw e => by
    rw [e]
    refine seqS_sat (iteS_sat (tstF_sat (unF_sat (vF_sat rfl ⟨_, isStr_gp g, isW g, rfl, ?_⟩))))
    refine NL.ifT hw (retS_sat (binF_sat (vF_sat rfl (cF_sat ⟨_, words_in g hw, hp⟩))))
  cases g with
  | none => exact word rfl rfl
  | first => exact word rfl rfl
  | second => exact word rfl rfl
  | two d s =>
    clear word
    have both : ∀ x : D, isStr x = some (.bl false) → isSq x = some (.bl true) → lenD [x] = some (.int 2) → idxD x (.int 0) = some (.int d) → idxD x (.int 1) = some (.str (sgS s)) → ((seqS (iteS (tstF (unF isStr (vF 0)))
      (retS (binF (inD false) (vF 0) (cF c_GAP_WORDS)))
      nilS)
      (seqS (iteS (orT (notT (tstF (unF isSq (vF 0)))) (orT (blT (binF (eqD true) (argF lenD (consF (vF 0) nilF)) (cF (.int 2)))) (notT (tstF (callF f_is_number (consF (binF idxD (vF 0) (cF (.int 0))) nilF))))))
      (retS (cF (.bl false)))
      nilS)
      (retS (andF (unF isStr (binF idxD (vF 0) (cF (.int 1)))) (binF (inD false) (binF idxD (vF 0) (cF (.int 1))) (cF c_SIGNS)))))) [some x] S).sat fun r S' => match r with
      | (.ret d, _) => P d S'
      | (.nx, _) => P .non S'
      | _ => False := fun x h1 h2 h3 h4 h5 => by
      refine seqS_sat (iteS_sat (tstF_sat (unF_sat (vF_sat rfl ⟨_, h1, false, rfl, ?_⟩))))
      refine NL.ifF rfl (nilS_sat (seqS_sat (iteS_sat (orT_sat (notT_sat (tstF_sat (unF_sat (vF_sat rfl ⟨_, h2, true, rfl, ?_⟩))))))))
      refine NL.ifF rfl (orT_sat (blT_sat (binF_sat (argF_sat (consF_sat (vF_sat rfl (nilF_sat ⟨_, h3, cF_sat ⟨_, eqD_int, false, by simp, ?_⟩⟩)))))))
      refine NL.ifF rfl (notT_sat (tstF_sat (callF_sat (consF_sat (binF_sat (vF_sat rfl (cF_sat ⟨_, h4, nilF_sat (isnum_sat hb.1 hb.2 ⟨true, rfl, ?_⟩)⟩)))))))
      refine NL.ifF rfl (nilS_sat (retS_sat (andF_sat (unF_sat (binF_sat (vF_sat rfl (cF_sat ⟨_, h5, .bl true, rfl, true, rfl, ?_⟩)))))))
      exact NL.ifT rfl (binF_sat (binF_sat (vF_sat rfl (cF_sat ⟨_, h5, cF_sat ⟨_, sign_in s, hp⟩⟩))))
    cases t
    · exact both (.lst [.int d, .str (sgS s)]) rfl rfl rfl rfl rfl
    · exact both (.tup [.int d, .str (sgS s)]) rfl rfl rfl rfl rfl
theorem asjoint_sat {P : D → SrcT → Prop} {S : SrcT} {r1 r2 : List Rule} {t : Bool} {s o : Str} {g : Gp} (l1 : (statesR r1).length ≤ 1000) (l2 : (statesR r2).length ≤ 1000) (hs : s ∈ statesR r1) (ho : o ∈ statesR r2) (hb : gpB g) (hp : P (.tup [.str s, .str o, gpD g]) S) : (f_as_joint [.loop r1 [], .loop r2 [], jD t s o g] S).sat P := by
  refine fnF_sat rfl ?_
  unfold b_as_joint
  walk_at "e0"
  have both : ∀ x : D, isSq x = some (.bl true) → lenD [x] = some (.int 3) → idxD x (.int 0) = some (.str s) → idxD x (.int 1) = some (.str o) → idxD x (.int 2) = some (gpT t g) → (b_as_joint [some (.loop r1 []), some (.loop r2 []), some x, none] S).sat fun r S' => match r with
      | (.ret d, _) => P d S'
      | (.nx, _) => P .non S'
      | _ => False := fun x h1 h2 h3 h4 h5 => by
    unfold b_as_joint
    refine seqS_sat (iteS_sat (orT_sat (notT_sat (tstF_sat (unF_sat (vF_sat rfl ⟨_, h1, true, rfl, ?_⟩))))))
    refine NL.ifF rfl (orT_sat (blT_sat (binF_sat (argF_sat (consF_sat (vF_sat rfl (nilF_sat ⟨_, h2, cF_sat ⟨_, eqD_int, false, by simp, ?_⟩⟩)))))))
    refine NL.ifF rfl (notT_sat (tstF_sat (callF_sat (consF_sat (binF_sat (vF_sat rfl (cF_sat ⟨_, h5, nilF_sat (isgap_sat hb ⟨true, rfl, ?_⟩)⟩)))))))
    refine NL.ifF rfl (nilS_sat (seqS_sat (iteS_sat (orT_sat (blT_sat (binF_sat (binF_sat (vF_sat rfl (cF_sat ⟨_, h3, propF_sat (vF_sat (d := .loop r1 []) rfl ⟨rfl, states1_sat l1 ⟨_, inD_strsU true s _, false, by simp [hs], ?_⟩⟩)⟩)))))))))
    refine NL.ifF rfl (blT_sat (binF_sat (binF_sat (vF_sat rfl (cF_sat ⟨_, h4, propF_sat (vF_sat (d := .loop r2 []) rfl ⟨rfl, states1_sat l2 ⟨_, inD_strsU true o _, false, by simp [ho], ?_⟩⟩)⟩)))))
    refine NL.ifF rfl (nilS_sat (seqS_sat (setS_sat (iteF_sat (tstF_sat (unF_sat (binF_sat (vF_sat rfl (cF_sat ⟨_, h5, ?_⟩)))))))))
    have fin : ∀ v, v = gpD g → ((retS (tupF (consF (binF idxD (vF 2) (cF (.int 0))) (consF (binF idxD (vF 2) (cF (.int 1))) (consF (vF 3) nilF))))) [some (.loop r1 []), some (.loop r2 []), some x, some v] S).sat fun r S' => match r with
      | (.ret d, _) => P d S'
      | (.nx, _) => P .non S'
      | _ => False := fun v e => by
      subst e
      exact retS_sat (tupF_sat (consF_sat (binF_sat (vF_sat rfl (cF_sat ⟨_, h3, consF_sat (binF_sat (vF_sat rfl (cF_sat ⟨_, h4, consF_sat (vF_sat (d := gpD g) rfl (nilF_sat hp))⟩)))⟩)))))
    have word : isW g = true → gpT t g = gpD g → ∃ d, isStr (gpT t g) = some d ∧ ∃ b, truD d = some b ∧ if b = true then ((binF idxD (vF 2) (cF (.int 2))) [some (.loop r1 []), some (.loop r2 []), some x, none] S).sat fun d S1 => ((retS (tupF (consF (binF idxD (vF 2) (cF (.int 0))) (consF (binF idxD (vF 2) (cF (.int 1))) (consF (vF 3) nilF))))) [some (.loop r1 []), some (.loop r2 []), some x, some d] S1).sat fun r S' => match r with
      | (.ret d, _) => P d S'
      | (.nx, _) => P .non S'
      | _ => False
      else ((argF tupleD (consF (binF idxD (vF 2) (cF (.int 2))) nilF)) [some (.loop r1 []), some (.loop r2 []), some x, none] S).sat fun d S1 => ((retS (tupF (consF (binF idxD (vF 2) (cF (.int 0))) (consF (binF idxD (vF 2) (cF (.int 1))) (consF (vF 3) nilF))))) [some (.loop r1 []), some (.loop r2 []), some x, some d] S1).sat fun r S' => match r with
      | (.ret d, _) => P d S'
      | (.nx, _) => P .non S'
      | _ => False := fun hw e => by
      refine ⟨_, by rw [e]; exact isStr_gp g, isW g, rfl, ?_⟩
      exact NL.ifT hw (binF_sat (vF_sat rfl (cF_sat ⟨_, h5, fin _ e⟩)))
    cases g with
    | none => exact word rfl rfl
    | first => exact word rfl rfl
    | second => exact word rfl rfl
    | two d r =>
      refine ⟨.bl false, by cases t <;> rfl, false, rfl, ?_⟩
      refine NL.ifF rfl (argF_sat (consF_sat (binF_sat (vF_sat rfl (cF_sat ⟨_, h5, nilF_sat ⟨.tup [.int d, .str (sgS r)], ?_, fin _ rfl⟩⟩)))))
      cases t <;> rfl
  cases t
  · exact both (.lst [.str s, .str o, gpT false g]) rfl rfl rfl rfl rfl
  · exact both (.tup [.str s, .str o, gpT true g]) rfl rfl rfl rfl rfl
/-! leads -/
theorem loopsinit_sat {P : D → SrcT → Prop} {S : SrcT} {x dx : Addr} {d1 d2 d3 : D} (h : S.m x = some (.obj "Loops" dx [])) (hp : ∀ m', m' x = some (.obj "Loops" dx [("one", d1), ("other", d2), ("by", d3)]) → P .non { S with m := m' }) : (f_Loops___init__ [.loc x, d1, d2, d3] S).sat P := by
  refine fnF_sat rfl ?_
  unfold b_Loops___init__
  walk_at "e0"
  refine seqS_sat (setMS_sat (vF_sat (d := d1) rfl (vF_sat (d := .loc x) rfl ⟨x, dx, [], rfl, h, by decide, ?_⟩)))
  refine seqS_sat (setMS_sat (vF_sat (d := d2) rfl (vF_sat (d := .loc x) rfl ⟨x, dx, [("one", d1)], rfl, updM_same, (show 1 < 900 by decide), ?_⟩)))
  refine setMS_sat (vF_sat (d := d3) rfl (vF_sat (d := .loc x) rfl ⟨x, dx, [("one", d1), ("other", d2)], rfl, updM_same, (show 2 < 900 by decide), ?_⟩))
  exact hp _ updM_same
theorem menusinit_sat {P : D → SrcT → Prop} {S : SrcT} {x dx : Addr} (h : S.m x = some (.obj "Menus" dx [])) (hp : ∀ m' K, m' x = some (.obj "Menus" dx [("known", .loc K)]) → m' K = some (.dX []) → P .non { S with m := m' }) : (f_Menus___init__ [.loc x] S).sat P := by
  refine fnF_sat rfl ?_
  unfold b_Menus___init__
  walk_at "e0"
  refine setMS_sat (newMF_sat fun K nK => vF_sat (d := .loc x) rfl ⟨x, dx, [], rfl, ?_, by decide, ?_⟩)
  · show updM S.m K _ x = _
    rw [updM_ne (fun e => by rw [← e, h] at nK; cases nK)]; exact h
  · refine hp _ K updM_same ?_
    show updM (updM S.m K (.dX [])) x _ K = _
    rw [updM_ne (fun e => by rw [e, h] at nK; cases nK), updM_same]
/-- a place is hit -/
def hitQ (r1 r2 : List Rule) (s o : Str) (g : Gp) (s' o' : Str) (g' : Gp) (q : (Str × Str) × List NumP) : Prop := (usedR r1 s q.1.1).2.2 = s' ∧ (usedR r2 o q.1.2).2.2 = o' ∧ ∃ x ∈ q.2, within (behindP g x (kOf r1 r2 s o q)) g'
theorem flt_pair {a b : Str} (ha : PyData.strOk a = true) (hb : PyData.strOk b = true) : flt1 (.tup [.str a, .str b]) = true := by
  show (flt (.str a) && (flt (.str b) && true)) = true
  rw [show flt (.str a) = true from ha, show flt (.str b) = true from hb]; rfl
theorem pair_eq {a b c d : Str} (ha : PyData.strOk a = true) (hb : PyData.strOk b = true) (hc : PyData.strOk c = true) (hd : PyData.strOk d = true) : eqD false (.tup [.str a, .str b]) (.tup [.str c, .str d]) = some (.bl (decide (a = c ∧ b = d))) := by
  refine eqF_flt (flt_pair ha hb) (flt_pair hc hd) ?_
  rw [decide_eq_true_iff]
  constructor
  · rintro ⟨rfl, rfl⟩; rfl
  · intro h
    injection h with h
    injection h with h1 h
    injection h with h2 _
    injection h1 with h1
    injection h2 with h2
    exact ⟨h1, h2⟩
noncomputable def leadBody : Sx := (iteS (andT (blT (binF (eqD false) (vF 4) (slF (vF 3) (someF (cF (.int 0))) (someF (cF (.int 2)))))) (tstF (argF anyD (consF (lcF [8] (seqF (vF 7)) (gN 8) yesT (callK f_is_within (consF (binF idxD (vF 8) (cF (.int 0))) (consF (binF idxD (vF 3) (cF (.int 2))) nilF)))) nilF))))
  (retS (cF (.bl true)))
  nilS)
noncomputable def leadT : Tgt := (gT 4 (gsCons (gN 4) (gsCons (gN 5) (gsCons (gN 6) (gsCons (gN 7) gsNil)))))
theorem lead_one {r1 r2 : List Rule} {s o s' o' : Str} {g g' : Gp} {q : (Str × Str) × List NumP} {S : SrcT} {v0 v1 v2 : Option D} {d5 : D} {ys : List NumP} {PS : Fl × NL.Env → SrcT → Prop} (hout : OutL g (kOf r1 r2 s o q) q.2 ys) (hyl : ys.length ≤ 50000)
    (k1 : PyData.strOk s' = true) (k2 : PyData.strOk o' = true) (k3 : PyData.strOk (usedR r1 s q.1.1).2.2 = true) (k4 : PyData.strOk (usedR r2 o q.1.2).2.2 = true)
    (hy : hitQ r1 r2 s o g s' o' g' q → ∀ ρ, PS (.ret (.bl true), ρ) S) (hn : ¬ hitQ r1 r2 s o g s' o' g' q → PS (.nx, [v0, v1, v2, some (.tup [.str s', .str o', gpD g']), some (.tup [.str (usedR r1 s q.1.1).2.2, .str (usedR r2 o q.1.2).2.2]), some d5, some (kD (kOf r1 r2 s o q)), some (.lst (ys.map (outD g (kOf r1 r2 s o q)))), none]) S) :
    (leadBody [v0, v1, v2, some (.tup [.str s', .str o', gpD g']), some (.tup [.str (usedR r1 s q.1.1).2.2, .str (usedR r2 o q.1.2).2.2]), some d5, some (kD (kOf r1 r2 s o q)), some (.lst (ys.map (outD g (kOf r1 r2 s o q)))), none] S).sat PS := by
  unfold leadBody
  refine iteS_sat (andT_sat (blT_sat (binF_sat (vF_sat rfl (slF_sat (vF_sat rfl (someF_sat (cF_sat ⟨0, rfl, someF_sat (cF_sat ⟨2, rfl, .tup [.str s', .str o'], rfl, _, pair_eq k3 k4 k1 k2, _, rfl, ?_⟩)⟩))))))))
  by_cases hd : (usedR r1 s q.1.1).2.2 = s' ∧ (usedR r2 o q.1.2).2.2 = o'
  · refine NL.ifT (decide_eq_true hd) ?_
    refine tstF_sat (argF_sat (consF_sat (lcF_sat (seqF_sat (vF_sat rfl ⟨_, rfl, by rw [List.length_map]; omega, ?_⟩)))))
    refine lc_mapM (φ := outD g (kOf r1 r2 s o q)) (xs := ys) (fun y => .bl (withinB (behindP g y (kOf r1 r2 s o q)) g')) (fun y _ => ⟨_, rfl, yesT_sat ⟨rfl, rfl⟩, ?_⟩) ?_
    · exact callK_sat (consF_sat (binF_sat (vF_sat rfl (cF_sat ⟨_, rfl, consF_sat (binF_sat (vF_sat rfl (cF_sat ⟨_, rfl, nilF_sat (within_sat (behind_fine g y _) ⟨rfl, rfl⟩)⟩)))⟩))))
    · have e : (ys.map fun y => D.bl (withinB (behindP g y (kOf r1 r2 s o q)) g')) = (ys.map fun y => withinB (behindP g y (kOf r1 r2 s o q)) g').map D.bl := by rw [List.map_map]; rfl
      rw [e]
      refine nilF_sat ⟨_, any_bools _, _, rfl, ?_⟩
      have hiff : (ys.map fun y => withinB (behindP g y (kOf r1 r2 s o q)) g').any id = true ↔ ∃ x ∈ q.2, within (behindP g x (kOf r1 r2 s o q)) g' := by
        rw [List.any_eq_true]
        constructor
        · rintro ⟨b, hb, h⟩
          obtain ⟨y, hy, rfl⟩ := List.mem_map.mp hb
          exact ⟨y, hout.1 y hy, withinB_iff.mp h⟩
        · rintro ⟨x, hx, h⟩
          obtain ⟨y, hy, e⟩ := hout.2 x hx
          exact ⟨_, List.mem_map_of_mem hy, withinB_iff.mpr (by rw [e]; exact h)⟩
      by_cases hh : ∃ x ∈ q.2, within (behindP g x (kOf r1 r2 s o q)) g'
      · rw [hiff.mpr hh]
        exact NL.ifT rfl (retS_sat (cF_sat (hy ⟨hd.1, hd.2, hh⟩ _)))
      · have : (ys.map fun y => withinB (behindP g y (kOf r1 r2 s o q)) g').any id = false := by
          cases hc : (ys.map fun y => withinB (behindP g y (kOf r1 r2 s o q)) g').any id with
          | false => rfl
          | true => exact absurd (hiff.mp hc) hh
        rw [this]
        exact NL.ifF rfl (nilS_sat (hn fun h => hh h.2.2))
  · refine NL.ifF (decide_eq_false hd) ?_
    exact NL.ifF rfl (nilS_sat (hn fun h => hd ⟨h.1, h.2.1⟩))
theorem leads_loop {r1 r2 : List Rule} {s o s' o' : Str} {g g' : Gp} {v0 v1 v2 : Option D} {S : SrcT} (k1 : PyData.strOk s' = true) (k2 : PyData.strOk o' = true) (k3 : ∀ p, PyData.strOk (usedR r1 s p).2.2 = true) (k4 : ∀ p, PyData.strOk (usedR r2 o p).2.2 = true) {P : Fl × NL.Env → SrcT → Prop} : ∀ {M : Menu} {movs : List D} {ρ : NL.Env}, (∃ v4 v5 v6 v7, ρ = [v0, v1, v2, some (.tup [.str s', .str o', gpD g']), v4, v5, v6, v7, none]) → Paired (RelM r1 r2 s o g) M movs → (∀ q ∈ M, q.2.length ≤ 50000) →
    ((∃ q ∈ M, hitQ r1 r2 s o g s' o' g' q) → ∀ ρ', P (.ret (.bl true), ρ') S) → ((¬ ∃ q ∈ M, hitQ r1 r2 s o g s' o' g' q) → ∀ ρ', (∃ v4 v5 v6 v7, ρ' = [v0, v1, v2, some (.tup [.str s', .str o', gpD g']), v4, v5, v6, v7, none]) → P (.nx, ρ') S) → (forGo leadT leadBody movs ρ S).sat P := by
  intro M
  induction M with
  | nil =>
    intro movs ρ hρ hr hq hy hn
    cases hr
    rw [forGo]
    exact hn (fun ⟨q, h, _⟩ => nomatch h) ρ hρ
  | cons q M ih =>
    intro movs ρ hρ hr hq hy hn
    cases hr with
    | cons r t =>
    obtain ⟨v4, v5, v6, v7, rfl⟩ := hρ
    obtain ⟨ev, ys, hout, hyl, rfl⟩ := r
    refine for_cons (ρ1 := [v0, v1, v2, some (.tup [.str s', .str o', gpD g']), some (.tup [.str (usedR r1 s q.1.1).2.2, .str (usedR r2 o q.1.2).2.2]), some (.bl ev), some (kD (kOf r1 r2 s o q)), some (.lst (ys.map (outD g (kOf r1 r2 s o q)))), none]) rfl ?_
    refine lead_one hout (Nat.le_trans hyl (hq q List.mem_cons_self)) k1 k2 (k3 _) (k4 _) (fun h ρ => hy ⟨q, List.mem_cons_self, h⟩ ρ) fun h => ?_
    refine ih ⟨_, _, _, _, rfl⟩ t (fun q hq' => hq q (List.mem_cons_of_mem _ hq')) (fun ⟨q', h1, h2⟩ => hy ⟨q', List.mem_cons_of_mem _ h1, h2⟩) fun h2 => hn fun ⟨q', h3, h4⟩ => ?_
    rcases List.mem_cons.mp h3 with rfl | h3
    · exact h h4
    · exact h2 ⟨q', h3, h4⟩
theorem after_ok {rs : List Rule} (hr : ∀ r ∈ rs, wfRule r = true) {s : Str} (hs : s ∈ statesR rs) (p : Str) : PyData.strOk (usedR rs s p).2.2 = true := name_ok (name_st hr (used_state hs))
theorem leads_sat {P : D → SrcT → Prop} {S : SrcT} {r1 r2 : List Rule} (w1 : ∀ r ∈ r1, wfRule r = true) (w2 : ∀ r ∈ r2, wfRule r = true) (l1 : (statesR r1).length ≤ 1000) (l2 : (statesR r2).length ≤ 1000) {t t' : Bool} {s o s' o' : Str} {g g' : Gp} (hs : s ∈ statesR r1) (ho : o ∈ statesR r2) (hb : gpB g) (hs' : s' ∈ statesR r1) (ho' : o' ∈ statesR r2) (hb' : gpB g')
    (hp : ∀ b m', (b = true ↔ StepJ r1 r2 s o g s' o' g') → P (.bl b) { S with m := m' }) : (f_leads [.loop r1 [], .loop r2 [], jD t s o g, jD t' s' o' g'] S).sat P := by
  refine fnF_sat rfl ?_
  unfold b_leads
  walk_at "e0"
  refine seqS_sat (setS_sat (callK_sat (consF_sat (vF_sat (d := .loop r1 []) rfl (consF_sat (vF_sat (d := .loop r2 []) rfl (consF_sat (vF_sat (d := jD t s o g) rfl (nilF_sat (asjoint_sat l1 l2 hs ho hb ?_))))))))))
  dsimp only [List.set_cons_succ, List.set_cons_zero]
  refine seqS_sat (setS_sat (callK_sat (consF_sat (vF_sat (d := .loop r1 []) rfl (consF_sat (vF_sat (d := .loop r2 []) rfl (consF_sat (vF_sat (d := jD t' s' o' g') rfl (nilF_sat (asjoint_sat l1 l2 hs' ho' hb' ?_))))))))))
  dsimp only [List.set_cons_succ, List.set_cons_zero]
  refine seqS_sat (forHS_sat (callF_sat (consF_sat (liftK_sat (makeFF_sat (consF_sat (vF_sat (d := .loop r1 []) rfl (consF_sat (vF_sat (d := .loop r2 []) rfl (consF_sat (cF_sat (nilF_sat fun x dx hd => loopsinit_sat (if_pos rfl) fun m1 h1 => ⟨rfl, LoopsD r1 r2, ?_, ?_⟩))))))))))))
  · show frzD 10 m1 (.loc x) = some (LoopsD r1 r2)
    unfold frzD
    rw [h1]
    rfl
  refine consF_sat (makeCF_sat (nilF_sat fun x dx nx hd => menusinit_sat updM_same fun m2 K hx hK => ⟨rfl, ?_⟩))
  refine consF_sat (vF_sat (d := .tup [.str s, .str o, gpD g]) rfl (nilF_sat (moves_sat w1 w2 hx hK fun m3 F movs hF hm sz => ?_)))
  refine ⟨F, .lst movs, movs, ?_, ?_⟩
  · show (match m3 F with | some (.lst ds) => _ | some (.dX es) => _ | _ => none) = _
    rw [hF]; rfl
  have hstep : StepJ r1 r2 s o g s' o' g' ↔ ∃ q ∈ menuOf g, hitQ r1 r2 s o g s' o' g' q := (menu_ok g).step
  refine leads_loop (s' := s') (o' := o') (g' := g') (name_ok (name_st w1 hs')) (name_ok (name_st w2 ho')) (after_ok w1 hs) (after_ok w2 ho) ⟨_, _, _, _, rfl⟩ hm (fun q hq => Nat.le_trans (sz.2 q hq) (by decide)) (fun h ρ' => ?_) fun h ρ' hρ => ?_
  · exact hp true _ ⟨fun _ => hstep.mpr h, fun _ => rfl⟩
  · obtain ⟨v4, v5, v6, v7, rfl⟩ := hρ
    exact retS_sat (cF_sat (hp false _ ⟨fun h => (nomatch h), fun h2 => absurd (hstep.mp h2) h⟩))
/-! steps far apart -/
def clamp (x : Int) : Int := max (-2) (min 2 x)
theorem clamp_plc {x y : Int} (h : clamp x = clamp y) (z : Str) : placeOfS x z = placeOfS y z := by
  unfold clamp at h
  unfold placeOfS
  by_cases h1 : x < -1
  · rw [if_pos h1, if_pos (show y < -1 by omega)]
  · rw [if_neg h1, if_neg (show ¬ y < -1 by omega)]
    by_cases h2 : 1 < x
    · rw [if_pos h2, if_pos (show 1 < y by omega)]
    · rw [if_neg h2, if_neg (show ¬ 1 < y by omega)]
      have : x = y := by omega
      rw [this]
def Zn (d c d' c' : Int) : Prop := clamp c' = clamp c ∧ clamp (c' - d') = clamp (c - d)
theorem transfer {r1 r2 : List Rule} {s o s' o' : Str} {d e d' e' : Int} {r t : Sg} (H : ∀ c, (e = 0 → e' = 0) ∧ (d = e → d' = e') ∧ ((e = 0 ∨ d = e) → ∃ c', Zn d c d' c') ∧ (d - c = e → Zn d c d' (d' - e')) ∧ (c = e → Zn d c d' e')) (h : StepJ r1 r2 s o (.two d r) s' o' (.two e t)) : StepJ r1 r2 s o (.two d' r) s' o' (.two e' t) := by
  obtain ⟨c, n, hn, h1, h2, h3⟩ := h
  obtain ⟨H1, H2, H3, H4, H5⟩ := H c
  obtain ⟨q, hq, rfl⟩ := hn
  have plc : ∀ c', Zn d c d' c' → places (.two d' r) c' (some q.1, some q.2) = places (.two d r) c (some q.1, some q.2) := fun c' hz => Prod.ext (clamp_plc hz.1 _) (clamp_plc hz.2 _)
  have fin : ∀ c', Zn d c d' c' → stepG (.two d' r) c' (some q.1, some q.2) ((usedR r1 s (places (.two d r) c (some q.1, some q.2)).1).2.1, (usedR r2 o (places (.two d r) c (some q.1, some q.2)).2).2.1) = .two e' t → StepJ r1 r2 s o (.two d' r) s' o' (.two e' t) := fun c' hz hst => by
    refine ⟨c', (some q.1, some q.2), ⟨q, hq, rfl⟩, ?_⟩
    rw [plc c' hz]
    exact ⟨h1, h2, hst⟩
  generalize ((usedR r1 s (places (.two d r) c (some q.1, some q.2)).1).2.1, (usedR r2 o (places (.two d r) c (some q.1, some q.2)).2).2.1) = k at h3 fin
  obtain ⟨k1, k2⟩ := k
  cases k1 <;> cases k2
  · have h3 : Gp.two d r = .two e t := h3
    injection h3 with e1 e2
    obtain ⟨c', hz⟩ := H3 (.inr e1)
    exact fin c' hz (by show Gp.two d' r = _; rw [H2 e1, e2])
  · have h3 : Gp.two c q.1 = .two e t := h3
    injection h3 with e1 e2
    exact fin e' (H5 e1) (by show Gp.two e' q.1 = _; rw [e2])
  · have h3 : Gp.two (d - c) q.2.t = .two e t := h3
    injection h3 with e1 e2
    refine fin (d' - e') (H4 e1) ?_
    show Gp.two (d' - (d' - e')) q.2.t = _
    rw [e2, show d' - (d' - e') = e' by omega]
  · have h3 : Gp.two 0 .eq = .two e t := h3
    injection h3 with e1 e2
    obtain ⟨c', hz⟩ := H3 (.inl e1.symm)
    refine fin c' hz ?_
    show Gp.two 0 .eq = _
    rw [H1 e1.symm, e2]
theorem zone_ex {d d' : Int} (h : (4 ≤ d ∧ 4 ≤ d') ∨ (d ≤ -4 ∧ d' ≤ -4)) (c : Int) : ∃ c', Zn d c d' c' := by
  unfold Zn clamp
  rcases h with ⟨h1, h2⟩ | ⟨h1, h2⟩
  · by_cases a1 : c ≤ 1
    · exact ⟨c, by omega, by omega⟩
    by_cases a2 : c ≤ d - 2
    · exact ⟨2, by omega, by omega⟩
    · exact ⟨c - d + d', by omega, by omega⟩
  · by_cases a1 : -1 ≤ c
    · exact ⟨c, by omega, by omega⟩
    by_cases a2 : d + 2 ≤ c
    · exact ⟨-2, by omega, by omega⟩
    · exact ⟨c - d + d', by omega, by omega⟩
noncomputable def stB (r1 r2 : List Rule) (s o : Str) (r : Sg) (s' o' : Str) (t : Sg) (d e : Int) : Bool := @decide (StepJ r1 r2 s o (.two d r) s' o' (.two e t)) (Classical.propDecidable _)
theorem stB_iff {r1 r2 : List Rule} {s o : Str} {r : Sg} {s' o' : Str} {t : Sg} {d e : Int} : stB r1 r2 s o r s' o' t d e = true ↔ StepJ r1 r2 s o (.two d r) s' o' (.two e t) := @decide_eq_true_iff _ (Classical.propDecidable _)
section
variable {r1 r2 : List Rule} {s o : Str} {r : Sg} {s' o' : Str} {t : Sg}
theorem stB_eq {d e d' e' : Int} (h1 : ∀ c, (e = 0 → e' = 0) ∧ (d = e → d' = e') ∧ ((e = 0 ∨ d = e) → ∃ c', Zn d c d' c') ∧ (d - c = e → Zn d c d' (d' - e')) ∧ (c = e → Zn d c d' e')) (h2 : ∀ c, (e' = 0 → e = 0) ∧ (d' = e' → d = e) ∧ ((e' = 0 ∨ d' = e') → ∃ c', Zn d' c d c') ∧ (d' - c = e' → Zn d' c d (d - e)) ∧ (c = e' → Zn d' c d e)) : stB r1 r2 s o r s' o' t d e = stB r1 r2 s o r s' o' t d' e' := by
  rw [Bool.eq_iff_iff, stB_iff, stB_iff]
  exact ⟨transfer h1, transfer h2⟩
theorem tr1 {σ z z' ch : Int} (hσ : σ = 1 ∨ σ = -1) (hz : 4 ≤ z) (hz' : 4 ≤ z') (hch : -2 ≤ ch) : stB r1 r2 s o r s' o' t (σ * z) (σ * (z + ch)) = stB r1 r2 s o r s' o' t (σ * z') (σ * (z' + ch)) := by
  have one : ∀ z z' : Int, 4 ≤ z → 4 ≤ z' → ∀ c, (σ * (z + ch) = 0 → σ * (z' + ch) = 0) ∧ (σ * z = σ * (z + ch) → σ * z' = σ * (z' + ch)) ∧ ((σ * (z + ch) = 0 ∨ σ * z = σ * (z + ch)) → ∃ c', Zn (σ * z) c (σ * z') c') ∧ (σ * z - c = σ * (z + ch) → Zn (σ * z) c (σ * z') (σ * z' - σ * (z' + ch))) ∧ (c = σ * (z + ch) → Zn (σ * z) c (σ * z') (σ * (z' + ch))) := fun z z' hz hz' c => by
    rcases hσ with rfl | rfl
    · rw [Int.one_mul, Int.one_mul, Int.one_mul, Int.one_mul]
      exact ⟨by omega, by omega, fun _ => zone_ex (.inl ⟨hz, hz'⟩) c, fun h => ⟨by unfold clamp; omega, by unfold clamp; omega⟩, fun h => ⟨by unfold clamp; omega, by unfold clamp; omega⟩⟩
    · rw [show (-1 : Int) * (z + ch) = -(z + ch) by omega, show (-1 : Int) * (z' + ch) = -(z' + ch) by omega, show (-1 : Int) * z = -z by omega, show (-1 : Int) * z' = -z' by omega]
      exact ⟨by omega, by omega, fun _ => zone_ex (.inr ⟨by omega, by omega⟩) c, fun h => ⟨by unfold clamp; omega, by unfold clamp; omega⟩, fun h => ⟨by unfold clamp; omega, by unfold clamp; omega⟩⟩
  exact stB_eq (one z z' hz hz') (one z' z hz' hz)
theorem tr2 {σ z z' gp : Int} (hσ : σ = 1 ∨ σ = -1) (hz : 4 ≤ z) (hz' : 4 ≤ z') (hg : gp ≤ 2) : stB r1 r2 s o r s' o' t (σ * z) (σ * gp) = stB r1 r2 s o r s' o' t (σ * z') (σ * gp) := by
  have one : ∀ z z' : Int, 4 ≤ z → 4 ≤ z' → ∀ c, (σ * gp = 0 → σ * gp = 0) ∧ (σ * z = σ * gp → σ * z' = σ * gp) ∧ ((σ * gp = 0 ∨ σ * z = σ * gp) → ∃ c', Zn (σ * z) c (σ * z') c') ∧ (σ * z - c = σ * gp → Zn (σ * z) c (σ * z') (σ * z' - σ * gp)) ∧ (c = σ * gp → Zn (σ * z) c (σ * z') (σ * gp)) := fun z z' hz hz' c => by
    rcases hσ with rfl | rfl
    · rw [Int.one_mul, Int.one_mul, Int.one_mul]
      exact ⟨id, by omega, fun _ => zone_ex (.inl ⟨hz, hz'⟩) c, fun h => ⟨by unfold clamp; omega, by unfold clamp; omega⟩, fun h => ⟨by unfold clamp; omega, by unfold clamp; omega⟩⟩
    · rw [show (-1 : Int) * gp = -gp by omega, show (-1 : Int) * z = -z by omega, show (-1 : Int) * z' = -z' by omega]
      exact ⟨id, by omega, fun _ => zone_ex (.inr ⟨by omega, by omega⟩) c, fun h => ⟨by unfold clamp; omega, by unfold clamp; omega⟩, fun h => ⟨by unfold clamp; omega, by unfold clamp; omega⟩⟩
  exact stB_eq (one z z' hz hz') (one z' z hz' hz)
/-- from one difference to further ones, or to nearer ones -/
theorem tr3 {σ d z z' : Int} (hσ : σ = 1 ∨ σ = -1) (hd : 4 ≤ d) (h : (d + 2 ≤ z ∧ d + 2 ≤ z') ∨ (2 ≤ z ∧ z ≤ d - 2 ∧ 2 ≤ z' ∧ z' ≤ d - 2)) : stB r1 r2 s o r s' o' t (σ * d) (σ * z) = stB r1 r2 s o r s' o' t (σ * d) (σ * z') := by
  have one : ∀ z z' : Int, ((d + 2 ≤ z ∧ d + 2 ≤ z') ∨ (2 ≤ z ∧ z ≤ d - 2 ∧ 2 ≤ z' ∧ z' ≤ d - 2)) → ∀ c, (σ * z = 0 → σ * z' = 0) ∧ (σ * d = σ * z → σ * d = σ * z') ∧ ((σ * z = 0 ∨ σ * d = σ * z) → ∃ c', Zn (σ * d) c (σ * d) c') ∧ (σ * d - c = σ * z → Zn (σ * d) c (σ * d) (σ * d - σ * z')) ∧ (c = σ * z → Zn (σ * d) c (σ * d) (σ * z')) := fun z z' h c => by
    rcases hσ with rfl | rfl
    · rw [Int.one_mul, Int.one_mul, Int.one_mul]
      exact ⟨by omega, by omega, fun _ => zone_ex (.inl ⟨hd, hd⟩) c, fun h => ⟨by unfold clamp; omega, by unfold clamp; omega⟩, fun h => ⟨by unfold clamp; omega, by unfold clamp; omega⟩⟩
    · rw [show (-1 : Int) * d = -d by omega, show (-1 : Int) * z = -z by omega, show (-1 : Int) * z' = -z' by omega]
      exact ⟨by omega, by omega, fun _ => zone_ex (.inr ⟨by omega, by omega⟩) c, fun h => ⟨by unfold clamp; omega, by unfold clamp; omega⟩, fun h => ⟨by unfold clamp; omega, by unfold clamp; omega⟩⟩
  exact stB_eq (one z z' h) (one z' z (by omega))
end
def jn (s o : Str) (g : Gp) : D := .tup [.str s, .str o, gpD g]
theorem leads_any {P : D → SrcT → Prop} {S : SrcT} {r1 r2 : List Rule} (w1 : ∀ r ∈ r1, wfRule r = true) (w2 : ∀ r ∈ r2, wfRule r = true) (l1 : (statesR r1).length ≤ 1000) (l2 : (statesR r2).length ≤ 1000) {s o s' o' : Str} {d e : Int} {r t : Sg} (hs : s ∈ statesR r1) (ho : o ∈ statesR r2) (hb : gpB (.two d r)) (hs' : s' ∈ statesR r1) (ho' : o' ∈ statesR r2) (hb' : gpB (.two e t))
    (hp : ∀ m', P (.bl (stB r1 r2 s o r s' o' t d e)) { S with m := m' }) : (f_leads [.loop r1 [], .loop r2 [], jn s o (.two d r), jn s' o' (.two e t)] { S with m := fun _ => none }).sat P := by
  have := leads_sat (P := P) (S := { S with m := fun _ => none }) (t := true) (t' := true) w1 w2 l1 l2 hs ho hb hs' ho' hb' fun b m' hbs => by
    have : b = stB r1 r2 s o r s' o' t d e := by rw [Bool.eq_iff_iff, hbs, stB_iff]
    rw [this]
    exact hp m'
  rw [jD_true, jD_true] at this
  exact this
theorem alike_sat {P : D → SrcT → Prop} {S : SrcT} {α : Type} {xs : List α} {f : α → Bool} {x0 : α} (hx : xs[0]? = some x0) (hl : xs.length ≤ 1000) (h : ∀ x ∈ xs, f x = f x0) (hp : P (.bl true) S) : (f__law_alike [.lst (xs.map fun x => .bl (f x))] S).sat P := by
  refine fnF_sat rfl ?_
  unfold b__law_alike
  walk_at "e1"
  refine retS_sat (argF_sat (consF_sat (lcF_sat (seqF_sat (vF_sat rfl ⟨_, rfl, by rw [List.length_map]; omega, ?_⟩)))))
  have h0 : idxD (.lst (xs.map fun x => .bl (f x))) (.int 0) = some (.bl (f x0)) := by
    cases xs with
    | nil => cases hx
    | cons x xs =>
      have : x = x0 := by simpa using hx
      subst this
      have : idxD (.lst ((x :: xs).map fun x => .bl (f x))) (.int ((0 : Nat) : Int)) = some (.bl (f x)) := atI_nat rfl
      exact this
  refine lc_mapM (φ := fun x => D.bl (f x)) (xs := xs) (fun _ => .bl true) (fun x hx' => ⟨_, rfl, yesT_sat ⟨rfl, rfl⟩, ?_⟩) ?_
  · refine binF_sat (vF_sat rfl (binF_sat (vF_sat rfl (cF_sat ⟨_, h0, _, eqD_bool, ?_, rfl⟩))))
    rw [h x hx']; simp
  · refine nilF_sat ⟨.bl true, ?_, hp⟩
    have : ∀ l : List α, boolsD (l.map fun _ => D.bl true) = some (l.map fun _ => true) := fun l => by
      induction l with
      | nil => rfl
      | cons a l ih => rw [List.map_cons, boolsD, ih]; rfl
    show (boolsD (xs.map fun _ => D.bl true)).map _ = _
    rw [this]
    simp
theorem zipD_map {α : Type} (f g : α → D) : ∀ xs : List α, zipD (xs.map f) (xs.map g) = xs.map fun z => .tup [f z, g z]
  | [] => rfl
  | x :: xs => by
    have := zipD_map f g xs
    unfold zipD at this ⊢
    rw [List.map_cons, List.map_cons, List.zipWith_cons_cons, this]; rfl
def FAR : List Int := [4, 5, 9, 40, 100000000000000000000]
theorem far_four : ∀ z ∈ FAR, 4 ≤ z ∧ z ≤ 100000000000000000000 := by decide
theorem statepick_sat {P : D → SrcT → Prop} {S : SrcT} {rs : List Rule} (hpos : 0 < (statesR rs).length) (hl : (statesR rs).length < 1000) (hc : S.c ≤ 900000) (hp : ∀ s S', s ∈ statesR rs → S'.c = S.c + 1 → P (.str s) S') : (f__law_pick [.src, .lst ((statesR rs).map .str)] S).sat P := by
  refine pick_sat (by rw [List.length_map]; exact hpos) (by rw [List.length_map]; omega) (by omega) fun d S' hd c1 => ?_
  obtain ⟨s, hs, rfl⟩ := List.mem_map.mp hd
  exact hp s S' hs c1
theorem signpick_sat {P : D → SrcT → Prop} {S : SrcT} {ρ : NL.Env} (h1 : ρ[1]? = some (some .src)) (hc : S.c ≤ 900000) (hp : ∀ s S', S'.c = S.c + 1 → P (.str (sgS s)) S') : ((callF f__law_pick (consF (vF 1) (consF (lstF (consF (cF (.str "<")) (consF (cF (.str "=")) (consF (cF (.str ">")) nilF)))) nilF))) ρ S).sat P := by
  refine callF_sat (consF_sat (vF_sat h1 (consF_sat (lstF_sat (consF_sat (cF_sat (consF_sat (cF_sat (consF_sat (cF_sat (nilF_sat (nilF_sat (pick_sat (by decide) (by decide) (by omega) fun d S' hd c1 => ?_)))))))))))))
  simp only [List.mem_cons, List.not_mem_nil, or_false] at hd
  rcases hd with rfl | rfl | rfl
  · exact hp .lt S' c1
  · exact hp .eq S' c1
  · exact hp .gt S' c1
theorem mul_side {σ z : Int} (hσ : σ = 1 ∨ σ = -1) (h1 : -200000000000000000000 ≤ z) (h2 : z ≤ 200000000000000000000) : mulD (.int σ) (.int z) = some (.int (σ * z)) := by
  show (if (okI σ && okI z) = true then some (D.int (σ * z)) else none) = _
  rw [if_pos (by rw [okI_of (by omega) (by omega), okI_of (by omega) (by omega)]; rfl)]
theorem side_B {σ z : Int} {r : Sg} (hσ : σ = 1 ∨ σ = -1) (h1 : -200000000000000000000 ≤ z) (h2 : z ≤ 200000000000000000000) : gpB (.two (σ * z) r) := by
  rcases hσ with rfl | rfl
  · rw [Int.one_mul]; exact ⟨by omega, by omega⟩
  · rw [show (-1 : Int) * z = -z by omega]; exact ⟨by omega, by omega⟩
theorem law_pure : ∀ S : SrcT, S.c = 0 → (b_law (none :: some .src :: List.replicate 24 none) S).sat fun r _ => ∃ ρ', r = (.ret (.bl true), ρ') := by
  intro S hS
  unfold b_law
  show ((seqS _ _) [none, some .src, none, none, none, none, none, none, none, none, none, none, none, none, none, none, none, none, none, none, none, none, none, none, none, none] S).sat _
  refine seqS_sat (parS_sat (consF_sat (callF_sat (consF_sat (vF_sat rfl (consF_sat (cF_sat (consF_sat (cF_sat (nilF_sat (rules_sat (by decide) (by decide) (by decide) (by decide) (by omega) fun r1 S1 hD1 c1 c2 => ?_)))))))))))
  refine consF_sat (callF_sat (consF_sat (vF_sat rfl (consF_sat (cF_sat (consF_sat (cF_sat (nilF_sat (rules_sat (by decide) (by decide) (by decide) (by decide) (by omega) fun r2 S2 hD2 c3 c4 => nilF_sat ⟨_, _, rfl, ?_⟩)))))))))
  dsimp only [List.set_cons_succ, List.set_cons_zero]
  have hw1 := hD1.rules (by decide) (by decide)
  have hw2 := hD2.rules (by decide) (by decide)
  have w1 := hD1.wf
  have w2 := hD2.wf
  have f1 := hD1.few
  have f2 := hD2.few
  have st1 := hD1.st
  have st2 := hD2.st
  have p1 : 0 < (statesR r1).length := List.length_pos_of_mem (run_state r1 1 hD1.pos [])
  have p2 : 0 < (statesR r2).length := List.length_pos_of_mem (run_state r2 1 hD2.pos [])
  refine seqS_sat (asgS_sat (tupF_sat (consF_sat (callF_sat (consF_sat (vF_sat rfl (nilF_sat (loop1_sat rfl ⟨hw1, fun q hq => (hD1.groups q hq).1, ⟨fun q hq => (nomatch hq), by decide⟩⟩ ?_))))))))
  refine consF_sat (callF_sat (consF_sat (vF_sat rfl (nilF_sat (loop1_sat rfl ⟨hw2, fun q hq => (hD2.groups q hq).1, ⟨fun q hq => (nomatch hq), by decide⟩⟩ (nilF_sat ⟨_, rfl, ?_⟩))))))
  dsimp only [List.set_cons_succ, List.set_cons_zero]
  refine seqS_sat (parS_sat (consF_sat (callF_sat (consF_sat (vF_sat rfl (nilF_sat (states_sat (by omega) ?_)))))))
  refine consF_sat (callF_sat (consF_sat (vF_sat rfl (nilF_sat (states_sat (by omega) (nilF_sat ⟨_, _, rfl, ?_⟩))))))
  dsimp only [List.set_cons_succ, List.set_cons_zero]
  refine seqS_sat (setS_sat (lstF_sat (consF_sat (cF_sat (consF_sat (cF_sat (consF_sat (cF_sat (consF_sat (cF_sat (consF_sat (binF_sat (cF_sat (cF_sat ⟨.int 100000000000000000000, rfl, nilF_sat ?_⟩))))))))))))))
  dsimp only [List.set_cons_succ, List.set_cons_zero]
  refine seqS_sat (forS_sat (rng1F_sat (consF_sat (cF_sat (nilF_sat ⟨_, rfl, okR_of (by decide) (by decide), ?_⟩)))))
  refine for_sat (fun i ρ S' => (∃ v9 v10 v11 v12 v13 v14 v15 v16 v17 v18 v19 v20 v21 v22 v23 v24 v25, ρ = [none, some .src, some (.lst (r1.map rD)), some (.lst (r2.map rD)), some (.loop r1 []), some (.loop r2 []), some (.lst ((statesR r1).map .str)), some (.lst ((statesR r2).map .str)), some (.lst (FAR.map .int)), v9, v10, v11, v12, v13, v14, v15, v16, v17, v18, v19, v20, v21, v22, v23, v24, v25]) ∧ S'.c ≤ 2000 + 20 * i) ?_ ?_ ⟨⟨_, _, _, _, _, _, _, _, _, _, _, _, _, _, _, _, _, rfl⟩, by omega⟩
  · rintro i d ρ S' hd ⟨⟨v9, v10, v11, v12, v13, v14, v15, v16, v17, v18, v19, v20, v21, v22, v23, v24, v25, rfl⟩, hcc⟩
    obtain ⟨hi, rfl⟩ := rngD_at hd
    have hi6 : i < 6 := hi
    refine ⟨_, rfl, ?_⟩
    dsimp only [List.set_cons_succ, List.set_cons_zero]
    refine seqS_sat (asgS_sat (tupF_sat (consF_sat (callF_sat (consF_sat (vF_sat rfl (consF_sat (vF_sat rfl (nilF_sat (statepick_sat p1 (by omega) (by omega) fun a T1 ha k1 => ?_))))))))))
    refine consF_sat (callF_sat (consF_sat (vF_sat rfl (consF_sat (vF_sat rfl (nilF_sat (statepick_sat p2 (by omega) (by omega) fun b T2 hb k2 => nilF_sat ⟨_, rfl, ?_⟩)))))))
    dsimp only [List.set_cons_succ, List.set_cons_zero]
    refine seqS_sat (asgS_sat (tupF_sat (consF_sat (callF_sat (consF_sat (vF_sat rfl (consF_sat (vF_sat rfl (nilF_sat (statepick_sat p1 (by omega) (by omega) fun c T3 hc k3 => ?_))))))))))
    refine consF_sat (callF_sat (consF_sat (vF_sat rfl (consF_sat (vF_sat rfl (nilF_sat (statepick_sat p2 (by omega) (by omega) fun d T4 hd k4 => nilF_sat ⟨_, rfl, ?_⟩)))))))
    dsimp only [List.set_cons_succ, List.set_cons_zero]
    refine seqS_sat (asgS_sat (tupF_sat (consF_sat (signpick_sat rfl (by omega) fun sg T5 k5 => consF_sat (signpick_sat rfl (by omega) fun la T6 k6 => nilF_sat ⟨_, rfl, ?_⟩)))))
    dsimp only [List.set_cons_succ, List.set_cons_zero]
    refine seqS_sat (setS_sat (binF_sat (lstF_sat (consF_sat (cF_sat (consF_sat (binF_sat (cF_sat (cF_sat ⟨.int (-1), rfl, nilF_sat ?_⟩)))))))))
    refine callF_sat (consF_sat (vF_sat rfl (consF_sat (cF_sat (nilF_sat (draw_sat (by decide) (by decide) (by omega) fun rr T7 b0 b1 k7 => ?_))))))
    obtain ⟨v2, hv2, hm2⟩ := atI_ex (xs := ([1, -1] : List Int).map D.int) b0 b1
    obtain ⟨σ, he, rfl⟩ := List.mem_map.mp hm2
    have hσ : σ = 1 ∨ σ = -1 := by simpa using he
    refine ⟨_, hv2, ?_⟩
    dsimp only [List.set_cons_succ, List.set_cons_zero]
    -- the starts
    refine seqS_sat (setS_sat (lcF_sat (seqF_sat (vF_sat rfl ⟨FAR.map .int, rfl, by decide, ?_⟩))))
    refine lc_mapM (φ := D.int) (xs := FAR) (fun z => jn a b (.two (σ * z) sg)) (fun z hz => ⟨_, rfl, yesT_sat ⟨rfl, rfl⟩, ?_⟩) ?_
    · have := far_four z hz
      exact tupF_sat (consF_sat (vF_sat rfl (consF_sat (vF_sat rfl (consF_sat (tupF_sat (consF_sat (binF_sat (vF_sat rfl (vF_sat rfl ⟨_, mul_side hσ (by omega) (by omega), consF_sat (vF_sat rfl (nilF_sat (nilF_sat ⟨rfl, rfl⟩)))⟩))))))))))
    dsimp only [List.set_cons_succ, List.set_cons_zero]
    -- shifted along
    have ask : ∀ {z e : Int} {ρ : NL.Env} {Fa Fb : Ex} {Q : D → SrcT → Prop}, ρ[4]? = some (some (.loop r1 [])) → ρ[5]? = some (some (.loop r2 [])) → (-200000000000000000000 ≤ z ∧ z ≤ 200000000000000000000) → (-200000000000000000000 ≤ e ∧ e ≤ 200000000000000000000) → (∀ Q : D → SrcT → Prop, Q (jn a b (.two (σ * z) sg)) T7 → (Fa ρ T7).sat Q) → (∀ Q : D → SrcT → Prop, Q (jn c d (.two (σ * e) la)) T7 → (Fb ρ T7).sat Q) → Q (.bl (stB r1 r2 a b sg c d la (σ * z) (σ * e))) T7 → ((callVP f_leads (consF (vF 4) (consF (vF 5) (consF Fa (consF Fb nilF))))) ρ T7).sat Q := fun {z e ρ Fa Fb Q} h4 h5 hz he ha' hb' hq =>
      callVP_sat (consF_sat (vF_sat h4 (consF_sat (vF_sat h5 (consF_sat (ha' _ (consF_sat (hb' _ (nilF_sat (leads_any w1 w2 (by omega) (by omega) ha hb (side_B hσ hz.1 hz.2) hc hd (side_B hσ he.1 he.2) fun _ => hq))))))))))
    refine seqS_sat (forS_sat (seqF_sat (viaD (d := .tup (([-2, -1, 0, 1, 2, 3, 7, 1000000] : List Int).map .int)) (S := T7) (fun Q hq => ?_) ⟨_, rfl, ?_⟩)))
    · exact tupF_sat (consF_sat (binF_sat (cF_sat (cF_sat ⟨.int (-2), rfl, consF_sat (binF_sat (cF_sat (cF_sat ⟨.int (-1), rfl, consF_sat (cF_sat (consF_sat (cF_sat (consF_sat (cF_sat (consF_sat (cF_sat (consF_sat (cF_sat (consF_sat (binF_sat (cF_sat (cF_sat ⟨.int 1000000, rfl, nilF_sat hq⟩)))))))))))))⟩)))⟩))))
    refine for_sat (fun j ρ T => (∃ v19 v20 v21 v22 v23 v24 v25, ρ = [none, some .src, some (.lst (r1.map rD)), some (.lst (r2.map rD)), some (.loop r1 []), some (.loop r2 []), some (.lst ((statesR r1).map .str)), some (.lst ((statesR r2).map .str)), some (.lst (FAR.map .int)), some (.int (0 + (i : Int))), some (.str a), some (.str b), some (.str c), some (.str d), some (.str (sgS sg)), some (.str (sgS la)), some (.int σ), some (.lst (FAR.map fun z => jn a b (.two (σ * z) sg))), v18, v19, v20, v21, v22, v23, v24, v25]) ∧ T = T7) ?_ ?_ ⟨⟨_, _, _, _, _, _, _, rfl⟩, rfl⟩
    · rintro j dd ρ T hdd ⟨⟨v19, v20, v21, v22, v23, v24, v25, rfl⟩, rfl⟩
      rw [List.getElem?_map] at hdd
      obtain ⟨ch, hch, rfl⟩ := Option.map_eq_some_iff.mp hdd
      have hchb : -2 ≤ ch ∧ ch ≤ 1000000 := by
        have := List.mem_of_getElem? hch
        simp only [List.mem_cons, List.not_mem_nil, or_false] at this
        omega
      refine ⟨_, rfl, ?_⟩
      dsimp only [List.set_cons_succ, List.set_cons_zero]
      refine seqS_sat (setS_sat (lcF_sat (seqF_sat (vF_sat rfl ⟨FAR.map .int, rfl, by decide, ?_⟩))))
      refine lc_mapM (φ := D.int) (xs := FAR) (fun z => jn c d (.two (σ * (z + ch)) la)) (fun z hz => ⟨_, rfl, yesT_sat ⟨rfl, rfl⟩, ?_⟩) ?_
      · have := far_four z hz
        exact tupF_sat (consF_sat (vF_sat rfl (consF_sat (vF_sat rfl (consF_sat (tupF_sat (consF_sat (binF_sat (vF_sat rfl (binF_sat (vF_sat rfl (vF_sat rfl ⟨.int (z + ch), rfl, _, mul_side hσ (by omega) (by omega), consF_sat (vF_sat rfl (nilF_sat (nilF_sat ⟨rfl, rfl⟩)))⟩))))))))))))
      dsimp only [List.set_cons_succ, List.set_cons_zero]
      refine iteS_sat (notT_sat (tstF_sat (callF_sat (consF_sat (lcF_sat (zipF_sat (consF_sat (vF_sat rfl (consF_sat (vF_sat rfl (nilF_sat ⟨_, _, rfl, ?_, ?_⟩)))))))))))
      · rw [zipD_map, List.length_map]; decide
      rw [zipD_map]
      refine lc_mapM (φ := fun z => D.tup [jn a b (.two (σ * z) sg), jn c d (.two (σ * (z + ch)) la)]) (xs := FAR) (fun z => .bl (stB r1 r2 a b sg c d la (σ * z) (σ * (z + ch)))) (fun z hz => ⟨_, rfl, yesT_sat ⟨rfl, rfl⟩, ?_⟩) ?_
      · have := far_four z hz
        exact ask rfl rfl ⟨by omega, by omega⟩ ⟨by omega, by omega⟩ (fun Q hq => vF_sat rfl hq) (fun Q hq => vF_sat rfl hq) ⟨rfl, rfl⟩
      · refine nilF_sat (alike_sat (f := fun z => stB r1 r2 a b sg c d la (σ * z) (σ * (z + ch))) (x0 := 4) rfl (by decide) (fun z hz => tr1 hσ (far_four z hz).1 (by decide) hchb.1) ⟨true, rfl, ?_⟩)
        exact NL.ifF rfl (nilS_sat ⟨⟨_, _, _, _, _, _, _, rfl⟩, rfl⟩)
    rintro ρ T ⟨⟨v19, v20, v21, v22, v23, v24, v25, rfl⟩, rfl⟩
    -- around 0
    refine seqS_sat (forS_sat (seqF_sat (viaD (d := .tup (([-1000000, -5, -2, -1, 0, 1, 2] : List Int).map .int)) (S := T) (fun Q hq => ?_) ⟨_, rfl, ?_⟩)))
    · exact tupF_sat (consF_sat (binF_sat (cF_sat (binF_sat (cF_sat (cF_sat ⟨.int 1000000, rfl, .int (-1000000), rfl, consF_sat (binF_sat (cF_sat (cF_sat ⟨.int (-5), rfl, consF_sat (binF_sat (cF_sat (cF_sat ⟨.int (-2), rfl, consF_sat (binF_sat (cF_sat (cF_sat ⟨.int (-1), rfl, consF_sat (cF_sat (consF_sat (cF_sat (consF_sat (cF_sat (nilF_sat hq)))))) ⟩)))⟩)))⟩)))⟩))))))
    refine for_sat (fun j ρ T' => (∃ v19 v20 v21 v22 v23 v24 v25, ρ = [none, some .src, some (.lst (r1.map rD)), some (.lst (r2.map rD)), some (.loop r1 []), some (.loop r2 []), some (.lst ((statesR r1).map .str)), some (.lst ((statesR r2).map .str)), some (.lst (FAR.map .int)), some (.int (0 + (i : Int))), some (.str a), some (.str b), some (.str c), some (.str d), some (.str (sgS sg)), some (.str (sgS la)), some (.int σ), some (.lst (FAR.map fun z => jn a b (.two (σ * z) sg))), v18, v19, v20, v21, v22, v23, v24, v25]) ∧ T' = T) ?_ ?_ ⟨⟨_, _, _, _, _, _, _, rfl⟩, rfl⟩
    · rintro j dd ρ T' hdd ⟨⟨v19, v20, v21, v22, v23, v24, v25, rfl⟩, rfl⟩
      rw [List.getElem?_map] at hdd
      obtain ⟨gp, hgp, rfl⟩ := Option.map_eq_some_iff.mp hdd
      have hgb : -1000000 ≤ gp ∧ gp ≤ 2 := by
        have := List.mem_of_getElem? hgp
        simp only [List.mem_cons, List.not_mem_nil, or_false] at this
        omega
      refine ⟨_, rfl, ?_⟩
      dsimp only [List.set_cons_succ, List.set_cons_zero]
      refine seqS_sat (setS_sat (tupF_sat (consF_sat (vF_sat rfl (consF_sat (vF_sat rfl (consF_sat (tupF_sat (consF_sat (binF_sat (vF_sat rfl (vF_sat rfl ⟨_, mul_side hσ (by omega) (by omega), consF_sat (vF_sat rfl (nilF_sat (nilF_sat ?_)))⟩))))))))))))
      dsimp only [List.set_cons_succ, List.set_cons_zero]
      refine iteS_sat (notT_sat (tstF_sat (callF_sat (consF_sat (lcF_sat (seqF_sat (vF_sat rfl ⟨FAR.map fun z => jn a b (.two (σ * z) sg), rfl, (by rw [List.length_map]; decide), ?_⟩)))))))
      refine lc_mapM (φ := fun z => jn a b (.two (σ * z) sg)) (xs := FAR) (fun z => .bl (stB r1 r2 a b sg c d la (σ * z) (σ * gp))) (fun z hz => ⟨_, rfl, yesT_sat ⟨rfl, rfl⟩, ?_⟩) ?_
      · have := far_four z hz
        exact ask rfl rfl ⟨by omega, by omega⟩ ⟨by omega, by omega⟩ (fun Q hq => vF_sat rfl hq) (fun Q hq => vF_sat rfl hq) ⟨rfl, rfl⟩
      · refine nilF_sat (alike_sat (f := fun z => stB r1 r2 a b sg c d la (σ * z) (σ * gp)) (x0 := 4) rfl (by decide) (fun z hz => tr2 hσ (far_four z hz).1 (by decide) hgb.2) ⟨true, rfl, ?_⟩)
        exact NL.ifF rfl (nilS_sat ⟨⟨_, _, _, _, _, _, _, rfl⟩, rfl⟩)
    rintro ρ T' ⟨⟨v19, v20, v21, v22, v23, v24, v25, rfl⟩, rfl⟩
    -- rises
    refine seqS_sat (setS_sat (lcF_sat (seqF_sat (viaD (d := .tup (([11, 12, 99, 100000000000000000000] : List Int).map .int)) (S := T') (fun Q hq => ?_) ⟨_, rfl, by decide, ?_⟩))))
    · exact tupF_sat (consF_sat (cF_sat (consF_sat (cF_sat (consF_sat (cF_sat (consF_sat (binF_sat (cF_sat (cF_sat ⟨.int 100000000000000000000, rfl, nilF_sat hq⟩))))))))))
    refine lc_mapM (φ := D.int) (xs := [11, 12, 99, 100000000000000000000]) (fun z => jn c d (.two (σ * z) la)) (fun z hz => ⟨_, rfl, yesT_sat ⟨rfl, rfl⟩, ?_⟩) ?_
    · have : 11 ≤ z ∧ z ≤ 100000000000000000000 := by simp only [List.mem_cons, List.not_mem_nil, or_false] at hz; omega
      exact tupF_sat (consF_sat (vF_sat rfl (consF_sat (vF_sat rfl (consF_sat (tupF_sat (consF_sat (binF_sat (vF_sat rfl (vF_sat rfl ⟨_, mul_side hσ (by omega) (by omega), consF_sat (vF_sat rfl (nilF_sat (nilF_sat ⟨rfl, rfl⟩)))⟩))))))))))
    dsimp only [List.set_cons_succ, List.set_cons_zero]
    refine seqS_sat (iteS_sat (notT_sat (tstF_sat (callF_sat (consF_sat (lcF_sat (seqF_sat (vF_sat rfl ⟨([11, 12, 99, 100000000000000000000] : List Int).map fun z => jn c d (.two (σ * z) la), rfl, (by rw [List.length_map]; decide), ?_⟩))))))))
    refine lc_mapM (φ := fun z => jn c d (.two (σ * z) la)) (xs := [11, 12, 99, 100000000000000000000]) (fun z => .bl (stB r1 r2 a b sg c d la (σ * 9) (σ * z))) (fun z hz => ⟨_, rfl, yesT_sat ⟨rfl, rfl⟩, ?_⟩) ?_
    · have : 11 ≤ z ∧ z ≤ 100000000000000000000 := by simp only [List.mem_cons, List.not_mem_nil, or_false] at hz; omega
      exact ask (z := 9) rfl rfl ⟨by decide, by decide⟩ ⟨by omega, by omega⟩ (fun Q hq => binF_sat (vF_sat rfl (cF_sat ⟨_, rfl, hq⟩))) (fun Q hq => vF_sat rfl hq) ⟨rfl, rfl⟩
    refine nilF_sat (alike_sat (f := fun z => stB r1 r2 a b sg c d la (σ * 9) (σ * z)) (x0 := 11) rfl (by decide) (fun z hz => tr3 hσ (by decide) (.inl ⟨by simp only [List.mem_cons, List.not_mem_nil, or_false] at hz; omega, by decide⟩)) ⟨true, rfl, ?_⟩)
    refine NL.ifF rfl (nilS_sat ?_)
    -- falls
    refine seqS_sat (setS_sat (lcF_sat (seqF_sat (viaD (d := .tup (([2, 3, 20, 38] : List Int).map .int)) (S := T') (fun Q hq => ?_) ⟨_, rfl, by decide, ?_⟩))))
    · exact tupF_sat (consF_sat (cF_sat (consF_sat (cF_sat (consF_sat (cF_sat (consF_sat (cF_sat (nilF_sat hq)))))))))
    refine lc_mapM (φ := D.int) (xs := [2, 3, 20, 38]) (fun z => jn c d (.two (σ * z) la)) (fun z hz => ⟨_, rfl, yesT_sat ⟨rfl, rfl⟩, ?_⟩) ?_
    · have : 2 ≤ z ∧ z ≤ 38 := by simp only [List.mem_cons, List.not_mem_nil, or_false] at hz; omega
      exact tupF_sat (consF_sat (vF_sat rfl (consF_sat (vF_sat rfl (consF_sat (tupF_sat (consF_sat (binF_sat (vF_sat rfl (vF_sat rfl ⟨_, mul_side hσ (by omega) (by omega), consF_sat (vF_sat rfl (nilF_sat (nilF_sat ⟨rfl, rfl⟩)))⟩))))))))))
    dsimp only [List.set_cons_succ, List.set_cons_zero]
    refine iteS_sat (notT_sat (tstF_sat (callF_sat (consF_sat (lcF_sat (seqF_sat (vF_sat rfl ⟨([2, 3, 20, 38] : List Int).map fun z => jn c d (.two (σ * z) la), rfl, (by rw [List.length_map]; decide), ?_⟩)))))))
    refine lc_mapM (φ := fun z => jn c d (.two (σ * z) la)) (xs := [2, 3, 20, 38]) (fun z => .bl (stB r1 r2 a b sg c d la (σ * 40) (σ * z))) (fun z hz => ⟨_, rfl, yesT_sat ⟨rfl, rfl⟩, ?_⟩) ?_
    · have : 2 ≤ z ∧ z ≤ 38 := by simp only [List.mem_cons, List.not_mem_nil, or_false] at hz; omega
      exact ask (z := 40) rfl rfl ⟨by decide, by decide⟩ ⟨by omega, by omega⟩ (fun Q hq => binF_sat (vF_sat rfl (cF_sat ⟨_, rfl, hq⟩))) (fun Q hq => vF_sat rfl hq) ⟨rfl, rfl⟩
    refine nilF_sat (alike_sat (f := fun z => stB r1 r2 a b sg c d la (σ * 40) (σ * z)) (x0 := 2) rfl (by decide) (fun z hz => tr3 hσ (by decide) (.inr ⟨by simp only [List.mem_cons, List.not_mem_nil, or_false] at hz; omega, by simp only [List.mem_cons, List.not_mem_nil, or_false] at hz; omega, by decide, by decide⟩)) ⟨true, rfl, ?_⟩)
    refine NL.ifF rfl (nilS_sat ⟨⟨_, _, _, _, _, _, _, _, _, _, _, _, _, _, _, _, _, rfl⟩, ?_⟩)
    omega
  · rintro ρ S' ⟨⟨v9, v10, v11, v12, v13, v14, v15, v16, v17, v18, v19, v20, v21, v22, v23, v24, v25, rfl⟩, hcc⟩
    exact retS_sat (cF_sat ⟨_, rfl⟩)
def topS (i : Nat) : Stmt := PySem.Challenge.pw_nearloops_k77_whole_steps_far_apart.main.body.getD i (.Pass ⟨0, 0, 0, 0⟩)
abbrev s_is_name : Stmt := topS 13
abbrev N_is_name : List Str := ["value", "sign"]
theorem sc_is_name : FnScope N_is_name ["value"] (defScope s_is_name) := ⟨rfl, rfl, rfl, by decide +kernel, rfl, by decide +kernel, by decide +kernel⟩
abbrev s_is_number : Stmt := topS 14
abbrev N_is_number : List Str := ["value"]
theorem sc_is_number : FnScope N_is_number ["value"] (defScope s_is_number) := ⟨rfl, rfl, rfl, by decide +kernel, rfl, by decide +kernel, by decide +kernel⟩
abbrev s_place_of : Stmt := topS 15
abbrev N_place_of : List Str := ["step", "sign"]
theorem sc_place_of : FnScope N_place_of ["step", "sign"] (defScope s_place_of) := ⟨rfl, rfl, rfl, by decide +kernel, rfl, by decide +kernel, by decide +kernel⟩
abbrev s_is_group : Stmt := topS 16
abbrev N_is_group : List Str := ["name"]
theorem sc_is_group : FnScope N_is_group ["name"] (defScope s_is_group) := ⟨rfl, rfl, rfl, by decide +kernel, rfl, by decide +kernel, by decide +kernel⟩
abbrev s_group : Stmt := topS 17
abbrev N_group : List Str := ["name"]
theorem sc_group : FnScope N_group ["name"] (defScope s_group) := ⟨rfl, rfl, rfl, by decide +kernel, rfl, by decide +kernel, by decide +kernel⟩
abbrev s_spans_of : Stmt := topS 24
abbrev N_spans_of : List Str := ["d", "low", "high", "found", "cell"]
theorem sc_spans_of : FnScope N_spans_of ["d"] (defScope s_spans_of) := ⟨rfl, rfl, rfl, by decide +kernel, rfl, by decide +kernel, by decide +kernel⟩
abbrev s_numbers_by_places : Stmt := topS 25
abbrev N_numbers_by_places : List Str := ["gap", "found", "span", "sign", "where", "d", "order", "cell", "signs", "places"]
theorem sc_numbers_by_places : FnScope N_numbers_by_places ["gap"] (defScope s_numbers_by_places) := ⟨rfl, rfl, rfl, by decide +kernel, rfl, by decide +kernel, by decide +kernel⟩
abbrev s_turned_span : Stmt := topS 26
abbrev N_turned_span : List Str := ["span", "d", "low", "high"]
theorem sc_turned_span : FnScope N_turned_span ["span", "d"] (defScope s_turned_span) := ⟨rfl, rfl, rfl, by decide +kernel, rfl, by decide +kernel, by decide +kernel⟩
abbrev s_gap_behind : Stmt := topS 27
abbrev N_gap_behind : List Str := ["gap", "span", "signs", "keeps"]
theorem sc_gap_behind : FnScope N_gap_behind ["gap", "span", "signs", "keeps"] (defScope s_gap_behind) := ⟨rfl, rfl, rfl, by decide +kernel, rfl, by decide +kernel, by decide +kernel⟩
abbrev s_outcomes_of : Stmt := topS 28
abbrev N_outcomes_of : List Str := ["gap", "keeps", "numbers", "found", "span", "signs", "behind"]
theorem sc_outcomes_of : FnScope N_outcomes_of ["gap", "keeps", "numbers"] (defScope s_outcomes_of) := ⟨rfl, rfl, rfl, by decide +kernel, rfl, by decide +kernel, by decide +kernel⟩
abbrev s_Menus___init__ : Stmt := inClass (topS 29) 0
abbrev N_Menus___init__ : List Str := ["self"]
theorem sc_Menus___init__ : FnScope N_Menus___init__ ["self"] (defScope s_Menus___init__) := ⟨rfl, rfl, rfl, by decide +kernel, rfl, by decide +kernel, by decide +kernel⟩
abbrev s_Menus_at : Stmt := inClass (topS 29) 1
abbrev N_Menus_at : List Str := ["self", "gap", "places", "numbers"]
theorem sc_Menus_at : FnScope N_Menus_at ["self", "gap"] (defScope s_Menus_at) := ⟨rfl, rfl, rfl, by decide +kernel, rfl, by decide +kernel, by decide +kernel⟩
abbrev s_moves_of : Stmt := topS 30
abbrev N_moves_of : List Str := ["pair", "menus", "node", "state", "other", "gap", "found", "where", "other_where", "numbers", "outcomes", "after", "later", "keeps", "other_keeps", "is_event", "kept"]
theorem sc_moves_of : FnScope N_moves_of ["pair", "menus", "node"] (defScope s_moves_of) := ⟨rfl, rfl, rfl, by decide +kernel, rfl, by decide +kernel, by decide +kernel⟩
abbrev s_is_rule : Stmt := topS 34
abbrev N_is_rule : List Str := ["rule", "state", "groups", "word", "keeps", "after", "name"]
theorem sc_is_rule : FnScope N_is_rule ["rule"] (defScope s_is_rule) := ⟨rfl, rfl, rfl, by decide +kernel, rfl, by decide +kernel, by decide +kernel⟩
abbrev s_states_of : Stmt := topS 35
abbrev N_states_of : List Str := ["rules", "found", "state", "groups", "word", "keeps", "after"]
theorem sc_states_of : FnScope N_states_of ["rules"] (defScope s_states_of) := ⟨rfl, rfl, rfl, by decide +kernel, rfl, by decide +kernel, by decide +kernel⟩
abbrev s_invalid_rule : Stmt := topS 36
abbrev N_invalid_rule : List Str := ["rules", "line"]
theorem sc_invalid_rule : FnScope N_invalid_rule ["rules"] (defScope s_invalid_rule) := ⟨rfl, rfl, rfl, by decide +kernel, rfl, by decide +kernel, by decide +kernel⟩
abbrev s_Loop___init__ : Stmt := inClass (topS 37) 0
abbrev N_Loop___init__ : List Str := ["self", "rules", "answers", "line", "copied", "rule", "given", "found", "state", "key", "answer", "k", "groups", "word", "keeps", "after", "name", "place"]
theorem sc_Loop___init__ : FnScope N_Loop___init__ ["self", "rules", "answers"] (defScope s_Loop___init__) := ⟨rfl, rfl, rfl, by decide +kernel, rfl, by decide +kernel, by decide +kernel⟩
abbrev s_Loop_states : Stmt := inClass (topS 37) 3
abbrev N_Loop_states : List Str := ["self"]
theorem sc_Loop_states : FnScope N_Loop_states ["self"] (defScope s_Loop_states) := ⟨rfl, rfl, rfl, by decide +kernel, rfl, by decide +kernel, by decide +kernel⟩
abbrev s_used : Stmt := topS 38
abbrev N_used : List Str := ["loop", "state", "place", "k"]
theorem sc_used : FnScope N_used ["loop", "state", "place"] (defScope s_used) := ⟨rfl, rfl, rfl, by decide +kernel, rfl, by decide +kernel, by decide +kernel⟩
abbrev s_Loops___init__ : Stmt := inClass (topS 40) 0
abbrev N_Loops___init__ : List Str := ["self", "one", "other", "by"]
theorem sc_Loops___init__ : FnScope N_Loops___init__ ["self", "one", "other", "by"] (defScope s_Loops___init__) := ⟨rfl, rfl, rfl, by decide +kernel, rfl, by decide +kernel, by decide +kernel⟩
abbrev s_Loops_react : Stmt := inClass (topS 40) 3
abbrev N_Loops_react : List Str := ["self", "state", "other", "where", "other_where", "word", "keeps", "after", "other_word", "other_keeps", "later", "is_unlike"]
theorem sc_Loops_react : FnScope N_Loops_react ["self", "state", "other", "where", "other_where"] (defScope s_Loops_react) := ⟨rfl, rfl, rfl, by decide +kernel, rfl, by decide +kernel, by decide +kernel⟩
abbrev s_is_gap : Stmt := topS 43
abbrev N_is_gap : List Str := ["value"]
theorem sc_is_gap : FnScope N_is_gap ["value"] (defScope s_is_gap) := ⟨rfl, rfl, rfl, by decide +kernel, rfl, by decide +kernel, by decide +kernel⟩
abbrev s_as_joint : Stmt := topS 44
abbrev N_as_joint : List Str := ["one", "other", "value", "gap"]
theorem sc_as_joint : FnScope N_as_joint ["one", "other", "value"] (defScope s_as_joint) := ⟨rfl, rfl, rfl, by decide +kernel, rfl, by decide +kernel, by decide +kernel⟩
abbrev s_is_within : Stmt := topS 45
abbrev N_is_within : List Str := ["behind", "gap", "low", "high", "sign"]
theorem sc_is_within : FnScope N_is_within ["behind", "gap"] (defScope s_is_within) := ⟨rfl, rfl, rfl, by decide +kernel, rfl, by decide +kernel, by decide +kernel⟩
abbrev s_leads : Stmt := topS 46
abbrev N_leads : List Str := ["one", "other", "state", "later", "states", "is_event", "keeps", "outcomes", "outcome"]
theorem sc_leads : FnScope N_leads ["one", "other", "state", "later"] (defScope s_leads) := ⟨rfl, rfl, rfl, by decide +kernel, rfl, by decide +kernel, by decide +kernel⟩
abbrev s__law_source : Stmt := topS 48
abbrev N__law_source : List Str := ["_law_script", "_law_great", "_law_seed", "_law_cell"]
theorem sc__law_source : FnScope N__law_source ["_law_script"] (defScope s__law_source) := ⟨rfl, rfl, rfl, by decide +kernel, rfl, by decide +kernel, by decide +kernel⟩
abbrev s__law_draw : Stmt := topS 49
abbrev N__law_draw : List Str := ["_law_source_here", "_law_many", "_law_digit", "_law_mixed"]
theorem sc__law_draw : FnScope N__law_draw ["_law_source_here", "_law_many"] (defScope s__law_draw) := ⟨rfl, rfl, rfl, by decide +kernel, rfl, by decide +kernel, by decide +kernel⟩
abbrev s__law_pick : Stmt := topS 50
abbrev N__law_pick : List Str := ["_law_source_here", "_law_things"]
theorem sc__law_pick : FnScope N__law_pick ["_law_source_here", "_law_things"] (defScope s__law_pick) := ⟨rfl, rfl, rfl, by decide +kernel, rfl, by decide +kernel, by decide +kernel⟩
abbrev s__law_name : Stmt := topS 51
abbrev N__law_name : List Str := ["_law_source_here", "_law_taken", "_law_size", "_law_name_here", "_law_k", "_law_one", "_law_letter"]
theorem sc__law_name : FnScope N__law_name ["_law_source_here", "_law_taken"] (defScope s__law_name) := ⟨rfl, rfl, rfl, by decide +kernel, rfl, by decide +kernel, by decide +kernel⟩
abbrev s__law_names : Stmt := topS 52
abbrev N__law_names : List Str := ["_law_source_here", "_law_many", "_law_names_here", "_law_k"]
theorem sc__law_names : FnScope N__law_names ["_law_source_here", "_law_many"] (defScope s__law_names) := ⟨rfl, rfl, rfl, by decide +kernel, rfl, by decide +kernel, by decide +kernel⟩
abbrev s__law_places : Stmt := topS 53
abbrev N__law_places : List Str := []
theorem sc__law_places : FnScope N__law_places [] (defScope s__law_places) := ⟨rfl, rfl, rfl, by decide +kernel, rfl, by decide +kernel, by decide +kernel⟩
abbrev s__law_group_names : Stmt := topS 54
abbrev N__law_group_names : List Str := []
theorem sc__law_group_names : FnScope N__law_group_names [] (defScope s__law_group_names) := ⟨rfl, rfl, rfl, by decide +kernel, rfl, by decide +kernel, by decide +kernel⟩
abbrev s__law_states : Stmt := topS 55
abbrev N__law_states : List Str := ["_law_rules_here", "_law_found", "_law_rule", "_law_state"]
theorem sc__law_states : FnScope N__law_states ["_law_rules_here"] (defScope s__law_states) := ⟨rfl, rfl, rfl, by decide +kernel, rfl, by decide +kernel, by decide +kernel⟩
abbrev s__law_groups : Stmt := topS 56
abbrev N__law_groups : List Str := ["_law_source_here", "_law_first", "_law_names_here", "_law_groups_here", "_law_k"]
theorem sc__law_groups : FnScope N__law_groups ["_law_source_here", "_law_first"] (defScope s__law_groups) := ⟨rfl, rfl, rfl, by decide +kernel, rfl, by decide +kernel, by decide +kernel⟩
abbrev s__law_rules : Stmt := topS 57
abbrev N__law_rules : List Str := ["_law_source_here", "_law_many", "_law_most", "_law_states_here", "_law_words", "_law_rules_here", "_law_k", "_law_state", "_law_groups_here"]
theorem sc__law_rules : FnScope N__law_rules ["_law_source_here", "_law_many", "_law_most"] (defScope s__law_rules) := ⟨rfl, rfl, rfl, by decide +kernel, rfl, by decide +kernel, by decide +kernel⟩
abbrev s__law_alike : Stmt := topS 58
abbrev N__law_alike : List Str := ["_law_found", "_law_one"]
theorem sc__law_alike : FnScope N__law_alike ["_law_found"] (defScope s__law_alike) := ⟨rfl, rfl, rfl, by decide +kernel, rfl, by decide +kernel, by decide +kernel⟩
abbrev s_law : Stmt := topS 59
abbrev N_law : List Str := ["_law_script", "_law_source_here", "_law_rules_here", "_law_others", "_law_one", "_law_two", "_law_states_here", "_law_later", "_law_far", "_law_turn", "_law_a", "_law_b", "_law_c", "_law_d", "_law_sign", "_law_last", "_law_side", "_law_starts", "_law_size", "_law_change", "_law_goals", "_law_each", "_law_goal", "_law_gap", "_law_rises", "_law_falls"]
theorem sc_law : FnScope N_law ["_law_script"] (defScope s_law) := ⟨rfl, rfl, rfl, by decide +kernel, rfl, by decide +kernel, by decide +kernel⟩
/-- what the top has written: where each def stands, the names that are still built-in, the constants -/
structure Tx (w : World) (K : PySem.W.Frag) (mg : Str → Option Value) where
  a_Menus : Addr
  g_Menus : mg "Menus" = some (.ref a_Menus)
  cl_Menus : Cls K a_Menus
  no_Menus_known : NoAttr K a_Menus "known"
  a_Loop : Addr
  g_Loop : mg "Loop" = some (.ref a_Loop)
  cl_Loop : Cls K a_Loop
  no_Loop_own_rules : NoAttr K a_Loop "own_rules"
  no_Loop_own_answers : NoAttr K a_Loop "own_answers"
  no_Loop_table : NoAttr K a_Loop "table"
  a_Loops : Addr
  g_Loops : mg "Loops" = some (.ref a_Loops)
  cl_Loops : Cls K a_Loops
  no_Loops_one : NoAttr K a_Loops "one"
  no_Loops_other : NoAttr K a_Loops "other"
  no_Loops_by : NoAttr K a_Loops "by"
  a_is_name : Addr
  fd_is_name : FuncData
  F_is_name : Fun K "is_name" "is_name" s_is_name a_is_name fd_is_name
  b_is_name : Binds K fd_is_name ["value"] []
  g_is_name : mg "is_name" = some (.ref a_is_name)
  a_is_number : Addr
  fd_is_number : FuncData
  F_is_number : Fun K "is_number" "is_number" s_is_number a_is_number fd_is_number
  b_is_number : Binds K fd_is_number ["value"] []
  g_is_number : mg "is_number" = some (.ref a_is_number)
  a_place_of : Addr
  fd_place_of : FuncData
  F_place_of : Fun K "place_of" "place_of" s_place_of a_place_of fd_place_of
  b_place_of : Binds K fd_place_of ["step", "sign"] []
  g_place_of : mg "place_of" = some (.ref a_place_of)
  a_is_group : Addr
  fd_is_group : FuncData
  F_is_group : Fun K "is_group" "is_group" s_is_group a_is_group fd_is_group
  b_is_group : Binds K fd_is_group ["name"] []
  g_is_group : mg "is_group" = some (.ref a_is_group)
  a_group : Addr
  fd_group : FuncData
  F_group : Fun K "group" "group" s_group a_group fd_group
  b_group : Binds K fd_group ["name"] []
  g_group : mg "group" = some (.ref a_group)
  a_spans_of : Addr
  fd_spans_of : FuncData
  F_spans_of : Fun K "spans_of" "spans_of" s_spans_of a_spans_of fd_spans_of
  b_spans_of : Binds K fd_spans_of ["d"] []
  g_spans_of : mg "spans_of" = some (.ref a_spans_of)
  a_numbers_by_places : Addr
  fd_numbers_by_places : FuncData
  F_numbers_by_places : Fun K "numbers_by_places" "numbers_by_places" s_numbers_by_places a_numbers_by_places fd_numbers_by_places
  b_numbers_by_places : Binds K fd_numbers_by_places ["gap"] []
  g_numbers_by_places : mg "numbers_by_places" = some (.ref a_numbers_by_places)
  a_turned_span : Addr
  fd_turned_span : FuncData
  F_turned_span : Fun K "turned_span" "turned_span" s_turned_span a_turned_span fd_turned_span
  b_turned_span : Binds K fd_turned_span ["span", "d"] []
  g_turned_span : mg "turned_span" = some (.ref a_turned_span)
  a_gap_behind : Addr
  fd_gap_behind : FuncData
  F_gap_behind : Fun K "gap_behind" "gap_behind" s_gap_behind a_gap_behind fd_gap_behind
  b_gap_behind : Binds K fd_gap_behind ["gap", "span", "signs", "keeps"] []
  g_gap_behind : mg "gap_behind" = some (.ref a_gap_behind)
  a_outcomes_of : Addr
  fd_outcomes_of : FuncData
  F_outcomes_of : Fun K "outcomes_of" "outcomes_of" s_outcomes_of a_outcomes_of fd_outcomes_of
  b_outcomes_of : Binds K fd_outcomes_of ["gap", "keeps", "numbers"] []
  g_outcomes_of : mg "outcomes_of" = some (.ref a_outcomes_of)
  a_Menus___init__ : Addr
  fd_Menus___init__ : FuncData
  F_Menus___init__ : Fun K "__init__" "Menus.__init__" s_Menus___init__ a_Menus___init__ fd_Menus___init__
  b_Menus___init__ : Binds K fd_Menus___init__ ["self"] []
  mk_Menus : Mk K a_Menus a_Menus___init__
  a_Menus_at : Addr
  fd_Menus_at : FuncData
  F_Menus_at : Fun K "at" "Menus.at" s_Menus_at a_Menus_at fd_Menus_at
  b_Menus_at : Binds K fd_Menus_at ["self", "gap"] []
  me_Menus_at : Meth K a_Menus "at" a_Menus_at
  a_moves_of : Addr
  fd_moves_of : FuncData
  F_moves_of : Fun K "moves_of" "moves_of" s_moves_of a_moves_of fd_moves_of
  b_moves_of : Binds K fd_moves_of ["pair", "menus", "node"] []
  g_moves_of : mg "moves_of" = some (.ref a_moves_of)
  a_is_rule : Addr
  fd_is_rule : FuncData
  F_is_rule : Fun K "is_rule" "is_rule" s_is_rule a_is_rule fd_is_rule
  b_is_rule : Binds K fd_is_rule ["rule"] []
  g_is_rule : mg "is_rule" = some (.ref a_is_rule)
  a_states_of : Addr
  fd_states_of : FuncData
  F_states_of : Fun K "states_of" "states_of" s_states_of a_states_of fd_states_of
  b_states_of : Binds K fd_states_of ["rules"] []
  g_states_of : mg "states_of" = some (.ref a_states_of)
  a_invalid_rule : Addr
  fd_invalid_rule : FuncData
  F_invalid_rule : Fun K "invalid_rule" "invalid_rule" s_invalid_rule a_invalid_rule fd_invalid_rule
  b_invalid_rule : Binds K fd_invalid_rule ["rules"] []
  g_invalid_rule : mg "invalid_rule" = some (.ref a_invalid_rule)
  a_Loop___init__ : Addr
  fd_Loop___init__ : FuncData
  F_Loop___init__ : FunD K "__init__" "Loop.__init__" (defArgs s_Loop___init__) (defBody s_Loop___init__) (defScope s_Loop___init__) [.non] [] a_Loop___init__ fd_Loop___init__
  b0_Loop___init__ : ∃ ds, Vals [.non] ds ∧ Binds K fd_Loop___init__ ["self", "rules", "answers"] ds
  b_Loop___init__ : Binds K fd_Loop___init__ ["self", "rules", "answers"] []
  mk_Loop : Mk K a_Loop a_Loop___init__
  a_Loop_states : Addr
  fd_Loop_states : FuncData
  F_Loop_states : Fun K "states" "Loop.states" s_Loop_states a_Loop_states fd_Loop_states
  b_Loop_states : Binds K fd_Loop_states ["self"] []
  pp_Loop_states : Addr
  pr_Loop_states : PropOf K a_Loop "states" pp_Loop_states a_Loop_states
  a_used : Addr
  fd_used : FuncData
  F_used : Fun K "used" "used" s_used a_used fd_used
  b_used : Binds K fd_used ["loop", "state", "place"] []
  g_used : mg "used" = some (.ref a_used)
  a_Loops___init__ : Addr
  fd_Loops___init__ : FuncData
  F_Loops___init__ : Fun K "__init__" "Loops.__init__" s_Loops___init__ a_Loops___init__ fd_Loops___init__
  b_Loops___init__ : Binds K fd_Loops___init__ ["self", "one", "other", "by"] []
  mk_Loops : Mk K a_Loops a_Loops___init__
  a_Loops_react : Addr
  fd_Loops_react : FuncData
  F_Loops_react : Fun K "react" "Loops.react" s_Loops_react a_Loops_react fd_Loops_react
  b_Loops_react : Binds K fd_Loops_react ["self", "state", "other", "where", "other_where"] []
  me_Loops_react : Meth K a_Loops "react" a_Loops_react
  a_is_gap : Addr
  fd_is_gap : FuncData
  F_is_gap : Fun K "is_gap" "is_gap" s_is_gap a_is_gap fd_is_gap
  b_is_gap : Binds K fd_is_gap ["value"] []
  g_is_gap : mg "is_gap" = some (.ref a_is_gap)
  a_as_joint : Addr
  fd_as_joint : FuncData
  F_as_joint : Fun K "as_joint" "as_joint" s_as_joint a_as_joint fd_as_joint
  b_as_joint : Binds K fd_as_joint ["one", "other", "value"] []
  g_as_joint : mg "as_joint" = some (.ref a_as_joint)
  a_is_within : Addr
  fd_is_within : FuncData
  F_is_within : Fun K "is_within" "is_within" s_is_within a_is_within fd_is_within
  b_is_within : Binds K fd_is_within ["behind", "gap"] []
  g_is_within : mg "is_within" = some (.ref a_is_within)
  a_leads : Addr
  fd_leads : FuncData
  F_leads : Fun K "leads" "leads" s_leads a_leads fd_leads
  b_leads : Binds K fd_leads ["one", "other", "state", "later"] []
  g_leads : mg "leads" = some (.ref a_leads)
  a__law_source : Addr
  fd__law_source : FuncData
  F__law_source : Fun K "_law_source" "_law_source" s__law_source a__law_source fd__law_source
  b__law_source : Binds K fd__law_source ["_law_script"] []
  g__law_source : mg "_law_source" = some (.ref a__law_source)
  a__law_draw : Addr
  fd__law_draw : FuncData
  F__law_draw : Fun K "_law_draw" "_law_draw" s__law_draw a__law_draw fd__law_draw
  b__law_draw : Binds K fd__law_draw ["_law_source_here", "_law_many"] []
  g__law_draw : mg "_law_draw" = some (.ref a__law_draw)
  a__law_pick : Addr
  fd__law_pick : FuncData
  F__law_pick : Fun K "_law_pick" "_law_pick" s__law_pick a__law_pick fd__law_pick
  b__law_pick : Binds K fd__law_pick ["_law_source_here", "_law_things"] []
  g__law_pick : mg "_law_pick" = some (.ref a__law_pick)
  a__law_name : Addr
  fd__law_name : FuncData
  F__law_name : Fun K "_law_name" "_law_name" s__law_name a__law_name fd__law_name
  b__law_name : Binds K fd__law_name ["_law_source_here", "_law_taken"] []
  g__law_name : mg "_law_name" = some (.ref a__law_name)
  a__law_names : Addr
  fd__law_names : FuncData
  F__law_names : Fun K "_law_names" "_law_names" s__law_names a__law_names fd__law_names
  b__law_names : Binds K fd__law_names ["_law_source_here", "_law_many"] []
  g__law_names : mg "_law_names" = some (.ref a__law_names)
  a__law_places : Addr
  fd__law_places : FuncData
  F__law_places : Fun K "_law_places" "_law_places" s__law_places a__law_places fd__law_places
  b__law_places : Binds K fd__law_places [] []
  g__law_places : mg "_law_places" = some (.ref a__law_places)
  a__law_group_names : Addr
  fd__law_group_names : FuncData
  F__law_group_names : Fun K "_law_group_names" "_law_group_names" s__law_group_names a__law_group_names fd__law_group_names
  b__law_group_names : Binds K fd__law_group_names [] []
  g__law_group_names : mg "_law_group_names" = some (.ref a__law_group_names)
  a__law_states : Addr
  fd__law_states : FuncData
  F__law_states : Fun K "_law_states" "_law_states" s__law_states a__law_states fd__law_states
  b__law_states : Binds K fd__law_states ["_law_rules_here"] []
  g__law_states : mg "_law_states" = some (.ref a__law_states)
  a__law_groups : Addr
  fd__law_groups : FuncData
  F__law_groups : Fun K "_law_groups" "_law_groups" s__law_groups a__law_groups fd__law_groups
  b__law_groups : Binds K fd__law_groups ["_law_source_here", "_law_first"] []
  g__law_groups : mg "_law_groups" = some (.ref a__law_groups)
  a__law_rules : Addr
  fd__law_rules : FuncData
  F__law_rules : Fun K "_law_rules" "_law_rules" s__law_rules a__law_rules fd__law_rules
  b__law_rules : Binds K fd__law_rules ["_law_source_here", "_law_many", "_law_most"] []
  g__law_rules : mg "_law_rules" = some (.ref a__law_rules)
  a__law_alike : Addr
  fd__law_alike : FuncData
  F__law_alike : Fun K "_law_alike" "_law_alike" s__law_alike a__law_alike fd__law_alike
  b__law_alike : Binds K fd__law_alike ["_law_found"] []
  g__law_alike : mg "_law_alike" = some (.ref a__law_alike)
  a_law : Addr
  fd_law : FuncData
  F_law : Fun K "law" "law" s_law a_law fd_law
  b_law : Binds K fd_law ["_law_script"] []
  g_law : mg "law" = some (.ref a_law)
  m_len : mg "len" = none
  m_int : mg "int" = none
  m_bool : mg "bool" = none
  m_str : mg "str" = none
  m_list : mg "list" = none
  m_tuple : mg "tuple" = none
  m_dict : mg "dict" = none
  m_range : mg "range" = none
  m_zip : mg "zip" = none
  m_enumerate : mg "enumerate" = none
  m_isinstance : mg "isinstance" = none
  m_max : mg "max" = none
  m_min : mg "min" = none
  m_abs : mg "abs" = none
  m_any : mg "any" = none
  m_all : mg "all" = none
  m_sorted : mg "sorted" = none
  m_super : mg "super" = none
  m_ValueError : mg "ValueError" = none
  t_BOUND : Tok
  g_BOUND : mg "BOUND" = some (.int 1000000000000000000000000000000 t_BOUND)
  t_MOST_LETTERS : Tok
  g_MOST_LETTERS : mg "MOST_LETTERS" = some (.int 8 t_MOST_LETTERS)
  a_PLACES : Addr
  g_PLACES : mg "PLACES" = some (.ref a_PLACES)
  k_PLACES : ∃ o, K.lookup a_PLACES = some o ∧ o.cls = .type "tuple" ∧ o.dict = none
  p_PLACES : ∀ H : Hp, SqT K H a_PLACES [.str "below", .str "-<", .str "-=", .str "->", .str "<", .str "=", .str ">", .str "+<", .str "+=", .str "+>", .str "above"]
  a_LONG_GROUPS : Addr
  g_LONG_GROUPS : mg "LONG_GROUPS" = some (.ref a_LONG_GROUPS)
  a_LONG_GROUPS_any : Addr
  p_LONG_GROUPS_any : ∀ H : Hp, SqT K H a_LONG_GROUPS_any [.str "below", .str "-<", .str "-=", .str "->", .str "<", .str "=", .str ">", .str "+<", .str "+=", .str "+>", .str "above"]
  k_LONG_GROUPS_any : ∃ o, K.lookup a_LONG_GROUPS_any = some o ∧ o.cls = .type "tuple" ∧ o.dict = none
  a_LONG_GROUPS_near : Addr
  p_LONG_GROUPS_near : ∀ H : Hp, SqT K H a_LONG_GROUPS_near [.str "-=", .str "->", .str "<", .str "=", .str ">", .str "+<", .str "+="]
  k_LONG_GROUPS_near : ∃ o, K.lookup a_LONG_GROUPS_near = some o ∧ o.cls = .type "tuple" ∧ o.dict = none
  a_LONG_GROUPS_far : Addr
  p_LONG_GROUPS_far : ∀ H : Hp, SqT K H a_LONG_GROUPS_far [.str "below", .str "-<", .str "+>", .str "above"]
  k_LONG_GROUPS_far : ∃ o, K.lookup a_LONG_GROUPS_far = some o ∧ o.cls = .type "tuple" ∧ o.dict = none
  a_LONG_GROUPS_less : Addr
  p_LONG_GROUPS_less : ∀ H : Hp, SqT K H a_LONG_GROUPS_less [.str "below", .str "-<", .str "-=", .str "->", .str "<"]
  k_LONG_GROUPS_less : ∃ o, K.lookup a_LONG_GROUPS_less = some o ∧ o.cls = .type "tuple" ∧ o.dict = none
  a_LONG_GROUPS_more : Addr
  p_LONG_GROUPS_more : ∀ H : Hp, SqT K H a_LONG_GROUPS_more [.str ">", .str "+<", .str "+=", .str "+>", .str "above"]
  k_LONG_GROUPS_more : ∃ o, K.lookup a_LONG_GROUPS_more = some o ∧ o.cls = .type "tuple" ∧ o.dict = none
  a_LONG_GROUPS_under : Addr
  p_LONG_GROUPS_under : ∀ H : Hp, SqT K H a_LONG_GROUPS_under [.str "below", .str "-<"]
  k_LONG_GROUPS_under : ∃ o, K.lookup a_LONG_GROUPS_under = some o ∧ o.cls = .type "tuple" ∧ o.dict = none
  a_LONG_GROUPS_over : Addr
  p_LONG_GROUPS_over : ∀ H : Hp, SqT K H a_LONG_GROUPS_over [.str "+>", .str "above"]
  k_LONG_GROUPS_over : ∃ o, K.lookup a_LONG_GROUPS_over = some o ∧ o.cls = .type "tuple" ∧ o.dict = none
  a_LONG_GROUPS_cell : Addr
  p_LONG_GROUPS_cell : ∀ H : Hp, SqT K H a_LONG_GROUPS_cell [.str "<", .str "=", .str ">"]
  k_LONG_GROUPS_cell : ∃ o, K.lookup a_LONG_GROUPS_cell = some o ∧ o.cls = .type "tuple" ∧ o.dict = none
  a_LONG_GROUPS_none : Addr
  p_LONG_GROUPS_none : ∀ H : Hp, SqT K H a_LONG_GROUPS_none []
  k_LONG_GROUPS_none : ∃ o, K.lookup a_LONG_GROUPS_none = some o ∧ o.cls = .type "tuple" ∧ o.dict = none
  d_LONG_GROUPS : NL.KDt w K a_LONG_GROUPS [("any", .ref a_LONG_GROUPS_any), ("near", .ref a_LONG_GROUPS_near), ("far", .ref a_LONG_GROUPS_far), ("less", .ref a_LONG_GROUPS_less), ("more", .ref a_LONG_GROUPS_more), ("under", .ref a_LONG_GROUPS_under), ("over", .ref a_LONG_GROUPS_over), ("cell", .ref a_LONG_GROUPS_cell), ("none", .ref a_LONG_GROUPS_none)]
  a_SIGNS : Addr
  g_SIGNS : mg "SIGNS" = some (.ref a_SIGNS)
  k_SIGNS : ∃ o, K.lookup a_SIGNS = some o ∧ o.cls = .type "tuple" ∧ o.dict = none
  p_SIGNS : ∀ H : Hp, SqT K H a_SIGNS [.str "<", .str "=", .str ">"]
  a_TURNED_SIGNS : Addr
  g_TURNED_SIGNS : mg "TURNED_SIGNS" = some (.ref a_TURNED_SIGNS)
  d_TURNED_SIGNS : NL.KDt w K a_TURNED_SIGNS [("<", .str ">"), ("=", .str "="), (">", .str "<")]
  a_REST_PLACES : Addr
  g_REST_PLACES : mg "REST_PLACES" = some (.ref a_REST_PLACES)
  a_REST_PLACES_0 : Addr
  a_REST_PLACES_0_0 : Addr
  a_REST_PLACES_0_1 : Addr
  a_REST_PLACES_0_2 : Addr
  a_REST_PLACES_0_3 : Addr
  a_REST_PLACES_0_4 : Addr
  a_REST_PLACES_1 : Addr
  a_REST_PLACES_1_0 : Addr
  a_REST_PLACES_1_1 : Addr
  a_REST_PLACES_1_2 : Addr
  a_REST_PLACES_2 : Addr
  a_REST_PLACES_2_0 : Addr
  a_REST_PLACES_2_1 : Addr
  a_REST_PLACES_2_2 : Addr
  a_REST_PLACES_2_3 : Addr
  a_REST_PLACES_2_4 : Addr
  p_REST_PLACES_0 : ∀ H : Hp, SqT K H a_REST_PLACES_0 [.ref a_REST_PLACES_0_0, .ref a_REST_PLACES_0_1, .ref a_REST_PLACES_0_2, .ref a_REST_PLACES_0_3, .ref a_REST_PLACES_0_4]
  p_REST_PLACES_0_0 : ∀ H : Hp, SqT K H a_REST_PLACES_0_0 [.str "<", .str "<"]
  p_REST_PLACES_0_1 : ∀ H : Hp, SqT K H a_REST_PLACES_0_1 [.str "<", .str "="]
  p_REST_PLACES_0_2 : ∀ H : Hp, SqT K H a_REST_PLACES_0_2 [.str "<", .str ">"]
  p_REST_PLACES_0_3 : ∀ H : Hp, SqT K H a_REST_PLACES_0_3 [.str "=", .str ">"]
  p_REST_PLACES_0_4 : ∀ H : Hp, SqT K H a_REST_PLACES_0_4 [.str ">", .str ">"]
  p_REST_PLACES_1 : ∀ H : Hp, SqT K H a_REST_PLACES_1 [.ref a_REST_PLACES_1_0, .ref a_REST_PLACES_1_1, .ref a_REST_PLACES_1_2]
  p_REST_PLACES_1_0 : ∀ H : Hp, SqT K H a_REST_PLACES_1_0 [.str "<", .str "<"]
  p_REST_PLACES_1_1 : ∀ H : Hp, SqT K H a_REST_PLACES_1_1 [.str "=", .str "="]
  p_REST_PLACES_1_2 : ∀ H : Hp, SqT K H a_REST_PLACES_1_2 [.str ">", .str ">"]
  p_REST_PLACES_2 : ∀ H : Hp, SqT K H a_REST_PLACES_2 [.ref a_REST_PLACES_2_0, .ref a_REST_PLACES_2_1, .ref a_REST_PLACES_2_2, .ref a_REST_PLACES_2_3, .ref a_REST_PLACES_2_4]
  p_REST_PLACES_2_0 : ∀ H : Hp, SqT K H a_REST_PLACES_2_0 [.str "<", .str "<"]
  p_REST_PLACES_2_1 : ∀ H : Hp, SqT K H a_REST_PLACES_2_1 [.str "=", .str "<"]
  p_REST_PLACES_2_2 : ∀ H : Hp, SqT K H a_REST_PLACES_2_2 [.str ">", .str "<"]
  p_REST_PLACES_2_3 : ∀ H : Hp, SqT K H a_REST_PLACES_2_3 [.str ">", .str "="]
  p_REST_PLACES_2_4 : ∀ H : Hp, SqT K H a_REST_PLACES_2_4 [.str ">", .str ">"]
  d_REST_PLACES : NL.KDt w K a_REST_PLACES [("<", .ref a_REST_PLACES_0), ("=", .ref a_REST_PLACES_1), (">", .ref a_REST_PLACES_2)]
  a_LONE_SPANS : Addr
  g_LONE_SPANS : mg "LONE_SPANS" = some (.ref a_LONE_SPANS)
  a_LONE_SPANS_0 : Addr
  a_LONE_SPANS_1 : Addr
  a_LONE_SPANS_2 : Addr
  a_LONE_SPANS_3 : Addr
  a_LONE_SPANS_4 : Addr
  p_LONE_SPANS : ∀ H : Hp, SqT K H a_LONE_SPANS [.ref a_LONE_SPANS_0, .ref a_LONE_SPANS_1, .ref a_LONE_SPANS_2, .ref a_LONE_SPANS_3, .ref a_LONE_SPANS_4]
  p_LONE_SPANS_0 : ∀ H : Hp, SqT K H a_LONE_SPANS_0 [.non, .int (-2)]
  p_LONE_SPANS_1 : ∀ H : Hp, SqT K H a_LONE_SPANS_1 [.int (-1), .int (-1)]
  p_LONE_SPANS_2 : ∀ H : Hp, SqT K H a_LONE_SPANS_2 [.int (0), .int (0)]
  p_LONE_SPANS_3 : ∀ H : Hp, SqT K H a_LONE_SPANS_3 [.int (1), .int (1)]
  p_LONE_SPANS_4 : ∀ H : Hp, SqT K H a_LONE_SPANS_4 [.int (2), .non]
  t_MOST_RULES : Tok
  g_MOST_RULES : mg "MOST_RULES" = some (.int 40 t_MOST_RULES)
  t_MOST_STATES : Tok
  g_MOST_STATES : mg "MOST_STATES" = some (.int 6 t_MOST_STATES)
  a_GAP_WORDS : Addr
  g_GAP_WORDS : mg "GAP_WORDS" = some (.ref a_GAP_WORDS)
  k_GAP_WORDS : ∃ o, K.lookup a_GAP_WORDS = some o ∧ o.cls = .type "tuple" ∧ o.dict = none
  p_GAP_WORDS : ∀ H : Hp, SqT K H a_GAP_WORDS [.str "none", .str "first", .str "second"]
abbrev GG {w : World} {K : PySem.W.Frag} {mg : Str → Option Value} (T : Tx w K mg) : Gm := ⟨K, T.a_Loop, 0, fun _ => 0, fun _ => "", w, fun c => (([("Menus", T.a_Menus), ("Loops", T.a_Loops)] : List (Str × Addr)).lookup c).getD 0, false, none⟩
section
variable {P : Program} {w : World} {K : PySem.W.Frag} {mg : Str → Option Value} {base : Heap}
/-- the module's table of long groups, as it stands -/
theorem lg_pairs (T : Tx w K mg) : Paired (fun (p : Str × V) (q : Str × List Str) => p.1 = q.1 ∧ ∃ a, p.2 = .ref a ∧ ∀ H, SqT K H a (q.2.map V.str))
    [("any", .ref T.a_LONG_GROUPS_any), ("near", .ref T.a_LONG_GROUPS_near), ("far", .ref T.a_LONG_GROUPS_far), ("less", .ref T.a_LONG_GROUPS_less), ("more", .ref T.a_LONG_GROUPS_more), ("under", .ref T.a_LONG_GROUPS_under), ("over", .ref T.a_LONG_GROUPS_over), ("cell", .ref T.a_LONG_GROUPS_cell), ("none", .ref T.a_LONG_GROUPS_none)] LG :=
  .cons ⟨rfl, _, rfl, T.p_LONG_GROUPS_any⟩ (.cons ⟨rfl, _, rfl, T.p_LONG_GROUPS_near⟩ (.cons ⟨rfl, _, rfl, T.p_LONG_GROUPS_far⟩ (.cons ⟨rfl, _, rfl, T.p_LONG_GROUPS_less⟩ (.cons ⟨rfl, _, rfl, T.p_LONG_GROUPS_more⟩ (.cons ⟨rfl, _, rfl, T.p_LONG_GROUPS_under⟩ (.cons ⟨rfl, _, rfl, T.p_LONG_GROUPS_over⟩ (.cons ⟨rfl, _, rfl, T.p_LONG_GROUPS_cell⟩ (.cons ⟨rfl, _, rfl, T.p_LONG_GROUPS_none⟩ .nil))))))))
/-- is_name of a text -/
def sp_is_name : Sp := fun vs H Q _ => ∃ z : Str, vs = [.str z] ∧ z.length ≤ 10000 ∧ ∀ H', Same H H' → Q (.bl (isNameB z)) H'
theorem ok_is_name (T : Tx w K mg) : FnOk P w K mg base CX0 1 T.a_is_name T.fd_is_name ["value"] sp_is_name := by
  refine T.F_is_name.ok sc_is_name (fun vs H Q E h => ?_) (fun cdv A outer s H vs Q E hr h => ?_)
  · obtain ⟨z, rfl, _⟩ := h; rfl
  · obtain ⟨z, rfl, hz, q⟩ := h
    refine ⟨_, ((pss_cons (ps_if (PW.pt (pw_or (pt_not (pt_val (pe_callB (call_isi) (by rfl) T.m_isinstance (by decide +kernel) (pa_cons (pv 0) (pa_cons (pe_bltn (v := .ty "str") (by rfl) T.m_str (by decide +kernel) rfl) pa_nil))))) (pw_or (pt_cmpR (op_lt) (pe_callB (call_len_str) (by rfl) T.m_len (by decide +kernel) (pa_cons (pv 0) pa_nil)) pe_int (nomark _)) (pw_or1 (pt_cmpR (op_gt) (pe_callB (call_len_str) (by rfl) T.m_len (by decide +kernel) (pa_cons (pv 0) pa_nil)) (pe_glob (v := .int 8) rfl T.g_MOST_LETTERS ⟨_, rfl⟩) (nomark _)))))) (pss_one (ps_ret pe_bl)) pss_nil)
      (pss_one (ps_ret (pe_callB (cr_all rfl) (by rfl) T.m_all (by decide +kernel) (pa_cons (pe_lc (own := [("sign", 1)]) (by rfl) sc_is_name.nd (pi_str (pv 0)) (blkOk_by (own := [("sign", 1)]) (N := N_is_name) (sc := defScope s_is_name) (by decide +kernel)) (fun _ _ _ _ _ => (pg_name (i := 1) sc_is_name.nd rfl (by first | exact Or.inl rfl | exact Or.inr rfl))) (fun _ _ _ _ _ => pts_nil) (fun _ _ _ _ _ => (pe_cmpR (op_in_sign) (pv 1) pe_str (by rfl)))) pa_nil)))))), ?_⟩
    unfold isNameB at q
    refine ⟨_, rfl, _, _, _, _, true, rfl, .ty _, (by walk_at "tyx"), kit_ty (by decide +kernel), _, rfl, ?_⟩
    refine ifF rfl ?_
    refine ⟨_, rfl, _, rfl, sz100k (by omega), _, _, rfl, rfl, _, rfl, ?_⟩
    refine ifD (fun c => ?_) (fun c => ?_)
    · refine ifT rfl ?_
      have e : decide (1 ≤ z.length) = false := decide_eq_false (by omega)
      rw [e] at q; exact q H (Same.refl _)
    refine ⟨_, rfl, _, rfl, sz100k (by omega), _, _, rfl, rfl, _, rfl, ?_⟩
    have e1 : decide (1 ≤ z.length) = true := decide_eq_true (by omega)
    refine ifD (fun c => ?_) (fun c => ?_)
    · have e : decide (z.length ≤ 8) = false := decide_eq_false (by omega)
      rw [e, e1] at q; exact q H (Same.refl _)
    have e2 : decide (z.length ≤ 8) = true := decide_eq_true (by omega)
    rw [e1, e2] at q
    refine ⟨_, rfl, _, rfl, fun D nD => ?_⟩
    refine lcW_filt (xs := signsV z) (p := fun _ => true) (f := fun v => match v with | .str y => .bl (y.cps.toList.all fun c => decide (c ∈ ALPHA)) | _ => .non) (walk_signs (G := fun _ => True)) (fun _ _ => True.intro) nD (by unfold signsV; simp; exact hz) ?_ ?_ ?_
    · intro i y H' kk hy sm hk
      exact hk _ (Same.refl _)
    · intro i y H' kk hy _ sm hk
      unfold signsV at hy
      rw [List.getElem?_map] at hy
      obtain ⟨c, hc, rfl⟩ := Option.map_eq_some_iff.mp hy
      refine ⟨_, rfl, c, _, rfl, rfl, ?_⟩
      have := hk _ (Same.refl _)
      show kk (V.bl (decide (c ∈ ALPHA))) H'
      simpa using this
    · intro H2 sm hD
      have eF : ((signsV z).filter fun _ => true).map (fun v => match v with | .str y => V.bl (y.cps.toList.all fun c => decide (c ∈ ALPHA)) | _ => .non) = (z.cps.toList.map fun c => decide (c ∈ ALPHA)).map V.bl := by
        rw [filt_all]; unfold signsV
        rw [List.map_map, List.map_map]
        apply List.map_congr_left
        intro c _
        simp
      rw [eF] at hD
      refine ⟨_, _, rfl, SqL.of hD, ?_⟩
      have := q H2 sm
      rw [List.all_map]
      simpa [Function.comp_def] using this
theorem ok_is_number (T : Tx w K mg) : FnOk P w K mg base CX0 1 T.a_is_number T.fd_is_number ["value"] (spD (GG T) f_is_number) := by
  refine T.F_is_number.ok sc_is_number (fun vs H Q E h => fn_len h) (fun cdv A outer s H vs Q E hr h => ?_)
  have hu := hu_of hr
  refine ⟨tS (GG T) [] [] [] E b_is_number, (ds_one (ds_ret (de_and (pe_and (de_isInt (pe_callB call_isi (by rfl) T.m_isinstance (by decide +kernel) (pa_cons (de_var (pv 0) (by decide)) (pa_cons (pe_bltn (v := .ty "int") (by rfl) T.m_int (by decide +kernel) rfl) pa_nil)))) (de_and (pe_and (de_not (pe_not (de_isBool (pe_callB call_isi (by rfl) T.m_isinstance (by decide +kernel) (pa_cons (de_var (pv 0) (by decide)) (pa_cons (pe_bltn (v := .ty "bool") (by rfl) T.m_bool (by decide +kernel) rfl) pa_nil)))))) (pe_one (de_chain bin_cmp bin_cmp (pe_chain op_ltA op_ltA (de_bin (m := true) bin_sub (pe_op op_sub de_int (de_const (pe_glob (v := .int 1000000000000000000000000000000) rfl T.g_BOUND ⟨_, rfl⟩) fun _ _ => .int _))) (de_var (pv 0) (by decide)) (de_const (pe_glob (v := .int 1000000000000000000000000000000) rfl T.g_BOUND ⟨_, rfl⟩) fun _ _ => .int _)))))))))), fn_read h⟩
theorem ok_place_of (T : Tx w K mg) : FnOk P w K mg base CX0 1 T.a_place_of T.fd_place_of ["step", "sign"] (spD (GG T) f_place_of) := by
  refine T.F_place_of.ok sc_place_of (fun vs H Q E h => fn_len h) (fun cdv A outer s H vs Q E hr h => ?_)
  have hu := hu_of hr
  refine ⟨tS (GG T) [] [] [] E b_place_of, (ds_cons (ds_if (dt_cmp bin_cmp (pt_cmpR op_ltA (de_var (pv 0) (by decide)) (de_un (m := true) un_negD (pe_un un_neg de_int)) (nomark _))) (ds_one (ds_ret de_str)) ds_nil)
      (ds_cons (ds_if (dt_cmp bin_cmp (pt_cmpR op_gtA (de_var (pv 0) (by decide)) de_int (nomark _))) (ds_one (ds_ret de_str)) ds_nil)
      (ds_one (ds_ret (de_bin bin_add (pe_op (op_addA (G := (GG T))) (de_if (dt_cmp bin_eq (pt_cmpR (op_eqG (G := (GG T)) hr.units) (de_var (pv 0) (by decide)) (de_un (m := true) un_negD (pe_un un_neg de_int)) (nomark _))) de_str (de_if (dt_cmp bin_eq (pt_cmpR (op_eqG (G := (GG T)) hr.units) (de_var (pv 0) (by decide)) de_int (nomark _))) de_str de_str)) (de_var (pv 1) (by decide)))))))), fn_read h⟩
/-- is_group of a text -/
def sp_is_group : Sp := fun vs H Q _ => ∃ z : Str, vs = [.str z] ∧ Q (.bl (isGroupB z)) H
theorem ok_is_group (T : Tx w K mg) : FnOk P w K mg base CX0 1 T.a_is_group T.fd_is_group ["name"] sp_is_group := by
  refine T.F_is_group.ok sc_is_group (fun vs H Q E h => ?_) (fun cdv A outer s H vs Q E hr h => ?_)
  · obtain ⟨z, rfl, _⟩ := h; rfl
  · obtain ⟨z, rfl, q⟩ := h
    refine ⟨_, ((pss_one (ps_ret (pe_and (pe_callB (call_isi) (by rfl) T.m_isinstance (by decide +kernel) (pa_cons (pv 0) (pa_cons (pe_bltn (v := .ty "str") (by rfl) T.m_str (by decide +kernel) rfl) pa_nil))) (pe_one (pe_or (pe_cmpR (op_in_seq) (pv 0) (pe_glob (v := .ref T.a_PLACES) rfl T.g_PLACES rfl) (by rfl)) (pe_one (pe_cmpR (op_inKD) (pv 0) (pe_glob (v := .ref T.a_LONG_GROUPS) rfl T.g_LONG_GROUPS rfl) (by rfl))))))))), ?_⟩
    unfold isGroupB at q
    refine ⟨_, rfl, _, _, _, _, true, rfl, .ty _, (by walk_at "tyx"), kit_ty (by decide +kernel), _, rfl, ?_⟩
    refine ifT rfl ?_
    refine ⟨_, rfl, _, _, rfl, .inr (T.p_PLACES _), rfl, flats_str PL, _, rfl, ?_⟩
    refine ifB _ (fun c => ?_) (fun c => ?_)
    · have c : inV (.str z) (PL.map V.str) = true := c
      rw [inV_strs] at c
      rw [c] at q; exact q
    · have c : inV (.str z) (PL.map V.str) = false := c
      rw [inV_strs] at c
      rw [c, Bool.false_or] at q
      refine ⟨_, rfl, _, _, _, rfl, rfl, T.d_LONG_GROUPS, ?_⟩
      rw [(lookup_paired (lg_pairs T)).1]; exact q
/-- group of the name of a group -/
def sp_group (K : PySem.W.Frag) : Sp := fun vs H Q _ => ∃ z : Str, vs = [.str z] ∧ isGroupB z = true ∧ ∀ (a : Addr) (H' : Hp), Same H H' → SqT K H' a ((groupS z).map V.str) → Q (.ref a) H'
theorem ok_group (T : Tx w K mg) : FnOk P w K mg base CX0 2 T.a_group T.fd_group ["name"] (sp_group K) := by
  refine T.F_group.ok sc_group (fun vs H Q E h => ?_) (fun cdv A outer s H vs Q E hr h => ?_)
  · obtain ⟨z, rfl, _⟩ := h; rfl
  · obtain ⟨z, rfl, hz, q⟩ := h
    refine ⟨_, ((pss_cons (ps_if (pt_not (pt_val (pe_call (ok_is_group T) (hr.mono (by decide)) rfl T.g_is_group T.F_is_group.kp T.b_is_group .nil pass0 (pa_cons (pv 0) pa_nil)))) (pss_one ps_never) pss_nil)
      (pss_one (ps_ret (pe_ifExp (pt_cmpR (op_in_seq) (pv 0) (pe_glob (v := .ref T.a_PLACES) rfl T.g_PLACES rfl) (by rfl)) (pe_tup (pa_cons (pv 0) pa_nil)) (pe_ix ix_KD (pe_glob (v := .ref T.a_LONG_GROUPS) rfl T.g_LONG_GROUPS rfl) (pv 0) (fun _ _ => rfl))))))), ?_⟩
    refine ⟨_, rfl, z, rfl, _, rfl, ?_⟩
    refine ifF (by rw [hz]; rfl) ?_
    refine ⟨_, rfl, _, _, rfl, .inr (T.p_PLACES _), rfl, flats_str PL, _, rfl, ?_⟩
    refine ifB _ (fun c => ?_) (fun c => ?_)
    · have c : inV (.str z) (PL.map V.str) = true := c
      rw [inV_strs] at c
      have hm := of_decide_eq_true c
      refine ⟨_, rfl, (by walk_at "len"), fun p np => ?_⟩
      refine q p _ (same_new np) ?_
      unfold groupS
      rw [if_pos hm]; exact SqT.of upd_same
    · have c : inV (.str z) (PL.map V.str) = false := c
      rw [inV_strs] at c
      have hm := of_decide_eq_false c
      have hl : ∃ ys, LG.lookup z = some ys := by
        unfold isGroupB at hz
        rw [c, Bool.false_or] at hz
        exact Option.isSome_iff_exists.mp hz
      obtain ⟨ys, hl⟩ := hl
      obtain ⟨a, ha, hs⟩ := (lookup_paired (lg_pairs T)).2 ys hl
      refine ⟨_, rfl, _, _, _, _, rfl, rfl, T.d_LONG_GROUPS, ha, ?_⟩
      refine q a H (Same.refl _) ?_
      unfold groupS
      rw [if_neg hm, hl]; exact hs H
theorem ok_spans_of (T : Tx w K mg) : FnOk P w K mg base CX0 1 T.a_spans_of T.fd_spans_of ["d"] (spD (GG T) f_spans_of) := by
  refine T.F_spans_of.ok sc_spans_of (fun vs H Q E h => fn_len h) (fun cdv A outer s H vs Q E hr h => ?_)
  have hu := hu_of hr
  refine ⟨tS (GG T) [] [] [] E b_spans_of, (ds_cons (ds_par (by decide) (by decide) (ps_par (i := 1) (j := 2) (by rfl) sc_spans_of.nd rfl rfl (by decide) rfl rfl (DA.pa (da_cons (de_arg (m := true) arg_min2 (pe_callB (call_min2 rfl) (by rfl) T.m_min (by decide +kernel) (DA.pa (da_cons de_int (da_cons (de_var (pv 0) (by decide)) da_nil))))) (da_cons (de_arg (m := true) arg_max2 (pe_callB (call_max2 rfl) (by rfl) T.m_max (by decide +kernel) (DA.pa (da_cons de_int (da_cons (de_var (pv 0) (by decide)) da_nil))))) da_nil))) (by rfl)))
      (ds_cons (ds_setN (by decide) rfl (ps_set (i := 3) sc_spans_of.nd rfl (by first | exact Or.inl rfl | exact Or.inr rfl) (de_lstN (da_cons (de_tup (da_cons de_non (da_cons (de_bin (m := true) bin_sub (pe_op op_sub (de_var (pv 1) (by decide)) de_int)) da_nil)) (by decide)) (da_cons (de_tup (da_cons (de_bin bin_add (pe_op (op_addA (G := (GG T))) (de_var (pv 2) (by decide)) de_int)) (da_cons de_non da_nil)) (by decide)) da_nil)) (by decide))))
      (ds_cons (ds_if (dt_cmp bin_cmp (pt_cmpR op_gtA (de_bin (m := true) bin_sub (pe_op op_sub (de_var (pv 2) (by decide)) (de_var (pv 1) (by decide)))) de_int (nomark _))) (ds_one (ds_app (by decide) (ps_expr (pe_bm PySem.F.plainAttrs_list PySem.F.slot_list_append PySem.F.type_list_append mt_append (pv 3) (DA.pa (da_cons (de_tup (da_cons (de_bin bin_add (pe_op (op_addA (G := (GG T))) (de_var (pv 1) (by decide)) de_int)) (da_cons (de_bin (m := true) bin_sub (pe_op op_sub (de_var (pv 2) (by decide)) de_int)) da_nil)) (by decide)) da_nil)))))) ds_nil)
      (ds_cons (ds_for (ps_for PassesOwn.never rfl (di_seq (de_tup (da_cons (de_un (m := true) un_negD (pe_un un_neg de_int)) (da_cons de_int (da_cons de_int da_nil))) (by decide))) (dg_name (pg_name (i := 4) sc_spans_of.nd rfl (by first | exact Or.inl rfl | exact Or.inr rfl)) (by decide))
        (ds_cons (ds_app (by decide) (ps_expr (pe_bm PySem.F.plainAttrs_list PySem.F.slot_list_append PySem.F.type_list_append mt_append (pv 3) (DA.pa (da_cons (de_tup (da_cons (de_var (pv 4) (by decide)) (da_cons (de_var (pv 4) (by decide)) da_nil)) (by decide)) da_nil)))))
      (ds_one (ds_if (dt_cmp bin_in (pt_cmpR (op_notInG (G := (GG T))) (de_bin bin_add (pe_op (op_addA (G := (GG T))) (de_var (pv 4) (by decide)) (de_var (pv 0) (by decide)))) (de_tup (da_cons (de_un (m := true) un_negD (pe_un un_neg de_int)) (da_cons de_int (da_cons de_int da_nil))) (by decide)) (by rfl))) (ds_one (ds_app (by decide) (ps_expr (pe_bm PySem.F.plainAttrs_list PySem.F.slot_list_append PySem.F.type_list_append mt_append (pv 3) (DA.pa (da_cons (de_tup (da_cons (de_bin bin_add (pe_op (op_addA (G := (GG T))) (de_var (pv 4) (by decide)) (de_var (pv 0) (by decide)))) (da_cons (de_bin bin_add (pe_op (op_addA (G := (GG T))) (de_var (pv 4) (by decide)) (de_var (pv 0) (by decide)))) da_nil)) (by decide)) da_nil)))))) ds_nil)))))
      (ds_frz 3 rfl (ds_one (ds_ret (de_var (pv 3) (by decide))))))))), fn_read h⟩
theorem ok_numbers_by_places (T : Tx w K mg) : FnOk P w K mg base CX0 2 T.a_numbers_by_places T.fd_numbers_by_places ["gap"] (spV (GG T).vol f_numbers_by_places) := by
  refine T.F_numbers_by_places.ok sc_numbers_by_places (fun vs H Q E h => fn_lenV h) (fun cdv A outer s H vs Q E hr h => ?_)
  have hu := hu_of hr
  refine ⟨tS (GG T).vol [] [] [] E b_numbers_by_places, (ds_cons (ds_if (dt_cmp bin_eq (pt_cmpR (op_eqG (G := (GG T).vol) hr.units) (de_var (pv 0) (by decide)) de_str (nomark _))) (ds_one (ds_ret (de_disp1X (pe_disp1X (hu41 hr) (de_tup (da_cons de_str (da_cons de_str da_nil)) (by decide)) (de_lstM (m := false) (da_cons (de_tup (da_cons (de_tup (da_cons de_int (da_cons de_int da_nil)) (by decide)) (da_cons (de_tup (da_cons de_non (da_cons de_non da_nil)) (by decide)) da_nil)) (by decide)) da_nil) (by decide)))))) ds_nil)
      (ds_cons (ds_set rfl (ps_set (i := 1) sc_numbers_by_places.nd rfl (by first | exact Or.inl rfl | exact Or.inr rfl) de_newX))
      (ds_cons (ds_if (dt_val (de_isStr (pe_callB call_isi (by rfl) T.m_isinstance (by decide +kernel) (pa_cons (de_var (pv 0) (by decide)) (pa_cons (pe_bltn (v := .ty "str") (by rfl) T.m_str (by decide +kernel) rfl) pa_nil))))) (ds_cons (ds_for (ps_for PassesOwn.never rfl (di_seq (de_const (pe_glob (v := .ref T.a_LONE_SPANS) rfl T.g_LONE_SPANS rfl) fun _ B => (DV.tup (T.p_LONE_SPANS B) (.cons (DV.tup (T.p_LONE_SPANS_0 B) (.cons .non (.cons (.int _) .nil))) (.cons (DV.tup (T.p_LONE_SPANS_1 B) (.cons (.int _) (.cons (.int _) .nil))) (.cons (DV.tup (T.p_LONE_SPANS_2 B) (.cons (.int _) (.cons (.int _) .nil))) (.cons (DV.tup (T.p_LONE_SPANS_3 B) (.cons (.int _) (.cons (.int _) .nil))) (.cons (DV.tup (T.p_LONE_SPANS_4 B) (.cons (.int _) (.cons .non .nil))) .nil)))))))) (dg_name (pg_name (i := 2) sc_numbers_by_places.nd rfl (by first | exact Or.inl rfl | exact Or.inr rfl)) (by decide))
        (ds_one (ds_for (ps_for PassesOwn.never rfl (di_seq (de_const (pe_glob (v := .ref T.a_SIGNS) rfl T.g_SIGNS rfl) fun _ B => (DV.tup (T.p_SIGNS B) (.cons (.str _) (.cons (.str _) (.cons (.str _) .nil)))))) (dg_name (pg_name (i := 3) sc_numbers_by_places.nd rfl (by first | exact Or.inl rfl | exact Or.inr rfl)) (by decide))
        (ds_cons (ds_set rfl (ps_set (i := 4) sc_numbers_by_places.nd rfl (by first | exact Or.inl rfl | exact Or.inr rfl) (de_callK (m := false) (pe_call (ok_place_of T) (hr.mono (by decide)) (by rfl) T.g_place_of T.F_place_of.kp T.b_place_of .nil pass0 (DA.pa (da_cons (de_if (dt_cmp bin_isN (pt_cmpR op_isN (de_bin bin_ix (pe_ix (ix_G (G := (GG T).vol)) (de_var (pv 2) (by decide)) de_int (fun _ _ => rfl))) de_non (nomark _))) (de_bin bin_ix (pe_ix (ix_G (G := (GG T).vol)) (de_var (pv 2) (by decide)) de_int (fun _ _ => rfl))) (de_bin bin_ix (pe_ix (ix_G (G := (GG T).vol)) (de_var (pv 2) (by decide)) de_int (fun _ _ => rfl)))) (da_cons (de_var (pv 3) (by decide)) da_nil)))))))
      (ds_one (ds_if (dt_cmp bin_eq (pt_cmpR (op_eqG (G := (GG T).vol) hr.units) (de_var (pv 0) (by decide)) de_str (nomark _))) (ds_one (ds_expr (ps_expr (de_appM (m := false) (pe_bm PySem.F.plainAttrs_list PySem.F.slot_list_append PySem.F.type_list_append mt_append (de_sdX (pe_xsd (hu41 hr) (de_var (pv 1) (by decide)) (de_tup (da_cons (de_var (pv 4) (by decide)) (da_cons de_str da_nil)) (by decide)) (de_lstM (m := false) da_nil (by decide)) ⟨rfl, rfl, rfl, rfl⟩)) (DA.pa (da_cons (de_tup (da_cons (de_var (pv 2) (by decide)) (da_cons (de_tup (da_cons (de_var (pv 3) (by decide)) (da_cons de_non da_nil)) (by decide)) da_nil)) (by decide)) da_nil))))))) (ds_one (ds_expr (ps_expr (de_appM (m := false) (pe_bm PySem.F.plainAttrs_list PySem.F.slot_list_append PySem.F.type_list_append mt_append (de_sdX (pe_xsd (hu41 hr) (de_var (pv 1) (by decide)) (de_tup (da_cons de_str (da_cons (de_var (pv 4) (by decide)) da_nil)) (by decide)) (de_lstM (m := false) da_nil (by decide)) ⟨rfl, rfl, rfl, rfl⟩)) (DA.pa (da_cons (de_tup (da_cons (de_var (pv 2) (by decide)) (da_cons (de_tup (da_cons de_non (da_cons (de_var (pv 3) (by decide)) da_nil)) (by decide)) da_nil)) (by decide)) da_nil)))))))))))))))
      (ds_one (ds_ret (de_var (pv 1) (by decide))))) ds_nil)
      (ds_cons (ds_asg (ps_asg (de_var (pv 0) (by decide)) (dg_tup (by rfl) (dgs_cons (dg_name (pg_name (i := 5) sc_numbers_by_places.nd rfl (by first | exact Or.inl rfl | exact Or.inr rfl)) (by decide)) (dgs_cons (dg_name (pg_name (i := 6) sc_numbers_by_places.nd rfl (by first | exact Or.inl rfl | exact Or.inr rfl)) (by decide)) dgs_nil)))))
      (ds_cons (ds_for (ps_for PassesOwn.never rfl (di_seq (de_callK (m := false) (pe_call (ok_spans_of T) (hr.mono (by decide)) (by rfl) T.g_spans_of T.F_spans_of.kp T.b_spans_of .nil pass0 (DA.pa (da_cons (de_var (pv 5) (by decide)) da_nil))))) (dg_name (pg_name (i := 2) sc_numbers_by_places.nd rfl (by first | exact Or.inl rfl | exact Or.inr rfl)) (by decide))
        (ds_cons (ds_set rfl (ps_set (i := 7) sc_numbers_by_places.nd rfl (by first | exact Or.inl rfl | exact Or.inr rfl) (de_if (dt_cmp bin_isN (pt_cmpR op_isN (de_bin bin_ix (pe_ix (ix_G (G := (GG T).vol)) (de_var (pv 2) (by decide)) de_int (fun _ _ => rfl))) de_non (nomark _))) (de_bin bin_ix (pe_ix (ix_G (G := (GG T).vol)) (de_var (pv 2) (by decide)) de_int (fun _ _ => rfl))) (de_bin bin_ix (pe_ix (ix_G (G := (GG T).vol)) (de_var (pv 2) (by decide)) de_int (fun _ _ => rfl))))))
      (ds_one (ds_if (PW.pt (dw_and (dt_cmp bin_eq (pt_cmpR (op_eqG (G := (GG T).vol) hr.units) (de_bin bin_ix (pe_ix (ix_G (G := (GG T).vol)) (de_var (pv 2) (by decide)) de_int (fun _ _ => rfl))) (de_bin bin_ix (pe_ix (ix_G (G := (GG T).vol)) (de_var (pv 2) (by decide)) de_int (fun _ _ => rfl))) (nomark _))) (pw_and1 (PW.pt (dw_or (dt_cmp bin_cmp (pt_cmpR op_ltA (de_arg (m := true) arg_abs (pe_callB (call_abs) (by rfl) T.m_abs (by decide +kernel) (DA.pa (da_cons (de_var (pv 7) (by decide)) da_nil)))) de_int (nomark _))) (pw_or1 (dt_cmp bin_cmp (pt_cmpR op_ltA (de_arg (m := true) arg_abs (pe_callB (call_abs) (by rfl) T.m_abs (by decide +kernel) (DA.pa (da_cons (de_bin (m := true) bin_sub (pe_op op_sub (de_var (pv 7) (by decide)) (de_var (pv 5) (by decide)))) da_nil)))) de_int (nomark _))))))))) (ds_one (ds_for (ps_for PassesOwn.never rfl (di_seq (de_ixC T.d_REST_PLACES (.cons ⟨rfl, fun _ B => (DV.tup (T.p_REST_PLACES_0 B) (.cons (DV.tup (T.p_REST_PLACES_0_0 B) (.cons (.str _) (.cons (.str _) .nil))) (.cons (DV.tup (T.p_REST_PLACES_0_1 B) (.cons (.str _) (.cons (.str _) .nil))) (.cons (DV.tup (T.p_REST_PLACES_0_2 B) (.cons (.str _) (.cons (.str _) .nil))) (.cons (DV.tup (T.p_REST_PLACES_0_3 B) (.cons (.str _) (.cons (.str _) .nil))) (.cons (DV.tup (T.p_REST_PLACES_0_4 B) (.cons (.str _) (.cons (.str _) .nil))) .nil))))))⟩ (.cons ⟨rfl, fun _ B => (DV.tup (T.p_REST_PLACES_1 B) (.cons (DV.tup (T.p_REST_PLACES_1_0 B) (.cons (.str _) (.cons (.str _) .nil))) (.cons (DV.tup (T.p_REST_PLACES_1_1 B) (.cons (.str _) (.cons (.str _) .nil))) (.cons (DV.tup (T.p_REST_PLACES_1_2 B) (.cons (.str _) (.cons (.str _) .nil))) .nil))))⟩ (.cons ⟨rfl, fun _ B => (DV.tup (T.p_REST_PLACES_2 B) (.cons (DV.tup (T.p_REST_PLACES_2_0 B) (.cons (.str _) (.cons (.str _) .nil))) (.cons (DV.tup (T.p_REST_PLACES_2_1 B) (.cons (.str _) (.cons (.str _) .nil))) (.cons (DV.tup (T.p_REST_PLACES_2_2 B) (.cons (.str _) (.cons (.str _) .nil))) (.cons (DV.tup (T.p_REST_PLACES_2_3 B) (.cons (.str _) (.cons (.str _) .nil))) (.cons (DV.tup (T.p_REST_PLACES_2_4 B) (.cons (.str _) (.cons (.str _) .nil))) .nil))))))⟩ .nil))) (pe_ix ix_KD (pe_glob (v := .ref T.a_REST_PLACES) rfl T.g_REST_PLACES rfl) (de_var (pv 6) (by decide)) (fun _ _ => rfl)))) (dg_name (pg_name (i := 8) sc_numbers_by_places.nd rfl (by first | exact Or.inl rfl | exact Or.inr rfl)) (by decide))
        (ds_cons (ds_set rfl (ps_set (i := 9) sc_numbers_by_places.nd rfl (by first | exact Or.inl rfl | exact Or.inr rfl) (de_tup (da_cons (de_callK (m := false) (pe_call (ok_place_of T) (hr.mono (by decide)) (by rfl) T.g_place_of T.F_place_of.kp T.b_place_of .nil pass0 (DA.pa (da_cons (de_var (pv 7) (by decide)) (da_cons (de_bin bin_ix (pe_ix (ix_G (G := (GG T).vol)) (de_var (pv 8) (by decide)) de_int (fun _ _ => rfl))) da_nil))))) (da_cons (de_callK (m := false) (pe_call (ok_place_of T) (hr.mono (by decide)) (by rfl) T.g_place_of T.F_place_of.kp T.b_place_of .nil pass0 (DA.pa (da_cons (de_bin (m := true) bin_sub (pe_op op_sub (de_var (pv 7) (by decide)) (de_var (pv 5) (by decide)))) (da_cons (de_bin bin_ix (pe_ix (ix_G (G := (GG T).vol)) (de_var (pv 8) (by decide)) de_int (fun _ _ => rfl))) da_nil))))) da_nil)) (by decide))))
      (ds_one (ds_expr (ps_expr (de_appM (m := false) (pe_bm PySem.F.plainAttrs_list PySem.F.slot_list_append PySem.F.type_list_append mt_append (de_sdX (pe_xsd (hu41 hr) (de_var (pv 1) (by decide)) (de_var (pv 9) (by decide)) (de_lstM (m := false) da_nil (by decide)) ⟨rfl, rfl, rfl, rfl⟩)) (DA.pa (da_cons (de_tup (da_cons (de_var (pv 2) (by decide)) (da_cons (de_var (pv 8) (by decide)) da_nil)) (by decide)) da_nil))))))))))) (ds_cons (ds_set rfl (ps_set (i := 9) sc_numbers_by_places.nd rfl (by first | exact Or.inl rfl | exact Or.inr rfl) (de_tup (da_cons (de_callK (m := false) (pe_call (ok_place_of T) (hr.mono (by decide)) (by rfl) T.g_place_of T.F_place_of.kp T.b_place_of .nil pass0 (DA.pa (da_cons (de_var (pv 7) (by decide)) (da_cons de_str da_nil))))) (da_cons (de_callK (m := false) (pe_call (ok_place_of T) (hr.mono (by decide)) (by rfl) T.g_place_of T.F_place_of.kp T.b_place_of .nil pass0 (DA.pa (da_cons (de_bin (m := true) bin_sub (pe_op op_sub (de_var (pv 7) (by decide)) (de_var (pv 5) (by decide)))) (da_cons de_str da_nil))))) da_nil)) (by decide))))
      (ds_one (ds_putX (ps_xput (hu41 hr) (de_var (pv 1) (by decide)) (de_var (pv 9) (by decide)) (de_cell (m := false) (de_lcVN (by decide) (pe_lc (own := [("signs", 8)]) (by rfl) sc_numbers_by_places.nd (di_seq (de_ixC T.d_REST_PLACES (.cons ⟨rfl, fun _ B => (DV.tup (T.p_REST_PLACES_0 B) (.cons (DV.tup (T.p_REST_PLACES_0_0 B) (.cons (.str _) (.cons (.str _) .nil))) (.cons (DV.tup (T.p_REST_PLACES_0_1 B) (.cons (.str _) (.cons (.str _) .nil))) (.cons (DV.tup (T.p_REST_PLACES_0_2 B) (.cons (.str _) (.cons (.str _) .nil))) (.cons (DV.tup (T.p_REST_PLACES_0_3 B) (.cons (.str _) (.cons (.str _) .nil))) (.cons (DV.tup (T.p_REST_PLACES_0_4 B) (.cons (.str _) (.cons (.str _) .nil))) .nil))))))⟩ (.cons ⟨rfl, fun _ B => (DV.tup (T.p_REST_PLACES_1 B) (.cons (DV.tup (T.p_REST_PLACES_1_0 B) (.cons (.str _) (.cons (.str _) .nil))) (.cons (DV.tup (T.p_REST_PLACES_1_1 B) (.cons (.str _) (.cons (.str _) .nil))) (.cons (DV.tup (T.p_REST_PLACES_1_2 B) (.cons (.str _) (.cons (.str _) .nil))) .nil))))⟩ (.cons ⟨rfl, fun _ B => (DV.tup (T.p_REST_PLACES_2 B) (.cons (DV.tup (T.p_REST_PLACES_2_0 B) (.cons (.str _) (.cons (.str _) .nil))) (.cons (DV.tup (T.p_REST_PLACES_2_1 B) (.cons (.str _) (.cons (.str _) .nil))) (.cons (DV.tup (T.p_REST_PLACES_2_2 B) (.cons (.str _) (.cons (.str _) .nil))) (.cons (DV.tup (T.p_REST_PLACES_2_3 B) (.cons (.str _) (.cons (.str _) .nil))) (.cons (DV.tup (T.p_REST_PLACES_2_4 B) (.cons (.str _) (.cons (.str _) .nil))) .nil))))))⟩ .nil))) (pe_ix ix_KD (pe_glob (v := .ref T.a_REST_PLACES) rfl T.g_REST_PLACES rfl) (de_var (pv 6) (by decide)) (fun _ _ => rfl)))) (blkOk_by (own := [("signs", 8)]) (N := N_numbers_by_places) (sc := defScope s_numbers_by_places) (by decide +kernel)) (fun _ _ _ _ _ => (dg_name (pg_name (i := 8) sc_numbers_by_places.nd rfl (by first | exact Or.inl rfl | exact Or.inr rfl)) (by decide))) (fun _ _ _ _ _ => dts_nil) (fun _ _ _ _ _ => (de_tup (da_cons (de_var (pv 2) (by decide)) (da_cons (de_var (pv 8) (by decide)) da_nil)) (by decide)))))) rfl)))))))))
      (ds_one (ds_ret (de_var (pv 1) (by decide))))))))), fn_readV h⟩
theorem ok_turned_span (T : Tx w K mg) : FnOk P w K mg base CX0 1 T.a_turned_span T.fd_turned_span ["span", "d"] (spD (GG T) f_turned_span) := by
  refine T.F_turned_span.ok sc_turned_span (fun vs H Q E h => fn_len h) (fun cdv A outer s H vs Q E hr h => ?_)
  have hu := hu_of hr
  refine ⟨tS (GG T) [] [] [] E b_turned_span, (ds_cons (ds_asg (ps_asg (de_var (pv 0) (by decide)) (dg_tup (by rfl) (dgs_cons (dg_name (pg_name (i := 2) sc_turned_span.nd rfl (by first | exact Or.inl rfl | exact Or.inr rfl)) (by decide)) (dgs_cons (dg_name (pg_name (i := 3) sc_turned_span.nd rfl (by first | exact Or.inl rfl | exact Or.inr rfl)) (by decide)) dgs_nil)))))
      (ds_one (ds_ret (de_tup (da_cons (de_if (dt_cmp bin_isN (pt_cmpR op_isN (de_var (pv 3) (by decide)) de_non (nomark _))) de_non (de_bin (m := true) bin_sub (pe_op op_sub (de_var (pv 1) (by decide)) (de_var (pv 3) (by decide))))) (da_cons (de_if (dt_cmp bin_isN (pt_cmpR op_isN (de_var (pv 2) (by decide)) de_non (nomark _))) de_non (de_bin (m := true) bin_sub (pe_op op_sub (de_var (pv 1) (by decide)) (de_var (pv 2) (by decide))))) da_nil)) (by decide))))), fn_read h⟩
theorem ok_gap_behind (T : Tx w K mg) : FnOk P w K mg base CX0 2 T.a_gap_behind T.fd_gap_behind ["gap", "span", "signs", "keeps"] (spD (GG T) f_gap_behind) := by
  refine T.F_gap_behind.ok sc_gap_behind (fun vs H Q E h => fn_len h) (fun cdv A outer s H vs Q E hr h => ?_)
  have hu := hu_of hr
  refine ⟨tS (GG T) [] [] [] E b_gap_behind, (ds_cons (ds_if (PW.pt (dw_and (dt_val (de_bin bin_ix (pe_ix (ix_G (G := (GG T))) (de_var (pv 3) (by decide)) de_int (fun _ _ => rfl)))) (pw_and1 (dt_val (de_bin bin_ix (pe_ix (ix_G (G := (GG T))) (de_var (pv 3) (by decide)) de_int (fun _ _ => rfl))))))) (ds_one (ds_ret (de_tup (da_cons de_int (da_cons de_int (da_cons de_str da_nil))) (by decide)))) ds_nil)
      (ds_cons (ds_if (dt_cmp bin_eq (pt_cmpR (op_eqG (G := (GG T)) hr.units) (de_var (pv 0) (by decide)) de_str (nomark _))) (ds_one (ds_ret (de_if (dt_val (de_bin bin_ix (pe_ix (ix_G (G := (GG T))) (de_var (pv 3) (by decide)) de_int (fun _ _ => rfl)))) de_str (de_if (dt_val (de_bin bin_ix (pe_ix (ix_G (G := (GG T))) (de_var (pv 3) (by decide)) de_int (fun _ _ => rfl)))) de_str de_str)))) ds_nil)
      (ds_cons (ds_if (dt_cmp bin_eq (pt_cmpR (op_eqG (G := (GG T)) hr.units) (de_var (pv 0) (by decide)) de_str (nomark _))) (ds_one (ds_ret (de_if (dt_val (de_bin bin_ix (pe_ix (ix_G (G := (GG T))) (de_var (pv 3) (by decide)) de_int (fun _ _ => rfl)))) (de_bin bin_add (pe_op (op_addA (G := (GG T))) (de_var (pv 1) (by decide)) (de_tup (da_cons (de_bin bin_ix (pe_ix (ix_G (G := (GG T))) (de_var (pv 2) (by decide)) de_int (fun _ _ => rfl))) da_nil) (by decide)))) de_str))) ds_nil)
      (ds_cons (ds_if (dt_cmp bin_eq (pt_cmpR (op_eqG (G := (GG T)) hr.units) (de_var (pv 0) (by decide)) de_str (nomark _))) (ds_one (ds_ret (de_if (dt_val (de_bin bin_ix (pe_ix (ix_G (G := (GG T))) (de_var (pv 3) (by decide)) de_int (fun _ _ => rfl)))) (de_bin bin_add (pe_op (op_addA (G := (GG T))) (de_call (pe_call (ok_turned_span T) (hr.mono (by decide)) (by rfl) T.g_turned_span T.F_turned_span.kp T.b_turned_span .nil pass0 (DA.pa (da_cons (de_var (pv 1) (by decide)) (da_cons de_int da_nil))))) (de_tup (da_cons (de_ixC T.d_TURNED_SIGNS (.cons ⟨rfl, fun _ B => (.str _)⟩ (.cons ⟨rfl, fun _ B => (.str _)⟩ (.cons ⟨rfl, fun _ B => (.str _)⟩ .nil))) (pe_ix ix_KD (pe_glob (v := .ref T.a_TURNED_SIGNS) rfl T.g_TURNED_SIGNS rfl) (de_bin bin_ix (pe_ix (ix_G (G := (GG T))) (de_var (pv 2) (by decide)) de_int (fun _ _ => rfl))) (fun _ _ => rfl))) da_nil) (by decide)))) de_str))) ds_nil)
      (ds_cons (ds_if (dt_val (de_bin bin_ix (pe_ix (ix_G (G := (GG T))) (de_var (pv 3) (by decide)) de_int (fun _ _ => rfl)))) (ds_one (ds_ret (de_bin bin_add (pe_op (op_addA (G := (GG T))) (de_call (pe_call (ok_turned_span T) (hr.mono (by decide)) (by rfl) T.g_turned_span T.F_turned_span.kp T.b_turned_span .nil pass0 (DA.pa (da_cons (de_var (pv 1) (by decide)) (da_cons (de_bin bin_ix (pe_ix (ix_G (G := (GG T))) (de_var (pv 0) (by decide)) de_int (fun _ _ => rfl))) da_nil))))) (de_tup (da_cons (de_ixC T.d_TURNED_SIGNS (.cons ⟨rfl, fun _ B => (.str _)⟩ (.cons ⟨rfl, fun _ B => (.str _)⟩ (.cons ⟨rfl, fun _ B => (.str _)⟩ .nil))) (pe_ix ix_KD (pe_glob (v := .ref T.a_TURNED_SIGNS) rfl T.g_TURNED_SIGNS rfl) (de_bin bin_ix (pe_ix (ix_G (G := (GG T))) (de_var (pv 2) (by decide)) de_int (fun _ _ => rfl))) (fun _ _ => rfl))) da_nil) (by decide)))))) ds_nil)
      (ds_one (ds_ret (de_if (dt_val (de_bin bin_ix (pe_ix (ix_G (G := (GG T))) (de_var (pv 3) (by decide)) de_int (fun _ _ => rfl)))) (de_bin bin_add (pe_op (op_addA (G := (GG T))) (de_var (pv 1) (by decide)) (de_tup (da_cons (de_bin bin_ix (pe_ix (ix_G (G := (GG T))) (de_var (pv 2) (by decide)) de_int (fun _ _ => rfl))) da_nil) (by decide)))) (de_tup (da_cons (de_bin bin_ix (pe_ix (ix_G (G := (GG T))) (de_var (pv 0) (by decide)) de_int (fun _ _ => rfl))) (da_cons (de_bin bin_ix (pe_ix (ix_G (G := (GG T))) (de_var (pv 0) (by decide)) de_int (fun _ _ => rfl))) (da_cons (de_bin bin_ix (pe_ix (ix_G (G := (GG T))) (de_var (pv 0) (by decide)) de_int (fun _ _ => rfl))) da_nil))) (by decide)))))))))), fn_read h⟩
theorem ok_outcomes_of (T : Tx w K mg) : FnOk P w K mg base CX0 3 T.a_outcomes_of T.fd_outcomes_of ["gap", "keeps", "numbers"] (spV (GG T).vol f_outcomes_of) := by
  refine T.F_outcomes_of.ok sc_outcomes_of (fun vs H Q E h => fn_lenV h) (fun cdv A outer s H vs Q E hr h => ?_)
  have hu := hu_of hr
  refine ⟨tS (GG T).vol [] [] [] E b_outcomes_of, (ds_cons (ds_set rfl (ps_set (i := 3) sc_outcomes_of.nd rfl (by first | exact Or.inl rfl | exact Or.inr rfl) de_newX))
      (ds_cons (ds_forHl (ps_for PassesOwn.never rfl (pi_seq2 (de_var (pv 2) (by decide))) (dg_tup (by rfl) (dgs_cons (dg_name (pg_name (i := 4) sc_outcomes_of.nd rfl (by first | exact Or.inl rfl | exact Or.inr rfl)) (by decide)) (dgs_cons (dg_name (pg_name (i := 5) sc_outcomes_of.nd rfl (by first | exact Or.inl rfl | exact Or.inr rfl)) (by decide)) dgs_nil)))
        (ds_one (ds_expr (ps_expr (de_sdX (pe_xsd (hu41 hr) (de_var (pv 3) (by decide)) (de_callK (m := false) (pe_call (ok_gap_behind T) (hr.mono (by decide)) (by rfl) T.g_gap_behind T.F_gap_behind.kp T.b_gap_behind .nil pass0 (DA.pa (da_cons (de_var (pv 0) (by decide)) (da_cons (de_var (pv 4) (by decide)) (da_cons (de_var (pv 5) (by decide)) (da_cons (de_var (pv 1) (by decide)) da_nil))))))) (de_tup (da_cons (de_var (pv 4) (by decide)) (da_cons (de_var (pv 5) (by decide)) da_nil)) (by decide)) ⟨rfl, rfl, rfl, rfl⟩)))))))
      (ds_one (ds_ret (de_ofN (de_lcHi (m := false) (by decide) (pe_lc (own := [("behind", 6), ("span", 4), ("signs", 5)]) (by rfl) sc_outcomes_of.nd (pi_itemsX (de_var (pv 3) (by decide))) (blkOk_by (own := [("behind", 6), ("span", 4), ("signs", 5)]) (N := N_outcomes_of) (sc := defScope s_outcomes_of) (by decide +kernel)) (fun _ _ _ _ _ => (dg_tup (by rfl) (dgs_cons (dg_name (pg_name (i := 6) sc_outcomes_of.nd rfl (by first | exact Or.inl rfl | exact Or.inr rfl)) (by decide)) (dgs_cons (dg_tup (by rfl) (dgs_cons (dg_name (pg_name (i := 4) sc_outcomes_of.nd rfl (by first | exact Or.inl rfl | exact Or.inr rfl)) (by decide)) (dgs_cons (dg_name (pg_name (i := 5) sc_outcomes_of.nd rfl (by first | exact Or.inl rfl | exact Or.inr rfl)) (by decide)) dgs_nil))) dgs_nil)))) (fun _ _ _ _ _ => dts_nil) (fun _ _ _ _ _ => (de_tup (da_cons (de_var (pv 6) (by decide)) (da_cons (de_var (pv 4) (by decide)) (da_cons (de_var (pv 5) (by decide)) da_nil))) (by decide)))))))))), fn_readV h⟩
theorem ok_Menus___init__ (T : Tx w K mg) : FnOk P w K mg base CX0 1 T.a_Menus___init__ T.fd_Menus___init__ ["self"] (spV (GG T).vol f_Menus___init__) := by
  refine T.F_Menus___init__.ok sc_Menus___init__ (fun vs H Q E h => fn_lenV h) (fun cdv A outer s H vs Q E hr h => ?_)
  have hu := hu_of hr
  refine ⟨tS (GG T).vol [] [] [] E b_Menus___init__, (ds_one (ds_setM (m := false) (m' := false) (by rfl) T.cl_Menus T.no_Menus_known (ps_fld (de_var (pv 0) (by decide)) de_newX rfl))), fn_readV h⟩
theorem ok_Menus_at (T : Tx w K mg) : FnOk P w K mg base CX0 3 T.a_Menus_at T.fd_Menus_at ["self", "gap"] (spV (GG T).vol f_Menus_at) := by
  refine T.F_Menus_at.ok sc_Menus_at (fun vs H Q E h => fn_lenV h) (fun cdv A outer s H vs Q E hr h => ?_)
  have hu := hu_of hr
  refine ⟨tS (GG T).vol [] [] [] E b_Menus_at, (ds_cons (ds_if (dt_inX (pt_cmp (pc_xnotin (hu41 hr) (de_var (pv 1) (by decide)) (de_fldM (m := false) (by rfl) T.cl_Menus T.no_Menus_known (pe_fld (de_var (pv 0) (by decide)) rfl))))) (ds_one (ds_putX (ps_xput (hu41 hr) (de_fldM (m := false) (by rfl) T.cl_Menus T.no_Menus_known (pe_fld (de_var (pv 0) (by decide)) rfl)) (de_var (pv 1) (by decide)) (de_ofN (de_lcHi (m := false) (by decide) (pe_lc (own := [("places", 2), ("numbers", 3)]) (by rfl) sc_Menus_at.nd (pi_itemsX (de_callV (m := false) (pe_call (ok_numbers_by_places T) (hr.mono (by decide)) (by rfl) T.g_numbers_by_places T.F_numbers_by_places.kp T.b_numbers_by_places .nil pass0 (DA.pa (da_cons (de_var (pv 1) (by decide)) da_nil))))) (blkOk_by (own := [("places", 2), ("numbers", 3)]) (N := N_Menus_at) (sc := defScope s_Menus_at) (by decide +kernel)) (fun _ _ _ _ _ => (dg_tup (by rfl) (dgs_cons (dg_name (pg_name (i := 2) sc_Menus_at.nd rfl (by first | exact Or.inl rfl | exact Or.inr rfl)) (by decide)) (dgs_cons (dg_name (pg_name (i := 3) sc_Menus_at.nd rfl (by first | exact Or.inl rfl | exact Or.inr rfl)) (by decide)) dgs_nil)))) (fun _ _ _ _ _ => dts_nil) (fun _ _ _ _ _ => (de_tup (da_cons (de_var (pv 2) (by decide)) (da_cons (de_var (pv 3) (by decide)) (da_cons de_newX da_nil))) (by decide)))))) rfl))) ds_nil)
      (ds_one (ds_ret (de_getX (pe_xget (hu41 hr) (de_fldM (m := false) (by rfl) T.cl_Menus T.no_Menus_known (pe_fld (de_var (pv 0) (by decide)) rfl)) (de_var (pv 1) (by decide)) (fun _ _ => rfl)))))), fn_readV h⟩
theorem ok_used (T : Tx w K mg) : FnOk P w K mg base CX0 1 T.a_used T.fd_used ["loop", "state", "place"] (spD (GG T) f_used) := by
  refine T.F_used.ok sc_used (fun vs H Q E h => fn_len h) (fun cdv A outer s H vs Q E hr h => ?_)
  have hu := hu_of hr
  refine ⟨tS (GG T) [] [] [] E b_used, (ds_cons (ds_set rfl (ps_set (i := 3) sc_used.nd rfl (by first | exact Or.inl rfl | exact Or.inr rfl) (de_tab T.cl_Loop T.no_Loop_table (pe_dget1 hu (pe_fld (de_var (pv 0) (by decide)) rfl) (pe_tup (DA.pa (da_cons (de_var (pv 1) (by decide)) (da_cons (de_var (pv 2) (by decide)) da_nil)))) ⟨rfl, rfl, rfl, rfl⟩))))
      (ds_one (ds_ret (de_if (dt_cmp bin_isN (pt_cmpR op_isN (de_var (pv 3) (by decide)) de_non (nomark _))) (de_tup (da_cons de_str (da_cons de_bl (da_cons (de_var (pv 1) (by decide)) da_nil))) (by decide)) (de_slice (pe_slice (sl_G (G := (GG T))) (de_bin bin_ix (pe_ix (ix_G (G := (GG T))) (de_loopF T.cl_Loop T.no_Loop_own_rules (pe_fld (de_var (pv 0) (by decide)) rfl)) (de_var (pv 3) (by decide)) (fun _ _ => rfl))) (do_some de_int) do_none)))))), fn_read h⟩
theorem ok_Loops_react (T : Tx w K mg) : FnOk P w K mg base CX0 2 T.a_Loops_react T.fd_Loops_react ["self", "state", "other", "where", "other_where"] (spD (GG T) f_Loops_react) := by
  refine T.F_Loops_react.ok sc_Loops_react (fun vs H Q E h => fn_len h) (fun cdv A outer s H vs Q E hr h => ?_)
  have hu := hu_of hr
  refine ⟨tS (GG T) [] [] [] E b_Loops_react, (ds_cons (ds_asg (ps_asg (de_call (pe_call (ok_used T) (hr.mono (by decide)) (by rfl) T.g_used T.F_used.kp T.b_used .nil pass0 (DA.pa (da_cons (de_fldO (by rfl) T.cl_Loops T.no_Loops_one (pe_fld (de_var (pv 0) (by decide)) rfl)) (da_cons (de_var (pv 1) (by decide)) (da_cons (de_var (pv 3) (by decide)) da_nil)))))) (dg_tup (by rfl) (dgs_cons (dg_name (pg_name (i := 5) sc_Loops_react.nd rfl (by first | exact Or.inl rfl | exact Or.inr rfl)) (by decide)) (dgs_cons (dg_name (pg_name (i := 6) sc_Loops_react.nd rfl (by first | exact Or.inl rfl | exact Or.inr rfl)) (by decide)) (dgs_cons (dg_name (pg_name (i := 7) sc_Loops_react.nd rfl (by first | exact Or.inl rfl | exact Or.inr rfl)) (by decide)) dgs_nil))))))
      (ds_cons (ds_asg (ps_asg (de_call (pe_call (ok_used T) (hr.mono (by decide)) (by rfl) T.g_used T.F_used.kp T.b_used .nil pass0 (DA.pa (da_cons (de_fldO (by rfl) T.cl_Loops T.no_Loops_other (pe_fld (de_var (pv 0) (by decide)) rfl)) (da_cons (de_var (pv 2) (by decide)) (da_cons (de_var (pv 4) (by decide)) da_nil)))))) (dg_tup (by rfl) (dgs_cons (dg_name (pg_name (i := 8) sc_Loops_react.nd rfl (by first | exact Or.inl rfl | exact Or.inr rfl)) (by decide)) (dgs_cons (dg_name (pg_name (i := 9) sc_Loops_react.nd rfl (by first | exact Or.inl rfl | exact Or.inr rfl)) (by decide)) (dgs_cons (dg_name (pg_name (i := 10) sc_Loops_react.nd rfl (by first | exact Or.inl rfl | exact Or.inr rfl)) (by decide)) dgs_nil))))))
      (ds_cons (ds_set rfl (ps_set (i := 11) sc_Loops_react.nd rfl (by first | exact Or.inl rfl | exact Or.inr rfl) (de_and (pe_and (de_bin (m := true) bin_in (pe_cmpR (op_inG (G := (GG T))) (de_fldO (by rfl) T.cl_Loops T.no_Loops_by (pe_fld (de_var (pv 0) (by decide)) rfl)) (de_tup (da_cons de_str (da_cons de_str da_nil)) (by decide)) (by rfl))) (pe_one (de_bin (m := true) bin_ne (pe_cmpR (op_neG (G := (GG T)) hr.units) (de_var (pv 5) (by decide)) (de_var (pv 8) (by decide)) (nomark _))))))))
      (ds_cons (ds_set rfl (ps_set (i := 11) sc_Loops_react.nd rfl (by first | exact Or.inl rfl | exact Or.inr rfl) (de_or (pe_or (de_var (pv 11) (by decide)) (pe_one (de_and (pe_and (de_bin (m := true) bin_in (pe_cmpR (op_inG (G := (GG T))) (de_fldO (by rfl) T.cl_Loops T.no_Loops_by (pe_fld (de_var (pv 0) (by decide)) rfl)) (de_tup (da_cons de_str (da_cons de_str da_nil)) (by decide)) (by rfl))) (pe_one (de_bin (m := true) bin_ne (pe_cmpR (op_neG (G := (GG T)) hr.units) (de_var (pv 6) (by decide)) (de_var (pv 9) (by decide)) (nomark _)))))))))))
      (ds_one (ds_ret (de_tup (da_cons (de_var (pv 7) (by decide)) (da_cons (de_var (pv 10) (by decide)) (da_cons (de_var (pv 6) (by decide)) (da_cons (de_var (pv 9) (by decide)) (da_cons (de_var (pv 11) (by decide)) da_nil))))) (by decide)))))))), fn_read h⟩
theorem ok_moves_of (T : Tx w K mg) : FnOk P w K mg base CX0 4 T.a_moves_of T.fd_moves_of ["pair", "menus", "node"] (spV (GG T).vol f_moves_of) := by
  refine T.F_moves_of.ok sc_moves_of (fun vs H Q E h => fn_lenV h) (fun cdv A outer s H vs Q E hr h => ?_)
  have hu := hu_of hr
  refine ⟨tS (GG T).vol [] [] [] E b_moves_of, (ds_cons (ds_asg (ps_asg (de_var (pv 2) (by decide)) (dg_tup (by rfl) (dgs_cons (dg_name (pg_name (i := 3) sc_moves_of.nd rfl (by first | exact Or.inl rfl | exact Or.inr rfl)) (by decide)) (dgs_cons (dg_name (pg_name (i := 4) sc_moves_of.nd rfl (by first | exact Or.inl rfl | exact Or.inr rfl)) (by decide)) (dgs_cons (dg_name (pg_name (i := 5) sc_moves_of.nd rfl (by first | exact Or.inl rfl | exact Or.inr rfl)) (by decide)) dgs_nil))))))
      (ds_cons (ds_set rfl (ps_set (i := 6) sc_moves_of.nd rfl (by first | exact Or.inl rfl | exact Or.inr rfl) (de_lstM (m := false) da_nil (by decide))))
      (ds_cons (ds_for (ps_for PassesOwn.never rfl (di_seq (de_methV (by rfl) (pe_meth (de_var (pv 1) (by decide)) T.cl_Menus T.me_Menus_at (ok_Menus_at T) (hr.mono (by decide)) T.b_Menus_at .nil pass0 (DA.pa (da_cons (de_var (pv 5) (by decide)) da_nil))))) (dg_tup (by rfl) (dgs_cons (dg_tup (by rfl) (dgs_cons (dg_name (pg_name (i := 7) sc_moves_of.nd rfl (by first | exact Or.inl rfl | exact Or.inr rfl)) (by decide)) (dgs_cons (dg_name (pg_name (i := 8) sc_moves_of.nd rfl (by first | exact Or.inl rfl | exact Or.inr rfl)) (by decide)) dgs_nil))) (dgs_cons (dg_name (pg_name (i := 9) sc_moves_of.nd rfl (by first | exact Or.inl rfl | exact Or.inr rfl)) (by decide)) (dgs_cons (dg_name (pg_name (i := 10) sc_moves_of.nd rfl (by first | exact Or.inl rfl | exact Or.inr rfl)) (by decide)) dgs_nil))))
        (ds_cons (ds_asg (ps_asg (de_lift rfl rfl (de_meth (insObjM (c := "Loops") (by rfl)) (pe_meth (de_var (pv 0) (by decide)) T.cl_Loops T.me_Loops_react (ok_Loops_react T) (hr.mono (by decide)) T.b_Loops_react .nil pass0 (DA.pa (da_cons (de_var (pv 3) (by decide)) (da_cons (de_var (pv 4) (by decide)) (da_cons (de_var (pv 7) (by decide)) (da_cons (de_var (pv 8) (by decide)) da_nil)))))))) (dg_tup (by rfl) (dgs_cons (dg_name (pg_name (i := 11) sc_moves_of.nd rfl (by first | exact Or.inl rfl | exact Or.inr rfl)) (by decide)) (dgs_cons (dg_name (pg_name (i := 12) sc_moves_of.nd rfl (by first | exact Or.inl rfl | exact Or.inr rfl)) (by decide)) (dgs_cons (dg_name (pg_name (i := 13) sc_moves_of.nd rfl (by first | exact Or.inl rfl | exact Or.inr rfl)) (by decide)) (dgs_cons (dg_name (pg_name (i := 14) sc_moves_of.nd rfl (by first | exact Or.inl rfl | exact Or.inr rfl)) (by decide)) (dgs_cons (dg_name (pg_name (i := 15) sc_moves_of.nd rfl (by first | exact Or.inl rfl | exact Or.inr rfl)) (by decide)) dgs_nil))))))))
      (ds_cons (ds_set rfl (ps_set (i := 16) sc_moves_of.nd rfl (by first | exact Or.inl rfl | exact Or.inr rfl) (de_tup (da_cons (de_var (pv 13) (by decide)) (da_cons (de_var (pv 14) (by decide)) da_nil)) (by decide))))
      (ds_cons (ds_if (dt_inX (pt_cmp (pc_xnotin (hu41 hr) (de_var (pv 16) (by decide)) (de_var (pv 10) (by decide))))) (ds_one (ds_putX (ps_xput (hu41 hr) (de_var (pv 10) (by decide)) (de_var (pv 16) (by decide)) (de_callV (m := false) (pe_call (ok_outcomes_of T) (hr.mono (by decide)) (by rfl) T.g_outcomes_of T.F_outcomes_of.kp T.b_outcomes_of .nil pass0 (DA.pa (da_cons (de_var (pv 5) (by decide)) (da_cons (de_var (pv 16) (by decide)) (da_cons (de_var (pv 9) (by decide)) da_nil)))))) rfl))) ds_nil)
      (ds_one (ds_expr (ps_expr (de_appM (m := false) (pe_bm PySem.F.plainAttrs_list PySem.F.slot_list_append PySem.F.type_list_append mt_append (de_var (pv 6) (by decide)) (DA.pa (da_cons (de_tup (da_cons (de_tup (da_cons (de_var (pv 11) (by decide)) (da_cons (de_var (pv 12) (by decide)) da_nil)) (by decide)) (da_cons (de_var (pv 15) (by decide)) (da_cons (de_var (pv 16) (by decide)) (da_cons (de_getX (pe_xget (hu41 hr) (de_var (pv 10) (by decide)) (de_var (pv 16) (by decide)) (fun _ _ => rfl))) da_nil)))) (by decide)) da_nil))))))))))))
      (ds_one (ds_ret (de_var (pv 6) (by decide))))))), fn_readV h⟩
/-- is_rule of a rule that is right -/
def sp_is_rule (K : PySem.W.Frag) : Sp := fun vs H Q _ => ∃ (v : V) (r : Rule), vs = [v] ∧ RuleAt K H v r ∧ wfRule r = true ∧ r.gs.length ≤ 100 ∧ ∀ H', Same H H' → Q (.bl true) H'
theorem nm_len {z : Str} (h : isNameB z = true) : z.length ≤ 8 := by
  unfold isNameB at h
  simp only [Bool.and_eq_true, decide_eq_true_eq] at h
  exact h.1.2
theorem ok_is_rule (T : Tx w K mg) : FnOk P w K mg base CX0 2 T.a_is_rule T.fd_is_rule ["rule"] (sp_is_rule K) := by
  refine T.F_is_rule.ok sc_is_rule (fun vs H Q E h => ?_) (fun cdv A outer s H vs Q E hr h => ?_)
  · obtain ⟨v, r, rfl, _⟩ := h; rfl
  · obtain ⟨v, r, rfl, ⟨t, g, rfl, hT, hG⟩, hw, hgl, q⟩ := h
    refine ⟨_, ((pss_cons (ps_if (PW.pt (pw_or (pt_not (pt_val (pe_callB (call_isiT) (by rfl) T.m_isinstance (by decide +kernel) (pa_cons (pv 0) (pa_cons (pe_tup (pa_cons (pe_bltn (v := .ty "list") (by rfl) T.m_list (by decide +kernel) rfl) (pa_cons (pe_bltn (v := .ty "tuple") (by rfl) T.m_tuple (by decide +kernel) rfl) pa_nil))) pa_nil))))) (pw_or1 (pt_cmpR (op_ne) (pe_callB (call_len) (by rfl) T.m_len (by decide +kernel) (pa_cons (pv 0) pa_nil)) pe_int (nomark _))))) (pss_one (ps_ret pe_bl)) pss_nil)
      (pss_cons (ps_asg (pv 0) (pg_seq (by rfl) (pgs_cons (pg_name (i := 1) sc_is_rule.nd rfl (by first | exact Or.inl rfl | exact Or.inr rfl)) (pgs_cons (pg_name (i := 2) sc_is_rule.nd rfl (by first | exact Or.inl rfl | exact Or.inr rfl)) (pgs_cons (pg_name (i := 3) sc_is_rule.nd rfl (by first | exact Or.inl rfl | exact Or.inr rfl)) (pgs_cons (pg_name (i := 4) sc_is_rule.nd rfl (by first | exact Or.inl rfl | exact Or.inr rfl)) (pgs_cons (pg_name (i := 5) sc_is_rule.nd rfl (by first | exact Or.inl rfl | exact Or.inr rfl)) pgs_nil)))))))
      (pss_cons (ps_if (PW.pt (pw_or (pt_not (pt_val (pe_call (ok_is_name T) (hr.mono (by decide)) rfl T.g_is_name T.F_is_name.kp T.b_is_name .nil pass0 (pa_cons (pv 1) pa_nil)))) (pw_or (pt_not (pt_val (pe_call (ok_is_name T) (hr.mono (by decide)) rfl T.g_is_name T.F_is_name.kp T.b_is_name .nil pass0 (pa_cons (pv 3) pa_nil)))) (pw_or (pt_not (pt_val (pe_call (ok_is_name T) (hr.mono (by decide)) rfl T.g_is_name T.F_is_name.kp T.b_is_name .nil pass0 (pa_cons (pv 5) pa_nil)))) (pw_or1 (pt_not (pt_val (pe_callB (call_isi) (by rfl) T.m_isinstance (by decide +kernel) (pa_cons (pv 4) (pa_cons (pe_bltn (v := .ty "bool") (by rfl) T.m_bool (by decide +kernel) rfl) pa_nil)))))))))) (pss_one (ps_ret pe_bl)) pss_nil)
      (pss_one (ps_ret (pe_and (pe_callB (call_isiT) (by rfl) T.m_isinstance (by decide +kernel) (pa_cons (pv 2) (pa_cons (pe_tup (pa_cons (pe_bltn (v := .ty "list") (by rfl) T.m_list (by decide +kernel) rfl) (pa_cons (pe_bltn (v := .ty "tuple") (by rfl) T.m_tuple (by decide +kernel) rfl) pa_nil))) pa_nil))) (pe_and (pe_cmpR (op_gt) (pe_callB (call_len) (by rfl) T.m_len (by decide +kernel) (pa_cons (pv 2) pa_nil)) pe_int (nomark _)) (pe_one (pe_callB (cr_all rfl) (by rfl) T.m_all (by decide +kernel) (pa_cons (pe_lc (own := [("name", 6)]) (by rfl) sc_is_rule.nd (pi_seq (pv 2)) (blkOk_by (own := [("name", 6)]) (N := N_is_rule) (sc := defScope s_is_rule) (by decide +kernel)) (fun _ _ _ _ _ => (pg_name (i := 6) sc_is_rule.nd rfl (by first | exact Or.inl rfl | exact Or.inr rfl))) (fun _ _ _ _ _ => pts_nil) (fun _ _ _ _ _ => (pe_call (ok_is_group T) (hr.mono (by decide)) rfl T.g_is_group T.F_is_group.kp T.b_is_group .nil pass0 (pa_cons (pv 6) pa_nil)))) pa_nil))))))))))), ?_⟩
    unfold wfRule at hw
    simp only [Bool.and_eq_true, decide_eq_true_eq] at hw
    obtain ⟨⟨⟨⟨n1, n2⟩, n3⟩, g0⟩, gA⟩ := hw
    refine ⟨_, rfl, (by walk_at "len"), fun p1 np1 => ?_⟩
    obtain ⟨ty, us, y1, y2, y3⟩ := isLT (hT.same (same_new (o := .tup [.ty "list", .ty "tuple"]) np1))
    refine ⟨_, _, _, _, _, true, rfl, upd_same, y1, y2, y3, _, rfl, ?_⟩
    refine ifF rfl ?_
    have hT := hT.same (same_new (o := .tup [.ty "list", .ty "tuple"]) np1)
    have hG := hG.same (same_new (o := .tup [.ty "list", .ty "tuple"]) np1)
    have sm1 : Same H _ := same_new (o := .tup [.ty "list", .ty "tuple"]) np1
    generalize upd H p1 (.tup [.ty "list", .ty "tuple"]) = H1 at *
    refine ⟨_, rfl, _, _, rfl, hT.len, rfl, _, rfl, ?_⟩
    refine iteNS rfl ?_
    -- unpack
    refine ⟨_, rfl, _, _, rfl, hT, rfl, _, _, rfl, _, _, rfl, _, _, rfl, _, _, rfl, _, _, rfl, rfl, ?_⟩
    refine ⟨_, rfl, _, rfl, Nat.le_trans (nm_len n1) (by decide), fun H2 sm2 => ?_⟩
    refine ⟨_, rfl, ?_⟩
    rw [n1]
    refine ifF rfl ?_
    refine ⟨_, rfl, _, rfl, Nat.le_trans (nm_len n2) (by decide), fun H3 sm3 => ?_⟩
    refine ⟨_, rfl, ?_⟩
    rw [n2]
    refine ifF rfl ?_
    refine ⟨_, rfl, _, rfl, Nat.le_trans (nm_len n3) (by decide), fun H4 sm4 => ?_⟩
    refine ⟨_, rfl, ?_⟩
    rw [n3]
    refine ifF rfl ?_
    refine ⟨_, rfl, _, _, _, _, true, rfl, .ty _, (by walk_at "tyx"), kit_ty (by decide +kernel), _, rfl, ?_⟩
    refine ifF rfl ?_
    -- groups
    have sm := (sm2.trans sm3).trans sm4
    have hG := hG.same sm
    refine ⟨_, rfl, (by walk_at "len"), fun p2 np2 => ?_⟩
    have hG := hG.same (same_new (o := .tup [.ty "list", .ty "tuple"]) np2)
    obtain ⟨ty, us, y1, y2, y3⟩ := isLT hG
    refine ⟨_, _, _, _, _, true, rfl, upd_same, y1, y2, y3, _, rfl, ?_⟩
    refine ifT rfl ?_
    refine ⟨_, rfl, _, _, rfl, hG.len, _, _, rfl, rfl, _, rfl, ?_⟩
    refine ifT (decide_eq_true (by rw [List.length_map]; omega)) ?_
    refine ⟨_, rfl, _, _, rfl, hG, fun J wk D nD => ?_⟩
    refine lcW_filt (p := fun _ => true) (f := fun _ => .bl true) wk (fun H' sm o ho _ => sm _ _ ho) nD (by rw [List.length_map]; omega) ?_ ?_ ?_
    · intro i y H' kk hy sm hk
      exact hk _ (Same.refl _)
    · intro i y H' kk hy _ sm hk
      rw [List.getElem?_map] at hy
      obtain ⟨z, hz, rfl⟩ := Option.map_eq_some_iff.mp hy
      have hg : isGroupB z = true := List.all_eq_true.mp gA z (List.mem_of_getElem? hz)
      refine ⟨_, rfl, z, rfl, ?_⟩
      rw [hg]; exact hk _ (Same.refl _)
    · intro H5 sm5 hD
      have eF : ((r.gs.map V.str).filter fun _ => true).map (fun _ => V.bl true) = (r.gs.map fun _ => true).map V.bl := by
        rw [filt_all, List.map_map, List.map_map]; rfl
      rw [eF] at hD
      refine ⟨_, _, rfl, SqL.of hD, ?_⟩
      have e : (r.gs.map fun _ => true).all id = true := by simp
      rw [e]
      exact q _ (((sm1.trans sm).trans (same_new np2)).trans sm5)
/-- states_of of rules -/
def sp_states_of (K : PySem.W.Frag) : Sp := fun vs H Q _ => ∃ (a : Addr) (rs : List Rule), vs = [.ref a] ∧ RulesAt K H a rs ∧ rs.length ≤ 1000 ∧ ∀ (H' : Hp) (p : Addr), Same H H' → H p = none → H' p = some (.lst ((statesR rs).map V.str)) → Q (.ref p) H'
theorem ok_states_of (T : Tx w K mg) : FnOk P w K mg base CX0 1 T.a_states_of T.fd_states_of ["rules"] (sp_states_of K) := by
  refine T.F_states_of.ok sc_states_of (fun vs H Q E h => ?_) (fun cdv A outer s H vs Q E hr h => ?_)
  · obtain ⟨a, rs, rfl, _⟩ := h; rfl
  · obtain ⟨a, rs, rfl, ⟨vs, hv, hp⟩, hlen, q⟩ := h
    have hu := hu_of hr
    refine ⟨_, ((pss_cons (ps_set (i := 1) sc_states_of.nd rfl (by first | exact Or.inl rfl | exact Or.inr rfl) pe_dnewK)
      (pss_cons (ps_for PassesOwn.never rfl (pi_seq (pv 0)) (pg_seq (by rfl) (pgs_cons (pg_name (i := 2) sc_states_of.nd rfl (by first | exact Or.inl rfl | exact Or.inr rfl)) (pgs_cons (pg_name (i := 3) sc_states_of.nd rfl (by first | exact Or.inl rfl | exact Or.inr rfl)) (pgs_cons (pg_name (i := 4) sc_states_of.nd rfl (by first | exact Or.inl rfl | exact Or.inr rfl)) (pgs_cons (pg_name (i := 5) sc_states_of.nd rfl (by first | exact Or.inl rfl | exact Or.inr rfl)) (pgs_cons (pg_name (i := 6) sc_states_of.nd rfl (by first | exact Or.inl rfl | exact Or.inr rfl)) pgs_nil))))))
        (pss_cons (ps_dput hu (pv 1) (pv 2) pe_bl rfl)
      (pss_one (ps_dput hu (pv 1) (pv 6) pe_bl rfl))))
      (pss_one (ps_ret (pe_callTy (call_listD rfl) (by rfl) T.m_list (by decide +kernel) (pa_cons (pv 1) pa_nil))))))), ?_⟩
    refine fun d nd => ?_
    have hvl : vs.length = rs.length := Paired.length hp
    refine ⟨_, rfl, _, _, rfl, hv.same (same_new nd), fun J wk => ?_⟩
    refine for_it wk (fun i σ H' => ∃ v2 v3 v4 v5 v6 : Option V, σ = [some (.ref a), some (.ref d), v2, v3, v4, v5, v6] ∧ Same H H' ∧ H' d = some (.dK (stD (statesR (rs.take i))))) ?_ ?_ ?_ ?_
    · exact ⟨_, _, _, _, _, rfl, same_new nd, upd_same⟩
    · rintro i σ H' hi ⟨_, _, _, _, _, rfl, sm, hd⟩ o ho hs
      by_cases e : a = d
      · subst e
        rw [upd_same] at ho
        cases ho
        exact (isSeqO_dK hs).elim
      · rw [upd_ne e] at ho
        exact sm _ _ ho
    · rintro i x σ H1 H' hi ⟨v2, v3, v4, v5, v6, rfl, sm, hd⟩ ⟨rfl, hx⟩
      obtain ⟨r, hr1, t, g, rfl, hT, hG⟩ := paired_get hp hx
      have hi' : i < rs.length := by omega
      have hl : (statesR (rs.take i)).length ≤ 2000 := by
        have := statesF_bound [] (rs.take i)
        have h2 : (rs.take i).length ≤ rs.length := by rw [List.length_take]; omega
        unfold statesR; simp only [List.length_nil] at this; omega
      refine ⟨_, _, rfl, hT.same sm, rfl, _, _, rfl, _, _, rfl, _, _, rfl, _, _, rfl, _, _, rfl, rfl, ?_⟩
      refine ⟨_, rfl, _, rfl, _, _, rfl, DPut.k (k := Sum.inr r.st) hd (sz100k_lt (by unfold stD; rw [List.length_map]; omega)), ?_⟩
      rw [stD_put]
      refine ⟨_, rfl, _, rfl, _, _, rfl, DPut.k (k := Sum.inr r.nx) upd_same (sz100k_lt ?_), ?_⟩
      · unfold stD; rw [List.length_map]
        have := (addS_len (statesR (rs.take i)) r.st).2
        omega
      rw [stD_put]
      refine ⟨_, _, _, _, _, rfl, ?_, ?_⟩
      · intro c o hc
        have ne := ne_of_none hc nd
        exact upd_skip ne (upd_skip ne (sm _ _ hc))
      · rw [take_snoc hr1]
        unfold statesR
        rw [statesF_snoc]; exact upd_same
    · rintro σ H' ⟨v2, v3, v4, v5, v6, rfl, sm, hd⟩
      rw [hvl, List.take_length] at hd
      refine ⟨_, rfl, _, _, rfl, .inl hd, fun p np => ?_⟩
      refine q _ p (sm.trans (same_new np)) (sm.free np) ?_
      have e : (stD (statesR rs)).map (fun kv => kV kv.1) = (statesR rs).map V.str := by unfold stD; rw [List.map_map]; rfl
      rw [e]; exact upd_same
/-- invalid_rule of rules that are right -/
def sp_invalid_rule (K : PySem.W.Frag) : Sp := fun vs H Q _ => ∃ (a : Addr) (rs : List Rule), vs = [.ref a] ∧ RulesAt K H a rs ∧ wfRules rs ∧ (∀ r ∈ rs, r.gs.length ≤ 100) ∧ ∀ H', Same H H' → Q (.int 0) H'
theorem ok_invalid_rule (T : Tx w K mg) : FnOk P w K mg base CX0 3 T.a_invalid_rule T.fd_invalid_rule ["rules"] (sp_invalid_rule K) := by
  refine T.F_invalid_rule.ok sc_invalid_rule (fun vs H Q E h => ?_) (fun cdv A outer s H vs Q E hr h => ?_)
  · obtain ⟨a, ns, rfl, _⟩ := h; rfl
  · obtain ⟨a, rs, rfl, ⟨vs, hv, hp⟩, ⟨w1, w2, w3, w4⟩, hg, q⟩ := h
    refine ⟨_, ((pss_cons (ps_if (pt_cmpR (op_eq) (pe_callB (call_len) (by rfl) T.m_len (by decide +kernel) (pa_cons (pv 0) pa_nil)) pe_int (nomark _)) (pss_one (ps_ret pe_int)) pss_nil)
      (pss_cons (ps_for PassesOwn.never rfl (pi_range2 rfl T.m_range (pa_cons pe_int (pa_cons (pe_op op_add (pe_callB (call_len) (by rfl) T.m_len (by decide +kernel) (pa_cons (pv 0) pa_nil)) pe_int) pa_nil))) (pg_name (i := 1) sc_invalid_rule.nd rfl (by first | exact Or.inl rfl | exact Or.inr rfl))
        (pss_one (ps_if (PW.pt (pw_or (pt_cmpR (op_gt) (pv 1) (pe_glob (v := .int 40) rfl T.g_MOST_RULES ⟨_, rfl⟩) (nomark _)) (pw_or (pt_not (pt_val (pe_call (ok_is_rule T) (hr.mono (by decide)) rfl T.g_is_rule T.F_is_rule.kp T.b_is_rule .nil pass0 (pa_cons (pe_ix ix_seq (pv 0) (pe_op op_sub (pv 1) pe_int) (fun _ _ => rfl)) pa_nil)))) (pw_or1 (pt_cmpR (op_gt) (pe_callB (call_len_seq) (by rfl) T.m_len (by decide +kernel) (pa_cons (pe_call (ok_states_of T) (hr.mono (by decide)) rfl T.g_states_of T.F_states_of.kp T.b_states_of .nil pass0 (pa_cons (pe_slice sl_seq (pv 0) po_none (po_some (pv 1))) pa_nil)) pa_nil)) (pe_glob (v := .int 6) rfl T.g_MOST_STATES ⟨_, rfl⟩) (nomark _)))))) (pss_one (ps_ret (pv 1))) pss_nil)))
      (pss_one (ps_ret pe_int))))), ?_⟩
    have hvl : vs.length = rs.length := Paired.length hp
    refine ⟨_, rfl, _, _, rfl, hv.len, rfl, _, rfl, ?_⟩
    refine ifF (decide_eq_false (by intro e; injection e with e; omega)) ?_
    refine ⟨_, rfl, _, _, rfl, hv.len, _, _, rfl, rfl, _, _, rfl, ⟨by decide, by decide, by omega, by omega⟩, ?_⟩
    rw [show ((vs.length : Int) + 1 - 1).toNat = vs.length by omega]
    refine for_range (lo := 1) (n := vs.length) (fun i σ H' => ∃ v1 : Option V, σ = [some (.ref a), v1] ∧ Same H H') ?_ ?_ ?_
    · exact ⟨_, rfl, Same.refl _⟩
    · rintro i σ H' hi ⟨v1, rfl, sm⟩
      obtain ⟨n, hn⟩ : ∃ n : Int, n = 1 + (i : Int) := ⟨_, rfl⟩
      rw [← hn]
      refine ⟨_, rfl, _, _, rfl, rfl, _, rfl, ?_⟩
      refine ifF (decide_eq_false (by omega)) ?_
      obtain ⟨r, hr1⟩ : ∃ r, rs[i]? = some r := ⟨_, List.getElem?_eq_getElem (by omega)⟩
      obtain ⟨v, hv1, hv2⟩ := paired_gety hp hr1
      refine ⟨_, rfl, _, rfl, _, _, rfl, rfl, ?_⟩
      refine rIx_seq (hv.same sm) (v := v) (by rw [show n - 1 = ((i : Nat) : Int) by omega]; exact atI_nat hv1) ?_
      have hm := List.mem_of_getElem? hr1
      refine ⟨v, r, rfl, hv2.same sm, w3 r hm, hg r hm, fun H2 sm2 => ?_⟩
      refine ⟨_, rfl, ?_⟩
      refine ifF rfl ?_
      refine ⟨_, rfl, _, rfl, _, rfl, _, _, rfl, hv.same (sm.trans sm2), fun p H3 sm3 hp3 => ?_⟩
      rw [show n = ((i + 1 : Nat) : Int) by omega, cut_to] at hp3
      refine ⟨p, rs.take (i + 1), rfl, ⟨_, hp3, Paired.mapP (paired_take _ hp) fun _ _ h => h.same ((sm.trans sm2).trans sm3)⟩, ?_, fun H4 p4 sm4 np4 h4 => ?_⟩
      · rw [List.length_take]; omega
      refine ⟨_, _, rfl, .inl (SqL.of h4), _, _, rfl, rfl, _, rfl, ?_⟩
      have := statesR_take rs (i + 1)
      refine ifF (decide_eq_false (by rw [List.length_map]; omega)) ?_
      exact ⟨_, rfl, ((sm.trans sm2).trans sm3).trans sm4⟩
    · rintro σ H' ⟨v1, rfl, sm⟩
      exact q _ sm
theorem ok_Loop___init__ (T : Tx w K mg) : FnOk P w K mg base CX0 4 T.a_Loop___init__ T.fd_Loop___init__ ["self", "rules", "answers"] (spLoopInit K T.a_Loop) := by
  refine T.F_Loop___init__.ok sc_Loop___init__ (fun vs H Q E h => ?_) (fun cdv A outer s H vs Q E hr h => ?_)
  · obtain ⟨self, a, dx, av, rs, ans, rfl, _⟩ := h; rfl
  · obtain ⟨self, a, dx, av, rs, ans, rfl, hself, hR, hwf, hg, hA, hav, q⟩ := h
    have hu := hu_of hr
    refine ⟨_, PSs.nox ((pss_cons (ps_set (i := 3) sc_Loop___init__.nd rfl (by first | exact Or.inl rfl | exact Or.inr rfl) (pe_call (ok_invalid_rule T) (hr.mono (by decide)) rfl T.g_invalid_rule T.F_invalid_rule.kp T.b_invalid_rule .nil pass0 (pa_cons (pv 1) pa_nil)))
      (pss_cons (ps_if (pt_cmpR (op_gt) (pv 3) pe_int (nomark _)) (pss_one ps_never) pss_nil)
      (Evl.pss_cut (ps_setLc (i := 4) (own := [("rule", 5)]) (by rfl) sc_Loop___init__.nd rfl rfl (sw_true rfl rfl rfl (by decide +kernel)) (pi_seq (pv 1)) (blkOk_by (own := [("rule", 5)]) (N := N_Loop___init__) (sc := defScope s_Loop___init__) (by decide +kernel)) (fun _ _ _ _ _ => (pg_name (i := 5) sc_Loop___init__.nd rfl (by first | exact Or.inl rfl | exact Or.inr rfl))) (fun _ _ _ _ _ => pts_nil) (fun _ _ _ _ _ => (pe_tup (pa_cons (pe_ix (show IxR _ (rIx K) from ix_seq) (pv 5) pe_int (fun _ _ => rfl)) (pa_cons (pe_callTy ((show CallR _ _ (rTupSeq K) from call_tuple_seq)) (by rfl) T.m_tuple (by decide +kernel) (pa_cons (pe_ix (show IxR _ (rIx K) from ix_seq) (pv 5) pe_int (fun _ _ => rfl)) pa_nil)) (show PA _ _ (StX.tStar K _ _) from StX.pa_star (pe_slice (show SlR _ (rSlSeq K) from sl_seq) (pv 5) (po_some pe_int) po_none) pa_nil))))))
      (Evl.pss_cut (ps_fld (pv 0) (pe_callTy (call_tuple_of) (by rfl) T.m_tuple (by decide +kernel) (pa_cons (pv 4) pa_nil)) rfl)
      (Evl.pss_cut (ps_set (i := 6) sc_Loop___init__.nd rfl (by first | exact Or.inl rfl | exact Or.inr rfl) (pe_ifExp (pt_cmpR (op_isN) (pv 2) pe_non (nomark _)) pe_dnewK (pe_callTy (call_dictD) (by rfl) T.m_dict (by decide +kernel) (pa_cons (pv 2) pa_nil))))
      (Evl.pss_cut (ps_set (i := 7) sc_Loop___init__.nd rfl (by first | exact Or.inl rfl | exact Or.inr rfl) (pe_callTy (call_tuple_of) (by rfl) T.m_tuple (by decide +kernel) (pa_cons (pe_call (ok_states_of T) (hr.mono (by decide)) rfl T.g_states_of T.F_states_of.kp T.b_states_of .nil pass0 (pa_cons (pe_fld (pv 0) rfl) pa_nil)) pa_nil)))
      (pss_cons (ps_for PassesOwn.never rfl (pi_list (pe_callB (cr_sortedS) (by rfl) T.m_sorted (by decide +kernel) (pa_cons (pe_lock (pe_lc (own := [("key", 9)]) (by rfl) sc_Loop___init__.nd (pi_keys (pv 6)) (blkOk_by (own := [("key", 9)]) (N := N_Loop___init__) (sc := defScope s_Loop___init__) (by decide +kernel)) (fun _ _ _ _ _ => (pg_name (i := 9) sc_Loop___init__.nd rfl (by first | exact Or.inl rfl | exact Or.inr rfl))) (fun _ _ _ _ _ => pts_nil) (fun _ _ _ _ _ => (pe_callTy (SkE.call_str_str) (by rfl) T.m_str (by decide +kernel) (pa_cons (pv 9) pa_nil))))) pa_nil))) (pg_name (i := 8) sc_Loop___init__.nd rfl (by first | exact Or.inl rfl | exact Or.inr rfl))
        (pss_one (ps_if (pt_cmpR (op_notIn_seq) (pv 8) (pv 7) (by rfl)) (pss_one ps_never) pss_nil)))
      (pss_cons (ps_for PassesOwn.never rfl (pi_tup (pv 7)) (pg_name (i := 8) sc_Loop___init__.nd rfl (by first | exact Or.inl rfl | exact Or.inr rfl))
        (pss_cons (ps_set (i := 10) sc_Loop___init__.nd rfl (by first | exact Or.inl rfl | exact Or.inr rfl) (pe_dget2 hu (pv 6) (pv 8) pe_str ⟨rfl, rfl, rfl, rfl⟩))
      (pss_one (ps_if (PW.pt (pw_and (pt_cmpR (op_ne) (pv 10) pe_str (nomark _)) (pw_and1 (pt_not (pt_val (pe_call (ok_is_name T) (hr.mono (by decide)) rfl T.g_is_name T.F_is_name.kp T.b_is_name .nil pass0 (pa_cons (pv 10) pa_nil))))))) (pss_one ps_never) pss_nil))))
      (Evl.pss_cut (ps_fld (pv 0) (pe_dc (own := [("state", 8)]) (by rfl) sc_Loop___init__.nd (pi_tup (pv 7)) (blkOk_by (own := [("state", 8)]) (N := N_Loop___init__) (sc := defScope s_Loop___init__) (by decide +kernel)) (fun _ _ _ _ _ => (pg_name (i := 8) sc_Loop___init__.nd rfl (by first | exact Or.inl rfl | exact Or.inr rfl))) (fun _ _ _ _ _ => pts_nil) (fun _ _ _ _ _ => (pv 8)) (fun _ _ _ _ _ => (pe_dget2 hu (pv 6) (pv 8) pe_str ⟨rfl, rfl, rfl, rfl⟩))) rfl)
      (Evl.pss_cut (ps_fld (pv 0) pe_dnewT rfl)
      (pss_one (ps_for PassesOwn.never rfl (pi_enumT (by rfl) T.m_enumerate (pa_cons (pe_fld (pv 0) rfl) pa_nil)) (pg_tup (by rfl) (pgs_cons (pg_name (i := 11) sc_Loop___init__.nd rfl (by first | exact Or.inl rfl | exact Or.inr rfl)) (pgs_cons (pg_tup (by rfl) (pgs_cons (pg_name (i := 8) sc_Loop___init__.nd rfl (by first | exact Or.inl rfl | exact Or.inr rfl)) (pgs_cons (pg_name (i := 12) sc_Loop___init__.nd rfl (by first | exact Or.inl rfl | exact Or.inr rfl)) (pgs_cons (pg_name (i := 13) sc_Loop___init__.nd rfl (by first | exact Or.inl rfl | exact Or.inr rfl)) (pgs_cons (pg_name (i := 14) sc_Loop___init__.nd rfl (by first | exact Or.inl rfl | exact Or.inr rfl)) (pgs_cons (pg_name (i := 15) sc_Loop___init__.nd rfl (by first | exact Or.inl rfl | exact Or.inr rfl)) pgs_nil)))))) pgs_nil)))
        (pss_one (ps_for PassesOwn.never rfl (pi_tup (pv 12)) (pg_name (i := 16) sc_Loop___init__.nd rfl (by first | exact Or.inl rfl | exact Or.inr rfl))
        (pss_one (ps_for PassesOwn.never rfl (pi_tup (pe_cut (pe_ifExp (pt_cmpR (op_eq) (pv 16) pe_str (nomark _)) (pe_tup (pa_cons pe_str pa_nil)) (pe_call (ok_group T) (hr.mono (by decide)) rfl T.g_group T.F_group.kp T.b_group .nil pass0 (pa_cons (pv 16) pa_nil))))) (pg_name (i := 17) sc_Loop___init__.nd rfl (by first | exact Or.inl rfl | exact Or.inr rfl))
        (pss_one (ps_expr (pe_dsetdT hu (pe_fld (pv 0) rfl) (pe_tup (pa_cons (pv 8) (pa_cons (pv 17) pa_nil))) (pv 11) ⟨rfl, rfl, rfl, rfl⟩)))))))))))))))))))), ?_⟩
    obtain ⟨w1, w2, w3, w4⟩ := id hwf
    -- line
    refine ⟨_, rfl, a, rs, rfl, hR, hwf, hg, fun H1 sm1 => ?_⟩
    refine ⟨_, rfl, _, _, rfl, rfl, _, rfl, ?_⟩
    refine ifF rfl ?_
    -- copied
    refine ⟨fun σ H' => ∃ (cp : Addr) (vs : List V), σ = [some (.ref self), some (.ref a), some av, some (.int 0), some (.ref cp), none, none, none, none, none, none, none, none, none, none, none, none, none] ∧ Same H H' ∧ H' cp = some (.lst vs) ∧ Paired (RuleT K H') vs rs, ?_, ?_⟩
    · obtain ⟨vs, hv, hp⟩ := hR.same sm1
      have hvl : vs.length = rs.length := Paired.length hp
      refine ⟨_, rfl, _, _, rfl, hv, fun J wk D nD => ?_⟩
      refine lc_it wk (fun i H' => Same H1 H' ∧ ∃ us, H' D = some (.lst us) ∧ Paired (RuleT K H') us (rs.take i)) ?_ ?_ ?_ ?_
      · exact ⟨same_new nD, [], upd_same, .nil⟩
      · rintro i H' hi ⟨sm, _⟩ o ho _; exact sm _ _ ho
      · rintro i x H' H'' hi ⟨sm, us, hD, hu⟩ ⟨rfl, hx⟩
        obtain ⟨r, hr1, t, g, rfl, hT, hG⟩ := paired_get hp hx
        refine ⟨rfl, ?_⟩
        refine ⟨_, rfl, ?_⟩
        refine rIx_seq (hT.same sm) (i := 0) rfl ?_
        refine ⟨_, rfl, ?_⟩
        refine rIx_seq (hT.same sm) (i := 1) rfl ?_
        refine ⟨_, _, rfl, hG.same sm, fun g2 H2 sm2 hG2 => ?_⟩
        refine ⟨_, rfl, _, rfl, _, _, rfl, hT.same (sm.trans sm2), fun s3 H3 sm3 hs3 => ?_⟩
        rw [show (2 : Int) = ((2 : Nat) : Int) from rfl, cut_from] at hs3
        refine ⟨_, _, rfl, Or.symm hs3, (by walk_at "len"), fun t2 nt2 => ?_⟩
        have hul : us.length = i := by
          have := Paired.length hu
          rw [this, List.length_take]; omega
        have hD2 : upd H3 t2 (.tup [.str r.st, .ref g2, .str r.wd, .bl r.kp, .str r.nx]) D = some (.lst us) := upd_keep (sm3 _ _ (sm2 _ _ hD)) nt2
        refine ⟨us, hD2, sz100k_lt (by omega), ?_, _, upd_same, ?_⟩
        · intro c o hc
          refine upd_skip (ne_of_none hc nD) (upd_keep (sm3 _ _ (sm2 _ _ (sm _ _ hc))) nt2)
        · rw [take_snoc hr1]
          refine paired_snoc (Paired.mapP hu fun _ _ h => (((h.same sm2).same sm3).same (same_new nt2)).skip hD2 noTup_lst) ?_
          refine RuleT.skip hD2 noTup_lst ⟨t2, g2, rfl, SqT.of upd_same, SqT_same (same_new nt2) (SqT_same sm3 hG2)⟩
      · rintro H' ⟨sm, us, hD, hu⟩
        rw [hvl, List.take_length] at hu
        exact ⟨D, us, rfl, sm1.trans sm, hD, hu⟩
    rintro σ H2 ⟨cp, vs, rfl, sm2, hcp, hvs⟩
    -- self.own_rules
    refine ⟨fun σ H' => ∃ (ra : Addr), σ = [some (.ref self), some (.ref a), some av, some (.int 0), some (.ref cp), none, none, none, none, none, none, none, none, none, none, none, none, none] ∧ But self H H' ∧ H' self = some (.ins T.a_Loop dx [("own_rules", .ref ra)]) ∧ RulesT K H' ra rs, ?_, ?_⟩
    · refine ⟨_, rfl, _, _, rfl, .inl ⟨SqL.of hcp, fun ra nra => ?_⟩⟩
      have hs2 := upd_keep (o := .tup vs) (sm2 _ _ hself) nra
      refine ⟨_, rfl, _, _, _, _, rfl, hs2, T.cl_Loop, T.no_Loop_own_rules, by decide, ?_⟩
      refine ⟨ra, rfl, But.upd ((But.of_same sm2).new nra), upd_same, ?_⟩
      refine RulesT.skip hs2 noTup_ins ⟨vs, SqT.of upd_same, Paired.mapP hvs fun _ _ h => h.same (same_new nra)⟩
    rintro σ H3 ⟨ra, rfl, bt3, hs3, hr3⟩
    -- given
    refine ⟨fun σ H' => ∃ (gv : Addr), σ = [some (.ref self), some (.ref a), some av, some (.int 0), some (.ref cp), none, some (.ref gv), none, none, none, none, none, none, none, none, none, none, none] ∧ But self H H' ∧ H' self = some (.ins T.a_Loop dx [("own_rules", .ref ra)]) ∧ RulesT K H' ra rs ∧ H' gv = some (.dK (ansD ans)), ?_, ?_⟩
    · rcases hav with ⟨rfl, rfl⟩ | ⟨d, rfl, hd⟩
      · refine ⟨_, rfl, rfl, _, rfl, ?_⟩
        refine ifT rfl ?_
        intro gv ng
        exact ⟨gv, rfl, bt3.new ng, upd_keep hs3 ng, hr3.same (same_new ng), upd_same⟩
      · refine ⟨_, rfl, rfl, _, rfl, ?_⟩
        refine ifF rfl ?_
        refine ⟨_, rfl, d, _, rfl, .inl (bt3.at (fun e => ?_) hd), fun gv ng => ?_⟩
        · subst e; rw [hd] at hself; cases hself
        exact ⟨gv, rfl, bt3.new ng, upd_keep hs3 ng, hr3.same (same_new ng), upd_same⟩
    rintro σ H4 ⟨gv, rfl, bt4, hs4, hr4, hg4⟩
    -- found
    refine ⟨fun σ H' => ∃ (fd : Addr), σ = [some (.ref self), some (.ref a), some av, some (.int 0), some (.ref cp), none, some (.ref gv), some (.ref fd), none, none, none, none, none, none, none, none, none, none] ∧ Same H4 H' ∧ H' fd = some (.tup ((statesR rs).map V.str)), ?_, ?_⟩
    · refine ⟨_, rfl, _, _, _, _, _, rfl, hs4, T.cl_Loop, T.no_Loop_own_rules, rfl, ra, rs, rfl, hr4.at, by omega, fun H5 p5 sm5 np5 hp5 => ?_⟩
      refine ⟨_, _, rfl, .inl ⟨SqL.of hp5, fun l nl => ?_⟩⟩
      exact ⟨l, rfl, sm5.trans (same_new nl), upd_same⟩
    rintro σ H5 ⟨fd, rfl, sm5, hfd⟩
    -- for state in sorted
    refine ⟨gv, _, sm5 _ _ hg4, True.intro, fun od => ?_⟩
    refine ⟨_, rfl, gv, od, rfl, .inl ⟨_, upd_same, fun D nD => ?_⟩⟩
    have hal : (ansD ans).length = ans.length := by unfold ansD; rw [List.length_map]
    refine lc_it walk_keys (fun i H' => Same (upd H5 gv (.frz od (.dK (ansD ans)))) H' ∧ H' D = some (.lst ((ans.take i).map fun p => V.str p.1))) ?_ ?_ ?_ ?_
    · exact ⟨same_new nD, upd_same⟩
    · rintro i H' hi ⟨sm, _⟩; exact sm _ _ upd_same
    · rintro i x H' H'' hi ⟨sm, hD⟩ ⟨rfl, k, v, hk, rfl⟩
      have hk : (ans.map fun p => ((Sum.inr p.1 : Key), V.str p.2))[i]? = some (k, v) := hk
      rw [List.getElem?_map] at hk
      obtain ⟨⟨ks, vs'⟩, hk1, hk2⟩ := Option.map_eq_some_iff.mp hk
      injection hk2 with e1 e2
      subst e1
      refine ⟨rfl, ?_⟩
      refine ⟨_, rfl, ks, rfl, ?_⟩
      refine ⟨_, hD, sz100k_lt ?_, ?_, ?_⟩
      · rw [List.length_map, List.length_take]
        have := hA.2; omega
      · intro c o hc
        exact upd_skip (ne_of_none hc nD) (sm _ _ hc)
      · rw [take_snoc hk1, List.map_append]; exact upd_same
    · rintro H6 ⟨sm6, hD6⟩
      rw [hal, List.take_length] at hD6
      refine ⟨sm6 _ _ upd_same, ?_⟩
      have sm7 : Same H5 (upd H6 gv (.dK (ansD ans))) := lock_same (sm5 _ _ hg4) sm6
      have nDg : D ≠ gv := upd_none_ne nD
      have hD7 : upd H6 gv (.dK (ansD ans)) D = some (.lst (ans.map fun p => V.str p.1)) := upd_skip nDg hD6
      obtain ⟨H7, hH7⟩ : ∃ H7, H7 = upd H6 gv (.dK (ansD ans)) := ⟨_, rfl⟩
      rw [← hH7] at sm7 hD7 ⊢
      refine ⟨D, ans.map (·.1), rfl, SqL.of (by rw [hD7, List.map_map]; rfl), by rw [List.length_map]; have := hA.2; omega, fun ys p perm _ np => ?_⟩
      refine ⟨_, rfl, ⟨_, SqL.of upd_same⟩, for_list (K := K) (a := p) (xs := ys.map V.str) (fun j σ H' => ∃ v8 : Option V, σ = [some (.ref self), some (.ref a), some av, some (.int 0), some (.ref cp), none, some (.ref gv), some (.ref fd), v8, none, none, none, none, none, none, none, none, none] ∧ H' = upd H7 p (.lst (ys.map V.str))) ?_ ?_ ?_ ?_⟩
      · exact ⟨_, rfl, rfl⟩
      · rintro j σ H' _ ⟨v8, rfl, rfl⟩; exact SqL.of upd_same
      · rintro j y σ H' hy ⟨v8, rfl, rfl⟩
        rw [List.getElem?_map] at hy
        obtain ⟨z, hz, rfl⟩ := Option.map_eq_some_iff.mp hy
        have hm : z ∈ statesR rs := by
          have h1 := perm.mem_iff.mp (List.mem_of_getElem? hz)
          obtain ⟨pp, h2, rfl⟩ := List.mem_map.mp h1
          exact (hA.1 pp h2).1
        refine ⟨_, rfl, _, rfl, _, _, rfl, .inr (SqT.of (upd_keep (sm7 _ _ hfd) np)), rfl, flats_str _, _, rfl, ?_⟩
        refine ifF ?_ ?_
        · show (!inV (.str z) ((statesR rs).map V.str)) = false
          rw [inV_strs, decide_eq_true hm]; rfl
        exact ⟨_, rfl, rfl⟩
      rintro σ H8' ⟨v8, rfl, rfl⟩
      -- for state in found
      have sm8 : Same H4 (upd H7 p (.lst (ys.map V.str))) := (sm5.trans sm7).trans (same_new np)
      have hfd8 : upd H7 p (.lst (ys.map V.str)) fd = some (.tup ((statesR rs).map V.str)) := upd_keep (sm7 _ _ hfd) np
      obtain ⟨H8, hH8⟩ : ∃ H8, H8 = upd H7 p (.lst (ys.map V.str)) := ⟨_, rfl⟩
      rw [← hH8] at sm8 hfd8 ⊢
      refine ⟨_, rfl, _, rfl, ⟨_, SqT.of hfd8⟩, for_tup (K := K) (a := fd) (xs := (statesR rs).map V.str) (fun j σ H' => ∃ v8 v10 : Option V, σ = [some (.ref self), some (.ref a), some av, some (.int 0), some (.ref cp), none, some (.ref gv), some (.ref fd), v8, none, v10, none, none, none, none, none, none, none] ∧ Same H8 H') ?_ ?_ ?_ ?_⟩
      · exact ⟨_, _, rfl, Same.refl _⟩
      · rintro j σ H' _ ⟨v8, v10, rfl, sm⟩; exact SqT.of (sm _ _ hfd8)
      · rintro j y σ H' hy ⟨v8, v10, rfl, sm⟩
        rw [List.getElem?_map] at hy
        obtain ⟨z, hz, rfl⟩ := Option.map_eq_some_iff.mp hy
        have hg9 := sm _ _ (sm8 _ _ hg4)
        refine ⟨_, rfl, _, rfl, .inl ⟨_, .inl hg9⟩, _, rfl, _, DGet.k (k := Sum.inr z) hg9, ?_⟩
        rw [ansD_val, ansD_get]
        refine ⟨_, rfl, rfl, _, rfl, ?_⟩
        rcases ansOk_of hA z with hz0 | hz0
        · refine ifF (by rw [hz0]; rfl) ?_
          refine ifF rfl ?_
          exact ⟨_, _, rfl, sm⟩
        · refine ifT ?_ ?_
          · have : ansOf ans z ≠ "" := fun e => by rw [e] at hz0; exact absurd hz0 (by decide +kernel)
            show (!decide (V.str (ansOf ans z) = V.str "")) = true
            rw [decide_eq_false (fun e => this (by injection e))]; rfl
          refine ⟨_, rfl, _, rfl, Nat.le_trans (nm_len hz0) (by decide), fun H9 sm9 => ?_⟩
          refine ⟨_, rfl, ?_⟩
          refine ifF (by rw [hz0]; rfl) ?_
          exact ⟨_, _, rfl, sm.trans sm9⟩
      rintro σ H9 ⟨v8, v10, rfl, sm9⟩
      -- self.own_answers
      have bt9 : But self H H9 := bt4.trans (But.of_same (sm8.trans sm9))
      have hs9 := sm9 _ _ (sm8 _ _ hs4)
      have hr9 := (hr4.same sm8).same sm9
      have hg9 := sm9 _ _ (sm8 _ _ hg4)
      have hfd9 := sm9 _ _ hfd8
      refine ⟨fun σ H' => ∃ (oa : Addr), σ = [some (.ref self), some (.ref a), some av, some (.int 0), some (.ref cp), none, some (.ref gv), some (.ref fd), v8, none, v10, none, none, none, none, none, none, none] ∧ H oa = none ∧ But self H H' ∧ H' self = some (.ins T.a_Loop dx [("own_rules", .ref ra), ("own_answers", .ref oa)]) ∧ RulesT K H' ra rs ∧ H' oa = some (.dK (ansV rs ans)), ?_, ?_⟩
      · refine ⟨_, rfl, _, rfl, ⟨_, SqT.of hfd9⟩, fun D nD => ?_⟩
        refine dc_tup (K := K) (a := fd) (xs := (statesR rs).map V.str) (fun i H' => Same H9 H' ∧ H' D = some (.dK (((statesR rs).take i).map fun s => ((Sum.inr s : Key), V.str (ansOf ans s))))) ?_ ?_ ?_ ?_
        · exact ⟨same_new nD, upd_same⟩
        · rintro i H' _ ⟨sm, _⟩; exact SqT.of (sm _ _ hfd9)
        · rintro i x H' hx ⟨sm, hD⟩
          rw [List.getElem?_map] at hx
          obtain ⟨z, hz, rfl⟩ := Option.map_eq_some_iff.mp hx
          refine ⟨rfl, ?_⟩
          refine ⟨_, rfl, _, rfl, _, rfl, .inl ⟨_, .inl (sm _ _ hg9)⟩, _, rfl, _, DGet.k (k := Sum.inr z) (sm _ _ hg9), ?_⟩
          rw [ansD_val, ansD_get]
          refine ⟨_, Sum.inr z, rfl, hD, sz100k_lt ?_, ?_, ?_⟩
          · rw [List.length_map, List.length_take]; omega
          · intro c o hc
            exact upd_skip (ne_of_none hc nD) (sm _ _ hc)
          · rw [putK_new, take_snoc hz, List.map_append]
            · exact upd_same
            · rw [mapD_val, if_neg]
              exact nd_take (statesR_nodup rs) hz
        · rintro H' ⟨sm, hD⟩
          rw [List.length_map, List.take_length] at hD
          have hs' := sm _ _ hs9
          refine ⟨_, rfl, _, _, _, _, rfl, hs', T.cl_Loop, T.no_Loop_own_answers, (by show 1 < 1000; decide), ?_⟩
          have nDH : H D = none := by
            cases hh : H D with
            | none => rfl
            | some o =>
              by_cases e : D = self
              · subst e; rw [hs9] at nD; cases nD
              · rw [bt9 _ _ e hh] at nD; cases nD
          refine ⟨D, rfl, nDH, But.upd (bt9.trans (But.of_same sm)), upd_same, RulesT.skip hs' noTup_ins (hr9.same sm), upd_skip (ne_of hD hs' (fun z => nomatch z)) hD⟩
      rintro σ H10 ⟨oa, rfl, noa, bt10, hs10, hr10, ho10⟩
      -- self.table
      refine ⟨fun σ H' => ∃ (tb : Addr), σ = [some (.ref self), some (.ref a), some av, some (.int 0), some (.ref cp), none, some (.ref gv), some (.ref fd), v8, none, v10, none, none, none, none, none, none, none] ∧ But self H H' ∧ H tb = none ∧ H' self = some (.ins T.a_Loop dx [("own_rules", .ref ra), ("own_answers", .ref oa), ("table", .ref tb)]) ∧ RulesT K H' ra rs ∧ H' oa = some (.dK (ansV rs ans)) ∧ H' tb = some (.dT []), ?_, ?_⟩
      · refine fun tb ntb => ?_
        have hs' := upd_keep (o := .dT []) hs10 ntb
        refine ⟨_, rfl, _, _, _, _, rfl, hs', T.cl_Loop, T.no_Loop_table, (by show 2 < 1000; decide), ?_⟩
        refine ⟨tb, rfl, But.upd (bt10.new ntb), ?_, upd_same, RulesT.skip hs' noTup_ins (hr10.same (same_new ntb)), ?_, ?_⟩
        · by_cases e : tb = self
          · subst e; rw [hs10] at ntb; cases ntb
          · cases hh : H tb with
            | none => rfl
            | some o => rw [bt10 _ _ e hh] at ntb; cases ntb
        · exact upd_skip (ne_of ho10 hs10 (fun z => nomatch z)) (upd_keep ho10 ntb)
        · exact upd_skip (ne_of_none hs10 ntb).symm upd_same
      rintro σ H11 ⟨tb, rfl, bt11, ntb, hs11, hr11, ho11, ht11⟩
      -- for k, rule in enumerate(own_rules)
      have nts : self ≠ tb := ne_of hs11 ht11 (fun z => nomatch z)
      obtain ⟨vs, hv, hp⟩ := id hr11
      have hvl : vs.length = rs.length := Paired.length hp
      refine ⟨_, rfl, _, _, _, _, _, rfl, hs11, T.cl_Loop, T.no_Loop_own_rules, rfl, _, _, rfl, hv, ?_⟩
      have keepT : ∀ {H' : Hp} {x : Addr} {xs : List V}, But tb H11 H' → SqT K H11 x xs → SqT K H' x xs := fun {H' x xs} bt h => by
        rcases h with (h | ⟨ob, h⟩) | h
        · exact .inl (.inl (bt _ _ (ne_of h ht11 (fun z => nomatch z)) h))
        · exact .inl (.inr ⟨ob, bt _ _ (ne_of h ht11 (fun z => nomatch z)) h⟩)
        · exact .inr h
      refine for_it (walk_enumT (K := K) (a := ra) (xs := vs)) (fun i σ H' => ∃ (v8 v11 v12 v13 v14 v15 v16 v17 : Option V) (tab : List (List Key × V)), σ = [some (.ref self), some (.ref a), some av, some (.int 0), some (.ref cp), none, some (.ref gv), some (.ref fd), v8, none, v10, v11, v12, v13, v14, v15, v16, v17] ∧ But tb H11 H' ∧ H' tb = some (.dT tab) ∧ tab.length ≤ i * 1100 ∧ TabIs tab (fitIdx (rs.take i))) ?_ ?_ ?_ ?_
      · exact ⟨_, _, _, _, _, _, _, _, [], rfl, But.refl, ht11, by simp, fun s p => rfl⟩
      · rintro i σ H' hi ⟨v8, v11, v12, v13, v14, v15, v16, v17, tab, rfl, bt, _⟩; exact keepT bt hv
      · rintro i x σ H' H'' hi ⟨v8, v11, v12, v13, v14, v15, v16, v17, tab, rfl, bt, htb, hlen, htab⟩ ⟨t0, x0, y0, rfl, nt0, rfl, e1, e2⟩
        cases e1
        obtain ⟨r, hr1, t, g, rfl, hT, hG⟩ := paired_get hp e2
        have hrm := List.mem_of_getElem? hr1
        have hgb : ∀ g ∈ r.gs, isGroupB g = true := by
          have := w3 r hrm
          unfold wfRule at this
          simp only [Bool.and_eq_true] at this
          exact List.all_eq_true.mp this.2
        have hgl := hg r hrm
        have bt0 : But tb H11 (upd H' t0 (.tup [.int (i : Nat), .ref t])) := bt.new nt0
        refine ⟨_, _, rfl, SqT.of upd_same, rfl, _, _, rfl, _, _, rfl, _, _, rfl, keepT bt0 hT, rfl, _, _, rfl, _, _, rfl, _, _, rfl, _, _, rfl, _, _, rfl, rfl, rfl, ?_⟩
        have htb0 : upd H' t0 (.tup [.int (i : Nat), .ref t]) tb = some (.dT tab) := upd_keep htb nt0
        -- for name in groups
        refine ⟨_, rfl, _, rfl, ⟨_, keepT bt0 hG⟩, for_tup (K := K) (a := g) (xs := r.gs.map V.str) (fun j σ H' => ∃ (v16 v17 : Option V) (tab : List (List Key × V)), σ = [some (.ref self), some (.ref a), some av, some (.int 0), some (.ref cp), none, some (.ref gv), some (.ref fd), some (.str r.st), none, v10, some (.int (i : Nat)), some (.ref g), some (.str r.wd), some (.bl r.kp), some (.str r.nx), v16, v17] ∧ But tb H11 H' ∧ H' tb = some (.dT tab) ∧ tab.length ≤ i * 1100 + ((r.gs.take j).flatMap placesG).length ∧ TabIs tab (tabF rs i r.st ((r.gs.take j).flatMap placesG))) ?_ ?_ ?_ ?_⟩
        · refine ⟨_, _, tab, rfl, bt0, htb0, by simpa using hlen, ?_⟩
          rw [List.take_zero, List.flatMap_nil, tabF_nil]; exact htab
        · rintro j σ H2 _ ⟨v16, v17, tab, rfl, bt, _⟩; exact keepT bt hG
        · rintro j y σ H2 hy ⟨v16, v17, tab, rfl, bt2, htb2, hlen2, htab2⟩
          rw [List.getElem?_map] at hy
          obtain ⟨nm, hnm, rfl⟩ := Option.map_eq_some_iff.mp hy
          have hgn := hgb nm (List.mem_of_getElem? hnm)
          -- for place
          refine ⟨fun v H3 => ∃ L : Addr, v = .ref L ∧ But tb H11 H3 ∧ H3 tb = some (.dT tab) ∧ SqT K H3 L ((placesG nm).map V.str), ?_, ?_⟩
          · refine ⟨_, rfl, rfl, _, rfl, ?_⟩
            by_cases hn : nm = "none"
            · subst hn
              refine ifT rfl ?_
              refine ⟨(by walk_at "len"), fun L nL => ?_⟩
              exact ⟨L, rfl, bt2.new nL, upd_keep htb2 nL, SqT.of upd_same⟩
            · refine ifF (decide_eq_false fun e => hn (by injection e)) ?_
              refine ⟨_, rfl, nm, rfl, hgn, fun L H3 sm3 hL => ?_⟩
              refine ⟨L, rfl, bt2.trans (But.of_same sm3), sm3 _ _ htb2, ?_⟩
              unfold placesG; rw [if_neg hn]; exact hL
          rintro v H3 ⟨L, rfl, bt3, htb3, hL⟩
          have keepL : ∀ {H' : Hp}, But tb H3 H' → SqT K H' L ((placesG nm).map V.str) := fun {H'} bt => by
            rcases hL with (h | ⟨ob, h⟩) | h
            · exact .inl (.inl (bt _ _ (ne_of h htb3 (fun z => nomatch z)) h))
            · exact .inl (.inr ⟨ob, bt _ _ (ne_of h htb3 (fun z => nomatch z)) h⟩)
            · exact .inr h
          refine ⟨_, rfl, ⟨_, hL⟩, for_tup (K := K) (a := L) (xs := (placesG nm).map V.str) (fun m σ H' => ∃ (v17 : Option V) (tab : List (List Key × V)), σ = [some (.ref self), some (.ref a), some av, some (.int 0), some (.ref cp), none, some (.ref gv), some (.ref fd), some (.str r.st), none, v10, some (.int (i : Nat)), some (.ref g), some (.str r.wd), some (.bl r.kp), some (.str r.nx), some (.str nm), v17] ∧ But tb H3 H' ∧ H' tb = some (.dT tab) ∧ tab.length ≤ i * 1100 + ((r.gs.take j).flatMap placesG).length + m ∧ TabIs tab (tabF rs i r.st ((r.gs.take j).flatMap placesG ++ (placesG nm).take m))) ?_ ?_ ?_ ?_⟩
          · refine ⟨_, tab, rfl, But.refl, htb3, hlen2, ?_⟩
            rw [List.take_zero, List.append_nil]; exact htab2
          · rintro m σ H4 _ ⟨v17, tab, rfl, bt, _⟩; exact keepL bt
          · rintro m y σ H4 hy ⟨v17, tab4, rfl, bt4, htb4, hlen4, htab4⟩
            rw [List.getElem?_map] at hy
            obtain ⟨pl, hpl, rfl⟩ := Option.map_eq_some_iff.mp hy
            have hm : m < (placesG nm).length := (List.getElem?_eq_some_iff.mp hpl).1
            have hm11 := placesG_len nm hgn
            have hfl := flat_len (gs := r.gs.take j) fun x hx => hgb x (List.mem_of_mem_take hx)
            have hjl : (r.gs.take j).length ≤ 100 := by rw [List.length_take]; omega
            have hs4 := bt4 _ _ nts (bt3 _ _ nts hs11)
            have hi40 : i ≤ 40 := by omega
            refine ⟨_, rfl, _, _, _, _, _, rfl, hs4, T.cl_Loop, T.no_Loop_table, rfl, _, rfl, .inr ⟨_, .inl htb4⟩, _, rfl, _, rfl, (by walk_at "len"), fun b nb => ?_⟩
            refine ⟨_, rfl, tab4, [Sum.inr r.st, Sum.inr pl], b, upd_keep htb4 nb, rfl, upd_same, sz100k_lt (by omega), fun v hv => ?_, fun hv => ?_⟩
            · refine ⟨_, tab4, rfl, bt4.new nb, upd_keep htb4 nb, by omega, ?_⟩
              rw [take_snoc hpl, ← List.append_assoc]
              exact tab_some htab4 hv
            · refine ⟨_, _, rfl, But.upd (bt4.new nb), upd_same, ?_, ?_⟩
              · have := length_putK tab4 [Sum.inr r.st, Sum.inr pl] (.int (i : Nat)); omega
              · rw [take_snoc hpl, ← List.append_assoc]
                exact tab_none htab4 hv
          · rintro σ H4 ⟨v17, tab4, rfl, bt4, htb4, hlen4, htab4⟩
            rw [List.length_map] at hlen4 htab4
            rw [List.take_length] at htab4
            have e : (r.gs.take (j + 1)).flatMap placesG = (r.gs.take j).flatMap placesG ++ placesG nm := by
              rw [take_snoc hnm, List.flatMap_append]; simp
            refine ⟨_, _, tab4, rfl, bt3.trans bt4, htb4, ?_, ?_⟩
            · rw [e, List.length_append]; omega
            · rw [e]; exact htab4
        · rintro σ H2 ⟨v16, v17, tab2, rfl, bt2, htb2, hlen2, htab2⟩
          rw [List.length_map, List.take_length] at hlen2 htab2
          have hfl := flat_len hgb
          refine ⟨_, _, _, _, _, _, _, _, tab2, rfl, bt2, htb2, ?_, ?_⟩
          · rw [Nat.add_mul]; omega
          · rw [← tab_end hr1]; exact htab2
      · rintro σ H12 ⟨v8, v11, v12, v13, v14, v15, v16, v17, tab, rfl, bt, htb, _, htab⟩
        rw [hvl, List.take_length] at htab
        refine q H12 oa tb (fun c o hc h => bt _ _ (ne_of_none h ntb) (bt11 _ _ hc h)) noa ntb ?_
        refine ⟨dx, ra, tab, bt _ _ nts hs11, ⟨vs, keepT bt hv, Paired.mapP hp fun _ _ ⟨t, g, e, h1, h2⟩ => ⟨t, g, e, keepT bt h1, keepT bt h2⟩⟩, bt _ _ (ne_of ho11 ht11 (fun z => nomatch z)) ho11, htb, htab⟩
theorem ok_Loop_states (T : Tx w K mg) : FnOk P w K mg base CX0 1 T.a_Loop_states T.fd_Loop_states ["self"] (spD (GG T) f_Loop_states) := by
  refine T.F_Loop_states.ok sc_Loop_states (fun vs H Q E h => fn_len h) (fun cdv A outer s H vs Q E hr h => ?_)
  have hu := hu_of hr
  refine ⟨tS (GG T) [] [] [] E b_Loop_states, (ds_one (ds_ret (de_arg (m := false) arg_tuple (pe_callTy (call_tupleG (G := (GG T))) (by rfl) T.m_tuple (by decide +kernel) (DA.pa (da_cons (de_ofN (de_argN (m := true) arg_listKN (pe_callTy (call_listKG (by rfl)) (by rfl) T.m_list (by decide +kernel) (DA.pa (da_cons (de_loopF T.cl_Loop T.no_Loop_own_answers (pe_fld (de_var (pv 0) (by decide)) rfl)) da_nil))))) da_nil)))))), fn_read h⟩
theorem ok_Loops___init__ (T : Tx w K mg) : FnOk P w K mg base CX0 1 T.a_Loops___init__ T.fd_Loops___init__ ["self", "one", "other", "by"] (spV (GG T).vol f_Loops___init__) := by
  refine T.F_Loops___init__.ok sc_Loops___init__ (fun vs H Q E h => fn_lenV h) (fun cdv A outer s H vs Q E hr h => ?_)
  have hu := hu_of hr
  refine ⟨tS (GG T).vol [] [] [] E b_Loops___init__, (ds_cons (ds_setM (m := false) (m' := false) (by rfl) T.cl_Loops T.no_Loops_one (ps_fld (de_var (pv 0) (by decide)) (de_var (pv 1) (by decide)) rfl))
      (ds_cons (ds_setM (m := false) (m' := false) (by rfl) T.cl_Loops T.no_Loops_other (ps_fld (de_var (pv 0) (by decide)) (de_var (pv 2) (by decide)) rfl))
      (ds_one (ds_setM (m := false) (m' := false) (by rfl) T.cl_Loops T.no_Loops_by (ps_fld (de_var (pv 0) (by decide)) (de_var (pv 3) (by decide)) rfl))))), fn_readV h⟩
theorem ok_is_gap (T : Tx w K mg) : FnOk P w K mg base CX0 2 T.a_is_gap T.fd_is_gap ["value"] (spD (GG T) f_is_gap) := by
  refine T.F_is_gap.ok sc_is_gap (fun vs H Q E h => fn_len h) (fun cdv A outer s H vs Q E hr h => ?_)
  have hu := hu_of hr
  refine ⟨tS (GG T) [] [] [] E b_is_gap, (ds_cons (ds_if (dt_val (de_isStr (pe_callB call_isi (by rfl) T.m_isinstance (by decide +kernel) (pa_cons (de_var (pv 0) (by decide)) (pa_cons (pe_bltn (v := .ty "str") (by rfl) T.m_str (by decide +kernel) rfl) pa_nil))))) (ds_one (ds_ret (de_bin (m := true) bin_in (pe_cmpR (op_inG (G := (GG T))) (de_var (pv 0) (by decide)) (de_const (pe_glob (v := .ref T.a_GAP_WORDS) rfl T.g_GAP_WORDS rfl) fun _ B => (DV.tup (T.p_GAP_WORDS B) (.cons (.str _) (.cons (.str _) (.cons (.str _) .nil))))) (by rfl))))) ds_nil)
      (ds_cons (ds_if (PW.pt (dw_or (dt_not (dt_val (de_isSq (pe_callB call_isiT (by rfl) T.m_isinstance (by decide +kernel) (pa_cons (de_var (pv 0) (by decide)) (pa_cons (pe_tup (pa_cons (pe_bltn (v := .ty "list") (by rfl) T.m_list (by decide +kernel) rfl) (pa_cons (pe_bltn (v := .ty "tuple") (by rfl) T.m_tuple (by decide +kernel) rfl) pa_nil))) pa_nil)))))) (dw_or (dt_cmp bin_ne (pt_cmpR (op_neG (G := (GG T)) hr.units) (de_arg (m := true) arg_len (pe_callB (call_lenG (G := (GG T))) (by rfl) T.m_len (by decide +kernel) (DA.pa (da_cons (de_var (pv 0) (by decide)) da_nil)))) de_int (nomark _))) (pw_or1 (dt_not (dt_val (de_coe (de_call (pe_call (ok_is_number T) (hr.mono (by decide)) (by rfl) T.g_is_number T.F_is_number.kp T.b_is_number .nil pass0 (DA.pa (da_cons (de_bin bin_ix (pe_ix (ix_G (G := (GG T))) (de_var (pv 0) (by decide)) de_int (fun _ _ => rfl))) da_nil))))))))))) (ds_one (ds_ret de_bl)) ds_nil)
      (ds_one (ds_ret (de_and (pe_and (de_isStr (pe_callB call_isi (by rfl) T.m_isinstance (by decide +kernel) (pa_cons (de_bin bin_ix (pe_ix (ix_G (G := (GG T))) (de_var (pv 0) (by decide)) de_int (fun _ _ => rfl))) (pa_cons (pe_bltn (v := .ty "str") (by rfl) T.m_str (by decide +kernel) rfl) pa_nil)))) (pe_one (de_bin (m := true) bin_in (pe_cmpR (op_inG (G := (GG T))) (de_bin bin_ix (pe_ix (ix_G (G := (GG T))) (de_var (pv 0) (by decide)) de_int (fun _ _ => rfl))) (de_const (pe_glob (v := .ref T.a_SIGNS) rfl T.g_SIGNS rfl) fun _ B => (DV.tup (T.p_SIGNS B) (.cons (.str _) (.cons (.str _) (.cons (.str _) .nil))))) (by rfl)))))))))), fn_read h⟩
theorem ok_as_joint (T : Tx w K mg) : FnOk P w K mg base CX0 3 T.a_as_joint T.fd_as_joint ["one", "other", "value"] (spD (GG T) f_as_joint) := by
  refine T.F_as_joint.ok sc_as_joint (fun vs H Q E h => fn_len h) (fun cdv A outer s H vs Q E hr h => ?_)
  have hu := hu_of hr
  refine ⟨tS (GG T) [] [] [] E b_as_joint, (ds_cons (ds_if (PW.pt (dw_or (dt_not (dt_val (de_isSq (pe_callB call_isiT (by rfl) T.m_isinstance (by decide +kernel) (pa_cons (de_var (pv 2) (by decide)) (pa_cons (pe_tup (pa_cons (pe_bltn (v := .ty "list") (by rfl) T.m_list (by decide +kernel) rfl) (pa_cons (pe_bltn (v := .ty "tuple") (by rfl) T.m_tuple (by decide +kernel) rfl) pa_nil))) pa_nil)))))) (dw_or (dt_cmp bin_ne (pt_cmpR (op_neG (G := (GG T)) hr.units) (de_arg (m := true) arg_len (pe_callB (call_lenG (G := (GG T))) (by rfl) T.m_len (by decide +kernel) (DA.pa (da_cons (de_var (pv 2) (by decide)) da_nil)))) de_int (nomark _))) (pw_or1 (dt_not (dt_val (de_coe (de_call (pe_call (ok_is_gap T) (hr.mono (by decide)) (by rfl) T.g_is_gap T.F_is_gap.kp T.b_is_gap .nil pass0 (DA.pa (da_cons (de_bin bin_ix (pe_ix (ix_G (G := (GG T))) (de_var (pv 2) (by decide)) de_int (fun _ _ => rfl))) da_nil))))))))))) (ds_one ds_never) ds_nil)
      (ds_cons (ds_if (PW.pt (dw_or (dt_cmp bin_in (pt_cmpR (op_notInG (G := (GG T))) (de_bin bin_ix (pe_ix (ix_G (G := (GG T))) (de_var (pv 2) (by decide)) de_int (fun _ _ => rfl))) (de_coe (de_propO insLoop (pe_prop (de_var (pv 0) (by decide)) T.cl_Loop T.pr_Loop_states (ok_Loop_states T) (hr.mono (by decide)) T.b_Loop_states .nil pass0 rfl))) (by rfl))) (pw_or1 (dt_cmp bin_in (pt_cmpR (op_notInG (G := (GG T))) (de_bin bin_ix (pe_ix (ix_G (G := (GG T))) (de_var (pv 2) (by decide)) de_int (fun _ _ => rfl))) (de_coe (de_propO insLoop (pe_prop (de_var (pv 1) (by decide)) T.cl_Loop T.pr_Loop_states (ok_Loop_states T) (hr.mono (by decide)) T.b_Loop_states .nil pass0 rfl))) (by rfl)))))) (ds_one ds_never) ds_nil)
      (ds_cons (ds_set rfl (ps_set (i := 3) sc_as_joint.nd rfl (by first | exact Or.inl rfl | exact Or.inr rfl) (de_if (dt_val (de_isStr (pe_callB call_isi (by rfl) T.m_isinstance (by decide +kernel) (pa_cons (de_bin bin_ix (pe_ix (ix_G (G := (GG T))) (de_var (pv 2) (by decide)) de_int (fun _ _ => rfl))) (pa_cons (pe_bltn (v := .ty "str") (by rfl) T.m_str (by decide +kernel) rfl) pa_nil))))) (de_bin bin_ix (pe_ix (ix_G (G := (GG T))) (de_var (pv 2) (by decide)) de_int (fun _ _ => rfl))) (de_arg (m := false) arg_tuple (pe_callTy (call_tupleG (G := (GG T))) (by rfl) T.m_tuple (by decide +kernel) (DA.pa (da_cons (de_bin bin_ix (pe_ix (ix_G (G := (GG T))) (de_var (pv 2) (by decide)) de_int (fun _ _ => rfl))) da_nil)))))))
      (ds_one (ds_ret (de_tup (da_cons (de_bin bin_ix (pe_ix (ix_G (G := (GG T))) (de_var (pv 2) (by decide)) de_int (fun _ _ => rfl))) (da_cons (de_bin bin_ix (pe_ix (ix_G (G := (GG T))) (de_var (pv 2) (by decide)) de_int (fun _ _ => rfl))) (da_cons (de_var (pv 3) (by decide)) da_nil))) (by decide))))))), fn_read h⟩
theorem ok_is_within (T : Tx w K mg) : FnOk P w K mg base CX0 1 T.a_is_within T.fd_is_within ["behind", "gap"] (spD (GG T) f_is_within) := by
  refine T.F_is_within.ok sc_is_within (fun vs H Q E h => fn_len h) (fun cdv A outer s H vs Q E hr h => ?_)
  have hu := hu_of hr
  refine ⟨tS (GG T) [] [] [] E b_is_within, (ds_cons (ds_if (PW.pt (dw_or (dt_val (de_isStr (pe_callB call_isi (by rfl) T.m_isinstance (by decide +kernel) (pa_cons (de_var (pv 0) (by decide)) (pa_cons (pe_bltn (v := .ty "str") (by rfl) T.m_str (by decide +kernel) rfl) pa_nil))))) (pw_or1 (dt_val (de_isStr (pe_callB call_isi (by rfl) T.m_isinstance (by decide +kernel) (pa_cons (de_var (pv 1) (by decide)) (pa_cons (pe_bltn (v := .ty "str") (by rfl) T.m_str (by decide +kernel) rfl) pa_nil)))))))) (ds_one (ds_ret (de_bin (m := true) bin_eq (pe_cmpR (op_eqG (G := (GG T)) hr.units) (de_var (pv 0) (by decide)) (de_var (pv 1) (by decide)) (nomark _))))) ds_nil)
      (ds_cons (ds_asg (ps_asg (de_var (pv 0) (by decide)) (dg_tup (by rfl) (dgs_cons (dg_name (pg_name (i := 2) sc_is_within.nd rfl (by first | exact Or.inl rfl | exact Or.inr rfl)) (by decide)) (dgs_cons (dg_name (pg_name (i := 3) sc_is_within.nd rfl (by first | exact Or.inl rfl | exact Or.inr rfl)) (by decide)) (dgs_cons (dg_name (pg_name (i := 4) sc_is_within.nd rfl (by first | exact Or.inl rfl | exact Or.inr rfl)) (by decide)) dgs_nil))))))
      (ds_one (ds_ret (de_and (pe_and (de_bin (m := true) bin_eq (pe_cmpR (op_eqG (G := (GG T)) hr.units) (de_var (pv 4) (by decide)) (de_bin bin_ix (pe_ix (ix_G (G := (GG T))) (de_var (pv 1) (by decide)) de_int (fun _ _ => rfl))) (nomark _))) (de_and (pe_and (de_or (pe_or (de_bin (m := true) bin_isN (pe_cmpR op_isN (de_var (pv 2) (by decide)) de_non (nomark _))) (pe_one (de_bin (m := true) bin_cmp (pe_cmpR op_leA (de_var (pv 2) (by decide)) (de_bin bin_ix (pe_ix (ix_G (G := (GG T))) (de_var (pv 1) (by decide)) de_int (fun _ _ => rfl))) (nomark _)))))) (pe_one (de_or (pe_or (de_bin (m := true) bin_isN (pe_cmpR op_isN (de_var (pv 3) (by decide)) de_non (nomark _))) (pe_one (de_bin (m := true) bin_cmp (pe_cmpR op_leA (de_bin bin_ix (pe_ix (ix_G (G := (GG T))) (de_var (pv 1) (by decide)) de_int (fun _ _ => rfl))) (de_var (pv 3) (by decide)) (nomark _))))))))))))))), fn_read h⟩
theorem ok_leads (T : Tx w K mg) : FnOk P w K mg base CX0 5 T.a_leads T.fd_leads ["one", "other", "state", "later"] (spV (GG T).vol f_leads) := by
  refine T.F_leads.ok sc_leads (fun vs H Q E h => fn_lenV h) (fun cdv A outer s H vs Q E hr h => ?_)
  have hu := hu_of hr
  refine ⟨tS (GG T).vol [] [] [] E b_leads, (ds_cons (ds_set rfl (ps_set (i := 2) sc_leads.nd rfl (by first | exact Or.inl rfl | exact Or.inr rfl) (de_callK (m := false) (pe_call (ok_as_joint T) (hr.mono (by decide)) (by rfl) T.g_as_joint T.F_as_joint.kp T.b_as_joint .nil pass0 (DA.pa (da_cons (de_var (pv 0) (by decide)) (da_cons (de_var (pv 1) (by decide)) (da_cons (de_var (pv 2) (by decide)) da_nil))))))))
      (ds_cons (ds_set rfl (ps_set (i := 3) sc_leads.nd rfl (by first | exact Or.inl rfl | exact Or.inr rfl) (de_callK (m := false) (pe_call (ok_as_joint T) (hr.mono (by decide)) (by rfl) T.g_as_joint T.F_as_joint.kp T.b_as_joint .nil pass0 (DA.pa (da_cons (de_var (pv 0) (by decide)) (da_cons (de_var (pv 1) (by decide)) (da_cons (de_var (pv 3) (by decide)) da_nil))))))))
      (ds_cons (ds_forHl (ps_for PassesOwn.never rfl (pi_seq2 (de_callV (m := false) (pe_call (ok_moves_of T) (hr.mono (by decide)) (by rfl) T.g_moves_of T.F_moves_of.kp T.b_moves_of .nil pass0 (DA.pa (da_cons (de_lift rfl rfl (de_makeF (by rfl) (pe_make T.mk_Loops (ok_Loops___init__ T) (hr.mono (by decide)) (by rfl) T.g_Loops T.b_Loops___init__ .nil pass0 (DA.pa (da_cons (de_var (pv 0) (by decide)) (da_cons (de_var (pv 1) (by decide)) (da_cons de_str da_nil))))))) (da_cons (de_makeC0 (by rfl) (pe_make0 T.mk_Menus (ok_Menus___init__ T) (hr.mono (by decide)) (by rfl) T.g_Menus T.b_Menus___init__ .nil pass0)) (da_cons (de_var (pv 2) (by decide)) da_nil))))))) (dg_tup (by rfl) (dgs_cons (dg_name (pg_name (i := 4) sc_leads.nd rfl (by first | exact Or.inl rfl | exact Or.inr rfl)) (by decide)) (dgs_cons (dg_name (pg_name (i := 5) sc_leads.nd rfl (by first | exact Or.inl rfl | exact Or.inr rfl)) (by decide)) (dgs_cons (dg_name (pg_name (i := 6) sc_leads.nd rfl (by first | exact Or.inl rfl | exact Or.inr rfl)) (by decide)) (dgs_cons (dg_name (pg_name (i := 7) sc_leads.nd rfl (by first | exact Or.inl rfl | exact Or.inr rfl)) (by decide)) dgs_nil)))))
        (ds_one (ds_if (PW.pt (dw_and (dt_cmp bin_eq (pt_cmpR (op_eqG (G := (GG T).vol) hr.units) (de_var (pv 4) (by decide)) (de_slice (pe_slice (sl_G (G := (GG T).vol)) (de_var (pv 3) (by decide)) (do_some de_int) (do_some de_int))) (nomark _))) (pw_and1 (dt_val (de_arg (m := true) arg_any (pe_callB (call_anyG (G := (GG T).vol) rfl) (by rfl) T.m_any (by decide +kernel) (DA.pa (da_cons (de_lcV (by decide) (pe_lc (own := [("outcome", 8)]) (by rfl) sc_leads.nd (di_seq (de_var (pv 7) (by decide))) (blkOk_by (own := [("outcome", 8)]) (N := N_leads) (sc := defScope s_leads) (by decide +kernel)) (fun _ _ _ _ _ => (dg_name (pg_name (i := 8) sc_leads.nd rfl (by first | exact Or.inl rfl | exact Or.inr rfl)) (by decide))) (fun _ _ _ _ _ => dts_nil) (fun _ _ _ _ _ => (de_callK (m := false) (pe_call (ok_is_within T) (hr.mono (by decide)) (by rfl) T.g_is_within T.F_is_within.kp T.b_is_within .nil pass0 (DA.pa (da_cons (de_bin bin_ix (pe_ix (ix_G (G := (GG T).vol)) (de_var (pv 8) (by decide)) de_int (fun _ _ => rfl))) (da_cons (de_bin bin_ix (pe_ix (ix_G (G := (GG T).vol)) (de_var (pv 3) (by decide)) de_int (fun _ _ => rfl))) da_nil)))))))) da_nil)))))))) (ds_one (ds_ret de_bl)) ds_nil))))
      (ds_one (ds_ret de_bl))))), fn_readV h⟩
/-- the source that a script makes -/
def sp__law_source (K : PySem.W.Frag) : Sp := fun vs H Q _ => ∃ (a : Addr) (ns : List Int), vs = [.ref a] ∧ SqL K H a (ns.map V.int) ∧
  ∀ (H' : Hp) (p : Addr), Same H H' → H p = none → Src H' p 0 → Q (.ref p) H'
theorem ok__law_source (T : Tx w K mg) : FnOk P w K mg base CX0 1 T.a__law_source T.fd__law_source ["_law_script"] (sp__law_source K) := by
  refine T.F__law_source.ok sc__law_source (fun vs H Q E h => ?_) (fun cdv A outer s H vs Q E hr h => ?_)
  · obtain ⟨a, ns, rfl, _⟩ := h; rfl
  · obtain ⟨a, ns, rfl, hS, q⟩ := h
    refine ⟨_, ((pss_cons (ps_asg (pe_tup (pa_cons pe_int (pa_cons pe_int pa_nil))) (pg_tup (by rfl) (pgs_cons (pg_name (i := 1) sc__law_source.nd rfl (by first | exact Or.inl rfl | exact Or.inr rfl)) (pgs_cons (pg_name (i := 2) sc__law_source.nd rfl (by first | exact Or.inl rfl | exact Or.inr rfl)) pgs_nil))))
      (pss_cons (ps_for PassesOwn.never rfl (pi_list (pv 0)) (pg_name (i := 3) sc__law_source.nd rfl (by first | exact Or.inl rfl | exact Or.inr rfl))
        (pss_cons (ps_if (PW.pt (pw_and (pt_cmpR (op_eq) (pv 1) pe_int (nomark _)) (pw_and1 (pt_cmpR (op_ge) (pv 3) (pe_op op_pow pe_int pe_int) (nomark _))))) (pss_one (ps_set (i := 1) sc__law_source.nd rfl (by first | exact Or.inl rfl | exact Or.inr rfl) (pv 3))) pss_nil)
      (pss_one (ps_set (i := 2) sc__law_source.nd rfl (by first | exact Or.inl rfl | exact Or.inr rfl) (pe_op op_mod (pe_callTy (call_int1) (by rfl) T.m_int (by decide +kernel) (pa_cons (pe_op op_add (pe_op op_add (pe_op op_mul (pv 2) pe_int) (pv 3)) pe_int) pa_nil)) pe_int)))))
      (pss_one (ps_ret (pe_lst (pa_cons (pv 1) (pa_cons (pv 2) (pa_cons pe_int pa_nil))))))))), ?_⟩
    refine ⟨(by walk_at "len"), fun t nt => ?_⟩
    refine ⟨_, _, rfl, SqT.of upd_same, rfl, _, _, rfl, _, _, rfl, rfl, ?_⟩
    have sm : Same H _ := same_new (o := .tup [.int 0, .int 17]) nt
    have hS := sm.seq hS
    generalize upd H t (.tup [.int 0, .int 17]) = H1 at *
    refine ⟨_, rfl, _, rfl, ⟨_, hS⟩, for_list (K := K) (a := a) (xs := ns.map V.int) (fun i σ H' => ∃ (g z : Int) (c : Option V), σ = [some (.ref a), some (.int g), some (.int z), c] ∧ H' = H1 ∧ 0 ≤ z ∧ z < 2147483647)
      ⟨0, 17, none, rfl, rfl, by decide, by decide⟩ ?_ ?_ ?_⟩
    · rintro i σ H' _ ⟨g, z, c, rfl, rfl, _⟩; exact hS
    · rintro i x σ H' hx ⟨g, z, c, rfl, rfl, z1, z2⟩
      obtain ⟨n, rfl⟩ : ∃ n, x = V.int n := by
        rw [List.getElem?_map] at hx
        cases e : ns[i]? with
        | none => rw [e] at hx; cases hx
        | some n => rw [e] at hx; exact ⟨n, (Option.some.inj hx).symm⟩
      refine ⟨_, rfl, rfl, _, rfl, ?_⟩
      refine ifD (fun c => ?_) (fun c => ?_)
      · refine ⟨_, rfl, _, _, rfl, rfl, (by walk_at "pow"), _, _, rfl, rfl, _, rfl, ?_⟩
        refine ifD (fun c => ?_) (fun c => ?_)
        · refine ⟨_, rfl, ?_⟩
          refine ⟨_, rfl, _, _, rfl, rfl, (by walk_at "mul"), _, rfl, _, _, rfl, rfl, _, _, rfl, rfl, .inl ⟨_, rfl, ?_⟩⟩
          refine ⟨_, _, rfl, rfl, (by walk_at "pos"), ?_⟩
          exact ⟨_, _, _, rfl, rfl, Int.emod_nonneg _ (by decide), Int.emod_lt_of_pos _ (by decide)⟩
        · refine ⟨_, rfl, _, _, rfl, rfl, (by walk_at "mul"), _, rfl, _, _, rfl, rfl, _, _, rfl, rfl, .inl ⟨_, rfl, ?_⟩⟩
          refine ⟨_, _, rfl, rfl, (by walk_at "pos"), ?_⟩
          exact ⟨_, _, _, rfl, rfl, Int.emod_nonneg _ (by decide), Int.emod_lt_of_pos _ (by decide)⟩
      · refine ifF rfl ?_
        refine ⟨_, rfl, _, _, rfl, rfl, (by walk_at "mul"), _, rfl, _, _, rfl, rfl, _, _, rfl, rfl, .inl ⟨_, rfl, ?_⟩⟩
        refine ⟨_, _, rfl, rfl, (by walk_at "pos"), ?_⟩
        exact ⟨_, _, _, rfl, rfl, Int.emod_nonneg _ (by decide), Int.emod_lt_of_pos _ (by decide)⟩
    · rintro σ H' ⟨g, z, c, rfl, rfl, z1, z2⟩
      refine ⟨_, rfl, _, rfl, (by walk_at "len"), fun p np => ?_⟩
      exact q _ p (sm.trans (same_new np)) (sm.free np) ⟨g, z, upd_same, z1, z2, by decide⟩
theorem ok__law_draw (T : Tx w K mg) : FnOk P w K mg base CX0 1 T.a__law_draw T.fd__law_draw ["_law_source_here", "_law_many"] (spD (GG T) f__law_draw) := by
  refine T.F__law_draw.ok sc__law_draw (fun vs H Q E h => ?_) (fun cdv A outer s H vs Q E hr h => ?_)
  · obtain ⟨p, B, ds, S, h1, h2, h3, h4⟩ := h
    rw [h3.len]
    unfold f__law_draw at h4
    split at h4
    all_goals first | rfl | exact h4.elim
  · obtain ⟨po, B, ds, S, hB, hsrc, hv, h4⟩ := h
    have hds : ∃ m, ds = [.src, .int m] ∧ 0 < m ∧ m < 1000000 ∧ S.c ≤ 990000 := by
      unfold f__law_draw at h4
      split at h4
      all_goals first | exact h4.elim | skip
      rename_i m
      by_cases hc : (decide (0 < m) && decide (m < 1000000) && decide (S.c ≤ 990000)) = true
      · simp only [Bool.and_eq_true, decide_eq_true_eq] at hc; exact ⟨m, rfl, hc.1.1, hc.1.2, hc.2⟩
      · rw [if_neg hc] at h4; exact h4.elim
    obtain ⟨m, rfl, m1, m2, c2⟩ := hds
    have hok : f__law_draw [.src, .int m] S = .ok (.int (drawV S m)) (drawS S m) := by
      show (if _ then _ else _) = _
      rw [if_pos (by simp [m1, m2, c2])]
    rw [hok] at h4
    cases hv with | cons k1 k2 =>
    cases k2 with | cons k2 k3 =>
    cases k3; cases k2
    cases k1 with | src hp0 =>
    rename_i p
    subst hp0
    obtain ⟨nB, hp, z1, z2, c1⟩ := hsrc p rfl
    obtain ⟨g, z, c, mm⟩ := S
    have hp : H p = some (.lst [.int g, .int z, .int c]) := hp
    have z1 : 0 ≤ z := z1
    have z2 : z < 2147483647 := z2
    have c1 : 0 ≤ c := c1
    have c2 : c ≤ 990000 := c2
    have fin : ∀ (g' r : Int), drawV ⟨g, z, c, mm⟩ m = r → drawS ⟨g, z, c, mm⟩ m = ⟨g', z, c + 1, mm⟩ → Q (.int r) (upd H p (.lst [.int g', .int z, .int (c + 1)])) := fun g' r e1 e2 => by
      rw [e1, e2] at h4
      refine h4 (.int r) B _ (Same.refl _) (fun q o hq => ?_) (fun q o hpq hq => ?_) (fun q o hq _ => .inl hq) (fun q hq => ?_) (.int _)
      · have e : q ≠ p := fun e => by rw [e, nB] at hq; cases hq
        rw [upd_ne e]; exact hB q o hq
      · have e : q ≠ p := fun e => hpq (e ▸ rfl)
        rw [upd_ne e]; exact hq
      · cases hq; exact ⟨nB, upd_same, z1, z2, by show 0 ≤ c + 1; omega⟩
    refine ⟨_, ((pss_cons (ps_asg (pe_op op_add (pe_ix ix_list (pv 0) pe_int (fun _ _ => rfl)) pe_int) (pg_sub (pv 0) pe_int set_list))
      (pss_cons (ps_if (pt_cmpR (op_gt) (pe_ix ix_list (pv 0) pe_int (fun _ _ => rfl)) pe_int (nomark _)) (pss_cons (ps_set (i := 2) sc__law_draw.nd rfl (by first | exact Or.inl rfl | exact Or.inr rfl) (pe_op op_mod (pe_callTy (call_int1) (by rfl) T.m_int (by decide +kernel) (pa_cons (pe_ix ix_list (pv 0) pe_int (fun _ _ => rfl)) pa_nil)) (pv 1)))
      (pss_cons (ps_asg (pe_op op_fdivW (pe_ix ix_list (pv 0) pe_int (fun _ _ => rfl)) (pv 1)) (pg_sub (pv 0) pe_int set_list))
      (pss_one (ps_ret (pv 2))))) pss_nil)
      (pss_cons (ps_set (i := 3) sc__law_draw.nd rfl (by first | exact Or.inl rfl | exact Or.inr rfl) (pe_op op_mod (pe_op op_pow (pe_op op_add (pe_ix ix_list (pv 0) pe_int (fun _ _ => rfl)) (pe_op op_mul pe_int (pe_ix ix_list (pv 0) pe_int (fun _ _ => rfl)))) pe_int) pe_int))
      (pss_one (ps_ret (pe_op op_mod (pe_op op_mod (pe_op op_pow (pe_op op_add (pe_op op_add (pe_op op_mul (pv 3) pe_int) (pe_op op_mul (pe_op op_mul pe_int (pe_ix ix_list (pv 0) pe_int (fun _ _ => rfl))) (pe_ix ix_list (pv 0) pe_int (fun _ _ => rfl)))) pe_int) pe_int) pe_int) (pv 1)))))))), ?_⟩
    refine ⟨_, rfl, _, _, _, _, rfl, rfl, (by walk_at "sq"), (by walk_at "at"), _, _, rfl, rfl, _, rfl, _, _, _, _, rfl, rfl, (by walk_at "hp"), (by walk_at "ixN"), ?_⟩
    refine ⟨_, rfl, _, _, _, _, rfl, rfl, (by walk_at "sq"), (by walk_at "at"), _, _, rfl, rfl, _, rfl, ?_⟩
    refine ifD (fun d => ?_) (fun d => ?_)
    · refine ⟨_, rfl, _, _, _, _, rfl, rfl, (by walk_at "sq"), (by walk_at "at"), .inl ⟨_, rfl, ?_⟩⟩
      refine ⟨_, rfl, _, _, rfl, rfl, (by walk_at "pos"), ?_⟩
      refine ⟨_, rfl, _, _, _, _, rfl, rfl, (by walk_at "sq"), (by walk_at "at"), _, rfl, _, _, rfl, rfl, (by walk_at "div"), _, rfl, _, _, _, _, rfl, rfl, (by walk_at "hp"), (by walk_at "ixN"), ?_⟩
      refine ⟨_, rfl, ?_⟩
      rw [L2.upd_upd]
      have d : 1 < g := d
      exact fin _ _ (by unfold drawV; rw [if_pos d]) (by unfold drawS; rw [if_pos d])
    · refine ⟨_, rfl, _, _, _, _, rfl, rfl, (by walk_at "sq"), (by walk_at "at"), _, rfl, _, _, _, _, rfl, rfl, (by walk_at "sq"), (by walk_at "at"), _, _, rfl, rfl, (by walk_at "mul"), _, _, rfl, rfl, _, _, rfl, rfl, ⟨by decide, by decide, by omega⟩, _, _, rfl, rfl, (by walk_at "pos"), ?_⟩
      have hy : ∀ x : Int, 0 ≤ x % 2147483629 ∧ x % 2147483629 < 2147483629 := fun x => ⟨Int.emod_nonneg _ (by decide), Int.emod_lt_of_pos _ (by decide)⟩
      have d : ¬ 1 < g := d
      have ev : drawV ⟨g, z, c, mm⟩ m = ((z + 7919 * (c + 1)) ^ (5 : Int).toNat % 2147483629 * 48271 + 16807 * (c + 1) * (c + 1) + 11) ^ (3 : Int).toNat % 1000000007 % m := by unfold drawV; rw [if_neg d]
      have es : drawS ⟨g, z, c, mm⟩ m = ⟨g, z, c + 1, mm⟩ := by unfold drawS; rw [if_neg d]
      have fin2 := fin _ _ ev es
      obtain ⟨y1, y2⟩ := hy ((z + 7919 * (c + 1)) ^ (5 : Int).toNat)
      have h1 : 16807 * (c + 1) * (c + 1) ≤ 16807 * 1000001 * 1000001 := Int.mul_le_mul (by omega) (by omega) (by omega) (by decide)
      have h0 : 0 ≤ 16807 * (c + 1) * (c + 1) := Int.mul_nonneg (by omega) (by omega)
      refine ⟨_, rfl, _, _, rfl, rfl, (by walk_at "mul"), _, rfl, _, _, _, _, rfl, rfl, (by walk_at "sq"), (by walk_at "at"), _, _, rfl, rfl, (by walk_at "mul"), _, rfl, _, _, _, _, rfl, rfl, (by walk_at "sq"), (by walk_at "at"), _, _, rfl, rfl, (by walk_at "mul"), _, _, rfl, rfl, _, _, rfl, rfl, _, _, rfl, rfl, ⟨by decide, by decide, by omega⟩, _, _, rfl, rfl, (by walk_at "pos"), _, rfl, _, _, rfl, rfl, (by walk_at "pos"), ?_⟩
      exact fin2
theorem ok__law_pick (T : Tx w K mg) : FnOk P w K mg base CX0 2 T.a__law_pick T.fd__law_pick ["_law_source_here", "_law_things"] (spD (GG T) f__law_pick) := by
  refine T.F__law_pick.ok sc__law_pick (fun vs H Q E h => fn_len h) (fun cdv A outer s H vs Q E hr h => ?_)
  have hu := hu_of hr
  refine ⟨tS (GG T) [] [] [] E b__law_pick, (ds_one (ds_ret (de_bin bin_ix (pe_ix (ix_G (G := (GG T))) (de_var (pv 1) (by decide)) (de_call (pe_call (ok__law_draw T) (hr.mono (by decide)) (by rfl) T.g__law_draw T.F__law_draw.kp T.b__law_draw .nil pass0 (DA.pa (da_cons (de_var (pv 0) (by decide)) (da_cons (de_arg (m := true) arg_len (pe_callB (call_lenG (G := (GG T))) (by rfl) T.m_len (by decide +kernel) (DA.pa (da_cons (de_var (pv 1) (by decide)) da_nil)))) da_nil))))) (fun _ _ => rfl))))), fn_read h⟩
theorem ok__law_name (T : Tx w K mg) : FnOk P w K mg base CX0 2 T.a__law_name T.fd__law_name ["_law_source_here", "_law_taken"] (spD (GG T) f__law_name) := by
  refine T.F__law_name.ok sc__law_name (fun vs H Q E h => fn_len h) (fun cdv A outer s H vs Q E hr h => ?_)
  have hu := hu_of hr
  refine ⟨tS (GG T) [] [] [] E b__law_name, (ds_cons (ds_set rfl (ps_set (i := 2) sc__law_name.nd rfl (by first | exact Or.inl rfl | exact Or.inr rfl) (de_bin bin_ix (pe_ix (ix_G (G := (GG T))) (de_lst (da_cons de_int (da_cons de_int (da_cons de_int (da_cons de_int (da_cons de_int (da_cons de_int (da_cons de_int (da_cons de_int (da_cons de_int (da_cons de_int (da_cons de_int (da_cons de_int (da_cons de_int da_nil))))))))))))) (by decide)) (de_call (pe_call (ok__law_draw T) (hr.mono (by decide)) (by rfl) T.g__law_draw T.F__law_draw.kp T.b__law_draw .nil pass0 (DA.pa (da_cons (de_var (pv 0) (by decide)) (da_cons de_int da_nil))))) (fun _ _ => rfl)))))
      (ds_cons (ds_set rfl (ps_set (i := 3) sc__law_name.nd rfl (by first | exact Or.inl rfl | exact Or.inr rfl) (de_join (pe_join pe_str (de_ofN (de_lcN (by decide) (by decide) (pe_lc (own := [("_law_k", 4)]) (by rfl) sc__law_name.nd (di_rng1 (pi_range1 rfl T.m_range (DA.pa (da_cons (de_var (pv 2) (by decide)) da_nil)))) (blkOk_by (own := [("_law_k", 4)]) (N := N__law_name) (sc := defScope s__law_name) (by decide +kernel)) (fun _ _ _ _ _ => (dg_name (pg_name (i := 4) sc__law_name.nd rfl (by first | exact Or.inl rfl | exact Or.inr rfl)) (by decide))) (fun _ _ _ _ _ => dts_nil) (fun _ _ _ _ _ => (de_bin bin_ix (pe_ix (ix_G (G := (GG T))) de_str (de_call (pe_call (ok__law_draw T) (hr.mono (by decide)) (by rfl) T.g__law_draw T.F__law_draw.kp T.b__law_draw .nil pass0 (DA.pa (da_cons (de_var (pv 0) (by decide)) (da_cons de_int da_nil))))) (fun _ _ => rfl)))))))))))
      (ds_cons (ds_if (dt_chain bin_cmp bin_cmp (pt_chain op_ltA op_ltA de_int (de_var (pv 2) (by decide)) de_int)) (ds_one (ds_set rfl (ps_set (i := 3) sc__law_name.nd rfl (by first | exact Or.inl rfl | exact Or.inr rfl) (de_bin bin_ix (pe_ix (ix_G (G := (GG T))) (de_lst (da_cons de_str (da_cons de_str (da_cons de_str (da_cons de_str (da_cons de_str (da_cons (de_bin bin_add (pe_op (op_addA (G := (GG T))) de_str (de_slice (pe_slice (sl_G (G := (GG T))) (de_var (pv 3) (by decide)) (do_some de_int) do_none)))) da_nil)))))) (by decide)) (de_call (pe_call (ok__law_draw T) (hr.mono (by decide)) (by rfl) T.g__law_draw T.F__law_draw.kp T.b__law_draw .nil pass0 (DA.pa (da_cons (de_var (pv 0) (by decide)) (da_cons de_int da_nil))))) (fun _ _ => rfl)))))) ds_nil)
      (ds_cons (ds_if (dt_cmp bin_in (pt_cmpR (op_notInG (G := (GG T))) (de_var (pv 3) (by decide)) (de_var (pv 1) (by decide)) (by rfl))) (ds_one (ds_ret (de_var (pv 3) (by decide)))) ds_nil)
      (ds_one (ds_ret (de_bin bin_ix (pe_ix (ix_G (G := (GG T))) (de_ofN (de_lcN (by decide) (by decide) (pe_lc (own := [("_law_one", 5)]) (by rfl) sc__law_name.nd (di_seq (de_ofN (de_lcN (by decide) (by decide) (pe_lc (own := [("_law_letter", 6)]) (by rfl) sc__law_name.nd (di_str de_str) (blkOk_by (own := [("_law_letter", 6)]) (N := N__law_name) (sc := defScope s__law_name) (by decide +kernel)) (fun _ _ _ _ _ => (dg_name (pg_name (i := 6) sc__law_name.nd rfl (by first | exact Or.inl rfl | exact Or.inr rfl)) (by decide))) (fun _ _ _ _ _ => dts_nil) (fun _ _ _ _ _ => (de_bin bin_add (pe_op (op_addA (G := (GG T))) de_str (de_var (pv 6) (by decide))))))))) (blkOk_by (own := [("_law_one", 5)]) (N := N__law_name) (sc := defScope s__law_name) (by decide +kernel)) (fun _ _ _ _ _ => (dg_name (pg_name (i := 5) sc__law_name.nd rfl (by first | exact Or.inl rfl | exact Or.inr rfl)) (by decide))) (fun _ _ _ _ _ => (pts_one (dt_cmp bin_in (pt_cmpR (op_notInG (G := (GG T))) (de_var (pv 5) (by decide)) (de_var (pv 1) (by decide)) (by rfl))))) (fun _ _ _ _ _ => (de_var (pv 5) (by decide)))))) de_int (fun _ _ => rfl))))))))), fn_read h⟩
theorem ok__law_names (T : Tx w K mg) : FnOk P w K mg base CX0 3 T.a__law_names T.fd__law_names ["_law_source_here", "_law_many"] (spD (GG T) f__law_names) := by
  refine T.F__law_names.ok sc__law_names (fun vs H Q E h => fn_len h) (fun cdv A outer s H vs Q E hr h => ?_)
  have hu := hu_of hr
  refine ⟨tS (GG T) [] [] [] E b__law_names, (ds_cons (ds_setN (by decide) rfl (ps_set (i := 2) sc__law_names.nd rfl (by first | exact Or.inl rfl | exact Or.inr rfl) (de_lstN da_nil (by decide))))
      (ds_cons (ds_for (ps_for PassesOwn.never rfl (di_rng1 (pi_range1 rfl T.m_range (DA.pa (da_cons (de_var (pv 1) (by decide)) da_nil)))) (dg_name (pg_name (i := 3) sc__law_names.nd rfl (by first | exact Or.inl rfl | exact Or.inr rfl)) (by decide))
        (ds_one (ds_app (by decide) (ps_expr (pe_bm PySem.F.plainAttrs_list PySem.F.slot_list_append PySem.F.type_list_append mt_append (pv 2) (DA.pa (da_cons (de_sc (de_callN (pe_call (ok__law_name T) (hr.mono (by decide)) (by rfl) T.g__law_name T.F__law_name.kp T.b__law_name .nil pass0 (DA.pa (da_cons (de_var (pv 0) (by decide)) (da_cons (de_var (pv 2) (by decide)) da_nil)))))) da_nil))))))))
      (ds_frz 2 rfl (ds_one (ds_ret (de_var (pv 2) (by decide))))))), fn_read h⟩
theorem ok__law_places (T : Tx w K mg) : FnOk P w K mg base CX0 1 T.a__law_places T.fd__law_places [] (spD (GG T) f__law_places) := by
  refine T.F__law_places.ok sc__law_places (fun vs H Q E h => fn_len h) (fun cdv A outer s H vs Q E hr h => ?_)
  have hu := hu_of hr
  refine ⟨tS (GG T) [] [] [] E b__law_places, (ds_one (ds_ret (de_lst (da_cons de_str (da_cons de_str (da_cons de_str (da_cons de_str (da_cons de_str (da_cons de_str (da_cons de_str (da_cons de_str (da_cons de_str (da_cons de_str (da_cons de_str da_nil))))))))))) (by decide)))), fn_read h⟩
theorem ok__law_group_names (T : Tx w K mg) : FnOk P w K mg base CX0 1 T.a__law_group_names T.fd__law_group_names [] (spD (GG T) f__law_group_names) := by
  refine T.F__law_group_names.ok sc__law_group_names (fun vs H Q E h => fn_len h) (fun cdv A outer s H vs Q E hr h => ?_)
  have hu := hu_of hr
  refine ⟨tS (GG T) [] [] [] E b__law_group_names, (ds_one (ds_ret (de_lst (da_cons de_str (da_cons de_str (da_cons de_str (da_cons de_str (da_cons de_str (da_cons de_str (da_cons de_str (da_cons de_str (da_cons de_str da_nil))))))))) (by decide)))), fn_read h⟩
theorem ok__law_states (T : Tx w K mg) : FnOk P w K mg base CX0 1 T.a__law_states T.fd__law_states ["_law_rules_here"] (spD (GG T) f__law_states) := by
  refine T.F__law_states.ok sc__law_states (fun vs H Q E h => fn_len h) (fun cdv A outer s H vs Q E hr h => ?_)
  have hu := hu_of hr
  refine ⟨tS (GG T) [] [] [] E b__law_states, (ds_cons (ds_setN (by decide) rfl (ps_set (i := 1) sc__law_states.nd rfl (by first | exact Or.inl rfl | exact Or.inr rfl) (de_lstN da_nil (by decide))))
      (ds_cons (ds_for (ps_for PassesOwn.never rfl (di_seq (de_var (pv 0) (by decide))) (dg_name (pg_name (i := 2) sc__law_states.nd rfl (by first | exact Or.inl rfl | exact Or.inr rfl)) (by decide))
        (ds_one (ds_for (ps_for PassesOwn.never rfl (di_seq (de_tup (da_cons (de_bin bin_ix (pe_ix (ix_G (G := (GG T))) (de_var (pv 2) (by decide)) de_int (fun _ _ => rfl))) (da_cons (de_bin bin_ix (pe_ix (ix_G (G := (GG T))) (de_var (pv 2) (by decide)) de_int (fun _ _ => rfl))) da_nil)) (by decide))) (dg_name (pg_name (i := 3) sc__law_states.nd rfl (by first | exact Or.inl rfl | exact Or.inr rfl)) (by decide))
        (ds_one (ds_if (dt_cmp bin_in (pt_cmpR (op_notInG (G := (GG T))) (de_var (pv 3) (by decide)) (de_var (pv 1) (by decide)) (by rfl))) (ds_one (ds_app (by decide) (ps_expr (pe_bm PySem.F.plainAttrs_list PySem.F.slot_list_append PySem.F.type_list_append mt_append (pv 1) (DA.pa (da_cons (de_var (pv 3) (by decide)) da_nil)))))) ds_nil)))))))
      (ds_frz 1 rfl (ds_one (ds_ret (de_var (pv 1) (by decide))))))), fn_read h⟩
theorem ok__law_groups (T : Tx w K mg) : FnOk P w K mg base CX0 3 T.a__law_groups T.fd__law_groups ["_law_source_here", "_law_first"] (spD (GG T) f__law_groups) := by
  refine T.F__law_groups.ok sc__law_groups (fun vs H Q E h => fn_len h) (fun cdv A outer s H vs Q E hr h => ?_)
  have hu := hu_of hr
  refine ⟨tS (GG T) [] [] [] E b__law_groups, (ds_cons (ds_set rfl (ps_set (i := 2) sc__law_groups.nd rfl (by first | exact Or.inl rfl | exact Or.inr rfl) (de_bin bin_add (pe_op (op_addA (G := (GG T))) (de_slice (pe_slice (sl_G (G := (GG T))) (de_call0 (pe_call0 (ok__law_group_names T) (hr.mono (by decide)) (by rfl) T.g__law_group_names T.F__law_group_names.kp T.b__law_group_names .nil pass0)) do_none (do_some de_int))) (de_call0 (pe_call0 (ok__law_places T) (hr.mono (by decide)) (by rfl) T.g__law_places T.F__law_places.kp T.b__law_places .nil pass0))))))
      (ds_cons (ds_lcN (by decide) rfl (by decide) (by decide) (ps_setLc (i := 3) (own := [("_law_k", 4)]) (by rfl) sc__law_groups.nd rfl rfl (sw_true rfl rfl rfl (by decide +kernel)) (di_rng1 (pi_range1 rfl T.m_range (DA.pa (da_cons (de_bin bin_add (pe_op (op_addA (G := (GG T))) de_int (de_coe (de_call (pe_call (ok__law_draw T) (hr.mono (by decide)) (by rfl) T.g__law_draw T.F__law_draw.kp T.b__law_draw .nil pass0 (DA.pa (da_cons (de_var (pv 0) (by decide)) (da_cons de_int da_nil)))))))) da_nil)))) (blkOk_by (own := [("_law_k", 4)]) (N := N__law_groups) (sc := defScope s__law_groups) (by decide +kernel)) (fun _ _ _ _ _ => (dg_name (pg_name (i := 4) sc__law_groups.nd rfl (by first | exact Or.inl rfl | exact Or.inr rfl)) (by decide))) (fun _ _ _ _ _ => dts_nil) (fun _ _ _ _ _ => (de_call (pe_call (ok__law_pick T) (hr.mono (by decide)) (by rfl) T.g__law_pick T.F__law_pick.kp T.b__law_pick .nil pass0 (DA.pa (da_cons (de_var (pv 0) (by decide)) (da_cons (de_var (pv 2) (by decide)) da_nil))))))))
      (ds_cons (ds_if (PW.pt (dw_or (dt_val (de_var (pv 1) (by decide))) (pw_or1 (dt_cmp bin_eq (pt_cmpR (op_eqG (G := (GG T)) hr.units) (de_coe (de_call (pe_call (ok__law_draw T) (hr.mono (by decide)) (by rfl) T.g__law_draw T.F__law_draw.kp T.b__law_draw .nil pass0 (DA.pa (da_cons (de_var (pv 0) (by decide)) (da_cons de_int da_nil)))))) de_int (nomark _)))))) (ds_one (ds_ins (by decide) (ps_expr (pe_bm PySem.F.plainAttrs_list PySem.F.slot_list_insert PySem.F.type_list_insert mt_insert (pv 3) (DA.pa (da_cons (de_call (pe_call (ok__law_draw T) (hr.mono (by decide)) (by rfl) T.g__law_draw T.F__law_draw.kp T.b__law_draw .nil pass0 (DA.pa (da_cons (de_var (pv 0) (by decide)) (da_cons (de_bin bin_add (pe_op (op_addA (G := (GG T))) (de_arg (m := true) arg_len (pe_callB (call_lenG (G := (GG T))) (by rfl) T.m_len (by decide +kernel) (DA.pa (da_cons (de_var (pv 3) (by decide)) da_nil)))) de_int)) da_nil))))) (da_cons de_str da_nil))))))) ds_nil)
      (ds_frz 3 rfl (ds_one (ds_ret (de_var (pv 3) (by decide)))))))), fn_read h⟩
theorem ok__law_rules (T : Tx w K mg) : FnOk P w K mg base CX0 4 T.a__law_rules T.fd__law_rules ["_law_source_here", "_law_many", "_law_most"] (spD (GG T) f__law_rules) := by
  refine T.F__law_rules.ok sc__law_rules (fun vs H Q E h => fn_len h) (fun cdv A outer s H vs Q E hr h => ?_)
  have hu := hu_of hr
  refine ⟨tS (GG T) [] [] [] E b__law_rules, (ds_cons (ds_set rfl (ps_set (i := 3) sc__law_rules.nd rfl (by first | exact Or.inl rfl | exact Or.inr rfl) (de_call (pe_call (ok__law_names T) (hr.mono (by decide)) (by rfl) T.g__law_names T.F__law_names.kp T.b__law_names .nil pass0 (DA.pa (da_cons (de_var (pv 0) (by decide)) (da_cons (de_bin bin_add (pe_op (op_addA (G := (GG T))) de_int (de_call (pe_call (ok__law_draw T) (hr.mono (by decide)) (by rfl) T.g__law_draw T.F__law_draw.kp T.b__law_draw .nil pass0 (DA.pa (da_cons (de_var (pv 0) (by decide)) (da_cons (de_var (pv 1) (by decide)) da_nil))))))) da_nil)))))))
      (ds_cons (ds_set rfl (ps_set (i := 4) sc__law_rules.nd rfl (by first | exact Or.inl rfl | exact Or.inr rfl) (de_lst (da_cons de_str (da_cons de_str (da_cons de_str da_nil))) (by decide))))
      (ds_cons (ds_setN (by decide) rfl (ps_set (i := 5) sc__law_rules.nd rfl (by first | exact Or.inl rfl | exact Or.inr rfl) (de_lstN (da_cons (de_tup (da_cons (de_bin bin_ix (pe_ix (ix_G (G := (GG T))) (de_var (pv 3) (by decide)) de_int (fun _ _ => rfl))) (da_cons (de_call (pe_call (ok__law_groups T) (hr.mono (by decide)) (by rfl) T.g__law_groups T.F__law_groups.kp T.b__law_groups .nil pass0 (DA.pa (da_cons (de_var (pv 0) (by decide)) (da_cons de_bl da_nil))))) (da_cons (de_call (pe_call (ok__law_pick T) (hr.mono (by decide)) (by rfl) T.g__law_pick T.F__law_pick.kp T.b__law_pick .nil pass0 (DA.pa (da_cons (de_var (pv 0) (by decide)) (da_cons (de_var (pv 4) (by decide)) da_nil))))) da_nil))) (by decide)) da_nil) (by decide))))
      (ds_frz 5 rfl (ds_cons (ds_setN (by decide) rfl (ps_set (i := 5) sc__law_rules.nd rfl (by first | exact Or.inl rfl | exact Or.inr rfl) (de_lstN (da_cons (de_bin bin_add (pe_op (op_addA (G := (GG T))) (de_bin bin_ix (pe_ix (ix_G (G := (GG T))) (de_var (pv 5) (by decide)) de_int (fun _ _ => rfl))) (de_tup (da_cons (de_bin (m := true) bin_cmp (pe_cmpR op_gtA (de_coe (de_call (pe_call (ok__law_draw T) (hr.mono (by decide)) (by rfl) T.g__law_draw T.F__law_draw.kp T.b__law_draw .nil pass0 (DA.pa (da_cons (de_var (pv 0) (by decide)) (da_cons de_int da_nil)))))) de_int (nomark _))) (da_cons (de_call (pe_call (ok__law_pick T) (hr.mono (by decide)) (by rfl) T.g__law_pick T.F__law_pick.kp T.b__law_pick .nil pass0 (DA.pa (da_cons (de_var (pv 0) (by decide)) (da_cons (de_var (pv 3) (by decide)) da_nil))))) da_nil)) (by decide)))) da_nil) (by decide))))
      (ds_cons (ds_for (ps_for PassesOwn.never rfl (di_rng1 (pi_range1 rfl T.m_range (DA.pa (da_cons (de_coe (de_call (pe_call (ok__law_draw T) (hr.mono (by decide)) (by rfl) T.g__law_draw T.F__law_draw.kp T.b__law_draw .nil pass0 (DA.pa (da_cons (de_var (pv 0) (by decide)) (da_cons (de_var (pv 2) (by decide)) da_nil)))))) da_nil)))) (dg_name (pg_name (i := 6) sc__law_rules.nd rfl (by first | exact Or.inl rfl | exact Or.inr rfl)) (by decide))
        (ds_cons (ds_par (by decide) (by decide) (ps_par (i := 7) (j := 8) (by rfl) sc__law_rules.nd rfl rfl (by decide) rfl rfl (DA.pa (da_cons (de_call (pe_call (ok__law_pick T) (hr.mono (by decide)) (by rfl) T.g__law_pick T.F__law_pick.kp T.b__law_pick .nil pass0 (DA.pa (da_cons (de_var (pv 0) (by decide)) (da_cons (de_var (pv 3) (by decide)) da_nil))))) (da_cons (de_call (pe_call (ok__law_groups T) (hr.mono (by decide)) (by rfl) T.g__law_groups T.F__law_groups.kp T.b__law_groups .nil pass0 (DA.pa (da_cons (de_var (pv 0) (by decide)) (da_cons de_bl da_nil))))) da_nil))) (by rfl)))
      (ds_one (ds_app (by decide) (ps_expr (pe_bm PySem.F.plainAttrs_list PySem.F.slot_list_append PySem.F.type_list_append mt_append (pv 5) (DA.pa (da_cons (de_tup (da_cons (de_var (pv 7) (by decide)) (da_cons (de_var (pv 8) (by decide)) (da_cons (de_call (pe_call (ok__law_pick T) (hr.mono (by decide)) (by rfl) T.g__law_pick T.F__law_pick.kp T.b__law_pick .nil pass0 (DA.pa (da_cons (de_var (pv 0) (by decide)) (da_cons (de_var (pv 4) (by decide)) da_nil))))) (da_cons (de_bin (m := true) bin_eq (pe_cmpR (op_eqG (G := (GG T)) hr.units) (de_coe (de_call (pe_call (ok__law_draw T) (hr.mono (by decide)) (by rfl) T.g__law_draw T.F__law_draw.kp T.b__law_draw .nil pass0 (DA.pa (da_cons (de_var (pv 0) (by decide)) (da_cons de_int da_nil)))))) de_int (nomark _))) (da_cons (de_call (pe_call (ok__law_pick T) (hr.mono (by decide)) (by rfl) T.g__law_pick T.F__law_pick.kp T.b__law_pick .nil pass0 (DA.pa (da_cons (de_var (pv 0) (by decide)) (da_cons (de_var (pv 3) (by decide)) da_nil))))) da_nil))))) (by decide)) da_nil)))))))))
      (ds_frz 5 rfl (ds_one (ds_ret (de_var (pv 5) (by decide))))))))))), fn_read h⟩
theorem ok__law_alike (T : Tx w K mg) : FnOk P w K mg base CX0 1 T.a__law_alike T.fd__law_alike ["_law_found"] (spD (GG T) f__law_alike) := by
  refine T.F__law_alike.ok sc__law_alike (fun vs H Q E h => fn_len h) (fun cdv A outer s H vs Q E hr h => ?_)
  have hu := hu_of hr
  refine ⟨tS (GG T) [] [] [] E b__law_alike, (ds_one (ds_ret (de_arg (m := true) arg_all (pe_callB (call_allG (G := (GG T)) rfl) (by rfl) T.m_all (by decide +kernel) (DA.pa (da_cons (de_ofN (de_lcN (by decide) (by decide) (pe_lc (own := [("_law_one", 1)]) (by rfl) sc__law_alike.nd (di_seq (de_var (pv 0) (by decide))) (blkOk_by (own := [("_law_one", 1)]) (N := N__law_alike) (sc := defScope s__law_alike) (by decide +kernel)) (fun _ _ _ _ _ => (dg_name (pg_name (i := 1) sc__law_alike.nd rfl (by first | exact Or.inl rfl | exact Or.inr rfl)) (by decide))) (fun _ _ _ _ _ => dts_nil) (fun _ _ _ _ _ => (de_bin (m := true) bin_eq (pe_cmpR (op_eqG (G := (GG T)) hr.units) (de_var (pv 1) (by decide)) (de_bin bin_ix (pe_ix (ix_G (G := (GG T))) (de_var (pv 0) (by decide)) de_int (fun _ _ => rfl))) (nomark _))))))) da_nil)))))), fn_read h⟩
def sp_law (K : PySem.W.Frag) : Sp := fun vs H Q _ => ∃ (a : Addr) (ns : List Int), vs = [.ref a] ∧ SqL K H a (ns.map V.int) ∧ ns.length ≤ 63 ∧ ∀ H', Q (.bl true) H'
theorem ok_law (T : Tx w K mg) : FnOk P w K mg base CX0 6 T.a_law T.fd_law ["_law_script"] (sp_law K) := by
  refine T.F_law.ok sc_law (fun vs H Q E h => ?_) (fun cdv A outer s H vs Q E hr h => ?_)
  · obtain ⟨p, c, rfl, _⟩ := h; rfl
  · obtain ⟨a, ns, rfl, hS, hlen, q⟩ := h
    have hu := hu_of hr
    obtain ⟨_, v0_Loop___init__, b0_Loop___init__⟩ := T.b0_Loop___init__
    refine ⟨_, pss_cons (ps_set (i := 1) sc_law.nd rfl (by first | exact Or.inl rfl | exact Or.inr rfl) (pe_call (ok__law_source T) (hr.mono (by decide)) rfl T.g__law_source T.F__law_source.kp T.b__law_source .nil pass0 (pa_cons (pv 0) pa_nil)))
      (show PSs _ _ (tS (GG T) [] [] [] E b_law) from (ds_cons (ds_par (by decide) (by decide) (ps_par (i := 2) (j := 3) (by rfl) sc_law.nd rfl rfl (by decide) rfl rfl (DA.pa (da_cons (de_call (pe_call (ok__law_rules T) (hr.mono (by decide)) (by rfl) T.g__law_rules T.F__law_rules.kp T.b__law_rules .nil pass0 (DA.pa (da_cons (de_var (pv 1) (by decide)) (da_cons de_int (da_cons de_int da_nil)))))) (da_cons (de_call (pe_call (ok__law_rules T) (hr.mono (by decide)) (by rfl) T.g__law_rules T.F__law_rules.kp T.b__law_rules .nil pass0 (DA.pa (da_cons (de_var (pv 1) (by decide)) (da_cons de_int (da_cons de_int da_nil)))))) da_nil))) (by rfl)))
      (ds_cons (ds_asg (ps_asg (de_tup (da_cons (de_Loop1 (pe_make T.mk_Loop (ok_Loop___init__ T) (hr.mono (by decide)) (by rfl) T.g_Loop b0_Loop___init__ v0_Loop___init__ pass0 (DA.pa (da_cons (de_var (pv 2) (by decide)) da_nil)))) (da_cons (de_Loop1 (pe_make T.mk_Loop (ok_Loop___init__ T) (hr.mono (by decide)) (by rfl) T.g_Loop b0_Loop___init__ v0_Loop___init__ pass0 (DA.pa (da_cons (de_var (pv 3) (by decide)) da_nil)))) da_nil)) (by decide)) (dg_tup (by rfl) (dgs_cons (dg_name (pg_name (i := 4) sc_law.nd rfl (by first | exact Or.inl rfl | exact Or.inr rfl)) (by decide)) (dgs_cons (dg_name (pg_name (i := 5) sc_law.nd rfl (by first | exact Or.inl rfl | exact Or.inr rfl)) (by decide)) dgs_nil)))))
      (ds_cons (ds_par (by decide) (by decide) (ps_par (i := 6) (j := 7) (by rfl) sc_law.nd rfl rfl (by decide) rfl rfl (DA.pa (da_cons (de_call (pe_call (ok__law_states T) (hr.mono (by decide)) (by rfl) T.g__law_states T.F__law_states.kp T.b__law_states .nil pass0 (DA.pa (da_cons (de_var (pv 2) (by decide)) da_nil)))) (da_cons (de_call (pe_call (ok__law_states T) (hr.mono (by decide)) (by rfl) T.g__law_states T.F__law_states.kp T.b__law_states .nil pass0 (DA.pa (da_cons (de_var (pv 3) (by decide)) da_nil)))) da_nil))) (by rfl)))
      (ds_cons (ds_set rfl (ps_set (i := 8) sc_law.nd rfl (by first | exact Or.inl rfl | exact Or.inr rfl) (de_lst (da_cons de_int (da_cons de_int (da_cons de_int (da_cons de_int (da_cons (de_bin (m := true) bin_pow (pe_op op_pow de_int de_int)) da_nil))))) (by decide))))
      (ds_cons (ds_for (ps_for PassesOwn.never rfl (di_rng1 (pi_range1 rfl T.m_range (DA.pa (da_cons de_int da_nil)))) (dg_name (pg_name (i := 9) sc_law.nd rfl (by first | exact Or.inl rfl | exact Or.inr rfl)) (by decide))
        (ds_cons (ds_asg (ps_asg (de_tup (da_cons (de_call (pe_call (ok__law_pick T) (hr.mono (by decide)) (by rfl) T.g__law_pick T.F__law_pick.kp T.b__law_pick .nil pass0 (DA.pa (da_cons (de_var (pv 1) (by decide)) (da_cons (de_var (pv 6) (by decide)) da_nil))))) (da_cons (de_call (pe_call (ok__law_pick T) (hr.mono (by decide)) (by rfl) T.g__law_pick T.F__law_pick.kp T.b__law_pick .nil pass0 (DA.pa (da_cons (de_var (pv 1) (by decide)) (da_cons (de_var (pv 7) (by decide)) da_nil))))) da_nil)) (by decide)) (dg_tup (by rfl) (dgs_cons (dg_name (pg_name (i := 10) sc_law.nd rfl (by first | exact Or.inl rfl | exact Or.inr rfl)) (by decide)) (dgs_cons (dg_name (pg_name (i := 11) sc_law.nd rfl (by first | exact Or.inl rfl | exact Or.inr rfl)) (by decide)) dgs_nil)))))
      (ds_cons (ds_asg (ps_asg (de_tup (da_cons (de_call (pe_call (ok__law_pick T) (hr.mono (by decide)) (by rfl) T.g__law_pick T.F__law_pick.kp T.b__law_pick .nil pass0 (DA.pa (da_cons (de_var (pv 1) (by decide)) (da_cons (de_var (pv 6) (by decide)) da_nil))))) (da_cons (de_call (pe_call (ok__law_pick T) (hr.mono (by decide)) (by rfl) T.g__law_pick T.F__law_pick.kp T.b__law_pick .nil pass0 (DA.pa (da_cons (de_var (pv 1) (by decide)) (da_cons (de_var (pv 7) (by decide)) da_nil))))) da_nil)) (by decide)) (dg_tup (by rfl) (dgs_cons (dg_name (pg_name (i := 12) sc_law.nd rfl (by first | exact Or.inl rfl | exact Or.inr rfl)) (by decide)) (dgs_cons (dg_name (pg_name (i := 13) sc_law.nd rfl (by first | exact Or.inl rfl | exact Or.inr rfl)) (by decide)) dgs_nil)))))
      (ds_cons (ds_asg (ps_asg (de_tup (da_cons (de_call (pe_call (ok__law_pick T) (hr.mono (by decide)) (by rfl) T.g__law_pick T.F__law_pick.kp T.b__law_pick .nil pass0 (DA.pa (da_cons (de_var (pv 1) (by decide)) (da_cons (de_lst (da_cons de_str (da_cons de_str (da_cons de_str da_nil))) (by decide)) da_nil))))) (da_cons (de_call (pe_call (ok__law_pick T) (hr.mono (by decide)) (by rfl) T.g__law_pick T.F__law_pick.kp T.b__law_pick .nil pass0 (DA.pa (da_cons (de_var (pv 1) (by decide)) (da_cons (de_lst (da_cons de_str (da_cons de_str (da_cons de_str da_nil))) (by decide)) da_nil))))) da_nil)) (by decide)) (dg_tup (by rfl) (dgs_cons (dg_name (pg_name (i := 14) sc_law.nd rfl (by first | exact Or.inl rfl | exact Or.inr rfl)) (by decide)) (dgs_cons (dg_name (pg_name (i := 15) sc_law.nd rfl (by first | exact Or.inl rfl | exact Or.inr rfl)) (by decide)) dgs_nil)))))
      (ds_cons (ds_set rfl (ps_set (i := 16) sc_law.nd rfl (by first | exact Or.inl rfl | exact Or.inr rfl) (de_bin bin_ix (pe_ix (ix_G (G := (GG T))) (de_lst (da_cons de_int (da_cons (de_bin (m := true) bin_sub (pe_op op_sub de_int de_int)) da_nil)) (by decide)) (de_call (pe_call (ok__law_draw T) (hr.mono (by decide)) (by rfl) T.g__law_draw T.F__law_draw.kp T.b__law_draw .nil pass0 (DA.pa (da_cons (de_var (pv 1) (by decide)) (da_cons de_int da_nil))))) (fun _ _ => rfl)))))
      (ds_cons (ds_set rfl (ps_set (i := 17) sc_law.nd rfl (by first | exact Or.inl rfl | exact Or.inr rfl) (de_ofN (de_lcN (by decide) (by decide) (pe_lc (own := [("_law_size", 18)]) (by rfl) sc_law.nd (di_seq (de_var (pv 8) (by decide))) (blkOk_by (own := [("_law_size", 18)]) (N := N_law) (sc := defScope s_law) (by decide +kernel)) (fun _ _ _ _ _ => (dg_name (pg_name (i := 18) sc_law.nd rfl (by first | exact Or.inl rfl | exact Or.inr rfl)) (by decide))) (fun _ _ _ _ _ => dts_nil) (fun _ _ _ _ _ => (de_tup (da_cons (de_var (pv 10) (by decide)) (da_cons (de_var (pv 11) (by decide)) (da_cons (de_tup (da_cons (de_bin (m := true) bin_mul (pe_op op_mulW (de_var (pv 16) (by decide)) (de_var (pv 18) (by decide)))) (da_cons (de_var (pv 14) (by decide)) da_nil)) (by decide)) da_nil))) (by decide))))))))
      (ds_cons (ds_for (ps_for PassesOwn.never rfl (di_seq (de_tup (da_cons (de_bin (m := true) bin_sub (pe_op op_sub de_int de_int)) (da_cons (de_bin (m := true) bin_sub (pe_op op_sub de_int de_int)) (da_cons de_int (da_cons de_int (da_cons de_int (da_cons de_int (da_cons de_int (da_cons (de_bin (m := true) bin_pow (pe_op op_pow de_int de_int)) da_nil)))))))) (by decide))) (dg_name (pg_name (i := 19) sc_law.nd rfl (by first | exact Or.inl rfl | exact Or.inr rfl)) (by decide))
        (ds_cons (ds_lc rfl (by decide) (by decide) (ps_setLc (i := 20) (own := [("_law_size", 18)]) (by rfl) sc_law.nd rfl rfl (sw_true rfl rfl rfl (by decide +kernel)) (di_seq (de_var (pv 8) (by decide))) (blkOk_by (own := [("_law_size", 18)]) (N := N_law) (sc := defScope s_law) (by decide +kernel)) (fun _ _ _ _ _ => (dg_name (pg_name (i := 18) sc_law.nd rfl (by first | exact Or.inl rfl | exact Or.inr rfl)) (by decide))) (fun _ _ _ _ _ => dts_nil) (fun _ _ _ _ _ => (de_tup (da_cons (de_var (pv 12) (by decide)) (da_cons (de_var (pv 13) (by decide)) (da_cons (de_tup (da_cons (de_bin (m := true) bin_mul (pe_op op_mulW (de_var (pv 16) (by decide)) (de_bin bin_add (pe_op (op_addA (G := (GG T))) (de_var (pv 18) (by decide)) (de_var (pv 19) (by decide)))))) (da_cons (de_var (pv 15) (by decide)) da_nil)) (by decide)) da_nil))) (by decide)))))
      (ds_one (ds_if (dt_not (dt_val (de_coe (de_call (pe_call (ok__law_alike T) (hr.mono (by decide)) (by rfl) T.g__law_alike T.F__law_alike.kp T.b__law_alike .nil pass0 (DA.pa (da_cons (de_ofN (de_lcN (by decide) (by decide) (pe_lc (own := [("_law_each", 21), ("_law_goal", 22)]) (by rfl) sc_law.nd (di_zip (pi_zip (by rfl) T.m_zip (DA.pa (da_cons (de_var (pv 17) (by decide)) (da_cons (de_var (pv 20) (by decide)) da_nil))))) (blkOk_by (own := [("_law_each", 21), ("_law_goal", 22)]) (N := N_law) (sc := defScope s_law) (by decide +kernel)) (fun _ _ _ _ _ => (dg_tup (by rfl) (dgs_cons (dg_name (pg_name (i := 21) sc_law.nd rfl (by first | exact Or.inl rfl | exact Or.inr rfl)) (by decide)) (dgs_cons (dg_name (pg_name (i := 22) sc_law.nd rfl (by first | exact Or.inl rfl | exact Or.inr rfl)) (by decide)) dgs_nil)))) (fun _ _ _ _ _ => dts_nil) (fun _ _ _ _ _ => (de_callVP (pe_call (ok_leads T) (hr.mono (by decide)) (by rfl) T.g_leads T.F_leads.kp T.b_leads .nil pass0 (DA.pa (da_cons (de_var (pv 4) (by decide)) (da_cons (de_var (pv 5) (by decide)) (da_cons (de_var (pv 21) (by decide)) (da_cons (de_var (pv 22) (by decide)) da_nil))))))))))) da_nil))))))) (ds_one (ds_ret de_bl)) ds_nil)))))
      (ds_cons (ds_for (ps_for PassesOwn.never rfl (di_seq (de_tup (da_cons (de_bin (m := true) bin_sub (pe_op op_sub de_int (de_bin (m := true) bin_pow (pe_op op_pow de_int de_int)))) (da_cons (de_bin (m := true) bin_sub (pe_op op_sub de_int de_int)) (da_cons (de_bin (m := true) bin_sub (pe_op op_sub de_int de_int)) (da_cons (de_bin (m := true) bin_sub (pe_op op_sub de_int de_int)) (da_cons de_int (da_cons de_int (da_cons de_int da_nil))))))) (by decide))) (dg_name (pg_name (i := 23) sc_law.nd rfl (by first | exact Or.inl rfl | exact Or.inr rfl)) (by decide))
        (ds_cons (ds_set rfl (ps_set (i := 22) sc_law.nd rfl (by first | exact Or.inl rfl | exact Or.inr rfl) (de_tup (da_cons (de_var (pv 12) (by decide)) (da_cons (de_var (pv 13) (by decide)) (da_cons (de_tup (da_cons (de_bin (m := true) bin_mul (pe_op op_mulW (de_var (pv 16) (by decide)) (de_var (pv 23) (by decide)))) (da_cons (de_var (pv 15) (by decide)) da_nil)) (by decide)) da_nil))) (by decide))))
      (ds_one (ds_if (dt_not (dt_val (de_coe (de_call (pe_call (ok__law_alike T) (hr.mono (by decide)) (by rfl) T.g__law_alike T.F__law_alike.kp T.b__law_alike .nil pass0 (DA.pa (da_cons (de_ofN (de_lcN (by decide) (by decide) (pe_lc (own := [("_law_each", 21)]) (by rfl) sc_law.nd (di_seq (de_var (pv 17) (by decide))) (blkOk_by (own := [("_law_each", 21)]) (N := N_law) (sc := defScope s_law) (by decide +kernel)) (fun _ _ _ _ _ => (dg_name (pg_name (i := 21) sc_law.nd rfl (by first | exact Or.inl rfl | exact Or.inr rfl)) (by decide))) (fun _ _ _ _ _ => dts_nil) (fun _ _ _ _ _ => (de_callVP (pe_call (ok_leads T) (hr.mono (by decide)) (by rfl) T.g_leads T.F_leads.kp T.b_leads .nil pass0 (DA.pa (da_cons (de_var (pv 4) (by decide)) (da_cons (de_var (pv 5) (by decide)) (da_cons (de_var (pv 21) (by decide)) (da_cons (de_var (pv 22) (by decide)) da_nil))))))))))) da_nil))))))) (ds_one (ds_ret de_bl)) ds_nil)))))
      (ds_cons (ds_lc rfl (by decide) (by decide) (ps_setLc (i := 24) (own := [("_law_size", 18)]) (by rfl) sc_law.nd rfl rfl (sw_true rfl rfl rfl (by decide +kernel)) (di_seq (de_tup (da_cons de_int (da_cons de_int (da_cons de_int (da_cons (de_bin (m := true) bin_pow (pe_op op_pow de_int de_int)) da_nil)))) (by decide))) (blkOk_by (own := [("_law_size", 18)]) (N := N_law) (sc := defScope s_law) (by decide +kernel)) (fun _ _ _ _ _ => (dg_name (pg_name (i := 18) sc_law.nd rfl (by first | exact Or.inl rfl | exact Or.inr rfl)) (by decide))) (fun _ _ _ _ _ => dts_nil) (fun _ _ _ _ _ => (de_tup (da_cons (de_var (pv 12) (by decide)) (da_cons (de_var (pv 13) (by decide)) (da_cons (de_tup (da_cons (de_bin (m := true) bin_mul (pe_op op_mulW (de_var (pv 16) (by decide)) (de_var (pv 18) (by decide)))) (da_cons (de_var (pv 15) (by decide)) da_nil)) (by decide)) da_nil))) (by decide)))))
      (ds_cons (ds_if (dt_not (dt_val (de_coe (de_call (pe_call (ok__law_alike T) (hr.mono (by decide)) (by rfl) T.g__law_alike T.F__law_alike.kp T.b__law_alike .nil pass0 (DA.pa (da_cons (de_ofN (de_lcN (by decide) (by decide) (pe_lc (own := [("_law_goal", 22)]) (by rfl) sc_law.nd (di_seq (de_var (pv 24) (by decide))) (blkOk_by (own := [("_law_goal", 22)]) (N := N_law) (sc := defScope s_law) (by decide +kernel)) (fun _ _ _ _ _ => (dg_name (pg_name (i := 22) sc_law.nd rfl (by first | exact Or.inl rfl | exact Or.inr rfl)) (by decide))) (fun _ _ _ _ _ => dts_nil) (fun _ _ _ _ _ => (de_callVP (pe_call (ok_leads T) (hr.mono (by decide)) (by rfl) T.g_leads T.F_leads.kp T.b_leads .nil pass0 (DA.pa (da_cons (de_var (pv 4) (by decide)) (da_cons (de_var (pv 5) (by decide)) (da_cons (de_bin bin_ix (pe_ix (ix_G (G := (GG T))) (de_var (pv 17) (by decide)) de_int (fun _ _ => rfl))) (da_cons (de_var (pv 22) (by decide)) da_nil))))))))))) da_nil))))))) (ds_one (ds_ret de_bl)) ds_nil)
      (ds_cons (ds_lc rfl (by decide) (by decide) (ps_setLc (i := 25) (own := [("_law_size", 18)]) (by rfl) sc_law.nd rfl rfl (sw_true rfl rfl rfl (by decide +kernel)) (di_seq (de_tup (da_cons de_int (da_cons de_int (da_cons de_int (da_cons de_int da_nil)))) (by decide))) (blkOk_by (own := [("_law_size", 18)]) (N := N_law) (sc := defScope s_law) (by decide +kernel)) (fun _ _ _ _ _ => (dg_name (pg_name (i := 18) sc_law.nd rfl (by first | exact Or.inl rfl | exact Or.inr rfl)) (by decide))) (fun _ _ _ _ _ => dts_nil) (fun _ _ _ _ _ => (de_tup (da_cons (de_var (pv 12) (by decide)) (da_cons (de_var (pv 13) (by decide)) (da_cons (de_tup (da_cons (de_bin (m := true) bin_mul (pe_op op_mulW (de_var (pv 16) (by decide)) (de_var (pv 18) (by decide)))) (da_cons (de_var (pv 15) (by decide)) da_nil)) (by decide)) da_nil))) (by decide)))))
      (ds_one (ds_if (dt_not (dt_val (de_coe (de_call (pe_call (ok__law_alike T) (hr.mono (by decide)) (by rfl) T.g__law_alike T.F__law_alike.kp T.b__law_alike .nil pass0 (DA.pa (da_cons (de_ofN (de_lcN (by decide) (by decide) (pe_lc (own := [("_law_goal", 22)]) (by rfl) sc_law.nd (di_seq (de_var (pv 25) (by decide))) (blkOk_by (own := [("_law_goal", 22)]) (N := N_law) (sc := defScope s_law) (by decide +kernel)) (fun _ _ _ _ _ => (dg_name (pg_name (i := 22) sc_law.nd rfl (by first | exact Or.inl rfl | exact Or.inr rfl)) (by decide))) (fun _ _ _ _ _ => dts_nil) (fun _ _ _ _ _ => (de_callVP (pe_call (ok_leads T) (hr.mono (by decide)) (by rfl) T.g_leads T.F_leads.kp T.b_leads .nil pass0 (DA.pa (da_cons (de_var (pv 4) (by decide)) (da_cons (de_var (pv 5) (by decide)) (da_cons (de_bin bin_ix (pe_ix (ix_G (G := (GG T))) (de_var (pv 17) (by decide)) de_int (fun _ _ => rfl))) (da_cons (de_var (pv 22) (by decide)) da_nil))))))))))) da_nil))))))) (ds_one (ds_ret de_bl)) ds_nil))))))))))))))
      (ds_one (ds_ret de_bl)))))))), ?_⟩
    refine ⟨_, rfl, a, ns, rfl, hS, fun H1 p sm np hs1 => ?_⟩
    exact law_readS (k := 24) hs1 q law_pure
end
theorem all_mk {l : PySem.W.OpenLaw} {w : World} {K : PySem.W.Frag} {h : Heap} {mg : Str → Option Value} {fa : Addr} (X : K.In h) (G : h.Ns mainGlobals mg) (hfa : mg "law" = some (.ref fa))
    {C_Menus : Addr}
    {C_Loop : Addr}
    {C_Loops : Addr}
    {od_is_name an_is_name : Option Addr} {sl_is_name : Array (Option Value)} {oc_is_name kV_is_name dc_is_name pm_is_name cd_is_name ct_is_name : Value} {f_is_name : Addr}
    {od_is_number an_is_number : Option Addr} {sl_is_number : Array (Option Value)} {oc_is_number kV_is_number dc_is_number pm_is_number cd_is_number ct_is_number : Value} {f_is_number : Addr}
    {od_place_of an_place_of : Option Addr} {sl_place_of : Array (Option Value)} {oc_place_of kV_place_of dc_place_of pm_place_of cd_place_of ct_place_of : Value} {f_place_of : Addr}
    {od_is_group an_is_group : Option Addr} {sl_is_group : Array (Option Value)} {oc_is_group kV_is_group dc_is_group pm_is_group cd_is_group ct_is_group : Value} {f_is_group : Addr}
    {od_group an_group : Option Addr} {sl_group : Array (Option Value)} {oc_group kV_group dc_group pm_group cd_group ct_group : Value} {f_group : Addr}
    {od_spans_of an_spans_of : Option Addr} {sl_spans_of : Array (Option Value)} {oc_spans_of kV_spans_of dc_spans_of pm_spans_of cd_spans_of ct_spans_of : Value} {f_spans_of : Addr}
    {od_numbers_by_places an_numbers_by_places : Option Addr} {sl_numbers_by_places : Array (Option Value)} {oc_numbers_by_places kV_numbers_by_places dc_numbers_by_places pm_numbers_by_places cd_numbers_by_places ct_numbers_by_places : Value} {f_numbers_by_places : Addr}
    {od_turned_span an_turned_span : Option Addr} {sl_turned_span : Array (Option Value)} {oc_turned_span kV_turned_span dc_turned_span pm_turned_span cd_turned_span ct_turned_span : Value} {f_turned_span : Addr}
    {od_gap_behind an_gap_behind : Option Addr} {sl_gap_behind : Array (Option Value)} {oc_gap_behind kV_gap_behind dc_gap_behind pm_gap_behind cd_gap_behind ct_gap_behind : Value} {f_gap_behind : Addr}
    {od_outcomes_of an_outcomes_of : Option Addr} {sl_outcomes_of : Array (Option Value)} {oc_outcomes_of kV_outcomes_of dc_outcomes_of pm_outcomes_of cd_outcomes_of ct_outcomes_of : Value} {f_outcomes_of : Addr}
    {od_Menus___init__ an_Menus___init__ : Option Addr} {sl_Menus___init__ : Array (Option Value)} {oc_Menus___init__ kV_Menus___init__ dc_Menus___init__ pm_Menus___init__ cd_Menus___init__ ct_Menus___init__ : Value} {f_Menus___init__ : Addr}
    {od_Menus_at an_Menus_at : Option Addr} {sl_Menus_at : Array (Option Value)} {oc_Menus_at kV_Menus_at dc_Menus_at pm_Menus_at cd_Menus_at ct_Menus_at : Value} {f_Menus_at : Addr}
    {od_moves_of an_moves_of : Option Addr} {sl_moves_of : Array (Option Value)} {oc_moves_of kV_moves_of dc_moves_of pm_moves_of cd_moves_of ct_moves_of : Value} {f_moves_of : Addr}
    {od_is_rule an_is_rule : Option Addr} {sl_is_rule : Array (Option Value)} {oc_is_rule kV_is_rule dc_is_rule pm_is_rule cd_is_rule ct_is_rule : Value} {f_is_rule : Addr}
    {od_states_of an_states_of : Option Addr} {sl_states_of : Array (Option Value)} {oc_states_of kV_states_of dc_states_of pm_states_of cd_states_of ct_states_of : Value} {f_states_of : Addr}
    {od_invalid_rule an_invalid_rule : Option Addr} {sl_invalid_rule : Array (Option Value)} {oc_invalid_rule kV_invalid_rule dc_invalid_rule pm_invalid_rule cd_invalid_rule ct_invalid_rule : Value} {f_invalid_rule : Addr}
    {od_Loop___init__ an_Loop___init__ : Option Addr} {sl_Loop___init__ : Array (Option Value)} {oc_Loop___init__ kV_Loop___init__ dc_Loop___init__ pm_Loop___init__ cd_Loop___init__ ct_Loop___init__ : Value} {f_Loop___init__ : Addr}
    {dt_Loop___init__ : Addr} {do_Loop___init__ : Obj} {di_Loop___init__ : List Value} {dn_Loop___init__ : Nat}
    {od_Loop_states an_Loop_states : Option Addr} {sl_Loop_states : Array (Option Value)} {oc_Loop_states kV_Loop_states dc_Loop_states pm_Loop_states cd_Loop_states ct_Loop_states : Value} {f_Loop_states : Addr}
    {p_Loop_states : Addr} {r_Loop_states : List Value}
    {od_used an_used : Option Addr} {sl_used : Array (Option Value)} {oc_used kV_used dc_used pm_used cd_used ct_used : Value} {f_used : Addr}
    {od_Loops___init__ an_Loops___init__ : Option Addr} {sl_Loops___init__ : Array (Option Value)} {oc_Loops___init__ kV_Loops___init__ dc_Loops___init__ pm_Loops___init__ cd_Loops___init__ ct_Loops___init__ : Value} {f_Loops___init__ : Addr}
    {od_Loops_react an_Loops_react : Option Addr} {sl_Loops_react : Array (Option Value)} {oc_Loops_react kV_Loops_react dc_Loops_react pm_Loops_react cd_Loops_react ct_Loops_react : Value} {f_Loops_react : Addr}
    {od_is_gap an_is_gap : Option Addr} {sl_is_gap : Array (Option Value)} {oc_is_gap kV_is_gap dc_is_gap pm_is_gap cd_is_gap ct_is_gap : Value} {f_is_gap : Addr}
    {od_as_joint an_as_joint : Option Addr} {sl_as_joint : Array (Option Value)} {oc_as_joint kV_as_joint dc_as_joint pm_as_joint cd_as_joint ct_as_joint : Value} {f_as_joint : Addr}
    {od_is_within an_is_within : Option Addr} {sl_is_within : Array (Option Value)} {oc_is_within kV_is_within dc_is_within pm_is_within cd_is_within ct_is_within : Value} {f_is_within : Addr}
    {od_leads an_leads : Option Addr} {sl_leads : Array (Option Value)} {oc_leads kV_leads dc_leads pm_leads cd_leads ct_leads : Value} {f_leads : Addr}
    {od__law_source an__law_source : Option Addr} {sl__law_source : Array (Option Value)} {oc__law_source kV__law_source dc__law_source pm__law_source cd__law_source ct__law_source : Value} {f__law_source : Addr}
    {od__law_draw an__law_draw : Option Addr} {sl__law_draw : Array (Option Value)} {oc__law_draw kV__law_draw dc__law_draw pm__law_draw cd__law_draw ct__law_draw : Value} {f__law_draw : Addr}
    {od__law_pick an__law_pick : Option Addr} {sl__law_pick : Array (Option Value)} {oc__law_pick kV__law_pick dc__law_pick pm__law_pick cd__law_pick ct__law_pick : Value} {f__law_pick : Addr}
    {od__law_name an__law_name : Option Addr} {sl__law_name : Array (Option Value)} {oc__law_name kV__law_name dc__law_name pm__law_name cd__law_name ct__law_name : Value} {f__law_name : Addr}
    {od__law_names an__law_names : Option Addr} {sl__law_names : Array (Option Value)} {oc__law_names kV__law_names dc__law_names pm__law_names cd__law_names ct__law_names : Value} {f__law_names : Addr}
    {od__law_places an__law_places : Option Addr} {sl__law_places : Array (Option Value)} {oc__law_places kV__law_places dc__law_places pm__law_places cd__law_places ct__law_places : Value} {f__law_places : Addr}
    {od__law_group_names an__law_group_names : Option Addr} {sl__law_group_names : Array (Option Value)} {oc__law_group_names kV__law_group_names dc__law_group_names pm__law_group_names cd__law_group_names ct__law_group_names : Value} {f__law_group_names : Addr}
    {od__law_states an__law_states : Option Addr} {sl__law_states : Array (Option Value)} {oc__law_states kV__law_states dc__law_states pm__law_states cd__law_states ct__law_states : Value} {f__law_states : Addr}
    {od__law_groups an__law_groups : Option Addr} {sl__law_groups : Array (Option Value)} {oc__law_groups kV__law_groups dc__law_groups pm__law_groups cd__law_groups ct__law_groups : Value} {f__law_groups : Addr}
    {od__law_rules an__law_rules : Option Addr} {sl__law_rules : Array (Option Value)} {oc__law_rules kV__law_rules dc__law_rules pm__law_rules cd__law_rules ct__law_rules : Value} {f__law_rules : Addr}
    {od__law_alike an__law_alike : Option Addr} {sl__law_alike : Array (Option Value)} {oc__law_alike kV__law_alike dc__law_alike pm__law_alike cd__law_alike ct__law_alike : Value} {f__law_alike : Addr}
    {od_law an_law : Option Addr} {sl_law : Array (Option Value)} {oc_law kV_law dc_law pm_law cd_law ct_law : Value} {f_law : Addr}
    {t_BOUND : Tok}
    {t_MOST_LETTERS : Tok}
    {a_PLACES : Addr} {o_PLACES : Obj} {i_PLACES : Array Value} {n_PLACES : Nat}
    {a_LONG_GROUPS : Addr} {es_LONG_GROUPS : Array DictEntry} {n_LONG_GROUPS : Nat}
    {a_LONG_GROUPS_any : Addr} {o_LONG_GROUPS_any : Obj} {i_LONG_GROUPS_any : Array Value} {n_LONG_GROUPS_any : Nat}
    {a_LONG_GROUPS_near : Addr} {o_LONG_GROUPS_near : Obj} {i_LONG_GROUPS_near : Array Value} {n_LONG_GROUPS_near : Nat}
    {a_LONG_GROUPS_far : Addr} {o_LONG_GROUPS_far : Obj} {i_LONG_GROUPS_far : Array Value} {n_LONG_GROUPS_far : Nat}
    {a_LONG_GROUPS_less : Addr} {o_LONG_GROUPS_less : Obj} {i_LONG_GROUPS_less : Array Value} {n_LONG_GROUPS_less : Nat}
    {a_LONG_GROUPS_more : Addr} {o_LONG_GROUPS_more : Obj} {i_LONG_GROUPS_more : Array Value} {n_LONG_GROUPS_more : Nat}
    {a_LONG_GROUPS_under : Addr} {o_LONG_GROUPS_under : Obj} {i_LONG_GROUPS_under : Array Value} {n_LONG_GROUPS_under : Nat}
    {a_LONG_GROUPS_over : Addr} {o_LONG_GROUPS_over : Obj} {i_LONG_GROUPS_over : Array Value} {n_LONG_GROUPS_over : Nat}
    {a_LONG_GROUPS_cell : Addr} {o_LONG_GROUPS_cell : Obj} {i_LONG_GROUPS_cell : Array Value} {n_LONG_GROUPS_cell : Nat}
    {a_LONG_GROUPS_none : Addr} {o_LONG_GROUPS_none : Obj} {i_LONG_GROUPS_none : Array Value} {n_LONG_GROUPS_none : Nat}
    {a_SIGNS : Addr} {o_SIGNS : Obj} {i_SIGNS : Array Value} {n_SIGNS : Nat}
    {a_TURNED_SIGNS : Addr}
    {es_TURNED_SIGNS : Array DictEntry} {n_TURNED_SIGNS : Nat}
    {a_REST_PLACES : Addr}
    {a_REST_PLACES_0 : Addr} {o_REST_PLACES_0 : Obj} {i_REST_PLACES_0 : Array Value} {n_REST_PLACES_0 : Nat}
    {a_REST_PLACES_0_0 : Addr} {o_REST_PLACES_0_0 : Obj} {i_REST_PLACES_0_0 : Array Value} {n_REST_PLACES_0_0 : Nat}
    {a_REST_PLACES_0_1 : Addr} {o_REST_PLACES_0_1 : Obj} {i_REST_PLACES_0_1 : Array Value} {n_REST_PLACES_0_1 : Nat}
    {a_REST_PLACES_0_2 : Addr} {o_REST_PLACES_0_2 : Obj} {i_REST_PLACES_0_2 : Array Value} {n_REST_PLACES_0_2 : Nat}
    {a_REST_PLACES_0_3 : Addr} {o_REST_PLACES_0_3 : Obj} {i_REST_PLACES_0_3 : Array Value} {n_REST_PLACES_0_3 : Nat}
    {a_REST_PLACES_0_4 : Addr} {o_REST_PLACES_0_4 : Obj} {i_REST_PLACES_0_4 : Array Value} {n_REST_PLACES_0_4 : Nat}
    {a_REST_PLACES_1 : Addr} {o_REST_PLACES_1 : Obj} {i_REST_PLACES_1 : Array Value} {n_REST_PLACES_1 : Nat}
    {a_REST_PLACES_1_0 : Addr} {o_REST_PLACES_1_0 : Obj} {i_REST_PLACES_1_0 : Array Value} {n_REST_PLACES_1_0 : Nat}
    {a_REST_PLACES_1_1 : Addr} {o_REST_PLACES_1_1 : Obj} {i_REST_PLACES_1_1 : Array Value} {n_REST_PLACES_1_1 : Nat}
    {a_REST_PLACES_1_2 : Addr} {o_REST_PLACES_1_2 : Obj} {i_REST_PLACES_1_2 : Array Value} {n_REST_PLACES_1_2 : Nat}
    {a_REST_PLACES_2 : Addr} {o_REST_PLACES_2 : Obj} {i_REST_PLACES_2 : Array Value} {n_REST_PLACES_2 : Nat}
    {a_REST_PLACES_2_0 : Addr} {o_REST_PLACES_2_0 : Obj} {i_REST_PLACES_2_0 : Array Value} {n_REST_PLACES_2_0 : Nat}
    {a_REST_PLACES_2_1 : Addr} {o_REST_PLACES_2_1 : Obj} {i_REST_PLACES_2_1 : Array Value} {n_REST_PLACES_2_1 : Nat}
    {a_REST_PLACES_2_2 : Addr} {o_REST_PLACES_2_2 : Obj} {i_REST_PLACES_2_2 : Array Value} {n_REST_PLACES_2_2 : Nat}
    {a_REST_PLACES_2_3 : Addr} {o_REST_PLACES_2_3 : Obj} {i_REST_PLACES_2_3 : Array Value} {n_REST_PLACES_2_3 : Nat}
    {a_REST_PLACES_2_4 : Addr} {o_REST_PLACES_2_4 : Obj} {i_REST_PLACES_2_4 : Array Value} {n_REST_PLACES_2_4 : Nat}
    {es_REST_PLACES : Array DictEntry} {n_REST_PLACES : Nat}
    {a_LONE_SPANS : Addr}
    {o_LONE_SPANS : Obj} {i_LONE_SPANS : Array Value} {n_LONE_SPANS : Nat}
    {a_LONE_SPANS_0 : Addr} {o_LONE_SPANS_0 : Obj} {i_LONE_SPANS_0 : Array Value} {n_LONE_SPANS_0 : Nat}
    {a_LONE_SPANS_1 : Addr} {o_LONE_SPANS_1 : Obj} {i_LONE_SPANS_1 : Array Value} {n_LONE_SPANS_1 : Nat}
    {a_LONE_SPANS_2 : Addr} {o_LONE_SPANS_2 : Obj} {i_LONE_SPANS_2 : Array Value} {n_LONE_SPANS_2 : Nat}
    {a_LONE_SPANS_3 : Addr} {o_LONE_SPANS_3 : Obj} {i_LONE_SPANS_3 : Array Value} {n_LONE_SPANS_3 : Nat}
    {a_LONE_SPANS_4 : Addr} {o_LONE_SPANS_4 : Obj} {i_LONE_SPANS_4 : Array Value} {n_LONE_SPANS_4 : Nat}
    {t_MOST_RULES : Tok}
    {t_MOST_STATES : Tok}
    {a_GAP_WORDS : Addr} {o_GAP_WORDS : Obj} {i_GAP_WORDS : Array Value} {n_GAP_WORDS : Nat}
    (gc_Menus : PySem.W.nsIn K mainGlobals "Menus" = some (some (.ref C_Menus))) (pg_Menus : PySem.W.plainGet K C_Menus Str.empty = true) (hd_Menus : PySem.W.hasDictIn K C_Menus = true) (po_Menus : PySem.W.plainOver K C_Menus = true) (sa_Menus : PySem.W.findIn K (.ref C_Menus) "__setattr__" = some (some (.builtin "object.__setattr__"))) (mk_Menus : PySem.W.makesIn K C_Menus = true) (kc_Menus : PySem.W.keepIn K (.ref C_Menus) = true)
    (no_Menus_known : PySem.W.findIn K (.ref C_Menus) "known" = some none)
    (gc_Loop : PySem.W.nsIn K mainGlobals "Loop" = some (some (.ref C_Loop))) (pg_Loop : PySem.W.plainGet K C_Loop Str.empty = true) (hd_Loop : PySem.W.hasDictIn K C_Loop = true) (po_Loop : PySem.W.plainOver K C_Loop = true) (sa_Loop : PySem.W.findIn K (.ref C_Loop) "__setattr__" = some (some (.builtin "object.__setattr__"))) (mk_Loop : PySem.W.makesIn K C_Loop = true) (kc_Loop : PySem.W.keepIn K (.ref C_Loop) = true)
    (no_Loop_own_rules : PySem.W.findIn K (.ref C_Loop) "own_rules" = some none)
    (no_Loop_own_answers : PySem.W.findIn K (.ref C_Loop) "own_answers" = some none)
    (no_Loop_table : PySem.W.findIn K (.ref C_Loop) "table" = some none)
    (gc_Loops : PySem.W.nsIn K mainGlobals "Loops" = some (some (.ref C_Loops))) (pg_Loops : PySem.W.plainGet K C_Loops Str.empty = true) (hd_Loops : PySem.W.hasDictIn K C_Loops = true) (po_Loops : PySem.W.plainOver K C_Loops = true) (sa_Loops : PySem.W.findIn K (.ref C_Loops) "__setattr__" = some (some (.builtin "object.__setattr__"))) (mk_Loops : PySem.W.makesIn K C_Loops = true) (kc_Loops : PySem.W.keepIn K (.ref C_Loops) = true)
    (no_Loops_one : PySem.W.findIn K (.ref C_Loops) "one" = some none)
    (no_Loops_other : PySem.W.findIn K (.ref C_Loops) "other" = some none)
    (no_Loops_by : PySem.W.findIn K (.ref C_Loops) "by" = some none)
    (a_is_name : PySem.W.nsIn K mainGlobals "is_name" = some (some (.ref f_is_name)))
    (l_is_name : K.lookup f_is_name = some ⟨oc_is_name, od_is_name, .func (PySem.W.fnOf "is_name" "is_name" (defArgs s_is_name) (defBody s_is_name) (defScope s_is_name) .none kV_is_name dc_is_name pm_is_name an_is_name cd_is_name ct_is_name), sl_is_name⟩) (c_is_name : PySem.W.codeIn K cd_is_name "is_name" = true) (k_is_name : PySem.W.keepIn K (.ref f_is_name) = true)
    (a_is_number : PySem.W.nsIn K mainGlobals "is_number" = some (some (.ref f_is_number)))
    (l_is_number : K.lookup f_is_number = some ⟨oc_is_number, od_is_number, .func (PySem.W.fnOf "is_number" "is_number" (defArgs s_is_number) (defBody s_is_number) (defScope s_is_number) .none kV_is_number dc_is_number pm_is_number an_is_number cd_is_number ct_is_number), sl_is_number⟩) (c_is_number : PySem.W.codeIn K cd_is_number "is_number" = true) (k_is_number : PySem.W.keepIn K (.ref f_is_number) = true)
    (a_place_of : PySem.W.nsIn K mainGlobals "place_of" = some (some (.ref f_place_of)))
    (l_place_of : K.lookup f_place_of = some ⟨oc_place_of, od_place_of, .func (PySem.W.fnOf "place_of" "place_of" (defArgs s_place_of) (defBody s_place_of) (defScope s_place_of) .none kV_place_of dc_place_of pm_place_of an_place_of cd_place_of ct_place_of), sl_place_of⟩) (c_place_of : PySem.W.codeIn K cd_place_of "place_of" = true) (k_place_of : PySem.W.keepIn K (.ref f_place_of) = true)
    (a_is_group : PySem.W.nsIn K mainGlobals "is_group" = some (some (.ref f_is_group)))
    (l_is_group : K.lookup f_is_group = some ⟨oc_is_group, od_is_group, .func (PySem.W.fnOf "is_group" "is_group" (defArgs s_is_group) (defBody s_is_group) (defScope s_is_group) .none kV_is_group dc_is_group pm_is_group an_is_group cd_is_group ct_is_group), sl_is_group⟩) (c_is_group : PySem.W.codeIn K cd_is_group "is_group" = true) (k_is_group : PySem.W.keepIn K (.ref f_is_group) = true)
    (a_group : PySem.W.nsIn K mainGlobals "group" = some (some (.ref f_group)))
    (l_group : K.lookup f_group = some ⟨oc_group, od_group, .func (PySem.W.fnOf "group" "group" (defArgs s_group) (defBody s_group) (defScope s_group) .none kV_group dc_group pm_group an_group cd_group ct_group), sl_group⟩) (c_group : PySem.W.codeIn K cd_group "group" = true) (k_group : PySem.W.keepIn K (.ref f_group) = true)
    (a_spans_of : PySem.W.nsIn K mainGlobals "spans_of" = some (some (.ref f_spans_of)))
    (l_spans_of : K.lookup f_spans_of = some ⟨oc_spans_of, od_spans_of, .func (PySem.W.fnOf "spans_of" "spans_of" (defArgs s_spans_of) (defBody s_spans_of) (defScope s_spans_of) .none kV_spans_of dc_spans_of pm_spans_of an_spans_of cd_spans_of ct_spans_of), sl_spans_of⟩) (c_spans_of : PySem.W.codeIn K cd_spans_of "spans_of" = true) (k_spans_of : PySem.W.keepIn K (.ref f_spans_of) = true)
    (a_numbers_by_places : PySem.W.nsIn K mainGlobals "numbers_by_places" = some (some (.ref f_numbers_by_places)))
    (l_numbers_by_places : K.lookup f_numbers_by_places = some ⟨oc_numbers_by_places, od_numbers_by_places, .func (PySem.W.fnOf "numbers_by_places" "numbers_by_places" (defArgs s_numbers_by_places) (defBody s_numbers_by_places) (defScope s_numbers_by_places) .none kV_numbers_by_places dc_numbers_by_places pm_numbers_by_places an_numbers_by_places cd_numbers_by_places ct_numbers_by_places), sl_numbers_by_places⟩) (c_numbers_by_places : PySem.W.codeIn K cd_numbers_by_places "numbers_by_places" = true) (k_numbers_by_places : PySem.W.keepIn K (.ref f_numbers_by_places) = true)
    (a_turned_span : PySem.W.nsIn K mainGlobals "turned_span" = some (some (.ref f_turned_span)))
    (l_turned_span : K.lookup f_turned_span = some ⟨oc_turned_span, od_turned_span, .func (PySem.W.fnOf "turned_span" "turned_span" (defArgs s_turned_span) (defBody s_turned_span) (defScope s_turned_span) .none kV_turned_span dc_turned_span pm_turned_span an_turned_span cd_turned_span ct_turned_span), sl_turned_span⟩) (c_turned_span : PySem.W.codeIn K cd_turned_span "turned_span" = true) (k_turned_span : PySem.W.keepIn K (.ref f_turned_span) = true)
    (a_gap_behind : PySem.W.nsIn K mainGlobals "gap_behind" = some (some (.ref f_gap_behind)))
    (l_gap_behind : K.lookup f_gap_behind = some ⟨oc_gap_behind, od_gap_behind, .func (PySem.W.fnOf "gap_behind" "gap_behind" (defArgs s_gap_behind) (defBody s_gap_behind) (defScope s_gap_behind) .none kV_gap_behind dc_gap_behind pm_gap_behind an_gap_behind cd_gap_behind ct_gap_behind), sl_gap_behind⟩) (c_gap_behind : PySem.W.codeIn K cd_gap_behind "gap_behind" = true) (k_gap_behind : PySem.W.keepIn K (.ref f_gap_behind) = true)
    (a_outcomes_of : PySem.W.nsIn K mainGlobals "outcomes_of" = some (some (.ref f_outcomes_of)))
    (l_outcomes_of : K.lookup f_outcomes_of = some ⟨oc_outcomes_of, od_outcomes_of, .func (PySem.W.fnOf "outcomes_of" "outcomes_of" (defArgs s_outcomes_of) (defBody s_outcomes_of) (defScope s_outcomes_of) .none kV_outcomes_of dc_outcomes_of pm_outcomes_of an_outcomes_of cd_outcomes_of ct_outcomes_of), sl_outcomes_of⟩) (c_outcomes_of : PySem.W.codeIn K cd_outcomes_of "outcomes_of" = true) (k_outcomes_of : PySem.W.keepIn K (.ref f_outcomes_of) = true)
    (a_Menus___init__ : PySem.W.findIn K (.ref C_Menus) "__init__" = some (some (.ref f_Menus___init__))) (i_Menus___init__ : PySem.W.isFn K (.ref f_Menus___init__) = true)
    (l_Menus___init__ : K.lookup f_Menus___init__ = some ⟨oc_Menus___init__, od_Menus___init__, .func (PySem.W.fnOf "__init__" "Menus.__init__" (defArgs s_Menus___init__) (defBody s_Menus___init__) (defScope s_Menus___init__) .none kV_Menus___init__ dc_Menus___init__ pm_Menus___init__ an_Menus___init__ cd_Menus___init__ ct_Menus___init__), sl_Menus___init__⟩) (c_Menus___init__ : PySem.W.codeIn K cd_Menus___init__ "Menus.__init__" = true) (k_Menus___init__ : PySem.W.keepIn K (.ref f_Menus___init__) = true)
    (a_Menus_at : PySem.W.findIn K (.ref C_Menus) "at" = some (some (.ref f_Menus_at))) (i_Menus_at : PySem.W.isFn K (.ref f_Menus_at) = true)
    (l_Menus_at : K.lookup f_Menus_at = some ⟨oc_Menus_at, od_Menus_at, .func (PySem.W.fnOf "at" "Menus.at" (defArgs s_Menus_at) (defBody s_Menus_at) (defScope s_Menus_at) .none kV_Menus_at dc_Menus_at pm_Menus_at an_Menus_at cd_Menus_at ct_Menus_at), sl_Menus_at⟩) (c_Menus_at : PySem.W.codeIn K cd_Menus_at "Menus.at" = true) (k_Menus_at : PySem.W.keepIn K (.ref f_Menus_at) = true)
    (a_moves_of : PySem.W.nsIn K mainGlobals "moves_of" = some (some (.ref f_moves_of)))
    (l_moves_of : K.lookup f_moves_of = some ⟨oc_moves_of, od_moves_of, .func (PySem.W.fnOf "moves_of" "moves_of" (defArgs s_moves_of) (defBody s_moves_of) (defScope s_moves_of) .none kV_moves_of dc_moves_of pm_moves_of an_moves_of cd_moves_of ct_moves_of), sl_moves_of⟩) (c_moves_of : PySem.W.codeIn K cd_moves_of "moves_of" = true) (k_moves_of : PySem.W.keepIn K (.ref f_moves_of) = true)
    (a_is_rule : PySem.W.nsIn K mainGlobals "is_rule" = some (some (.ref f_is_rule)))
    (l_is_rule : K.lookup f_is_rule = some ⟨oc_is_rule, od_is_rule, .func (PySem.W.fnOf "is_rule" "is_rule" (defArgs s_is_rule) (defBody s_is_rule) (defScope s_is_rule) .none kV_is_rule dc_is_rule pm_is_rule an_is_rule cd_is_rule ct_is_rule), sl_is_rule⟩) (c_is_rule : PySem.W.codeIn K cd_is_rule "is_rule" = true) (k_is_rule : PySem.W.keepIn K (.ref f_is_rule) = true)
    (a_states_of : PySem.W.nsIn K mainGlobals "states_of" = some (some (.ref f_states_of)))
    (l_states_of : K.lookup f_states_of = some ⟨oc_states_of, od_states_of, .func (PySem.W.fnOf "states_of" "states_of" (defArgs s_states_of) (defBody s_states_of) (defScope s_states_of) .none kV_states_of dc_states_of pm_states_of an_states_of cd_states_of ct_states_of), sl_states_of⟩) (c_states_of : PySem.W.codeIn K cd_states_of "states_of" = true) (k_states_of : PySem.W.keepIn K (.ref f_states_of) = true)
    (a_invalid_rule : PySem.W.nsIn K mainGlobals "invalid_rule" = some (some (.ref f_invalid_rule)))
    (l_invalid_rule : K.lookup f_invalid_rule = some ⟨oc_invalid_rule, od_invalid_rule, .func (PySem.W.fnOf "invalid_rule" "invalid_rule" (defArgs s_invalid_rule) (defBody s_invalid_rule) (defScope s_invalid_rule) .none kV_invalid_rule dc_invalid_rule pm_invalid_rule an_invalid_rule cd_invalid_rule ct_invalid_rule), sl_invalid_rule⟩) (c_invalid_rule : PySem.W.codeIn K cd_invalid_rule "invalid_rule" = true) (k_invalid_rule : PySem.W.keepIn K (.ref f_invalid_rule) = true)
    (u_Loop___init__ : K.lookup dt_Loop___init__ = some do_Loop___init__) (ud_Loop___init__ : do_Loop___init__.data = .seq di_Loop___init__.toArray dn_Loop___init__) (uv_Loop___init__ : Vals [.non] di_Loop___init__)
    (a_Loop___init__ : PySem.W.findIn K (.ref C_Loop) "__init__" = some (some (.ref f_Loop___init__))) (i_Loop___init__ : PySem.W.isFn K (.ref f_Loop___init__) = true)
    (l_Loop___init__ : K.lookup f_Loop___init__ = some ⟨oc_Loop___init__, od_Loop___init__, .func (PySem.W.fnOf "__init__" "Loop.__init__" (defArgs s_Loop___init__) (defBody s_Loop___init__) (defScope s_Loop___init__) (.ref dt_Loop___init__) kV_Loop___init__ dc_Loop___init__ pm_Loop___init__ an_Loop___init__ cd_Loop___init__ ct_Loop___init__), sl_Loop___init__⟩) (c_Loop___init__ : PySem.W.codeIn K cd_Loop___init__ "Loop.__init__" = true) (k_Loop___init__ : PySem.W.keepIn K (.ref f_Loop___init__) = true)
    (q1_Loop_states : PySem.W.findIn K (.ref C_Loop) "states" = some (some (.ref p_Loop_states))) (q2_Loop_states : PySem.W.specialIn K (.ref p_Loop_states) "__get__" = some (some (.builtin "property.__get__"))) (q3_Loop_states : PySem.W.takesIn K (.ref p_Loop_states) = some true) (q4_Loop_states : PySem.W.recIn K p_Loop_states "property" = some (.ref f_Loop_states :: r_Loop_states))
    (l_Loop_states : K.lookup f_Loop_states = some ⟨oc_Loop_states, od_Loop_states, .func (PySem.W.fnOf "states" "Loop.states" (defArgs s_Loop_states) (defBody s_Loop_states) (defScope s_Loop_states) .none kV_Loop_states dc_Loop_states pm_Loop_states an_Loop_states cd_Loop_states ct_Loop_states), sl_Loop_states⟩) (c_Loop_states : PySem.W.codeIn K cd_Loop_states "Loop.states" = true) (k_Loop_states : PySem.W.keepIn K (.ref f_Loop_states) = true)
    (a_used : PySem.W.nsIn K mainGlobals "used" = some (some (.ref f_used)))
    (l_used : K.lookup f_used = some ⟨oc_used, od_used, .func (PySem.W.fnOf "used" "used" (defArgs s_used) (defBody s_used) (defScope s_used) .none kV_used dc_used pm_used an_used cd_used ct_used), sl_used⟩) (c_used : PySem.W.codeIn K cd_used "used" = true) (k_used : PySem.W.keepIn K (.ref f_used) = true)
    (a_Loops___init__ : PySem.W.findIn K (.ref C_Loops) "__init__" = some (some (.ref f_Loops___init__))) (i_Loops___init__ : PySem.W.isFn K (.ref f_Loops___init__) = true)
    (l_Loops___init__ : K.lookup f_Loops___init__ = some ⟨oc_Loops___init__, od_Loops___init__, .func (PySem.W.fnOf "__init__" "Loops.__init__" (defArgs s_Loops___init__) (defBody s_Loops___init__) (defScope s_Loops___init__) .none kV_Loops___init__ dc_Loops___init__ pm_Loops___init__ an_Loops___init__ cd_Loops___init__ ct_Loops___init__), sl_Loops___init__⟩) (c_Loops___init__ : PySem.W.codeIn K cd_Loops___init__ "Loops.__init__" = true) (k_Loops___init__ : PySem.W.keepIn K (.ref f_Loops___init__) = true)
    (a_Loops_react : PySem.W.findIn K (.ref C_Loops) "react" = some (some (.ref f_Loops_react))) (i_Loops_react : PySem.W.isFn K (.ref f_Loops_react) = true)
    (l_Loops_react : K.lookup f_Loops_react = some ⟨oc_Loops_react, od_Loops_react, .func (PySem.W.fnOf "react" "Loops.react" (defArgs s_Loops_react) (defBody s_Loops_react) (defScope s_Loops_react) .none kV_Loops_react dc_Loops_react pm_Loops_react an_Loops_react cd_Loops_react ct_Loops_react), sl_Loops_react⟩) (c_Loops_react : PySem.W.codeIn K cd_Loops_react "Loops.react" = true) (k_Loops_react : PySem.W.keepIn K (.ref f_Loops_react) = true)
    (a_is_gap : PySem.W.nsIn K mainGlobals "is_gap" = some (some (.ref f_is_gap)))
    (l_is_gap : K.lookup f_is_gap = some ⟨oc_is_gap, od_is_gap, .func (PySem.W.fnOf "is_gap" "is_gap" (defArgs s_is_gap) (defBody s_is_gap) (defScope s_is_gap) .none kV_is_gap dc_is_gap pm_is_gap an_is_gap cd_is_gap ct_is_gap), sl_is_gap⟩) (c_is_gap : PySem.W.codeIn K cd_is_gap "is_gap" = true) (k_is_gap : PySem.W.keepIn K (.ref f_is_gap) = true)
    (a_as_joint : PySem.W.nsIn K mainGlobals "as_joint" = some (some (.ref f_as_joint)))
    (l_as_joint : K.lookup f_as_joint = some ⟨oc_as_joint, od_as_joint, .func (PySem.W.fnOf "as_joint" "as_joint" (defArgs s_as_joint) (defBody s_as_joint) (defScope s_as_joint) .none kV_as_joint dc_as_joint pm_as_joint an_as_joint cd_as_joint ct_as_joint), sl_as_joint⟩) (c_as_joint : PySem.W.codeIn K cd_as_joint "as_joint" = true) (k_as_joint : PySem.W.keepIn K (.ref f_as_joint) = true)
    (a_is_within : PySem.W.nsIn K mainGlobals "is_within" = some (some (.ref f_is_within)))
    (l_is_within : K.lookup f_is_within = some ⟨oc_is_within, od_is_within, .func (PySem.W.fnOf "is_within" "is_within" (defArgs s_is_within) (defBody s_is_within) (defScope s_is_within) .none kV_is_within dc_is_within pm_is_within an_is_within cd_is_within ct_is_within), sl_is_within⟩) (c_is_within : PySem.W.codeIn K cd_is_within "is_within" = true) (k_is_within : PySem.W.keepIn K (.ref f_is_within) = true)
    (a_leads : PySem.W.nsIn K mainGlobals "leads" = some (some (.ref f_leads)))
    (l_leads : K.lookup f_leads = some ⟨oc_leads, od_leads, .func (PySem.W.fnOf "leads" "leads" (defArgs s_leads) (defBody s_leads) (defScope s_leads) .none kV_leads dc_leads pm_leads an_leads cd_leads ct_leads), sl_leads⟩) (c_leads : PySem.W.codeIn K cd_leads "leads" = true) (k_leads : PySem.W.keepIn K (.ref f_leads) = true)
    (a__law_source : PySem.W.nsIn K mainGlobals "_law_source" = some (some (.ref f__law_source)))
    (l__law_source : K.lookup f__law_source = some ⟨oc__law_source, od__law_source, .func (PySem.W.fnOf "_law_source" "_law_source" (defArgs s__law_source) (defBody s__law_source) (defScope s__law_source) .none kV__law_source dc__law_source pm__law_source an__law_source cd__law_source ct__law_source), sl__law_source⟩) (c__law_source : PySem.W.codeIn K cd__law_source "_law_source" = true) (k__law_source : PySem.W.keepIn K (.ref f__law_source) = true)
    (a__law_draw : PySem.W.nsIn K mainGlobals "_law_draw" = some (some (.ref f__law_draw)))
    (l__law_draw : K.lookup f__law_draw = some ⟨oc__law_draw, od__law_draw, .func (PySem.W.fnOf "_law_draw" "_law_draw" (defArgs s__law_draw) (defBody s__law_draw) (defScope s__law_draw) .none kV__law_draw dc__law_draw pm__law_draw an__law_draw cd__law_draw ct__law_draw), sl__law_draw⟩) (c__law_draw : PySem.W.codeIn K cd__law_draw "_law_draw" = true) (k__law_draw : PySem.W.keepIn K (.ref f__law_draw) = true)
    (a__law_pick : PySem.W.nsIn K mainGlobals "_law_pick" = some (some (.ref f__law_pick)))
    (l__law_pick : K.lookup f__law_pick = some ⟨oc__law_pick, od__law_pick, .func (PySem.W.fnOf "_law_pick" "_law_pick" (defArgs s__law_pick) (defBody s__law_pick) (defScope s__law_pick) .none kV__law_pick dc__law_pick pm__law_pick an__law_pick cd__law_pick ct__law_pick), sl__law_pick⟩) (c__law_pick : PySem.W.codeIn K cd__law_pick "_law_pick" = true) (k__law_pick : PySem.W.keepIn K (.ref f__law_pick) = true)
    (a__law_name : PySem.W.nsIn K mainGlobals "_law_name" = some (some (.ref f__law_name)))
    (l__law_name : K.lookup f__law_name = some ⟨oc__law_name, od__law_name, .func (PySem.W.fnOf "_law_name" "_law_name" (defArgs s__law_name) (defBody s__law_name) (defScope s__law_name) .none kV__law_name dc__law_name pm__law_name an__law_name cd__law_name ct__law_name), sl__law_name⟩) (c__law_name : PySem.W.codeIn K cd__law_name "_law_name" = true) (k__law_name : PySem.W.keepIn K (.ref f__law_name) = true)
    (a__law_names : PySem.W.nsIn K mainGlobals "_law_names" = some (some (.ref f__law_names)))
    (l__law_names : K.lookup f__law_names = some ⟨oc__law_names, od__law_names, .func (PySem.W.fnOf "_law_names" "_law_names" (defArgs s__law_names) (defBody s__law_names) (defScope s__law_names) .none kV__law_names dc__law_names pm__law_names an__law_names cd__law_names ct__law_names), sl__law_names⟩) (c__law_names : PySem.W.codeIn K cd__law_names "_law_names" = true) (k__law_names : PySem.W.keepIn K (.ref f__law_names) = true)
    (a__law_places : PySem.W.nsIn K mainGlobals "_law_places" = some (some (.ref f__law_places)))
    (l__law_places : K.lookup f__law_places = some ⟨oc__law_places, od__law_places, .func (PySem.W.fnOf "_law_places" "_law_places" (defArgs s__law_places) (defBody s__law_places) (defScope s__law_places) .none kV__law_places dc__law_places pm__law_places an__law_places cd__law_places ct__law_places), sl__law_places⟩) (c__law_places : PySem.W.codeIn K cd__law_places "_law_places" = true) (k__law_places : PySem.W.keepIn K (.ref f__law_places) = true)
    (a__law_group_names : PySem.W.nsIn K mainGlobals "_law_group_names" = some (some (.ref f__law_group_names)))
    (l__law_group_names : K.lookup f__law_group_names = some ⟨oc__law_group_names, od__law_group_names, .func (PySem.W.fnOf "_law_group_names" "_law_group_names" (defArgs s__law_group_names) (defBody s__law_group_names) (defScope s__law_group_names) .none kV__law_group_names dc__law_group_names pm__law_group_names an__law_group_names cd__law_group_names ct__law_group_names), sl__law_group_names⟩) (c__law_group_names : PySem.W.codeIn K cd__law_group_names "_law_group_names" = true) (k__law_group_names : PySem.W.keepIn K (.ref f__law_group_names) = true)
    (a__law_states : PySem.W.nsIn K mainGlobals "_law_states" = some (some (.ref f__law_states)))
    (l__law_states : K.lookup f__law_states = some ⟨oc__law_states, od__law_states, .func (PySem.W.fnOf "_law_states" "_law_states" (defArgs s__law_states) (defBody s__law_states) (defScope s__law_states) .none kV__law_states dc__law_states pm__law_states an__law_states cd__law_states ct__law_states), sl__law_states⟩) (c__law_states : PySem.W.codeIn K cd__law_states "_law_states" = true) (k__law_states : PySem.W.keepIn K (.ref f__law_states) = true)
    (a__law_groups : PySem.W.nsIn K mainGlobals "_law_groups" = some (some (.ref f__law_groups)))
    (l__law_groups : K.lookup f__law_groups = some ⟨oc__law_groups, od__law_groups, .func (PySem.W.fnOf "_law_groups" "_law_groups" (defArgs s__law_groups) (defBody s__law_groups) (defScope s__law_groups) .none kV__law_groups dc__law_groups pm__law_groups an__law_groups cd__law_groups ct__law_groups), sl__law_groups⟩) (c__law_groups : PySem.W.codeIn K cd__law_groups "_law_groups" = true) (k__law_groups : PySem.W.keepIn K (.ref f__law_groups) = true)
    (a__law_rules : PySem.W.nsIn K mainGlobals "_law_rules" = some (some (.ref f__law_rules)))
    (l__law_rules : K.lookup f__law_rules = some ⟨oc__law_rules, od__law_rules, .func (PySem.W.fnOf "_law_rules" "_law_rules" (defArgs s__law_rules) (defBody s__law_rules) (defScope s__law_rules) .none kV__law_rules dc__law_rules pm__law_rules an__law_rules cd__law_rules ct__law_rules), sl__law_rules⟩) (c__law_rules : PySem.W.codeIn K cd__law_rules "_law_rules" = true) (k__law_rules : PySem.W.keepIn K (.ref f__law_rules) = true)
    (a__law_alike : PySem.W.nsIn K mainGlobals "_law_alike" = some (some (.ref f__law_alike)))
    (l__law_alike : K.lookup f__law_alike = some ⟨oc__law_alike, od__law_alike, .func (PySem.W.fnOf "_law_alike" "_law_alike" (defArgs s__law_alike) (defBody s__law_alike) (defScope s__law_alike) .none kV__law_alike dc__law_alike pm__law_alike an__law_alike cd__law_alike ct__law_alike), sl__law_alike⟩) (c__law_alike : PySem.W.codeIn K cd__law_alike "_law_alike" = true) (k__law_alike : PySem.W.keepIn K (.ref f__law_alike) = true)
    (a_law : PySem.W.nsIn K mainGlobals "law" = some (some (.ref f_law)))
    (l_law : K.lookup f_law = some ⟨oc_law, od_law, .func (PySem.W.fnOf "law" "law" (defArgs s_law) (defBody s_law) (defScope s_law) .none kV_law dc_law pm_law an_law cd_law ct_law), sl_law⟩) (c_law : PySem.W.codeIn K cd_law "law" = true) (k_law : PySem.W.keepIn K (.ref f_law) = true)
    (m_len : PySem.W.nsIn K mainGlobals "len" = some none)
    (m_int : PySem.W.nsIn K mainGlobals "int" = some none)
    (m_bool : PySem.W.nsIn K mainGlobals "bool" = some none)
    (m_str : PySem.W.nsIn K mainGlobals "str" = some none)
    (m_list : PySem.W.nsIn K mainGlobals "list" = some none)
    (m_tuple : PySem.W.nsIn K mainGlobals "tuple" = some none)
    (m_dict : PySem.W.nsIn K mainGlobals "dict" = some none)
    (m_range : PySem.W.nsIn K mainGlobals "range" = some none)
    (m_zip : PySem.W.nsIn K mainGlobals "zip" = some none)
    (m_enumerate : PySem.W.nsIn K mainGlobals "enumerate" = some none)
    (m_isinstance : PySem.W.nsIn K mainGlobals "isinstance" = some none)
    (m_max : PySem.W.nsIn K mainGlobals "max" = some none)
    (m_min : PySem.W.nsIn K mainGlobals "min" = some none)
    (m_abs : PySem.W.nsIn K mainGlobals "abs" = some none)
    (m_any : PySem.W.nsIn K mainGlobals "any" = some none)
    (m_all : PySem.W.nsIn K mainGlobals "all" = some none)
    (m_sorted : PySem.W.nsIn K mainGlobals "sorted" = some none)
    (m_super : PySem.W.nsIn K mainGlobals "super" = some none)
    (m_ValueError : PySem.W.nsIn K mainGlobals "ValueError" = some none)
    (g_BOUND : PySem.W.nsIn K mainGlobals "BOUND" = some (some (.int 1000000000000000000000000000000 t_BOUND)))
    (g_MOST_LETTERS : PySem.W.nsIn K mainGlobals "MOST_LETTERS" = some (some (.int 8 t_MOST_LETTERS)))
    (g_PLACES : PySem.W.nsIn K mainGlobals "PLACES" = some (some (.ref a_PLACES))) (l_PLACES : K.lookup a_PLACES = some o_PLACES) (c_PLACES : o_PLACES.cls = .type "tuple") (e_PLACES : o_PLACES.dict = none) (d_PLACES : o_PLACES.data = .seq i_PLACES n_PLACES) (z_PLACES : i_PLACES.size ≤ sizeLine) (v_PLACES : Vals [.str "below", .str "-<", .str "-=", .str "->", .str "<", .str "=", .str ">", .str "+<", .str "+=", .str "+>", .str "above"] i_PLACES.toList)
    (g_LONG_GROUPS : PySem.W.nsIn K mainGlobals "LONG_GROUPS" = some (some (.ref a_LONG_GROUPS))) (l_LONG_GROUPS : K.lookup a_LONG_GROUPS = some ⟨.type "dict", none, .dict es_LONG_GROUPS n_LONG_GROUPS, #[]⟩) (y_LONG_GROUPS : (a_LONG_GROUPS == sysModules) = false)
    (x_LONG_GROUPS : NL.KPairs w.params [("any", .ref a_LONG_GROUPS_any), ("near", .ref a_LONG_GROUPS_near), ("far", .ref a_LONG_GROUPS_far), ("less", .ref a_LONG_GROUPS_less), ("more", .ref a_LONG_GROUPS_more), ("under", .ref a_LONG_GROUPS_under), ("over", .ref a_LONG_GROUPS_over), ("cell", .ref a_LONG_GROUPS_cell), ("none", .ref a_LONG_GROUPS_none)] es_LONG_GROUPS.toList)
    (l_LONG_GROUPS_any : K.lookup a_LONG_GROUPS_any = some o_LONG_GROUPS_any) (c_LONG_GROUPS_any : o_LONG_GROUPS_any.cls = .type "tuple") (e_LONG_GROUPS_any : o_LONG_GROUPS_any.dict = none) (d_LONG_GROUPS_any : o_LONG_GROUPS_any.data = .seq i_LONG_GROUPS_any n_LONG_GROUPS_any) (z_LONG_GROUPS_any : i_LONG_GROUPS_any.size ≤ sizeLine) (v_LONG_GROUPS_any : Vals [.str "below", .str "-<", .str "-=", .str "->", .str "<", .str "=", .str ">", .str "+<", .str "+=", .str "+>", .str "above"] i_LONG_GROUPS_any.toList)
    (l_LONG_GROUPS_near : K.lookup a_LONG_GROUPS_near = some o_LONG_GROUPS_near) (c_LONG_GROUPS_near : o_LONG_GROUPS_near.cls = .type "tuple") (e_LONG_GROUPS_near : o_LONG_GROUPS_near.dict = none) (d_LONG_GROUPS_near : o_LONG_GROUPS_near.data = .seq i_LONG_GROUPS_near n_LONG_GROUPS_near) (z_LONG_GROUPS_near : i_LONG_GROUPS_near.size ≤ sizeLine) (v_LONG_GROUPS_near : Vals [.str "-=", .str "->", .str "<", .str "=", .str ">", .str "+<", .str "+="] i_LONG_GROUPS_near.toList)
    (l_LONG_GROUPS_far : K.lookup a_LONG_GROUPS_far = some o_LONG_GROUPS_far) (c_LONG_GROUPS_far : o_LONG_GROUPS_far.cls = .type "tuple") (e_LONG_GROUPS_far : o_LONG_GROUPS_far.dict = none) (d_LONG_GROUPS_far : o_LONG_GROUPS_far.data = .seq i_LONG_GROUPS_far n_LONG_GROUPS_far) (z_LONG_GROUPS_far : i_LONG_GROUPS_far.size ≤ sizeLine) (v_LONG_GROUPS_far : Vals [.str "below", .str "-<", .str "+>", .str "above"] i_LONG_GROUPS_far.toList)
    (l_LONG_GROUPS_less : K.lookup a_LONG_GROUPS_less = some o_LONG_GROUPS_less) (c_LONG_GROUPS_less : o_LONG_GROUPS_less.cls = .type "tuple") (e_LONG_GROUPS_less : o_LONG_GROUPS_less.dict = none) (d_LONG_GROUPS_less : o_LONG_GROUPS_less.data = .seq i_LONG_GROUPS_less n_LONG_GROUPS_less) (z_LONG_GROUPS_less : i_LONG_GROUPS_less.size ≤ sizeLine) (v_LONG_GROUPS_less : Vals [.str "below", .str "-<", .str "-=", .str "->", .str "<"] i_LONG_GROUPS_less.toList)
    (l_LONG_GROUPS_more : K.lookup a_LONG_GROUPS_more = some o_LONG_GROUPS_more) (c_LONG_GROUPS_more : o_LONG_GROUPS_more.cls = .type "tuple") (e_LONG_GROUPS_more : o_LONG_GROUPS_more.dict = none) (d_LONG_GROUPS_more : o_LONG_GROUPS_more.data = .seq i_LONG_GROUPS_more n_LONG_GROUPS_more) (z_LONG_GROUPS_more : i_LONG_GROUPS_more.size ≤ sizeLine) (v_LONG_GROUPS_more : Vals [.str ">", .str "+<", .str "+=", .str "+>", .str "above"] i_LONG_GROUPS_more.toList)
    (l_LONG_GROUPS_under : K.lookup a_LONG_GROUPS_under = some o_LONG_GROUPS_under) (c_LONG_GROUPS_under : o_LONG_GROUPS_under.cls = .type "tuple") (e_LONG_GROUPS_under : o_LONG_GROUPS_under.dict = none) (d_LONG_GROUPS_under : o_LONG_GROUPS_under.data = .seq i_LONG_GROUPS_under n_LONG_GROUPS_under) (z_LONG_GROUPS_under : i_LONG_GROUPS_under.size ≤ sizeLine) (v_LONG_GROUPS_under : Vals [.str "below", .str "-<"] i_LONG_GROUPS_under.toList)
    (l_LONG_GROUPS_over : K.lookup a_LONG_GROUPS_over = some o_LONG_GROUPS_over) (c_LONG_GROUPS_over : o_LONG_GROUPS_over.cls = .type "tuple") (e_LONG_GROUPS_over : o_LONG_GROUPS_over.dict = none) (d_LONG_GROUPS_over : o_LONG_GROUPS_over.data = .seq i_LONG_GROUPS_over n_LONG_GROUPS_over) (z_LONG_GROUPS_over : i_LONG_GROUPS_over.size ≤ sizeLine) (v_LONG_GROUPS_over : Vals [.str "+>", .str "above"] i_LONG_GROUPS_over.toList)
    (l_LONG_GROUPS_cell : K.lookup a_LONG_GROUPS_cell = some o_LONG_GROUPS_cell) (c_LONG_GROUPS_cell : o_LONG_GROUPS_cell.cls = .type "tuple") (e_LONG_GROUPS_cell : o_LONG_GROUPS_cell.dict = none) (d_LONG_GROUPS_cell : o_LONG_GROUPS_cell.data = .seq i_LONG_GROUPS_cell n_LONG_GROUPS_cell) (z_LONG_GROUPS_cell : i_LONG_GROUPS_cell.size ≤ sizeLine) (v_LONG_GROUPS_cell : Vals [.str "<", .str "=", .str ">"] i_LONG_GROUPS_cell.toList)
    (l_LONG_GROUPS_none : K.lookup a_LONG_GROUPS_none = some o_LONG_GROUPS_none) (c_LONG_GROUPS_none : o_LONG_GROUPS_none.cls = .type "tuple") (e_LONG_GROUPS_none : o_LONG_GROUPS_none.dict = none) (d_LONG_GROUPS_none : o_LONG_GROUPS_none.data = .seq i_LONG_GROUPS_none n_LONG_GROUPS_none) (z_LONG_GROUPS_none : i_LONG_GROUPS_none.size ≤ sizeLine) (v_LONG_GROUPS_none : Vals [] i_LONG_GROUPS_none.toList)
    (g_SIGNS : PySem.W.nsIn K mainGlobals "SIGNS" = some (some (.ref a_SIGNS))) (l_SIGNS : K.lookup a_SIGNS = some o_SIGNS) (c_SIGNS : o_SIGNS.cls = .type "tuple") (e_SIGNS : o_SIGNS.dict = none) (d_SIGNS : o_SIGNS.data = .seq i_SIGNS n_SIGNS) (z_SIGNS : i_SIGNS.size ≤ sizeLine) (v_SIGNS : Vals [.str "<", .str "=", .str ">"] i_SIGNS.toList)
    (g_TURNED_SIGNS : PySem.W.nsIn K mainGlobals "TURNED_SIGNS" = some (some (.ref a_TURNED_SIGNS)))
    (l_TURNED_SIGNS : K.lookup a_TURNED_SIGNS = some ⟨.type "dict", none, .dict es_TURNED_SIGNS n_TURNED_SIGNS, #[]⟩) (y_TURNED_SIGNS : (a_TURNED_SIGNS == sysModules) = false) (x_TURNED_SIGNS : NL.KPairs w.params [("<", .str ">"), ("=", .str "="), (">", .str "<")] es_TURNED_SIGNS.toList)
    (g_REST_PLACES : PySem.W.nsIn K mainGlobals "REST_PLACES" = some (some (.ref a_REST_PLACES)))
    (l_REST_PLACES : K.lookup a_REST_PLACES = some ⟨.type "dict", none, .dict es_REST_PLACES n_REST_PLACES, #[]⟩) (y_REST_PLACES : (a_REST_PLACES == sysModules) = false) (x_REST_PLACES : NL.KPairs w.params [("<", .ref a_REST_PLACES_0), ("=", .ref a_REST_PLACES_1), (">", .ref a_REST_PLACES_2)] es_REST_PLACES.toList)
    (l_REST_PLACES_0 : K.lookup a_REST_PLACES_0 = some o_REST_PLACES_0) (c_REST_PLACES_0 : o_REST_PLACES_0.cls = .type "tuple") (d_REST_PLACES_0 : o_REST_PLACES_0.data = .seq i_REST_PLACES_0 n_REST_PLACES_0) (z_REST_PLACES_0 : i_REST_PLACES_0.size ≤ sizeLine) (v_REST_PLACES_0 : Vals [.ref a_REST_PLACES_0_0, .ref a_REST_PLACES_0_1, .ref a_REST_PLACES_0_2, .ref a_REST_PLACES_0_3, .ref a_REST_PLACES_0_4] i_REST_PLACES_0.toList)
    (l_REST_PLACES_0_0 : K.lookup a_REST_PLACES_0_0 = some o_REST_PLACES_0_0) (c_REST_PLACES_0_0 : o_REST_PLACES_0_0.cls = .type "tuple") (d_REST_PLACES_0_0 : o_REST_PLACES_0_0.data = .seq i_REST_PLACES_0_0 n_REST_PLACES_0_0) (z_REST_PLACES_0_0 : i_REST_PLACES_0_0.size ≤ sizeLine) (v_REST_PLACES_0_0 : Vals [.str "<", .str "<"] i_REST_PLACES_0_0.toList)
    (l_REST_PLACES_0_1 : K.lookup a_REST_PLACES_0_1 = some o_REST_PLACES_0_1) (c_REST_PLACES_0_1 : o_REST_PLACES_0_1.cls = .type "tuple") (d_REST_PLACES_0_1 : o_REST_PLACES_0_1.data = .seq i_REST_PLACES_0_1 n_REST_PLACES_0_1) (z_REST_PLACES_0_1 : i_REST_PLACES_0_1.size ≤ sizeLine) (v_REST_PLACES_0_1 : Vals [.str "<", .str "="] i_REST_PLACES_0_1.toList)
    (l_REST_PLACES_0_2 : K.lookup a_REST_PLACES_0_2 = some o_REST_PLACES_0_2) (c_REST_PLACES_0_2 : o_REST_PLACES_0_2.cls = .type "tuple") (d_REST_PLACES_0_2 : o_REST_PLACES_0_2.data = .seq i_REST_PLACES_0_2 n_REST_PLACES_0_2) (z_REST_PLACES_0_2 : i_REST_PLACES_0_2.size ≤ sizeLine) (v_REST_PLACES_0_2 : Vals [.str "<", .str ">"] i_REST_PLACES_0_2.toList)
    (l_REST_PLACES_0_3 : K.lookup a_REST_PLACES_0_3 = some o_REST_PLACES_0_3) (c_REST_PLACES_0_3 : o_REST_PLACES_0_3.cls = .type "tuple") (d_REST_PLACES_0_3 : o_REST_PLACES_0_3.data = .seq i_REST_PLACES_0_3 n_REST_PLACES_0_3) (z_REST_PLACES_0_3 : i_REST_PLACES_0_3.size ≤ sizeLine) (v_REST_PLACES_0_3 : Vals [.str "=", .str ">"] i_REST_PLACES_0_3.toList)
    (l_REST_PLACES_0_4 : K.lookup a_REST_PLACES_0_4 = some o_REST_PLACES_0_4) (c_REST_PLACES_0_4 : o_REST_PLACES_0_4.cls = .type "tuple") (d_REST_PLACES_0_4 : o_REST_PLACES_0_4.data = .seq i_REST_PLACES_0_4 n_REST_PLACES_0_4) (z_REST_PLACES_0_4 : i_REST_PLACES_0_4.size ≤ sizeLine) (v_REST_PLACES_0_4 : Vals [.str ">", .str ">"] i_REST_PLACES_0_4.toList)
    (l_REST_PLACES_1 : K.lookup a_REST_PLACES_1 = some o_REST_PLACES_1) (c_REST_PLACES_1 : o_REST_PLACES_1.cls = .type "tuple") (d_REST_PLACES_1 : o_REST_PLACES_1.data = .seq i_REST_PLACES_1 n_REST_PLACES_1) (z_REST_PLACES_1 : i_REST_PLACES_1.size ≤ sizeLine) (v_REST_PLACES_1 : Vals [.ref a_REST_PLACES_1_0, .ref a_REST_PLACES_1_1, .ref a_REST_PLACES_1_2] i_REST_PLACES_1.toList)
    (l_REST_PLACES_1_0 : K.lookup a_REST_PLACES_1_0 = some o_REST_PLACES_1_0) (c_REST_PLACES_1_0 : o_REST_PLACES_1_0.cls = .type "tuple") (d_REST_PLACES_1_0 : o_REST_PLACES_1_0.data = .seq i_REST_PLACES_1_0 n_REST_PLACES_1_0) (z_REST_PLACES_1_0 : i_REST_PLACES_1_0.size ≤ sizeLine) (v_REST_PLACES_1_0 : Vals [.str "<", .str "<"] i_REST_PLACES_1_0.toList)
    (l_REST_PLACES_1_1 : K.lookup a_REST_PLACES_1_1 = some o_REST_PLACES_1_1) (c_REST_PLACES_1_1 : o_REST_PLACES_1_1.cls = .type "tuple") (d_REST_PLACES_1_1 : o_REST_PLACES_1_1.data = .seq i_REST_PLACES_1_1 n_REST_PLACES_1_1) (z_REST_PLACES_1_1 : i_REST_PLACES_1_1.size ≤ sizeLine) (v_REST_PLACES_1_1 : Vals [.str "=", .str "="] i_REST_PLACES_1_1.toList)
    (l_REST_PLACES_1_2 : K.lookup a_REST_PLACES_1_2 = some o_REST_PLACES_1_2) (c_REST_PLACES_1_2 : o_REST_PLACES_1_2.cls = .type "tuple") (d_REST_PLACES_1_2 : o_REST_PLACES_1_2.data = .seq i_REST_PLACES_1_2 n_REST_PLACES_1_2) (z_REST_PLACES_1_2 : i_REST_PLACES_1_2.size ≤ sizeLine) (v_REST_PLACES_1_2 : Vals [.str ">", .str ">"] i_REST_PLACES_1_2.toList)
    (l_REST_PLACES_2 : K.lookup a_REST_PLACES_2 = some o_REST_PLACES_2) (c_REST_PLACES_2 : o_REST_PLACES_2.cls = .type "tuple") (d_REST_PLACES_2 : o_REST_PLACES_2.data = .seq i_REST_PLACES_2 n_REST_PLACES_2) (z_REST_PLACES_2 : i_REST_PLACES_2.size ≤ sizeLine) (v_REST_PLACES_2 : Vals [.ref a_REST_PLACES_2_0, .ref a_REST_PLACES_2_1, .ref a_REST_PLACES_2_2, .ref a_REST_PLACES_2_3, .ref a_REST_PLACES_2_4] i_REST_PLACES_2.toList)
    (l_REST_PLACES_2_0 : K.lookup a_REST_PLACES_2_0 = some o_REST_PLACES_2_0) (c_REST_PLACES_2_0 : o_REST_PLACES_2_0.cls = .type "tuple") (d_REST_PLACES_2_0 : o_REST_PLACES_2_0.data = .seq i_REST_PLACES_2_0 n_REST_PLACES_2_0) (z_REST_PLACES_2_0 : i_REST_PLACES_2_0.size ≤ sizeLine) (v_REST_PLACES_2_0 : Vals [.str "<", .str "<"] i_REST_PLACES_2_0.toList)
    (l_REST_PLACES_2_1 : K.lookup a_REST_PLACES_2_1 = some o_REST_PLACES_2_1) (c_REST_PLACES_2_1 : o_REST_PLACES_2_1.cls = .type "tuple") (d_REST_PLACES_2_1 : o_REST_PLACES_2_1.data = .seq i_REST_PLACES_2_1 n_REST_PLACES_2_1) (z_REST_PLACES_2_1 : i_REST_PLACES_2_1.size ≤ sizeLine) (v_REST_PLACES_2_1 : Vals [.str "=", .str "<"] i_REST_PLACES_2_1.toList)
    (l_REST_PLACES_2_2 : K.lookup a_REST_PLACES_2_2 = some o_REST_PLACES_2_2) (c_REST_PLACES_2_2 : o_REST_PLACES_2_2.cls = .type "tuple") (d_REST_PLACES_2_2 : o_REST_PLACES_2_2.data = .seq i_REST_PLACES_2_2 n_REST_PLACES_2_2) (z_REST_PLACES_2_2 : i_REST_PLACES_2_2.size ≤ sizeLine) (v_REST_PLACES_2_2 : Vals [.str ">", .str "<"] i_REST_PLACES_2_2.toList)
    (l_REST_PLACES_2_3 : K.lookup a_REST_PLACES_2_3 = some o_REST_PLACES_2_3) (c_REST_PLACES_2_3 : o_REST_PLACES_2_3.cls = .type "tuple") (d_REST_PLACES_2_3 : o_REST_PLACES_2_3.data = .seq i_REST_PLACES_2_3 n_REST_PLACES_2_3) (z_REST_PLACES_2_3 : i_REST_PLACES_2_3.size ≤ sizeLine) (v_REST_PLACES_2_3 : Vals [.str ">", .str "="] i_REST_PLACES_2_3.toList)
    (l_REST_PLACES_2_4 : K.lookup a_REST_PLACES_2_4 = some o_REST_PLACES_2_4) (c_REST_PLACES_2_4 : o_REST_PLACES_2_4.cls = .type "tuple") (d_REST_PLACES_2_4 : o_REST_PLACES_2_4.data = .seq i_REST_PLACES_2_4 n_REST_PLACES_2_4) (z_REST_PLACES_2_4 : i_REST_PLACES_2_4.size ≤ sizeLine) (v_REST_PLACES_2_4 : Vals [.str ">", .str ">"] i_REST_PLACES_2_4.toList)
    (g_LONE_SPANS : PySem.W.nsIn K mainGlobals "LONE_SPANS" = some (some (.ref a_LONE_SPANS)))
    (l_LONE_SPANS : K.lookup a_LONE_SPANS = some o_LONE_SPANS) (c_LONE_SPANS : o_LONE_SPANS.cls = .type "tuple") (d_LONE_SPANS : o_LONE_SPANS.data = .seq i_LONE_SPANS n_LONE_SPANS) (z_LONE_SPANS : i_LONE_SPANS.size ≤ sizeLine) (v_LONE_SPANS : Vals [.ref a_LONE_SPANS_0, .ref a_LONE_SPANS_1, .ref a_LONE_SPANS_2, .ref a_LONE_SPANS_3, .ref a_LONE_SPANS_4] i_LONE_SPANS.toList)
    (l_LONE_SPANS_0 : K.lookup a_LONE_SPANS_0 = some o_LONE_SPANS_0) (c_LONE_SPANS_0 : o_LONE_SPANS_0.cls = .type "tuple") (d_LONE_SPANS_0 : o_LONE_SPANS_0.data = .seq i_LONE_SPANS_0 n_LONE_SPANS_0) (z_LONE_SPANS_0 : i_LONE_SPANS_0.size ≤ sizeLine) (v_LONE_SPANS_0 : Vals [.non, .int (-2)] i_LONE_SPANS_0.toList)
    (l_LONE_SPANS_1 : K.lookup a_LONE_SPANS_1 = some o_LONE_SPANS_1) (c_LONE_SPANS_1 : o_LONE_SPANS_1.cls = .type "tuple") (d_LONE_SPANS_1 : o_LONE_SPANS_1.data = .seq i_LONE_SPANS_1 n_LONE_SPANS_1) (z_LONE_SPANS_1 : i_LONE_SPANS_1.size ≤ sizeLine) (v_LONE_SPANS_1 : Vals [.int (-1), .int (-1)] i_LONE_SPANS_1.toList)
    (l_LONE_SPANS_2 : K.lookup a_LONE_SPANS_2 = some o_LONE_SPANS_2) (c_LONE_SPANS_2 : o_LONE_SPANS_2.cls = .type "tuple") (d_LONE_SPANS_2 : o_LONE_SPANS_2.data = .seq i_LONE_SPANS_2 n_LONE_SPANS_2) (z_LONE_SPANS_2 : i_LONE_SPANS_2.size ≤ sizeLine) (v_LONE_SPANS_2 : Vals [.int (0), .int (0)] i_LONE_SPANS_2.toList)
    (l_LONE_SPANS_3 : K.lookup a_LONE_SPANS_3 = some o_LONE_SPANS_3) (c_LONE_SPANS_3 : o_LONE_SPANS_3.cls = .type "tuple") (d_LONE_SPANS_3 : o_LONE_SPANS_3.data = .seq i_LONE_SPANS_3 n_LONE_SPANS_3) (z_LONE_SPANS_3 : i_LONE_SPANS_3.size ≤ sizeLine) (v_LONE_SPANS_3 : Vals [.int (1), .int (1)] i_LONE_SPANS_3.toList)
    (l_LONE_SPANS_4 : K.lookup a_LONE_SPANS_4 = some o_LONE_SPANS_4) (c_LONE_SPANS_4 : o_LONE_SPANS_4.cls = .type "tuple") (d_LONE_SPANS_4 : o_LONE_SPANS_4.data = .seq i_LONE_SPANS_4 n_LONE_SPANS_4) (z_LONE_SPANS_4 : i_LONE_SPANS_4.size ≤ sizeLine) (v_LONE_SPANS_4 : Vals [.int (2), .non] i_LONE_SPANS_4.toList)
    (g_MOST_RULES : PySem.W.nsIn K mainGlobals "MOST_RULES" = some (some (.int 40 t_MOST_RULES)))
    (g_MOST_STATES : PySem.W.nsIn K mainGlobals "MOST_STATES" = some (some (.int 6 t_MOST_STATES)))
    (g_GAP_WORDS : PySem.W.nsIn K mainGlobals "GAP_WORDS" = some (some (.ref a_GAP_WORDS))) (l_GAP_WORDS : K.lookup a_GAP_WORDS = some o_GAP_WORDS) (c_GAP_WORDS : o_GAP_WORDS.cls = .type "tuple") (e_GAP_WORDS : o_GAP_WORDS.dict = none) (d_GAP_WORDS : o_GAP_WORDS.data = .seq i_GAP_WORDS n_GAP_WORDS) (z_GAP_WORDS : i_GAP_WORDS.size ≤ sizeLine) (v_GAP_WORDS : Vals [.str "none", .str "first", .str "second"] i_GAP_WORDS.toList) :
    ∃ fd : FuncData, (∀ (s : Shared) (v : Value), BindsTo s fd ⟨[v], []⟩ [("_law_script", v)]) ∧ ∀ base : Heap, K.In base → base.Ns mainGlobals mg → FnOk l.prog w K mg base CX0 6 fa fd ["_law_script"] (sp_law K) := by
  have e := hfa.symm.trans (PySem.W.mg_of X G a_law)
  cases e
  have F_is_name := fun_mk (st := s_is_name) l_is_name c_is_name k_is_name
  have b_is_name := F_is_name.binds (ps := ["value"]) fun _ _ _ _ _ _ us hl => match us, hl with | [_], _ => rfl
  have F_is_number := fun_mk (st := s_is_number) l_is_number c_is_number k_is_number
  have b_is_number := F_is_number.binds (ps := ["value"]) fun _ _ _ _ _ _ us hl => match us, hl with | [_], _ => rfl
  have F_place_of := fun_mk (st := s_place_of) l_place_of c_place_of k_place_of
  have b_place_of := F_place_of.binds (ps := ["step", "sign"]) fun _ _ _ _ _ _ us hl => match us, hl with | [_, _], _ => rfl
  have F_is_group := fun_mk (st := s_is_group) l_is_group c_is_group k_is_group
  have b_is_group := F_is_group.binds (ps := ["name"]) fun _ _ _ _ _ _ us hl => match us, hl with | [_], _ => rfl
  have F_group := fun_mk (st := s_group) l_group c_group k_group
  have b_group := F_group.binds (ps := ["name"]) fun _ _ _ _ _ _ us hl => match us, hl with | [_], _ => rfl
  have F_spans_of := fun_mk (st := s_spans_of) l_spans_of c_spans_of k_spans_of
  have b_spans_of := F_spans_of.binds (ps := ["d"]) fun _ _ _ _ _ _ us hl => match us, hl with | [_], _ => rfl
  have F_numbers_by_places := fun_mk (st := s_numbers_by_places) l_numbers_by_places c_numbers_by_places k_numbers_by_places
  have b_numbers_by_places := F_numbers_by_places.binds (ps := ["gap"]) fun _ _ _ _ _ _ us hl => match us, hl with | [_], _ => rfl
  have F_turned_span := fun_mk (st := s_turned_span) l_turned_span c_turned_span k_turned_span
  have b_turned_span := F_turned_span.binds (ps := ["span", "d"]) fun _ _ _ _ _ _ us hl => match us, hl with | [_, _], _ => rfl
  have F_gap_behind := fun_mk (st := s_gap_behind) l_gap_behind c_gap_behind k_gap_behind
  have b_gap_behind := F_gap_behind.binds (ps := ["gap", "span", "signs", "keeps"]) fun _ _ _ _ _ _ us hl => match us, hl with | [_, _, _, _], _ => rfl
  have F_outcomes_of := fun_mk (st := s_outcomes_of) l_outcomes_of c_outcomes_of k_outcomes_of
  have b_outcomes_of := F_outcomes_of.binds (ps := ["gap", "keeps", "numbers"]) fun _ _ _ _ _ _ us hl => match us, hl with | [_, _, _], _ => rfl
  have F_Menus___init__ := fun_mk (st := s_Menus___init__) l_Menus___init__ c_Menus___init__ k_Menus___init__
  have b_Menus___init__ := F_Menus___init__.binds (ps := ["self"]) fun _ _ _ _ _ _ us hl => match us, hl with | [_], _ => rfl
  have F_Menus_at := fun_mk (st := s_Menus_at) l_Menus_at c_Menus_at k_Menus_at
  have b_Menus_at := F_Menus_at.binds (ps := ["self", "gap"]) fun _ _ _ _ _ _ us hl => match us, hl with | [_, _], _ => rfl
  have F_moves_of := fun_mk (st := s_moves_of) l_moves_of c_moves_of k_moves_of
  have b_moves_of := F_moves_of.binds (ps := ["pair", "menus", "node"]) fun _ _ _ _ _ _ us hl => match us, hl with | [_, _, _], _ => rfl
  have F_is_rule := fun_mk (st := s_is_rule) l_is_rule c_is_rule k_is_rule
  have b_is_rule := F_is_rule.binds (ps := ["rule"]) fun _ _ _ _ _ _ us hl => match us, hl with | [_], _ => rfl
  have F_states_of := fun_mk (st := s_states_of) l_states_of c_states_of k_states_of
  have b_states_of := F_states_of.binds (ps := ["rules"]) fun _ _ _ _ _ _ us hl => match us, hl with | [_], _ => rfl
  have F_invalid_rule := fun_mk (st := s_invalid_rule) l_invalid_rule c_invalid_rule k_invalid_rule
  have b_invalid_rule := F_invalid_rule.binds (ps := ["rules"]) fun _ _ _ _ _ _ us hl => match us, hl with | [_], _ => rfl
  have F_Loop___init__ : FunD K "__init__" "Loop.__init__" (defArgs s_Loop___init__) (defBody s_Loop___init__) (defScope s_Loop___init__) [.non] [] f_Loop___init__ _ := ⟨⟨_, _, _, _, _, _, _, _, _, _, rfl, l_Loop___init__, c_Loop___init__, .inr ⟨fun z => (nomatch z), _, _, _, _, rfl, u_Loop___init__, ud_Loop___init__, uv_Loop___init__⟩, .inl rfl⟩, k_Loop___init__⟩
  have b0_Loop___init__ := F_Loop___init__.binds1 (ps := ["self", "rules", "answers"]) 2 0 (fun z => nomatch z) (by decide) fun _ _ _ _ _ _ _ us its hu hi => match us, its, hu, hi with | [_, _], [_], _, _ => ⟨_, rfl, rfl⟩
  have b1_Loop___init__ := F_Loop___init__.binds1 (ps := ["self", "rules", "answers"]) 3 1 (fun z => nomatch z) (by decide) fun _ _ _ _ _ _ _ us its hu hi => match us, its, hu, hi with | [_, _, _], [_], _, _ => ⟨_, rfl, rfl⟩
  have b_Loop___init__ : Binds K (PySem.W.fnOf "__init__" "Loop.__init__" (defArgs s_Loop___init__) (defBody s_Loop___init__) (defScope s_Loop___init__) (.ref dt_Loop___init__) kV_Loop___init__ dc_Loop___init__ pm_Loop___init__ an_Loop___init__ cd_Loop___init__ ct_Loop___init__) ["self", "rules", "answers"] [] := by obtain ⟨ds, hv, hb⟩ := b1_Loop___init__; cases hv; exact hb
  have F_Loop_states := fun_mk (st := s_Loop_states) l_Loop_states c_Loop_states k_Loop_states
  have b_Loop_states := F_Loop_states.binds (ps := ["self"]) fun _ _ _ _ _ _ us hl => match us, hl with | [_], _ => rfl
  have F_used := fun_mk (st := s_used) l_used c_used k_used
  have b_used := F_used.binds (ps := ["loop", "state", "place"]) fun _ _ _ _ _ _ us hl => match us, hl with | [_, _, _], _ => rfl
  have F_Loops___init__ := fun_mk (st := s_Loops___init__) l_Loops___init__ c_Loops___init__ k_Loops___init__
  have b_Loops___init__ := F_Loops___init__.binds (ps := ["self", "one", "other", "by"]) fun _ _ _ _ _ _ us hl => match us, hl with | [_, _, _, _], _ => rfl
  have F_Loops_react := fun_mk (st := s_Loops_react) l_Loops_react c_Loops_react k_Loops_react
  have b_Loops_react := F_Loops_react.binds (ps := ["self", "state", "other", "where", "other_where"]) fun _ _ _ _ _ _ us hl => match us, hl with | [_, _, _, _, _], _ => rfl
  have F_is_gap := fun_mk (st := s_is_gap) l_is_gap c_is_gap k_is_gap
  have b_is_gap := F_is_gap.binds (ps := ["value"]) fun _ _ _ _ _ _ us hl => match us, hl with | [_], _ => rfl
  have F_as_joint := fun_mk (st := s_as_joint) l_as_joint c_as_joint k_as_joint
  have b_as_joint := F_as_joint.binds (ps := ["one", "other", "value"]) fun _ _ _ _ _ _ us hl => match us, hl with | [_, _, _], _ => rfl
  have F_is_within := fun_mk (st := s_is_within) l_is_within c_is_within k_is_within
  have b_is_within := F_is_within.binds (ps := ["behind", "gap"]) fun _ _ _ _ _ _ us hl => match us, hl with | [_, _], _ => rfl
  have F_leads := fun_mk (st := s_leads) l_leads c_leads k_leads
  have b_leads := F_leads.binds (ps := ["one", "other", "state", "later"]) fun _ _ _ _ _ _ us hl => match us, hl with | [_, _, _, _], _ => rfl
  have F__law_source := fun_mk (st := s__law_source) l__law_source c__law_source k__law_source
  have b__law_source := F__law_source.binds (ps := ["_law_script"]) fun _ _ _ _ _ _ us hl => match us, hl with | [_], _ => rfl
  have F__law_draw := fun_mk (st := s__law_draw) l__law_draw c__law_draw k__law_draw
  have b__law_draw := F__law_draw.binds (ps := ["_law_source_here", "_law_many"]) fun _ _ _ _ _ _ us hl => match us, hl with | [_, _], _ => rfl
  have F__law_pick := fun_mk (st := s__law_pick) l__law_pick c__law_pick k__law_pick
  have b__law_pick := F__law_pick.binds (ps := ["_law_source_here", "_law_things"]) fun _ _ _ _ _ _ us hl => match us, hl with | [_, _], _ => rfl
  have F__law_name := fun_mk (st := s__law_name) l__law_name c__law_name k__law_name
  have b__law_name := F__law_name.binds (ps := ["_law_source_here", "_law_taken"]) fun _ _ _ _ _ _ us hl => match us, hl with | [_, _], _ => rfl
  have F__law_names := fun_mk (st := s__law_names) l__law_names c__law_names k__law_names
  have b__law_names := F__law_names.binds (ps := ["_law_source_here", "_law_many"]) fun _ _ _ _ _ _ us hl => match us, hl with | [_, _], _ => rfl
  have F__law_places := fun_mk (st := s__law_places) l__law_places c__law_places k__law_places
  have b__law_places := F__law_places.binds (ps := []) fun _ _ _ _ _ _ us hl => match us, hl with | [], _ => rfl
  have F__law_group_names := fun_mk (st := s__law_group_names) l__law_group_names c__law_group_names k__law_group_names
  have b__law_group_names := F__law_group_names.binds (ps := []) fun _ _ _ _ _ _ us hl => match us, hl with | [], _ => rfl
  have F__law_states := fun_mk (st := s__law_states) l__law_states c__law_states k__law_states
  have b__law_states := F__law_states.binds (ps := ["_law_rules_here"]) fun _ _ _ _ _ _ us hl => match us, hl with | [_], _ => rfl
  have F__law_groups := fun_mk (st := s__law_groups) l__law_groups c__law_groups k__law_groups
  have b__law_groups := F__law_groups.binds (ps := ["_law_source_here", "_law_first"]) fun _ _ _ _ _ _ us hl => match us, hl with | [_, _], _ => rfl
  have F__law_rules := fun_mk (st := s__law_rules) l__law_rules c__law_rules k__law_rules
  have b__law_rules := F__law_rules.binds (ps := ["_law_source_here", "_law_many", "_law_most"]) fun _ _ _ _ _ _ us hl => match us, hl with | [_, _, _], _ => rfl
  have F__law_alike := fun_mk (st := s__law_alike) l__law_alike c__law_alike k__law_alike
  have b__law_alike := F__law_alike.binds (ps := ["_law_found"]) fun _ _ _ _ _ _ us hl => match us, hl with | [_], _ => rfl
  have F_law := fun_mk (st := s_law) l_law c_law k_law
  have b_law := F_law.binds (ps := ["_law_script"]) fun _ _ _ _ _ _ us hl => match us, hl with | [_], _ => rfl
  exact ⟨PySem.W.fnOf "law" "law" (defArgs s_law) (defBody s_law) (defScope s_law) .none kV_law dc_law pm_law an_law cd_law ct_law, fun s v => .of_eq rfl, fun base _ _ => ok_law { a_Menus := C_Menus, g_Menus := PySem.W.mg_of X G gc_Menus, cl_Menus := ⟨pg_Menus, hd_Menus, po_Menus, sa_Menus⟩, no_Menus_known := no_Menus_known, a_Loop := C_Loop, g_Loop := PySem.W.mg_of X G gc_Loop, cl_Loop := ⟨pg_Loop, hd_Loop, po_Loop, sa_Loop⟩, no_Loop_own_rules := no_Loop_own_rules, no_Loop_own_answers := no_Loop_own_answers, no_Loop_table := no_Loop_table, a_Loops := C_Loops, g_Loops := PySem.W.mg_of X G gc_Loops, cl_Loops := ⟨pg_Loops, hd_Loops, po_Loops, sa_Loops⟩, no_Loops_one := no_Loops_one, no_Loops_other := no_Loops_other, no_Loops_by := no_Loops_by, a_is_name := f_is_name, fd_is_name := _, F_is_name := F_is_name, b_is_name := b_is_name, g_is_name := PySem.W.mg_of X G a_is_name, a_is_number := f_is_number, fd_is_number := _, F_is_number := F_is_number, b_is_number := b_is_number, g_is_number := PySem.W.mg_of X G a_is_number, a_place_of := f_place_of, fd_place_of := _, F_place_of := F_place_of, b_place_of := b_place_of, g_place_of := PySem.W.mg_of X G a_place_of, a_is_group := f_is_group, fd_is_group := _, F_is_group := F_is_group, b_is_group := b_is_group, g_is_group := PySem.W.mg_of X G a_is_group, a_group := f_group, fd_group := _, F_group := F_group, b_group := b_group, g_group := PySem.W.mg_of X G a_group, a_spans_of := f_spans_of, fd_spans_of := _, F_spans_of := F_spans_of, b_spans_of := b_spans_of, g_spans_of := PySem.W.mg_of X G a_spans_of, a_numbers_by_places := f_numbers_by_places, fd_numbers_by_places := _, F_numbers_by_places := F_numbers_by_places, b_numbers_by_places := b_numbers_by_places, g_numbers_by_places := PySem.W.mg_of X G a_numbers_by_places, a_turned_span := f_turned_span, fd_turned_span := _, F_turned_span := F_turned_span, b_turned_span := b_turned_span, g_turned_span := PySem.W.mg_of X G a_turned_span, a_gap_behind := f_gap_behind, fd_gap_behind := _, F_gap_behind := F_gap_behind, b_gap_behind := b_gap_behind, g_gap_behind := PySem.W.mg_of X G a_gap_behind, a_outcomes_of := f_outcomes_of, fd_outcomes_of := _, F_outcomes_of := F_outcomes_of, b_outcomes_of := b_outcomes_of, g_outcomes_of := PySem.W.mg_of X G a_outcomes_of, a_Menus___init__ := f_Menus___init__, fd_Menus___init__ := _, F_Menus___init__ := F_Menus___init__, b_Menus___init__ := b_Menus___init__, mk_Menus := ⟨mk_Menus, a_Menus___init__, i_Menus___init__, kc_Menus⟩, a_Menus_at := f_Menus_at, fd_Menus_at := _, F_Menus_at := F_Menus_at, b_Menus_at := b_Menus_at, me_Menus_at := ⟨a_Menus_at, i_Menus_at, k_Menus_at⟩, a_moves_of := f_moves_of, fd_moves_of := _, F_moves_of := F_moves_of, b_moves_of := b_moves_of, g_moves_of := PySem.W.mg_of X G a_moves_of, a_is_rule := f_is_rule, fd_is_rule := _, F_is_rule := F_is_rule, b_is_rule := b_is_rule, g_is_rule := PySem.W.mg_of X G a_is_rule, a_states_of := f_states_of, fd_states_of := _, F_states_of := F_states_of, b_states_of := b_states_of, g_states_of := PySem.W.mg_of X G a_states_of, a_invalid_rule := f_invalid_rule, fd_invalid_rule := _, F_invalid_rule := F_invalid_rule, b_invalid_rule := b_invalid_rule, g_invalid_rule := PySem.W.mg_of X G a_invalid_rule, a_Loop___init__ := f_Loop___init__, fd_Loop___init__ := _, F_Loop___init__ := F_Loop___init__, b_Loop___init__ := b_Loop___init__, b0_Loop___init__ := b0_Loop___init__, mk_Loop := ⟨mk_Loop, a_Loop___init__, i_Loop___init__, kc_Loop⟩, a_Loop_states := f_Loop_states, fd_Loop_states := _, F_Loop_states := F_Loop_states, b_Loop_states := b_Loop_states, pp_Loop_states := p_Loop_states, pr_Loop_states := ⟨q1_Loop_states, q2_Loop_states, q3_Loop_states, _, q4_Loop_states⟩, a_used := f_used, fd_used := _, F_used := F_used, b_used := b_used, g_used := PySem.W.mg_of X G a_used, a_Loops___init__ := f_Loops___init__, fd_Loops___init__ := _, F_Loops___init__ := F_Loops___init__, b_Loops___init__ := b_Loops___init__, mk_Loops := ⟨mk_Loops, a_Loops___init__, i_Loops___init__, kc_Loops⟩, a_Loops_react := f_Loops_react, fd_Loops_react := _, F_Loops_react := F_Loops_react, b_Loops_react := b_Loops_react, me_Loops_react := ⟨a_Loops_react, i_Loops_react, k_Loops_react⟩, a_is_gap := f_is_gap, fd_is_gap := _, F_is_gap := F_is_gap, b_is_gap := b_is_gap, g_is_gap := PySem.W.mg_of X G a_is_gap, a_as_joint := f_as_joint, fd_as_joint := _, F_as_joint := F_as_joint, b_as_joint := b_as_joint, g_as_joint := PySem.W.mg_of X G a_as_joint, a_is_within := f_is_within, fd_is_within := _, F_is_within := F_is_within, b_is_within := b_is_within, g_is_within := PySem.W.mg_of X G a_is_within, a_leads := f_leads, fd_leads := _, F_leads := F_leads, b_leads := b_leads, g_leads := PySem.W.mg_of X G a_leads, a__law_source := f__law_source, fd__law_source := _, F__law_source := F__law_source, b__law_source := b__law_source, g__law_source := PySem.W.mg_of X G a__law_source, a__law_draw := f__law_draw, fd__law_draw := _, F__law_draw := F__law_draw, b__law_draw := b__law_draw, g__law_draw := PySem.W.mg_of X G a__law_draw, a__law_pick := f__law_pick, fd__law_pick := _, F__law_pick := F__law_pick, b__law_pick := b__law_pick, g__law_pick := PySem.W.mg_of X G a__law_pick, a__law_name := f__law_name, fd__law_name := _, F__law_name := F__law_name, b__law_name := b__law_name, g__law_name := PySem.W.mg_of X G a__law_name, a__law_names := f__law_names, fd__law_names := _, F__law_names := F__law_names, b__law_names := b__law_names, g__law_names := PySem.W.mg_of X G a__law_names, a__law_places := f__law_places, fd__law_places := _, F__law_places := F__law_places, b__law_places := b__law_places, g__law_places := PySem.W.mg_of X G a__law_places, a__law_group_names := f__law_group_names, fd__law_group_names := _, F__law_group_names := F__law_group_names, b__law_group_names := b__law_group_names, g__law_group_names := PySem.W.mg_of X G a__law_group_names, a__law_states := f__law_states, fd__law_states := _, F__law_states := F__law_states, b__law_states := b__law_states, g__law_states := PySem.W.mg_of X G a__law_states, a__law_groups := f__law_groups, fd__law_groups := _, F__law_groups := F__law_groups, b__law_groups := b__law_groups, g__law_groups := PySem.W.mg_of X G a__law_groups, a__law_rules := f__law_rules, fd__law_rules := _, F__law_rules := F__law_rules, b__law_rules := b__law_rules, g__law_rules := PySem.W.mg_of X G a__law_rules, a__law_alike := f__law_alike, fd__law_alike := _, F__law_alike := F__law_alike, b__law_alike := b__law_alike, g__law_alike := PySem.W.mg_of X G a__law_alike, a_law := fa, fd_law := _, F_law := F_law, b_law := b_law, g_law := PySem.W.mg_of X G a_law, m_len := PySem.W.mg_none_of X G m_len, m_int := PySem.W.mg_none_of X G m_int, m_bool := PySem.W.mg_none_of X G m_bool, m_str := PySem.W.mg_none_of X G m_str, m_list := PySem.W.mg_none_of X G m_list, m_tuple := PySem.W.mg_none_of X G m_tuple, m_dict := PySem.W.mg_none_of X G m_dict, m_range := PySem.W.mg_none_of X G m_range, m_zip := PySem.W.mg_none_of X G m_zip, m_enumerate := PySem.W.mg_none_of X G m_enumerate, m_isinstance := PySem.W.mg_none_of X G m_isinstance, m_max := PySem.W.mg_none_of X G m_max, m_min := PySem.W.mg_none_of X G m_min, m_abs := PySem.W.mg_none_of X G m_abs, m_any := PySem.W.mg_none_of X G m_any, m_all := PySem.W.mg_none_of X G m_all, m_sorted := PySem.W.mg_none_of X G m_sorted, m_super := PySem.W.mg_none_of X G m_super, m_ValueError := PySem.W.mg_none_of X G m_ValueError, t_BOUND := t_BOUND, g_BOUND := PySem.W.mg_of X G g_BOUND, t_MOST_LETTERS := t_MOST_LETTERS, g_MOST_LETTERS := PySem.W.mg_of X G g_MOST_LETTERS, a_PLACES := a_PLACES, g_PLACES := PySem.W.mg_of X G g_PLACES, k_PLACES := ⟨o_PLACES, l_PLACES, c_PLACES, e_PLACES⟩, p_PLACES := fun H => .inr ⟨o_PLACES, i_PLACES, n_PLACES, l_PLACES, c_PLACES, d_PLACES, z_PLACES, v_PLACES⟩, a_SIGNS := a_SIGNS, g_SIGNS := PySem.W.mg_of X G g_SIGNS, k_SIGNS := ⟨o_SIGNS, l_SIGNS, c_SIGNS, e_SIGNS⟩, p_SIGNS := fun H => .inr ⟨o_SIGNS, i_SIGNS, n_SIGNS, l_SIGNS, c_SIGNS, d_SIGNS, z_SIGNS, v_SIGNS⟩, a_TURNED_SIGNS := a_TURNED_SIGNS, g_TURNED_SIGNS := PySem.W.mg_of X G g_TURNED_SIGNS, d_TURNED_SIGNS := ⟨_, _, l_TURNED_SIGNS, y_TURNED_SIGNS, x_TURNED_SIGNS⟩, a_REST_PLACES := a_REST_PLACES, g_REST_PLACES := PySem.W.mg_of X G g_REST_PLACES, a_REST_PLACES_0 := a_REST_PLACES_0, p_REST_PLACES_0 := fun H => .inr ⟨o_REST_PLACES_0, i_REST_PLACES_0, n_REST_PLACES_0, l_REST_PLACES_0, c_REST_PLACES_0, d_REST_PLACES_0, z_REST_PLACES_0, v_REST_PLACES_0⟩, a_REST_PLACES_0_0 := a_REST_PLACES_0_0, p_REST_PLACES_0_0 := fun H => .inr ⟨o_REST_PLACES_0_0, i_REST_PLACES_0_0, n_REST_PLACES_0_0, l_REST_PLACES_0_0, c_REST_PLACES_0_0, d_REST_PLACES_0_0, z_REST_PLACES_0_0, v_REST_PLACES_0_0⟩, a_REST_PLACES_0_1 := a_REST_PLACES_0_1, p_REST_PLACES_0_1 := fun H => .inr ⟨o_REST_PLACES_0_1, i_REST_PLACES_0_1, n_REST_PLACES_0_1, l_REST_PLACES_0_1, c_REST_PLACES_0_1, d_REST_PLACES_0_1, z_REST_PLACES_0_1, v_REST_PLACES_0_1⟩, a_REST_PLACES_0_2 := a_REST_PLACES_0_2, p_REST_PLACES_0_2 := fun H => .inr ⟨o_REST_PLACES_0_2, i_REST_PLACES_0_2, n_REST_PLACES_0_2, l_REST_PLACES_0_2, c_REST_PLACES_0_2, d_REST_PLACES_0_2, z_REST_PLACES_0_2, v_REST_PLACES_0_2⟩, a_REST_PLACES_0_3 := a_REST_PLACES_0_3, p_REST_PLACES_0_3 := fun H => .inr ⟨o_REST_PLACES_0_3, i_REST_PLACES_0_3, n_REST_PLACES_0_3, l_REST_PLACES_0_3, c_REST_PLACES_0_3, d_REST_PLACES_0_3, z_REST_PLACES_0_3, v_REST_PLACES_0_3⟩, a_REST_PLACES_0_4 := a_REST_PLACES_0_4, p_REST_PLACES_0_4 := fun H => .inr ⟨o_REST_PLACES_0_4, i_REST_PLACES_0_4, n_REST_PLACES_0_4, l_REST_PLACES_0_4, c_REST_PLACES_0_4, d_REST_PLACES_0_4, z_REST_PLACES_0_4, v_REST_PLACES_0_4⟩, a_REST_PLACES_1 := a_REST_PLACES_1, p_REST_PLACES_1 := fun H => .inr ⟨o_REST_PLACES_1, i_REST_PLACES_1, n_REST_PLACES_1, l_REST_PLACES_1, c_REST_PLACES_1, d_REST_PLACES_1, z_REST_PLACES_1, v_REST_PLACES_1⟩, a_REST_PLACES_1_0 := a_REST_PLACES_1_0, p_REST_PLACES_1_0 := fun H => .inr ⟨o_REST_PLACES_1_0, i_REST_PLACES_1_0, n_REST_PLACES_1_0, l_REST_PLACES_1_0, c_REST_PLACES_1_0, d_REST_PLACES_1_0, z_REST_PLACES_1_0, v_REST_PLACES_1_0⟩, a_REST_PLACES_1_1 := a_REST_PLACES_1_1, p_REST_PLACES_1_1 := fun H => .inr ⟨o_REST_PLACES_1_1, i_REST_PLACES_1_1, n_REST_PLACES_1_1, l_REST_PLACES_1_1, c_REST_PLACES_1_1, d_REST_PLACES_1_1, z_REST_PLACES_1_1, v_REST_PLACES_1_1⟩, a_REST_PLACES_1_2 := a_REST_PLACES_1_2, p_REST_PLACES_1_2 := fun H => .inr ⟨o_REST_PLACES_1_2, i_REST_PLACES_1_2, n_REST_PLACES_1_2, l_REST_PLACES_1_2, c_REST_PLACES_1_2, d_REST_PLACES_1_2, z_REST_PLACES_1_2, v_REST_PLACES_1_2⟩, a_REST_PLACES_2 := a_REST_PLACES_2, p_REST_PLACES_2 := fun H => .inr ⟨o_REST_PLACES_2, i_REST_PLACES_2, n_REST_PLACES_2, l_REST_PLACES_2, c_REST_PLACES_2, d_REST_PLACES_2, z_REST_PLACES_2, v_REST_PLACES_2⟩, a_REST_PLACES_2_0 := a_REST_PLACES_2_0, p_REST_PLACES_2_0 := fun H => .inr ⟨o_REST_PLACES_2_0, i_REST_PLACES_2_0, n_REST_PLACES_2_0, l_REST_PLACES_2_0, c_REST_PLACES_2_0, d_REST_PLACES_2_0, z_REST_PLACES_2_0, v_REST_PLACES_2_0⟩, a_REST_PLACES_2_1 := a_REST_PLACES_2_1, p_REST_PLACES_2_1 := fun H => .inr ⟨o_REST_PLACES_2_1, i_REST_PLACES_2_1, n_REST_PLACES_2_1, l_REST_PLACES_2_1, c_REST_PLACES_2_1, d_REST_PLACES_2_1, z_REST_PLACES_2_1, v_REST_PLACES_2_1⟩, a_REST_PLACES_2_2 := a_REST_PLACES_2_2, p_REST_PLACES_2_2 := fun H => .inr ⟨o_REST_PLACES_2_2, i_REST_PLACES_2_2, n_REST_PLACES_2_2, l_REST_PLACES_2_2, c_REST_PLACES_2_2, d_REST_PLACES_2_2, z_REST_PLACES_2_2, v_REST_PLACES_2_2⟩, a_REST_PLACES_2_3 := a_REST_PLACES_2_3, p_REST_PLACES_2_3 := fun H => .inr ⟨o_REST_PLACES_2_3, i_REST_PLACES_2_3, n_REST_PLACES_2_3, l_REST_PLACES_2_3, c_REST_PLACES_2_3, d_REST_PLACES_2_3, z_REST_PLACES_2_3, v_REST_PLACES_2_3⟩, a_REST_PLACES_2_4 := a_REST_PLACES_2_4, p_REST_PLACES_2_4 := fun H => .inr ⟨o_REST_PLACES_2_4, i_REST_PLACES_2_4, n_REST_PLACES_2_4, l_REST_PLACES_2_4, c_REST_PLACES_2_4, d_REST_PLACES_2_4, z_REST_PLACES_2_4, v_REST_PLACES_2_4⟩, d_REST_PLACES := ⟨_, _, l_REST_PLACES, y_REST_PLACES, x_REST_PLACES⟩, a_LONE_SPANS := a_LONE_SPANS, g_LONE_SPANS := PySem.W.mg_of X G g_LONE_SPANS, p_LONE_SPANS := fun H => .inr ⟨o_LONE_SPANS, i_LONE_SPANS, n_LONE_SPANS, l_LONE_SPANS, c_LONE_SPANS, d_LONE_SPANS, z_LONE_SPANS, v_LONE_SPANS⟩, a_LONE_SPANS_0 := a_LONE_SPANS_0, p_LONE_SPANS_0 := fun H => .inr ⟨o_LONE_SPANS_0, i_LONE_SPANS_0, n_LONE_SPANS_0, l_LONE_SPANS_0, c_LONE_SPANS_0, d_LONE_SPANS_0, z_LONE_SPANS_0, v_LONE_SPANS_0⟩, a_LONE_SPANS_1 := a_LONE_SPANS_1, p_LONE_SPANS_1 := fun H => .inr ⟨o_LONE_SPANS_1, i_LONE_SPANS_1, n_LONE_SPANS_1, l_LONE_SPANS_1, c_LONE_SPANS_1, d_LONE_SPANS_1, z_LONE_SPANS_1, v_LONE_SPANS_1⟩, a_LONE_SPANS_2 := a_LONE_SPANS_2, p_LONE_SPANS_2 := fun H => .inr ⟨o_LONE_SPANS_2, i_LONE_SPANS_2, n_LONE_SPANS_2, l_LONE_SPANS_2, c_LONE_SPANS_2, d_LONE_SPANS_2, z_LONE_SPANS_2, v_LONE_SPANS_2⟩, a_LONE_SPANS_3 := a_LONE_SPANS_3, p_LONE_SPANS_3 := fun H => .inr ⟨o_LONE_SPANS_3, i_LONE_SPANS_3, n_LONE_SPANS_3, l_LONE_SPANS_3, c_LONE_SPANS_3, d_LONE_SPANS_3, z_LONE_SPANS_3, v_LONE_SPANS_3⟩, a_LONE_SPANS_4 := a_LONE_SPANS_4, p_LONE_SPANS_4 := fun H => .inr ⟨o_LONE_SPANS_4, i_LONE_SPANS_4, n_LONE_SPANS_4, l_LONE_SPANS_4, c_LONE_SPANS_4, d_LONE_SPANS_4, z_LONE_SPANS_4, v_LONE_SPANS_4⟩, t_MOST_RULES := t_MOST_RULES, g_MOST_RULES := PySem.W.mg_of X G g_MOST_RULES, t_MOST_STATES := t_MOST_STATES, g_MOST_STATES := PySem.W.mg_of X G g_MOST_STATES, a_GAP_WORDS := a_GAP_WORDS, g_GAP_WORDS := PySem.W.mg_of X G g_GAP_WORDS, k_GAP_WORDS := ⟨o_GAP_WORDS, l_GAP_WORDS, c_GAP_WORDS, e_GAP_WORDS⟩, p_GAP_WORDS := fun H => .inr ⟨o_GAP_WORDS, i_GAP_WORDS, n_GAP_WORDS, l_GAP_WORDS, c_GAP_WORDS, d_GAP_WORDS, z_GAP_WORDS, v_GAP_WORDS⟩, a_LONG_GROUPS := a_LONG_GROUPS, g_LONG_GROUPS := PySem.W.mg_of X G g_LONG_GROUPS, d_LONG_GROUPS := ⟨_, _, l_LONG_GROUPS, y_LONG_GROUPS, x_LONG_GROUPS⟩, a_LONG_GROUPS_any := a_LONG_GROUPS_any, k_LONG_GROUPS_any := ⟨o_LONG_GROUPS_any, l_LONG_GROUPS_any, c_LONG_GROUPS_any, e_LONG_GROUPS_any⟩, p_LONG_GROUPS_any := fun H => .inr ⟨o_LONG_GROUPS_any, i_LONG_GROUPS_any, n_LONG_GROUPS_any, l_LONG_GROUPS_any, c_LONG_GROUPS_any, d_LONG_GROUPS_any, z_LONG_GROUPS_any, v_LONG_GROUPS_any⟩, a_LONG_GROUPS_near := a_LONG_GROUPS_near, k_LONG_GROUPS_near := ⟨o_LONG_GROUPS_near, l_LONG_GROUPS_near, c_LONG_GROUPS_near, e_LONG_GROUPS_near⟩, p_LONG_GROUPS_near := fun H => .inr ⟨o_LONG_GROUPS_near, i_LONG_GROUPS_near, n_LONG_GROUPS_near, l_LONG_GROUPS_near, c_LONG_GROUPS_near, d_LONG_GROUPS_near, z_LONG_GROUPS_near, v_LONG_GROUPS_near⟩, a_LONG_GROUPS_far := a_LONG_GROUPS_far, k_LONG_GROUPS_far := ⟨o_LONG_GROUPS_far, l_LONG_GROUPS_far, c_LONG_GROUPS_far, e_LONG_GROUPS_far⟩, p_LONG_GROUPS_far := fun H => .inr ⟨o_LONG_GROUPS_far, i_LONG_GROUPS_far, n_LONG_GROUPS_far, l_LONG_GROUPS_far, c_LONG_GROUPS_far, d_LONG_GROUPS_far, z_LONG_GROUPS_far, v_LONG_GROUPS_far⟩, a_LONG_GROUPS_less := a_LONG_GROUPS_less, k_LONG_GROUPS_less := ⟨o_LONG_GROUPS_less, l_LONG_GROUPS_less, c_LONG_GROUPS_less, e_LONG_GROUPS_less⟩, p_LONG_GROUPS_less := fun H => .inr ⟨o_LONG_GROUPS_less, i_LONG_GROUPS_less, n_LONG_GROUPS_less, l_LONG_GROUPS_less, c_LONG_GROUPS_less, d_LONG_GROUPS_less, z_LONG_GROUPS_less, v_LONG_GROUPS_less⟩, a_LONG_GROUPS_more := a_LONG_GROUPS_more, k_LONG_GROUPS_more := ⟨o_LONG_GROUPS_more, l_LONG_GROUPS_more, c_LONG_GROUPS_more, e_LONG_GROUPS_more⟩, p_LONG_GROUPS_more := fun H => .inr ⟨o_LONG_GROUPS_more, i_LONG_GROUPS_more, n_LONG_GROUPS_more, l_LONG_GROUPS_more, c_LONG_GROUPS_more, d_LONG_GROUPS_more, z_LONG_GROUPS_more, v_LONG_GROUPS_more⟩, a_LONG_GROUPS_under := a_LONG_GROUPS_under, k_LONG_GROUPS_under := ⟨o_LONG_GROUPS_under, l_LONG_GROUPS_under, c_LONG_GROUPS_under, e_LONG_GROUPS_under⟩, p_LONG_GROUPS_under := fun H => .inr ⟨o_LONG_GROUPS_under, i_LONG_GROUPS_under, n_LONG_GROUPS_under, l_LONG_GROUPS_under, c_LONG_GROUPS_under, d_LONG_GROUPS_under, z_LONG_GROUPS_under, v_LONG_GROUPS_under⟩, a_LONG_GROUPS_over := a_LONG_GROUPS_over, k_LONG_GROUPS_over := ⟨o_LONG_GROUPS_over, l_LONG_GROUPS_over, c_LONG_GROUPS_over, e_LONG_GROUPS_over⟩, p_LONG_GROUPS_over := fun H => .inr ⟨o_LONG_GROUPS_over, i_LONG_GROUPS_over, n_LONG_GROUPS_over, l_LONG_GROUPS_over, c_LONG_GROUPS_over, d_LONG_GROUPS_over, z_LONG_GROUPS_over, v_LONG_GROUPS_over⟩, a_LONG_GROUPS_cell := a_LONG_GROUPS_cell, k_LONG_GROUPS_cell := ⟨o_LONG_GROUPS_cell, l_LONG_GROUPS_cell, c_LONG_GROUPS_cell, e_LONG_GROUPS_cell⟩, p_LONG_GROUPS_cell := fun H => .inr ⟨o_LONG_GROUPS_cell, i_LONG_GROUPS_cell, n_LONG_GROUPS_cell, l_LONG_GROUPS_cell, c_LONG_GROUPS_cell, d_LONG_GROUPS_cell, z_LONG_GROUPS_cell, v_LONG_GROUPS_cell⟩, a_LONG_GROUPS_none := a_LONG_GROUPS_none, k_LONG_GROUPS_none := ⟨o_LONG_GROUPS_none, l_LONG_GROUPS_none, c_LONG_GROUPS_none, e_LONG_GROUPS_none⟩, p_LONG_GROUPS_none := fun H => .inr ⟨o_LONG_GROUPS_none, i_LONG_GROUPS_none, n_LONG_GROUPS_none, l_LONG_GROUPS_none, c_LONG_GROUPS_none, d_LONG_GROUPS_none, z_LONG_GROUPS_none, v_LONG_GROUPS_none⟩ }⟩
theorem walk {l : PySem.W.OpenLaw} {q : Program} {loose : List Str} {XP : (Str → Option Value) → Heap → Prop} {YP : World → Heap → Prop} {d : DefRec} {K : Params → PySem.W.Frag} (hn : l.most = some 63) (hdf : d.params.defaults = [])
    (hY : ∀ (w : World) (h : Heap), YP w h → (K w.params).In h)
    (F : ∀ (w : World) (mg : Str → Option Value) (fa : Addr) (h : Heap), (K w.params).In h → h.Ns mainGlobals mg → mg d.name = some (.ref fa) →
      ∃ fd : FuncData, (∀ (s : Shared) (u : Value), BindsTo s fd ⟨[u], []⟩ [("_law_script", u)]) ∧ ∀ base : Heap, (K w.params).In base → base.Ns mainGlobals mg → FnOk l.prog w (K w.params) mg base CX0 6 fa fd ["_law_script"] (sp_law (K w.params))) :
    PySem.W.WalkO q loose XP YP l.row.toRowW d [] (fun f vs => PySem.call f vs) :=
  L2.walk_of (n := 63) (k := 6) (x := "_law_script") (CX := fun _ => CX0) (sp := fun w => sp_law (K w.params)) hn (by decide) hdf ⟨rfl, by decide, by decide⟩ hY F (fun _ _ a ns hl _ hS => ⟨a, ns, rfl, hS, hl, fun _ => rfl⟩) fun _ _ _ _ _ z => z
end Law
open PySem PySem.W PyProof.Rows
set_option maxRecDepth 100000 in
set_option maxHeartbeats 0 in
theorem PySem.Challenge.cw_nearloops_k77_whole_steps_far_apart_holds : PySem.Challenge.rw_nearloops_k77_whole_steps_far_apart.Holds := by
  w_on; o_law; k_head; (case hw => w_witness2)
  k_fill
  refine Law.walk (l := PySem.Challenge.rw_nearloops_k77_whole_steps_far_apart) rfl rfl (fun w h Y => PySem.W.kIn_of Y) ?F
  case F =>
    intro w mg fa h KX G hmg
    refine' Law.all_mk KX G hmg ?gc_Menus ?pg_Menus ?hd_Menus ?po_Menus ?sa_Menus ?mk_Menus ?kc_Menus ?no_Menus_known ?gc_Loop ?pg_Loop ?hd_Loop ?po_Loop ?sa_Loop ?mk_Loop ?kc_Loop ?no_Loop_own_rules ?no_Loop_own_answers ?no_Loop_table ?gc_Loops ?pg_Loops ?hd_Loops ?po_Loops ?sa_Loops ?mk_Loops ?kc_Loops ?no_Loops_one ?no_Loops_other ?no_Loops_by ?a_is_name ?l_is_name ?c_is_name ?k_is_name ?a_is_number ?l_is_number ?c_is_number ?k_is_number ?a_place_of ?l_place_of ?c_place_of ?k_place_of ?a_is_group ?l_is_group ?c_is_group ?k_is_group ?a_group ?l_group ?c_group ?k_group ?a_spans_of ?l_spans_of ?c_spans_of ?k_spans_of ?a_numbers_by_places ?l_numbers_by_places ?c_numbers_by_places ?k_numbers_by_places ?a_turned_span ?l_turned_span ?c_turned_span ?k_turned_span ?a_gap_behind ?l_gap_behind ?c_gap_behind ?k_gap_behind ?a_outcomes_of ?l_outcomes_of ?c_outcomes_of ?k_outcomes_of ?a_Menus___init__ ?i_Menus___init__ ?l_Menus___init__ ?c_Menus___init__ ?k_Menus___init__ ?a_Menus_at ?i_Menus_at ?l_Menus_at ?c_Menus_at ?k_Menus_at ?a_moves_of ?l_moves_of ?c_moves_of ?k_moves_of ?a_is_rule ?l_is_rule ?c_is_rule ?k_is_rule ?a_states_of ?l_states_of ?c_states_of ?k_states_of ?a_invalid_rule ?l_invalid_rule ?c_invalid_rule ?k_invalid_rule ?u_Loop___init__ ?ud_Loop___init__ ?uv_Loop___init__ ?a_Loop___init__ ?i_Loop___init__ ?l_Loop___init__ ?c_Loop___init__ ?k_Loop___init__ ?q1_Loop_states ?q2_Loop_states ?q3_Loop_states ?q4_Loop_states ?l_Loop_states ?c_Loop_states ?k_Loop_states ?a_used ?l_used ?c_used ?k_used ?a_Loops___init__ ?i_Loops___init__ ?l_Loops___init__ ?c_Loops___init__ ?k_Loops___init__ ?a_Loops_react ?i_Loops_react ?l_Loops_react ?c_Loops_react ?k_Loops_react ?a_is_gap ?l_is_gap ?c_is_gap ?k_is_gap ?a_as_joint ?l_as_joint ?c_as_joint ?k_as_joint ?a_is_within ?l_is_within ?c_is_within ?k_is_within ?a_leads ?l_leads ?c_leads ?k_leads ?a__law_source ?l__law_source ?c__law_source ?k__law_source ?a__law_draw ?l__law_draw ?c__law_draw ?k__law_draw ?a__law_pick ?l__law_pick ?c__law_pick ?k__law_pick ?a__law_name ?l__law_name ?c__law_name ?k__law_name ?a__law_names ?l__law_names ?c__law_names ?k__law_names ?a__law_places ?l__law_places ?c__law_places ?k__law_places ?a__law_group_names ?l__law_group_names ?c__law_group_names ?k__law_group_names ?a__law_states ?l__law_states ?c__law_states ?k__law_states ?a__law_groups ?l__law_groups ?c__law_groups ?k__law_groups ?a__law_rules ?l__law_rules ?c__law_rules ?k__law_rules ?a__law_alike ?l__law_alike ?c__law_alike ?k__law_alike ?a_law ?l_law ?c_law ?k_law ?m_len ?m_int ?m_bool ?m_str ?m_list ?m_tuple ?m_dict ?m_range ?m_zip ?m_enumerate ?m_isinstance ?m_max ?m_min ?m_abs ?m_any ?m_all ?m_sorted ?m_super ?m_ValueError ?g_BOUND ?g_MOST_LETTERS ?g_PLACES ?l_PLACES ?c_PLACES ?e_PLACES ?d_PLACES ?z_PLACES ?v_PLACES ?g_LONG_GROUPS ?l_LONG_GROUPS ?y_LONG_GROUPS ?x_LONG_GROUPS ?l_LONG_GROUPS_any ?c_LONG_GROUPS_any ?e_LONG_GROUPS_any ?d_LONG_GROUPS_any ?z_LONG_GROUPS_any ?v_LONG_GROUPS_any ?l_LONG_GROUPS_near ?c_LONG_GROUPS_near ?e_LONG_GROUPS_near ?d_LONG_GROUPS_near ?z_LONG_GROUPS_near ?v_LONG_GROUPS_near ?l_LONG_GROUPS_far ?c_LONG_GROUPS_far ?e_LONG_GROUPS_far ?d_LONG_GROUPS_far ?z_LONG_GROUPS_far ?v_LONG_GROUPS_far ?l_LONG_GROUPS_less ?c_LONG_GROUPS_less ?e_LONG_GROUPS_less ?d_LONG_GROUPS_less ?z_LONG_GROUPS_less ?v_LONG_GROUPS_less ?l_LONG_GROUPS_more ?c_LONG_GROUPS_more ?e_LONG_GROUPS_more ?d_LONG_GROUPS_more ?z_LONG_GROUPS_more ?v_LONG_GROUPS_more ?l_LONG_GROUPS_under ?c_LONG_GROUPS_under ?e_LONG_GROUPS_under ?d_LONG_GROUPS_under ?z_LONG_GROUPS_under ?v_LONG_GROUPS_under ?l_LONG_GROUPS_over ?c_LONG_GROUPS_over ?e_LONG_GROUPS_over ?d_LONG_GROUPS_over ?z_LONG_GROUPS_over ?v_LONG_GROUPS_over ?l_LONG_GROUPS_cell ?c_LONG_GROUPS_cell ?e_LONG_GROUPS_cell ?d_LONG_GROUPS_cell ?z_LONG_GROUPS_cell ?v_LONG_GROUPS_cell ?l_LONG_GROUPS_none ?c_LONG_GROUPS_none ?e_LONG_GROUPS_none ?d_LONG_GROUPS_none ?z_LONG_GROUPS_none ?v_LONG_GROUPS_none ?g_SIGNS ?l_SIGNS ?c_SIGNS ?e_SIGNS ?d_SIGNS ?z_SIGNS ?v_SIGNS ?g_TURNED_SIGNS ?l_TURNED_SIGNS ?y_TURNED_SIGNS ?x_TURNED_SIGNS ?g_REST_PLACES ?l_REST_PLACES ?y_REST_PLACES ?x_REST_PLACES ?l_REST_PLACES_0 ?c_REST_PLACES_0 ?d_REST_PLACES_0 ?z_REST_PLACES_0 ?v_REST_PLACES_0 ?l_REST_PLACES_0_0 ?c_REST_PLACES_0_0 ?d_REST_PLACES_0_0 ?z_REST_PLACES_0_0 ?v_REST_PLACES_0_0 ?l_REST_PLACES_0_1 ?c_REST_PLACES_0_1 ?d_REST_PLACES_0_1 ?z_REST_PLACES_0_1 ?v_REST_PLACES_0_1 ?l_REST_PLACES_0_2 ?c_REST_PLACES_0_2 ?d_REST_PLACES_0_2 ?z_REST_PLACES_0_2 ?v_REST_PLACES_0_2 ?l_REST_PLACES_0_3 ?c_REST_PLACES_0_3 ?d_REST_PLACES_0_3 ?z_REST_PLACES_0_3 ?v_REST_PLACES_0_3 ?l_REST_PLACES_0_4 ?c_REST_PLACES_0_4 ?d_REST_PLACES_0_4 ?z_REST_PLACES_0_4 ?v_REST_PLACES_0_4 ?l_REST_PLACES_1 ?c_REST_PLACES_1 ?d_REST_PLACES_1 ?z_REST_PLACES_1 ?v_REST_PLACES_1 ?l_REST_PLACES_1_0 ?c_REST_PLACES_1_0 ?d_REST_PLACES_1_0 ?z_REST_PLACES_1_0 ?v_REST_PLACES_1_0 ?l_REST_PLACES_1_1 ?c_REST_PLACES_1_1 ?d_REST_PLACES_1_1 ?z_REST_PLACES_1_1 ?v_REST_PLACES_1_1 ?l_REST_PLACES_1_2 ?c_REST_PLACES_1_2 ?d_REST_PLACES_1_2 ?z_REST_PLACES_1_2 ?v_REST_PLACES_1_2 ?l_REST_PLACES_2 ?c_REST_PLACES_2 ?d_REST_PLACES_2 ?z_REST_PLACES_2 ?v_REST_PLACES_2 ?l_REST_PLACES_2_0 ?c_REST_PLACES_2_0 ?d_REST_PLACES_2_0 ?z_REST_PLACES_2_0 ?v_REST_PLACES_2_0 ?l_REST_PLACES_2_1 ?c_REST_PLACES_2_1 ?d_REST_PLACES_2_1 ?z_REST_PLACES_2_1 ?v_REST_PLACES_2_1 ?l_REST_PLACES_2_2 ?c_REST_PLACES_2_2 ?d_REST_PLACES_2_2 ?z_REST_PLACES_2_2 ?v_REST_PLACES_2_2 ?l_REST_PLACES_2_3 ?c_REST_PLACES_2_3 ?d_REST_PLACES_2_3 ?z_REST_PLACES_2_3 ?v_REST_PLACES_2_3 ?l_REST_PLACES_2_4 ?c_REST_PLACES_2_4 ?d_REST_PLACES_2_4 ?z_REST_PLACES_2_4 ?v_REST_PLACES_2_4 ?g_LONE_SPANS ?l_LONE_SPANS ?c_LONE_SPANS ?d_LONE_SPANS ?z_LONE_SPANS ?v_LONE_SPANS ?l_LONE_SPANS_0 ?c_LONE_SPANS_0 ?d_LONE_SPANS_0 ?z_LONE_SPANS_0 ?v_LONE_SPANS_0 ?l_LONE_SPANS_1 ?c_LONE_SPANS_1 ?d_LONE_SPANS_1 ?z_LONE_SPANS_1 ?v_LONE_SPANS_1 ?l_LONE_SPANS_2 ?c_LONE_SPANS_2 ?d_LONE_SPANS_2 ?z_LONE_SPANS_2 ?v_LONE_SPANS_2 ?l_LONE_SPANS_3 ?c_LONE_SPANS_3 ?d_LONE_SPANS_3 ?z_LONE_SPANS_3 ?v_LONE_SPANS_3 ?l_LONE_SPANS_4 ?c_LONE_SPANS_4 ?d_LONE_SPANS_4 ?z_LONE_SPANS_4 ?v_LONE_SPANS_4 ?g_MOST_RULES ?g_MOST_STATES ?g_GAP_WORDS ?l_GAP_WORDS ?c_GAP_WORDS ?e_GAP_WORDS ?d_GAP_WORDS ?z_GAP_WORDS ?v_GAP_WORDS
    (case gc_Menus => k_is)
    (case pg_Menus => k_is)
    (case hd_Menus => k_is)
    (case po_Menus => k_is)
    (case sa_Menus => k_is)
    (case mk_Menus => k_is)
    (case kc_Menus => k_is)
    (case no_Menus_known => k_is)
    (case gc_Loop => k_is)
    (case pg_Loop => k_is)
    (case hd_Loop => k_is)
    (case po_Loop => k_is)
    (case sa_Loop => k_is)
    (case mk_Loop => k_is)
    (case kc_Loop => k_is)
    (case no_Loop_own_rules => k_is)
    (case no_Loop_own_answers => k_is)
    (case no_Loop_table => k_is)
    (case gc_Loops => k_is)
    (case pg_Loops => k_is)
    (case hd_Loops => k_is)
    (case po_Loops => k_is)
    (case sa_Loops => k_is)
    (case mk_Loops => k_is)
    (case kc_Loops => k_is)
    (case no_Loops_one => k_is)
    (case no_Loops_other => k_is)
    (case no_Loops_by => k_is)
    (case a_is_name => k_is)
    (case l_is_name => k_is)
    (case c_is_name => k_is)
    (case k_is_name => k_is)
    (case a_is_number => k_is)
    (case l_is_number => k_is)
    (case c_is_number => k_is)
    (case k_is_number => k_is)
    (case a_place_of => k_is)
    (case l_place_of => k_is)
    (case c_place_of => k_is)
    (case k_place_of => k_is)
    (case a_is_group => k_is)
    (case l_is_group => k_is)
    (case c_is_group => k_is)
    (case k_is_group => k_is)
    (case a_group => k_is)
    (case l_group => k_is)
    (case c_group => k_is)
    (case k_group => k_is)
    (case a_spans_of => k_is)
    (case l_spans_of => k_is)
    (case c_spans_of => k_is)
    (case k_spans_of => k_is)
    (case a_numbers_by_places => k_is)
    (case l_numbers_by_places => k_is)
    (case c_numbers_by_places => k_is)
    (case k_numbers_by_places => k_is)
    (case a_turned_span => k_is)
    (case l_turned_span => k_is)
    (case c_turned_span => k_is)
    (case k_turned_span => k_is)
    (case a_gap_behind => k_is)
    (case l_gap_behind => k_is)
    (case c_gap_behind => k_is)
    (case k_gap_behind => k_is)
    (case a_outcomes_of => k_is)
    (case l_outcomes_of => k_is)
    (case c_outcomes_of => k_is)
    (case k_outcomes_of => k_is)
    (case a_Menus___init__ => k_is)
    (case i_Menus___init__ => k_is)
    (case l_Menus___init__ => k_is)
    (case c_Menus___init__ => k_is)
    (case k_Menus___init__ => k_is)
    (case a_Menus_at => k_is)
    (case i_Menus_at => k_is)
    (case l_Menus_at => k_is)
    (case c_Menus_at => k_is)
    (case k_Menus_at => k_is)
    (case a_moves_of => k_is)
    (case l_moves_of => k_is)
    (case c_moves_of => k_is)
    (case k_moves_of => k_is)
    (case a_is_rule => k_is)
    (case l_is_rule => k_is)
    (case c_is_rule => k_is)
    (case k_is_rule => k_is)
    (case a_states_of => k_is)
    (case l_states_of => k_is)
    (case c_states_of => k_is)
    (case k_states_of => k_is)
    (case a_invalid_rule => k_is)
    (case l_invalid_rule => k_is)
    (case c_invalid_rule => k_is)
    (case k_invalid_rule => k_is)
    (case a_Loop___init__ => k_is)
    (case i_Loop___init__ => k_is)
    (case l_Loop___init__ => k_is)
    (case c_Loop___init__ => k_is)
    (case k_Loop___init__ => k_is)
    (case q1_Loop_states => k_is)
    (case q2_Loop_states => k_is)
    (case q3_Loop_states => k_is)
    (case q4_Loop_states => k_is)
    (case l_Loop_states => k_is)
    (case c_Loop_states => k_is)
    (case k_Loop_states => k_is)
    (case a_used => k_is)
    (case l_used => k_is)
    (case c_used => k_is)
    (case k_used => k_is)
    (case a_Loops___init__ => k_is)
    (case i_Loops___init__ => k_is)
    (case l_Loops___init__ => k_is)
    (case c_Loops___init__ => k_is)
    (case k_Loops___init__ => k_is)
    (case a_Loops_react => k_is)
    (case i_Loops_react => k_is)
    (case l_Loops_react => k_is)
    (case c_Loops_react => k_is)
    (case k_Loops_react => k_is)
    (case a_is_gap => k_is)
    (case l_is_gap => k_is)
    (case c_is_gap => k_is)
    (case k_is_gap => k_is)
    (case a_as_joint => k_is)
    (case l_as_joint => k_is)
    (case c_as_joint => k_is)
    (case k_as_joint => k_is)
    (case a_is_within => k_is)
    (case l_is_within => k_is)
    (case c_is_within => k_is)
    (case k_is_within => k_is)
    (case a_leads => k_is)
    (case l_leads => k_is)
    (case c_leads => k_is)
    (case k_leads => k_is)
    (case a__law_source => k_is)
    (case l__law_source => k_is)
    (case c__law_source => k_is)
    (case k__law_source => k_is)
    (case a__law_draw => k_is)
    (case l__law_draw => k_is)
    (case c__law_draw => k_is)
    (case k__law_draw => k_is)
    (case a__law_pick => k_is)
    (case l__law_pick => k_is)
    (case c__law_pick => k_is)
    (case k__law_pick => k_is)
    (case a__law_name => k_is)
    (case l__law_name => k_is)
    (case c__law_name => k_is)
    (case k__law_name => k_is)
    (case a__law_names => k_is)
    (case l__law_names => k_is)
    (case c__law_names => k_is)
    (case k__law_names => k_is)
    (case a__law_places => k_is)
    (case l__law_places => k_is)
    (case c__law_places => k_is)
    (case k__law_places => k_is)
    (case a__law_group_names => k_is)
    (case l__law_group_names => k_is)
    (case c__law_group_names => k_is)
    (case k__law_group_names => k_is)
    (case a__law_states => k_is)
    (case l__law_states => k_is)
    (case c__law_states => k_is)
    (case k__law_states => k_is)
    (case a__law_groups => k_is)
    (case l__law_groups => k_is)
    (case c__law_groups => k_is)
    (case k__law_groups => k_is)
    (case a__law_rules => k_is)
    (case l__law_rules => k_is)
    (case c__law_rules => k_is)
    (case k__law_rules => k_is)
    (case a__law_alike => k_is)
    (case l__law_alike => k_is)
    (case c__law_alike => k_is)
    (case k__law_alike => k_is)
    (case a_law => k_is)
    (case l_law => k_is)
    (case c_law => k_is)
    (case k_law => k_is)
    (case m_len => k_is)
    (case m_int => k_is)
    (case m_bool => k_is)
    (case m_str => k_is)
    (case m_list => k_is)
    (case m_tuple => k_is)
    (case m_dict => k_is)
    (case m_range => k_is)
    (case m_zip => k_is)
    (case m_enumerate => k_is)
    (case m_isinstance => k_is)
    (case m_max => k_is)
    (case m_min => k_is)
    (case m_abs => k_is)
    (case m_any => k_is)
    (case m_all => k_is)
    (case m_sorted => k_is)
    (case m_super => k_is)
    (case m_ValueError => k_is)
    (case g_BOUND => k_is)
    (case g_MOST_LETTERS => k_is)
    (case g_PLACES => k_is)
    (case l_PLACES => k_is)
    (case c_PLACES => rfl)
    (case e_PLACES => rfl)
    (case d_PLACES => rfl)
    (case z_PLACES => decide)
    (case v_PLACES => exact .cons ⟨_, rfl⟩ (.cons ⟨_, rfl⟩ (.cons ⟨_, rfl⟩ (.cons ⟨_, rfl⟩ (.cons ⟨_, rfl⟩ (.cons ⟨_, rfl⟩ (.cons ⟨_, rfl⟩ (.cons ⟨_, rfl⟩ (.cons ⟨_, rfl⟩ (.cons ⟨_, rfl⟩ (.cons ⟨_, rfl⟩ (.nil))))))))))))
    (case g_LONG_GROUPS => k_is)
    (case l_LONG_GROUPS => k_is)
    (case y_LONG_GROUPS => first | rfl | decide)
    (case x_LONG_GROUPS => exact ⟨⟨_, rfl⟩, rfl, rfl, ⟨⟨_, rfl⟩, rfl, rfl, ⟨⟨_, rfl⟩, rfl, rfl, ⟨⟨_, rfl⟩, rfl, rfl, ⟨⟨_, rfl⟩, rfl, rfl, ⟨⟨_, rfl⟩, rfl, rfl, ⟨⟨_, rfl⟩, rfl, rfl, ⟨⟨_, rfl⟩, rfl, rfl, ⟨⟨_, rfl⟩, rfl, rfl, True.intro⟩⟩⟩⟩⟩⟩⟩⟩⟩)
    (case l_LONG_GROUPS_any => k_is)
    (case c_LONG_GROUPS_any => rfl)
    (case e_LONG_GROUPS_any => rfl)
    (case d_LONG_GROUPS_any => rfl)
    (case z_LONG_GROUPS_any => decide)
    (case v_LONG_GROUPS_any => exact .cons ⟨_, rfl⟩ (.cons ⟨_, rfl⟩ (.cons ⟨_, rfl⟩ (.cons ⟨_, rfl⟩ (.cons ⟨_, rfl⟩ (.cons ⟨_, rfl⟩ (.cons ⟨_, rfl⟩ (.cons ⟨_, rfl⟩ (.cons ⟨_, rfl⟩ (.cons ⟨_, rfl⟩ (.cons ⟨_, rfl⟩ (.nil))))))))))))
    (case l_LONG_GROUPS_near => k_is)
    (case c_LONG_GROUPS_near => rfl)
    (case e_LONG_GROUPS_near => rfl)
    (case d_LONG_GROUPS_near => rfl)
    (case z_LONG_GROUPS_near => decide)
    (case v_LONG_GROUPS_near => exact .cons ⟨_, rfl⟩ (.cons ⟨_, rfl⟩ (.cons ⟨_, rfl⟩ (.cons ⟨_, rfl⟩ (.cons ⟨_, rfl⟩ (.cons ⟨_, rfl⟩ (.cons ⟨_, rfl⟩ (.nil))))))))
    (case l_LONG_GROUPS_far => k_is)
    (case c_LONG_GROUPS_far => rfl)
    (case e_LONG_GROUPS_far => rfl)
    (case d_LONG_GROUPS_far => rfl)
    (case z_LONG_GROUPS_far => decide)
    (case v_LONG_GROUPS_far => exact .cons ⟨_, rfl⟩ (.cons ⟨_, rfl⟩ (.cons ⟨_, rfl⟩ (.cons ⟨_, rfl⟩ (.nil)))))
    (case l_LONG_GROUPS_less => k_is)
    (case c_LONG_GROUPS_less => rfl)
    (case e_LONG_GROUPS_less => rfl)
    (case d_LONG_GROUPS_less => rfl)
    (case z_LONG_GROUPS_less => decide)
    (case v_LONG_GROUPS_less => exact .cons ⟨_, rfl⟩ (.cons ⟨_, rfl⟩ (.cons ⟨_, rfl⟩ (.cons ⟨_, rfl⟩ (.cons ⟨_, rfl⟩ (.nil))))))
    (case l_LONG_GROUPS_more => k_is)
    (case c_LONG_GROUPS_more => rfl)
    (case e_LONG_GROUPS_more => rfl)
    (case d_LONG_GROUPS_more => rfl)
    (case z_LONG_GROUPS_more => decide)
    (case v_LONG_GROUPS_more => exact .cons ⟨_, rfl⟩ (.cons ⟨_, rfl⟩ (.cons ⟨_, rfl⟩ (.cons ⟨_, rfl⟩ (.cons ⟨_, rfl⟩ (.nil))))))
    (case l_LONG_GROUPS_under => k_is)
    (case c_LONG_GROUPS_under => rfl)
    (case e_LONG_GROUPS_under => rfl)
    (case d_LONG_GROUPS_under => rfl)
    (case z_LONG_GROUPS_under => decide)
    (case v_LONG_GROUPS_under => exact .cons ⟨_, rfl⟩ (.cons ⟨_, rfl⟩ (.nil)))
    (case l_LONG_GROUPS_over => k_is)
    (case c_LONG_GROUPS_over => rfl)
    (case e_LONG_GROUPS_over => rfl)
    (case d_LONG_GROUPS_over => rfl)
    (case z_LONG_GROUPS_over => decide)
    (case v_LONG_GROUPS_over => exact .cons ⟨_, rfl⟩ (.cons ⟨_, rfl⟩ (.nil)))
    (case l_LONG_GROUPS_cell => k_is)
    (case c_LONG_GROUPS_cell => rfl)
    (case e_LONG_GROUPS_cell => rfl)
    (case d_LONG_GROUPS_cell => rfl)
    (case z_LONG_GROUPS_cell => decide)
    (case v_LONG_GROUPS_cell => exact .cons ⟨_, rfl⟩ (.cons ⟨_, rfl⟩ (.cons ⟨_, rfl⟩ (.nil))))
    (case l_LONG_GROUPS_none => k_is)
    (case c_LONG_GROUPS_none => rfl)
    (case e_LONG_GROUPS_none => rfl)
    (case d_LONG_GROUPS_none => rfl)
    (case z_LONG_GROUPS_none => decide)
    (case v_LONG_GROUPS_none => exact .nil)
    (case g_SIGNS => k_is)
    (case l_SIGNS => k_is)
    (case c_SIGNS => rfl)
    (case e_SIGNS => rfl)
    (case d_SIGNS => rfl)
    (case z_SIGNS => decide)
    (case v_SIGNS => exact .cons ⟨_, rfl⟩ (.cons ⟨_, rfl⟩ (.cons ⟨_, rfl⟩ (.nil))))
    (case g_TURNED_SIGNS => k_is)
    (case l_TURNED_SIGNS => k_is)
    (case y_TURNED_SIGNS => first | rfl | decide)
    (case x_TURNED_SIGNS => exact ⟨⟨_, rfl⟩, rfl, ⟨_, rfl⟩, ⟨⟨_, rfl⟩, rfl, ⟨_, rfl⟩, ⟨⟨_, rfl⟩, rfl, ⟨_, rfl⟩, True.intro⟩⟩⟩)
    (case g_REST_PLACES => k_is)
    (case l_REST_PLACES => k_is)
    (case y_REST_PLACES => first | rfl | decide)
    (case x_REST_PLACES => exact ⟨⟨_, rfl⟩, rfl, rfl, ⟨⟨_, rfl⟩, rfl, rfl, ⟨⟨_, rfl⟩, rfl, rfl, True.intro⟩⟩⟩)
    (case l_REST_PLACES_0 => k_is)
    (case c_REST_PLACES_0 => rfl)
    (case d_REST_PLACES_0 => rfl)
    (case z_REST_PLACES_0 => decide)
    (case v_REST_PLACES_0 => exact .cons rfl (.cons rfl (.cons rfl (.cons rfl (.cons rfl (.nil))))))
    (case l_REST_PLACES_0_0 => k_is)
    (case c_REST_PLACES_0_0 => rfl)
    (case d_REST_PLACES_0_0 => rfl)
    (case z_REST_PLACES_0_0 => decide)
    (case v_REST_PLACES_0_0 => exact .cons ⟨_, rfl⟩ (.cons ⟨_, rfl⟩ (.nil)))
    (case l_REST_PLACES_0_1 => k_is)
    (case c_REST_PLACES_0_1 => rfl)
    (case d_REST_PLACES_0_1 => rfl)
    (case z_REST_PLACES_0_1 => decide)
    (case v_REST_PLACES_0_1 => exact .cons ⟨_, rfl⟩ (.cons ⟨_, rfl⟩ (.nil)))
    (case l_REST_PLACES_0_2 => k_is)
    (case c_REST_PLACES_0_2 => rfl)
    (case d_REST_PLACES_0_2 => rfl)
    (case z_REST_PLACES_0_2 => decide)
    (case v_REST_PLACES_0_2 => exact .cons ⟨_, rfl⟩ (.cons ⟨_, rfl⟩ (.nil)))
    (case l_REST_PLACES_0_3 => k_is)
    (case c_REST_PLACES_0_3 => rfl)
    (case d_REST_PLACES_0_3 => rfl)
    (case z_REST_PLACES_0_3 => decide)
    (case v_REST_PLACES_0_3 => exact .cons ⟨_, rfl⟩ (.cons ⟨_, rfl⟩ (.nil)))
    (case l_REST_PLACES_0_4 => k_is)
    (case c_REST_PLACES_0_4 => rfl)
    (case d_REST_PLACES_0_4 => rfl)
    (case z_REST_PLACES_0_4 => decide)
    (case v_REST_PLACES_0_4 => exact .cons ⟨_, rfl⟩ (.cons ⟨_, rfl⟩ (.nil)))
    (case l_REST_PLACES_1 => k_is)
    (case c_REST_PLACES_1 => rfl)
    (case d_REST_PLACES_1 => rfl)
    (case z_REST_PLACES_1 => decide)
    (case v_REST_PLACES_1 => exact .cons rfl (.cons rfl (.cons rfl (.nil))))
    (case l_REST_PLACES_1_0 => k_is)
    (case c_REST_PLACES_1_0 => rfl)
    (case d_REST_PLACES_1_0 => rfl)
    (case z_REST_PLACES_1_0 => decide)
    (case v_REST_PLACES_1_0 => exact .cons ⟨_, rfl⟩ (.cons ⟨_, rfl⟩ (.nil)))
    (case l_REST_PLACES_1_1 => k_is)
    (case c_REST_PLACES_1_1 => rfl)
    (case d_REST_PLACES_1_1 => rfl)
    (case z_REST_PLACES_1_1 => decide)
    (case v_REST_PLACES_1_1 => exact .cons ⟨_, rfl⟩ (.cons ⟨_, rfl⟩ (.nil)))
    (case l_REST_PLACES_1_2 => k_is)
    (case c_REST_PLACES_1_2 => rfl)
    (case d_REST_PLACES_1_2 => rfl)
    (case z_REST_PLACES_1_2 => decide)
    (case v_REST_PLACES_1_2 => exact .cons ⟨_, rfl⟩ (.cons ⟨_, rfl⟩ (.nil)))
    (case l_REST_PLACES_2 => k_is)
    (case c_REST_PLACES_2 => rfl)
    (case d_REST_PLACES_2 => rfl)
    (case z_REST_PLACES_2 => decide)
    (case v_REST_PLACES_2 => exact .cons rfl (.cons rfl (.cons rfl (.cons rfl (.cons rfl (.nil))))))
    (case l_REST_PLACES_2_0 => k_is)
    (case c_REST_PLACES_2_0 => rfl)
    (case d_REST_PLACES_2_0 => rfl)
    (case z_REST_PLACES_2_0 => decide)
    (case v_REST_PLACES_2_0 => exact .cons ⟨_, rfl⟩ (.cons ⟨_, rfl⟩ (.nil)))
    (case l_REST_PLACES_2_1 => k_is)
    (case c_REST_PLACES_2_1 => rfl)
    (case d_REST_PLACES_2_1 => rfl)
    (case z_REST_PLACES_2_1 => decide)
    (case v_REST_PLACES_2_1 => exact .cons ⟨_, rfl⟩ (.cons ⟨_, rfl⟩ (.nil)))
    (case l_REST_PLACES_2_2 => k_is)
    (case c_REST_PLACES_2_2 => rfl)
    (case d_REST_PLACES_2_2 => rfl)
    (case z_REST_PLACES_2_2 => decide)
    (case v_REST_PLACES_2_2 => exact .cons ⟨_, rfl⟩ (.cons ⟨_, rfl⟩ (.nil)))
    (case l_REST_PLACES_2_3 => k_is)
    (case c_REST_PLACES_2_3 => rfl)
    (case d_REST_PLACES_2_3 => rfl)
    (case z_REST_PLACES_2_3 => decide)
    (case v_REST_PLACES_2_3 => exact .cons ⟨_, rfl⟩ (.cons ⟨_, rfl⟩ (.nil)))
    (case l_REST_PLACES_2_4 => k_is)
    (case c_REST_PLACES_2_4 => rfl)
    (case d_REST_PLACES_2_4 => rfl)
    (case z_REST_PLACES_2_4 => decide)
    (case v_REST_PLACES_2_4 => exact .cons ⟨_, rfl⟩ (.cons ⟨_, rfl⟩ (.nil)))
    (case g_LONE_SPANS => k_is)
    (case l_LONE_SPANS => k_is)
    (case c_LONE_SPANS => rfl)
    (case d_LONE_SPANS => rfl)
    (case z_LONE_SPANS => decide)
    (case v_LONE_SPANS => exact .cons rfl (.cons rfl (.cons rfl (.cons rfl (.cons rfl (.nil))))))
    (case l_LONE_SPANS_0 => k_is)
    (case c_LONE_SPANS_0 => rfl)
    (case d_LONE_SPANS_0 => rfl)
    (case z_LONE_SPANS_0 => decide)
    (case v_LONE_SPANS_0 => exact .cons rfl (.cons ⟨_, rfl⟩ (.nil)))
    (case l_LONE_SPANS_1 => k_is)
    (case c_LONE_SPANS_1 => rfl)
    (case d_LONE_SPANS_1 => rfl)
    (case z_LONE_SPANS_1 => decide)
    (case v_LONE_SPANS_1 => exact .cons ⟨_, rfl⟩ (.cons ⟨_, rfl⟩ (.nil)))
    (case l_LONE_SPANS_2 => k_is)
    (case c_LONE_SPANS_2 => rfl)
    (case d_LONE_SPANS_2 => rfl)
    (case z_LONE_SPANS_2 => decide)
    (case v_LONE_SPANS_2 => exact .cons ⟨_, rfl⟩ (.cons ⟨_, rfl⟩ (.nil)))
    (case l_LONE_SPANS_3 => k_is)
    (case c_LONE_SPANS_3 => rfl)
    (case d_LONE_SPANS_3 => rfl)
    (case z_LONE_SPANS_3 => decide)
    (case v_LONE_SPANS_3 => exact .cons ⟨_, rfl⟩ (.cons ⟨_, rfl⟩ (.nil)))
    (case l_LONE_SPANS_4 => k_is)
    (case c_LONE_SPANS_4 => rfl)
    (case d_LONE_SPANS_4 => rfl)
    (case z_LONE_SPANS_4 => decide)
    (case v_LONE_SPANS_4 => exact .cons ⟨_, rfl⟩ (.cons rfl (.nil)))
    (case g_MOST_RULES => k_is)
    (case g_MOST_STATES => k_is)
    (case g_GAP_WORDS => k_is)
    (case l_GAP_WORDS => k_is)
    (case c_GAP_WORDS => rfl)
    (case e_GAP_WORDS => rfl)
    (case d_GAP_WORDS => rfl)
    (case z_GAP_WORDS => decide)
    (case v_GAP_WORDS => exact .cons ⟨_, rfl⟩ (.cons ⟨_, rfl⟩ (.cons ⟨_, rfl⟩ (.nil))))
    (case u_Loop___init__ => k_is)
    (case ud_Loop___init__ => rfl)
    (case uv_Loop___init__ => exact .cons rfl (.nil))
#print axioms PySem.Challenge.cw_nearloops_k77_whole_steps_far_apart_holds
