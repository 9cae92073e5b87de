import PyProof.Rows.All
import Wide.All
import OpenK.AllK
import Wide.FinOn
import HandS.ForMost
import HandS.ForExc
import HandS.Wide
import HandS.IsInst
import HandS.Flow
import HandS.Style
import HandS.Strs
import HandS.More
import HandS.TupAny
import HandS.SortInts
import HandS.Evl
import HandS.Zip
import HandS.NoneIn
import HandS.SetKeys
import HandS.DictComp
import HandS.Star
import HandS.Property
import HandS.Defaults
import HandS.Walk
import HandS.Deep
import HandS.DeepEq
import HandS.FStr
import HandS.RaiseMore
import PyProof.DictMoreH
import KE.KDictWalk
import KE.KeyNested
import PyProof.DictRoadsH
import KE.GoesEnum
import KE.GoesMore
import HandS.OwnEq
import OpenK.KOps
import PyProof.DictUpdate
import HandS.Lambda
import HandS.SetBool
import HandS.Set
import HandS.Conv
import PyProof.InstEq
import KE.GoesEnumKw
import HandS.SortKw
import HandS.Text
import HandS.ClsMeth
import HandS.ExcInit
import HandS.ExcSuper
import HandS.ExcField
import KE.KExcSuper
import HandS.WordsExc
import HandS.TryMany
import HandS.TryOnly
import HandS.ExcOwn
import PyProof.Rows.StrMeet
import PyProof.NeKinds
import HandS.ListEq
import PyProof.Rows.SetFrom
import PyProof.StrOps2
import KE.KDictDisplayH
import HandS.TupSets
import KE.KSortTupG
import KE.SortUse
import OpenK.KMeth
import PySem.Challenge.RW_nearloops_k50_tables
set_option Elab.async false
set_option linter.all false
set_option maxRecDepth 100000
set_option maxHeartbeats 4000000
/-! own words and lemmas over the layer: heaps, tests, items -/
namespace NL
open PySem L2
section
variable {H H' : Hp} {a b p q : Addr} {o u : HO}
theorem upd_keep (h : H b = some u) (n : H a = none) : upd H a o b = some u := by
  rw [upd_ne (ne_of_none h n)]; exact h
theorem upd_skip (h : b ≠ a) (hb : H b = some u) : upd H a o b = some u := by
  rw [upd_ne h]; exact hb
theorem ne_new (h : H p = some o) (n : H q = none) : q ≠ p := (ne_of_none h n).symm
theorem same_new (n : H a = none) : Same H (upd H a o) := fun c x e => upd_keep e n
theorem upd_no (h : upd H p o q = none) : H q = none := by
  unfold upd at h; split at h
  · cases h
  · exact h
/-- all but p stands -/
def But (p : Addr) (H H' : Hp) : Prop := ∀ c x, c ≠ p → H c = some x → H' c = some x
theorem But.refl : But p H H := fun _ _ _ h => h
theorem But.trans {H1 H2 H3 : Hp} (x : But p H1 H2) (y : But p H2 H3) : But p H1 H3 := fun c z n h => y c z n (x c z n h)
theorem But.upd (x : But p H H') : But p H (upd H' p o) := fun c z n h => upd_skip n (x c z n h)
theorem But.new (x : But p H H') (n : H' a = none) : But p H (L2.upd H' a o) := fun c z m h => upd_keep (x c z m h) n
theorem But.at (x : But p H H') (n : a ≠ p) (h : H a = some o) : H' a = some o := x a o n h
theorem But.same (x : But p H H') (n : H p = none) : Same H H' := fun c z h => x c z (ne_of_none h n) h
end
theorem ifD {c A B : Prop} [Decidable c] (h1 : c → A) (h2 : ¬ c → B) : if decide c = true then A else B := by
  by_cases h : c
  · rw [if_pos (decide_eq_true h)]; exact h1 h
  · rw [if_neg (by rw [decide_eq_false h]; decide)]; exact h2 h
theorem ifT {A B : Prop} {b : Bool} (hb : b = true) (h : A) : if b = true then A else B := by rw [if_pos hb]; exact h
theorem ifF {A B : Prop} {b : Bool} (hb : b = false) (h : B) : if b = true then A else B := by rw [if_neg (by rw [hb]; decide)]; exact h
theorem atI_mem {α : Type} {xs : List α} {i : Int} (h0 : 0 ≤ i) (h1 : i < (xs.length : Int)) : ∃ v, atI xs i = some v ∧ v ∈ xs := by
  have hl : i.toNat < xs.length := by omega
  refine ⟨xs[i.toNat], ?_, List.getElem_mem hl⟩
  have e : ((i.toNat : Nat) : Int) = i := Int.toNat_of_nonneg h0
  have := atI_nat (xs := xs) (j := i.toNat) (v := xs[i.toNat]) (List.getElem?_eq_getElem hl)
  rw [e] at this; exact this
theorem sz1000 {n : Nat} (h : n ≤ 1000) : n ≤ sizeLine := Nat.le_of_lt (small1000 h)
theorem sz100k {n : Nat} (h : n ≤ 100000) : n ≤ sizeLine := Nat.le_trans h (by decide)
theorem sz100k_lt {n : Nat} (h : n < 100000) : n < sizeLine := Nat.lt_of_lt_of_le h (by decide)
/-! comprehensions whose elements are values that do not hang on the heap -/
theorem take_snoc {α : Type} : ∀ {l : List α} {i : Nat} {x : α}, l[i]? = some x → l.take (i + 1) = l.take i ++ [x]
  | [], i, x, h => by simp at h
  | a :: l, 0, x, h => by
    have e : a = x := Option.some.inj h
    subst e; rfl
  | a :: l, i + 1, x, h => by
    show a :: l.take (i + 1) = a :: l.take i ++ [x]
    rw [take_snoc (l := l) (i := i) h]; rfl
theorem SqT_same {K : PySem.W.Frag} {H H' : Hp} {a : Addr} {xs : List V} (sm : Same H H') (hl : SqT K H a xs) : SqT K H' a xs := by
  rcases hl with (h | ⟨o, h⟩) | h
  · exact .inl (.inl (sm _ _ h))
  · exact .inl (.inr ⟨o, sm _ _ h⟩)
  · exact .inr h
/-! data -/
theorem shaped_of {d : PyData} (h : d.canLay0 = true) (h2 : d.depth ≤ 64) : SeqAt.shaped d = true := by
  unfold SeqAt.shaped; rw [h, decide_eq_true h2]; rfl
theorem eqv_same {d : PyData} (h : SeqAt.shaped d = true) : PyData.eqv d d = true := SeqAt.eqv_refl d (SeqAt.canLay_of_shaped h)
theorem inV_strs (z : Str) : ∀ zs : List Str, inV (.str z) (zs.map V.str) = decide (z ∈ zs)
  | [] => by simp [inV]
  | y :: zs => by
    show (eqV (.str y) (.str z) || inV (.str z) (zs.map V.str)) = _
    rw [inV_strs z zs]
    have e : eqV (.str y) (.str z) = decide (y = z) := by
      show (y == z) = _
      by_cases h : y = z
      · subst h; simp
      · simp [h]
    rw [e]
    by_cases h : y = z
    · subst h; simp
    · have h2 : ¬ z = y := fun q => h q.symm
      simp [h, h2]
/-! a dict of the module with texts as keys -/
theorem dl0 (more : List (Key × V)) (h : more.length ≤ 50) : (mergeK [] more).length ≤ 50 := by
  have := length_mergeK more []
  simp only [List.length_nil] at this; omega
theorem dl1 {kvs : List (Key × V)} {k : Key} {v : V} {n : Nat} (h : kvs.length ≤ n) : (putK kvs k v).length ≤ n + 1 := Nat.le_trans (length_putK _ _ _) (Nat.succ_le_succ h)
/-! the source -/
/-- at p stands a source that has been drawn from c times -/
def Src (H : Hp) (p : Addr) (c : Int) : Prop := ∃ g s : Int, H p = some (.lst [.int g, .int s, .int c]) ∧ 0 ≤ s ∧ s < 2147483647 ∧ 0 ≤ c
section
variable {H H' : Hp} {p q : Addr} {c : Int} {o : HO}
theorem Src.ne (h : Src H p c) (n : H q = none) : q ≠ p := by obtain ⟨_, _, e, _⟩ := h; exact ne_new e n
theorem Src.keep (h : Src H p c) (n : H q = none) : Src (L2.upd H q o) p c := by
  obtain ⟨g, s, e, r⟩ := h; exact ⟨g, s, upd_keep e n, r⟩
theorem Src.same (h : Src H p c) (s : Same H H') : Src H' p c := by
  obtain ⟨g, z, e, r⟩ := h; exact ⟨g, z, s _ _ e, r⟩
end
/-! places -/
def signS (i j : Int) : Str := if i = j then "=" else if i < j then "<" else ">"
def placeOfS (d : Int) (z : Str) : Str := if d < -1 then "below" else if 1 < d then "above" else (if d = -1 then "-" else if d = 1 then "+" else "") ++ z
def placeS (x k e : Int) : Str := placeOfS (x / e - k / e) (signS (x % e) (k % e))
end NL
namespace NL
open PySem L2
/-! ### an expression's value, told by a word of one's own -/
/-! ### a list or a tuple -/
def Sq (K : PySem.W.Frag) (H : Hp) (a : Addr) (xs : List V) : Prop := SqL K H a xs ∨ SqT K H a xs
section
variable {K : PySem.W.Frag} {H H' : Hp} {a b : Addr} {xs : List V}
theorem Sq.same (s : Same H H') (h : Sq K H a xs) : Sq K H' a xs := by
  rcases h with h | h
  · exact .inl (s.seq h)
  · exact .inr (SqT_same s h)
theorem Sq.lst (h : H a = some (.lst xs)) : Sq K H a xs := .inl (SqL.of h)
theorem Sq.tup (h : H a = some (.tup xs)) : Sq K H a xs := .inr (SqT.of h)
theorem SqT.tyx (h : SqT K H a xs) : TyX K H (.ref a) (.type "tuple") := by
  rcases h with (h | ⟨o, h⟩) | ⟨o, its, n, h1, h2, _⟩
  · exact .base (.tup h)
  · exact .fTuple h
  · exact .kTuple h1 h2
theorem Sq.len (h : Sq K H a xs) : LenV K (.ref a) H xs.length := by
  rcases h with h | h
  · exact .inl ⟨xs, h, rfl⟩
  · exact .inr ⟨xs, h, rfl⟩
end
/-! ### rules that take either -/
section
variable {X : Cx}
theorem PG.or {tg : Expr} {t u : TG} (h1 : PG X tg t) (h2 : PG X tg u) : PG X tg (fun v σ H Q => t v σ H Q ∨ u v σ H Q) := by
  refine ⟨fun pins s σ H v w Q I r hw => ?_⟩
  rcases hw with hw | hw
  · exact h1.run pins s σ H v w Q I r hw
  · exact h2.run pins s σ H v w Q I r hw
def gSeq (K : PySem.W.Frag) (n : Nat) (t : TGs) : TG := fun v σ H Q => ∃ a xs, v = .ref a ∧ Sq K H a xs ∧ xs.length = n ∧ t xs σ H Q
/-- a, b, .. = a list or a tuple -/
theorem pg_seq {es : List Expr} {k : Nat} {t : TGs} {n : Nat} {pos : Pos} (hc : X.calm = true) (h : PGs X es t)
    (hn : (assignEach es X.env).length = n := by rfl) (hst : (assignEach es X.env).findIdx? (·.1) = none := by rfl) : PG X (.Tuple es k pos) (gSeq X.K n t) := by
  have h1 := pg_tup (k := k) (pos := pos) hc h hn hst
  have h2 := pg_unl (k := k) (pos := pos) hc h hn hst
  refine ⟨fun pins s σ H v u Q I r hw => ?_⟩
  obtain ⟨a, xs, rfl, hq, hl, hw⟩ := hw
  rcases hq with hq | hq
  · exact h2.run pins s σ H _ u Q I r ⟨a, xs, rfl, hq, hl, hw⟩
  · exact h1.run pins s σ H _ u Q I r ⟨a, xs, rfl, hq, hl, hw⟩
end
/-! ### d.setdefault((a, b), v): keys that are tuples -/
/-! ### what stands beside the source -/
end NL
/-! ### dicts whose keys are of any kind: texts, ints, bools, None, tuples of such, beside one another -/
namespace NL
open PySem PySem.Spec PyProof.Rows
section
variable {P : Program} {w : World} {A : Around} {E : Value → Shared → Prop} {s : Shared}
/-- an entry with the key k -/
def EnK (w : World) (h : Heap) (k : NestedKey) (e : DictEntry) : Prop := e.hash = k.hash w ∧ NestedIs h k e.key ∧ k.depth ≤ 8
abbrev EnKs (w : World) (h : Heap) (ks : List NestedKey) (es : List DictEntry) : Prop := Paired (EnK w h) ks es
theorem EnKs.at : ∀ {h : Heap} {ks : List NestedKey} {es : List DictEntry} {i : Nat} {e : DictEntry}, EnKs w h ks es → es[i]? = some e → ∃ k, ks[i]? = some k ∧ EnK w h k e
  | _, _, _, _, _, .nil, q => by simp at q
  | _, _, _, 0, _, .cons r _, q => by simp at q; subst q; exact ⟨_, rfl, r⟩
  | _, _, _, i + 1, e, .cons _ t, q => by
    obtain ⟨k, h1, h2⟩ := EnKs.at (i := i) (e := e) t (by simpa using q)
    exact ⟨k, by simpa using h1, h2⟩
theorem EnKs.of : ∀ {h : Heap} {ks : List NestedKey} {es : List DictEntry} {i : Nat} {k : NestedKey}, EnKs w h ks es → ks[i]? = some k → ∃ e, es[i]? = some e ∧ EnK w h k e
  | _, _, _, _, _, .nil, q => by simp at q
  | _, _, _, 0, _, .cons r _, q => by simp at q; subst q; exact ⟨_, rfl, r⟩
  | _, _, _, i + 1, e, .cons _ t, q => by
    obtain ⟨k, h1, h2⟩ := EnKs.of (i := i) t (by simpa using q)
    exact ⟨k, by simpa using h1, h2⟩
end
/-! ### the dict at an address -/
section
variable {P : Program} {w : World}
theorem EnKs.len {h : Heap} {ks : List NestedKey} {es : List DictEntry} (x : EnKs w h ks es) : ks.length = es.length := Paired.length x
variable {A : Around} {E : Value → Shared → Prop} {s : Shared} {d : Addr} {u : Value} {k : NestedKey} {ks : List NestedKey} {es : Array DictEntry}
theorem EnKs.keep {h h' : Heap} {es : List DictEntry} (hk : ∀ a o vs n, h.get? a = some o → o.data = .seq vs n → h'.get? a = some o) (x : EnKs w h ks es) : EnKs w h' ks es := by
  induction x with
  | nil => exact .nil
  | cons r _ ih => exact .cons ⟨r.1, NestedIs.at hk _ _ r.2.1, r.2.2⟩ ih
theorem EnKs.modify {h : Heap} {v : Value} : ∀ {ks : List NestedKey} {es : List DictEntry} (j : Nat), EnKs w h ks es → EnKs w h ks (es.modify j fun e => { e with val := v })
  | _, _, _, .nil => by simpa using (Paired.nil : EnKs w h [] [])
  | _, _, 0, .cons r t => by rw [List.modify_zero_cons]; exact .cons r t
  | _, _, j + 1, .cons r t => by rw [List.modify_succ_cons]; exact .cons r (EnKs.modify j t)
end
end NL
/-! ### .. over the hand layer -/
namespace NL
open PySem PySem.Spec PyProof.Rows
open L2
/-! what is a key over the abstract heap -/
mutual
inductive KyAt (K : PySem.W.Frag) (H : Hp) : V → NestedKey → Prop
  | non : KyAt K H .non .none
  | bl (b : Bool) : KyAt K H (.bl b) (.num (if b = true then 1 else 0))
  | int (i : Int) : KyAt K H (.int i) (.num i)
  | str (z : Str) : KyAt K H (.str z) (.text z)
  | tup {a : Addr} {vs : List V} {ks : List NestedKey} : SqT K H a vs → KysAt K H vs ks → KyAt K H (.ref a) (.tup ks)
inductive KysAt (K : PySem.W.Frag) (H : Hp) : List V → List NestedKey → Prop
  | nil : KysAt K H [] []
  | cons {v : V} {vs : List V} {k : NestedKey} {ks : List NestedKey} : KyAt K H v k → KysAt K H vs ks → KysAt K H (v :: vs) (k :: ks)
end
mutual
theorem KyAt.same {K : PySem.W.Frag} {H H' : Hp} (s : Same H H') : ∀ {v : V} {k : NestedKey}, KyAt K H v k → KyAt K H' v k
  | _, _, .non => .non
  | _, _, .bl b => .bl b
  | _, _, .int i => .int i
  | _, _, .str z => .str z
  | _, _, .tup e hs => .tup (SqT_same s e) (KysAt.same s hs)
theorem KysAt.same {K : PySem.W.Frag} {H H' : Hp} (s : Same H H') : ∀ {vs : List V} {ks : List NestedKey}, KysAt K H vs ks → KysAt K H' vs ks
  | _, _, .nil => .nil
  | _, _, .cons h1 h2 => .cons (KyAt.same s h1) (KysAt.same s h2)
end
/-! the abstract dict -/
abbrev XE := NestedKey × V × V
def GXR (w : World) (a : Addr) (ep : Nat) (xs : List XE) (h : Heap) : Prop := (∃ o es, h.get? a = some o ∧ o.ExactDict ∧ o.data = .dict es ep ∧ Paired (fun (x : XE) (e : DictEntry) => (e.hash = x.1.hash w ∧ x.1.depth ≤ 8) ∧ RelV x.2.1 e.key ∧ RelV x.2.2 e.val) xs es.toList) ∧ (xs.map (·.1)).Nodup ∧ xs.length ≤ sizeLine ∧ (a == sysModules) = false
def GX (w : World) (a : Addr) (ep : Nat) (xs : List XE) : HO := .ext (GXR w a ep xs)
def valX : List XE → NestedKey → Option V
  | [], _ => none
  | x :: r, k => if x.1 = k then some x.2.2 else valX r k
def putX : List XE → NestedKey → V → V → List XE
  | [], k, y, v => [(k, y, v)]
  | x :: r, k, y, v => if x.1 = k then (x.1, x.2.1, v) :: r else x :: putX r k y v
def KeysX (K : PySem.W.Frag) (H : Hp) (xs : List XE) : Prop := ∀ x ∈ xs, KyAt K H x.2.1 x.1
theorem KeysX.same {K : PySem.W.Frag} {H H' : Hp} {xs : List XE} (s : Same H H') (h : KeysX K H xs) : KeysX K H' xs := fun x hx => (h x hx).same s
abbrev XRel (w : World) : List XE → List DictEntry → Prop := Paired fun (x : XE) (e : DictEntry) => (e.hash = x.1.hash w ∧ x.1.depth ≤ 8) ∧ RelV x.2.1 e.key ∧ RelV x.2.2 e.val
theorem XRel.val {w : World} : ∀ {xs : List XE} {es : List DictEntry} (k : NestedKey), XRel w xs es → RelO (valX xs k) (((xs.map (·.1)).idxOf? k).bind fun j => es[j]?.map (·.val))
  | _, _, k, .nil => by simp [valX, RelO]
  | x :: xs, e :: es, k, .cons r t => by
    unfold valX
    rw [List.map_cons, List.idxOf?_cons]
    by_cases q : x.1 = k
    · rw [if_pos q, if_pos (by simpa using q)]; exact r.2.2
    · rw [if_neg q, if_neg (by simpa using q)]
      have ih := XRel.val k t
      cases z : (xs.map (·.1)).idxOf? k with
      | none => rw [z] at ih; exact ih
      | some j => rw [z] at ih; simpa using ih
theorem XRel.put {w : World} {k : NestedKey} {y v : V} {u r' : Value} (h8 : k.depth ≤ 8) (ry : RelV y u) (rv : RelV v r') : ∀ {xs : List XE} {es : List DictEntry}, XRel w xs es →
    XRel w (putX xs k y v) (match (xs.map (·.1)).idxOf? k with
      | none => es ++ [⟨k.hash w, u, r'⟩]
      | some j => es.modify j fun e => { e with val := r' })
  | _, _, .nil => .cons ⟨⟨rfl, h8⟩, ry, rv⟩ .nil
  | x :: xs, e :: es, .cons r t => by
    unfold putX
    rw [List.map_cons, List.idxOf?_cons]
    by_cases q : x.1 = k
    · rw [if_pos q, if_pos (by simpa using q)]
      show XRel w _ ((e :: es).modify 0 _)
      rw [List.modify_zero_cons]
      exact .cons ⟨r.1, r.2.1, rv⟩ t
    · rw [if_neg q, if_neg (by simpa using q)]
      have ih := XRel.put h8 ry rv t
      cases z : (xs.map (·.1)).idxOf? k with
      | none => rw [z] at ih; exact .cons r ih
      | some j =>
        rw [z] at ih
        show XRel w _ ((e :: es).modify (j + 1) _)
        rw [List.modify_succ_cons]
        exact .cons r ih
/-! rules -/
/-! walks -/
theorem XRel.get {w : World} : ∀ {xs : List XE} {es : List DictEntry} {i : Nat} {e : XE}, XRel w xs es → xs[i]? = some e → ∃ z, es[i]? = some z ∧ RelV e.2.1 z.key ∧ RelV e.2.2 z.val
  | _, _, _, _, .nil, q => by simp at q
  | _, _, 0, _, .cons r _, q => by simp at q; subst q; exact ⟨_, rfl, r.2⟩
  | _, _, i + 1, e, .cons _ t, q => by simpa using XRel.get (i := i) t (by simpa using q)
end NL
/-! for i, x in enumerate(t), t a tuple -/
namespace PySem
end PySem
namespace NL
open PySem L2 PySem.Spec PyProof.Rows
end NL
namespace NL
open PySem L2
/-! the place hangs on the difference of cells and the order of rests -/
/-! the eleven places in order, by ten bounds -/
def PL : List Str := ["below", "-<", "-=", "->", "<", "=", ">", "+<", "+=", "+>", "above"]
/-! turned places -/
end NL
namespace NL
open PySem L2
/-! groups -/
def LG : List (Str × List Str) := [("any", ["below", "-<", "-=", "->", "<", "=", ">", "+<", "+=", "+>", "above"]), ("near", ["-=", "->", "<", "=", ">", "+<", "+="]), ("far", ["below", "-<", "+>", "above"]), ("less", ["below", "-<", "-=", "->", "<"]), ("more", [">", "+<", "+=", "+>", "above"]), ("under", ["below", "-<"]), ("over", ["+>", "above"]), ("cell", ["<", "=", ">"]), ("none", [])]
def isGroupB (z : Str) : Bool := decide (z ∈ PL) || (LG.lookup z).isSome
def groupS (z : Str) : List Str := if z ∈ PL then [z] else (LG.lookup z).getD []
end NL
namespace NL
open PySem L2
/-! ### loops as plain data -/
def ALPHA : List Nat := ("abcdefghijklmnopqrstuvwxyz" : Str).cps.toList
def isNameB (z : Str) : Bool := decide (1 ≤ z.length) && decide (z.length ≤ 8) && z.cps.toList.all fun c => decide (c ∈ ALPHA)
structure Rule where
  st : Str
  gs : List Str
  wd : Str
  kp : Bool
  nx : Str
def wfRule (r : Rule) : Bool := isNameB r.st && isNameB r.wd && isNameB r.nx && decide (0 < r.gs.length) && r.gs.all isGroupB
def addS (acc : List Str) (z : Str) : List Str := if z ∈ acc then acc else acc ++ [z]
def statesF (acc : List Str) (rs : List Rule) : List Str := rs.foldl (fun acc r => addS (addS acc r.st) r.nx) acc
def statesR (rs : List Rule) : List Str := statesF [] rs
/-! ### which rule is used -/
def fitsG (p g : Str) : Bool := if g = "none" then decide (p = "none") else decide (p ∈ groupS g)
def Rule.fits (r : Rule) (p : Str) : Bool := r.gs.any (fitsG p)
def hitR (s p : Str) (r : Rule) : Bool := decide (r.st = s) && r.fits p
def fitIdx (rs : List Rule) (s p : Str) : Option Nat := rs.findIdx? (hitR s p)
def usedR (rs : List Rule) (s p : Str) : Str × Bool × Str := match rs.find? (hitR s p) with
  | none => (("pass" : Str), false, s)
  | some r => (r.wd, r.kp, r.nx)
/-! ### runs -/
structure RS where
  st : Str
  words : List Str
  keeps : List Bool
  kept : List Int
def whereS (kept : List Int) (x e : Int) : Str := match kept.getLast? with
  | none => "none"
  | some k => placeS x k e
def runStep (rs : List Rule) (e : Int) (s : RS) (x : Int) : RS :=
  let u := usedR rs s.st (whereS s.kept x e)
  ⟨u.2.2, s.words ++ [u.1], s.keeps ++ [u.2.1], if u.2.1 = true then s.kept ++ [x] else s.kept⟩
def startR (rs : List Rule) : Str := match rs with
  | [] => ""
  | r :: _ => r.st
def runR (rs : List Rule) (e : Int) (row : List Int) : RS := row.foldl (runStep rs e) ⟨startR rs, [], [], []⟩
/-! ### the law's own look at rules -/
end NL
namespace NL
open PySem L2
/-! ### slices of a list or a tuple -/
/-! ### rules, in the heap -/
def RuleAt (K : PySem.W.Frag) (H : Hp) (v : V) (r : Rule) : Prop := ∃ t g, v = .ref t ∧ Sq K H t [.str r.st, .ref g, .str r.wd, .bl r.kp, .str r.nx] ∧ Sq K H g (r.gs.map V.str)
def RuleT (K : PySem.W.Frag) (H : Hp) (v : V) (r : Rule) : Prop := ∃ t g, v = .ref t ∧ SqT K H t [.str r.st, .ref g, .str r.wd, .bl r.kp, .str r.nx] ∧ SqT K H g (r.gs.map V.str)
def RulesAt (K : PySem.W.Frag) (H : Hp) (a : Addr) (rs : List Rule) : Prop := ∃ vs, Sq K H a vs ∧ Paired (RuleAt K H) vs rs
def RulesT (K : PySem.W.Frag) (H : Hp) (a : Addr) (rs : List Rule) : Prop := ∃ vs, SqT K H a vs ∧ Paired (RuleT K H) vs rs
section
variable {K : PySem.W.Frag} {H H' : Hp}
theorem RuleAt.same {v : V} {r : Rule} (s : Same H H') (h : RuleAt K H v r) : RuleAt K H' v r := by
  obtain ⟨t, g, e, h1, h2⟩ := h; exact ⟨t, g, e, h1.same s, h2.same s⟩
theorem RuleT.same {v : V} {r : Rule} (s : Same H H') (h : RuleT K H v r) : RuleT K H' v r := by
  obtain ⟨t, g, e, h1, h2⟩ := h; exact ⟨t, g, e, SqT_same s h1, SqT_same s h2⟩
theorem RuleT.at {v : V} {r : Rule} (h : RuleT K H v r) : RuleAt K H v r := by
  obtain ⟨t, g, e, h1, h2⟩ := h; exact ⟨t, g, e, .inr h1, .inr h2⟩
theorem RulesAt.same {a : Addr} {rs : List Rule} (s : Same H H') (h : RulesAt K H a rs) : RulesAt K H' a rs := by
  obtain ⟨vs, h1, h2⟩ := h; exact ⟨vs, h1.same s, Paired.mapP h2 fun _ _ => RuleAt.same s⟩
theorem RulesT.same {a : Addr} {rs : List Rule} (s : Same H H') (h : RulesT K H a rs) : RulesT K H' a rs := by
  obtain ⟨vs, h1, h2⟩ := h; exact ⟨vs, SqT_same s h1, Paired.mapP h2 fun _ _ => RuleT.same s⟩
theorem RulesT.at {a : Addr} {rs : List Rule} (h : RulesT K H a rs) : RulesAt K H a rs := by
  obtain ⟨vs, h1, h2⟩ := h; exact ⟨vs, .inr h1, Paired.mapP h2 fun _ _ => RuleT.at⟩
end
/-! ### the dict of states -/
/-! ### tuple(x), x a list or a tuple -/
def rTupOf (K : PySem.W.Frag) : List V → Hp → VK → Prop := fun xs H Q => ∃ p ys, xs = [.ref p] ∧ ((SqL K H p ys ∧ ∀ l, H l = none → Q (.ref l) (upd H l (.tup ys))) ∨ (SqT K H p ys ∧ Q (.ref p) H))
def rListOf (K : PySem.W.Frag) : List V → Hp → VK → Prop := fun xs H Q => ∃ p ys, xs = [.ref p] ∧ (SqL K H p ys ∨ SqT K H p ys) ∧ ∀ l, H l = none → Q (.ref l) (upd H l (.lst ys))
/-! ### answers -/
def ansOf (ans : List (Str × Str)) (s : Str) : Str := (ans.lookup s).getD ""
def ansV (rs : List Rule) (ans : List (Str × Str)) : List (Key × V) := (statesR rs).map fun s => (Sum.inr s, V.str (ansOf ans s))
/-! ### the table of a loop -/
def TabIs (tab : List (List Key × V)) (f : Str → Str → Option Nat) : Prop := ∀ s p : Str, valV tab [Sum.inr s, Sum.inr p] = (f s p).map fun (k : Nat) => V.int (k : Int)
/-! ### a loop, in the heap -/
def LoopAt (K : PySem.W.Frag) (C : Addr) (H : Hp) (p : Addr) (rs : List Rule) (ans : List (Str × Str)) : Prop :=
  ∃ (dx ra rd rt : Addr) (tab : List (List Key × V)), H p = some (.ins C dx [("own_rules", .ref ra), ("own_answers", .ref rd), ("table", .ref rt)]) ∧ RulesT K H ra rs ∧ H rd = some (.dK (ansV rs ans)) ∧ H rt = some (.dT tab) ∧ TabIs tab (fitIdx rs)
theorem LoopAt.same {K : PySem.W.Frag} {C : Addr} {H H' : Hp} {p : Addr} {rs : List Rule} {ans : List (Str × Str)} (s : Same H H') (h : LoopAt K C H p rs ans) : LoopAt K C H' p rs ans := by
  obtain ⟨dx, ra, rd, rt, tab, h1, h2, h3, h4, h5⟩ := h
  exact ⟨dx, ra, rd, rt, tab, s _ _ h1, h2.same s, s _ _ h3, s _ _ h4, h5⟩
/-! ### a run, in the heap -/
def RunAt (K : PySem.W.Frag) (C : Addr) (H : Hp) (p : Addr) (r : RS) (an : Str) : Prop :=
  ∃ (dx a b c : Addr), H p = some (.ins C dx [("words", .ref a), ("keeps", .ref b), ("kept", .ref c), ("state", .str r.st), ("answer", .str an)]) ∧ H a = some (.tup (r.words.map V.str)) ∧ H b = some (.tup (r.keeps.map V.bl)) ∧ H c = some (.tup (r.kept.map V.int))
theorem RunAt.same {K : PySem.W.Frag} {C : Addr} {H H' : Hp} {p : Addr} {r : RS} {an : Str} (s : Same H H') (h : RunAt K C H p r an) : RunAt K C H' p r an := by
  obtain ⟨dx, a, b, c, h1, h2, h3, h4⟩ := h
  exact ⟨dx, a, b, c, s _ _ h1, s _ _ h2, s _ _ h3, s _ _ h4⟩
/-- a row that stands in the heap -/
def RowAt (H : Hp) (a : Addr) (xs : List V) : Prop := H a = some (.lst xs) ∨ H a = some (.tup xs)
theorem RowAt.same {H H' : Hp} {a : Addr} {xs : List V} (s : Same H H') (h : RowAt H a xs) : RowAt H' a xs := by
  rcases h with h | h
  · exact .inl (s _ _ h)
  · exact .inr (s _ _ h)
theorem RowAt.stays {H H1 H' : Hp} {a : Addr} {xs : List V} (h : RowAt H a xs) (s1 : Same H H1) (s2 : Same H H') {o : HO} (ho : H1 a = some o) : H' a = some o := by
  rcases h with h | h
  · have := (s1 _ _ h).symm.trans ho
    rw [← this]; exact s2 _ _ h
  · have := (s1 _ _ h).symm.trans ho
    rw [← this]; exact s2 _ _ h
end NL
/-! len(x), x == y by a class's own methods -/
namespace NL
open PySem L2
section
variable {X : Cx} {CX : CXT} {n : Nat} {f C : Addr} {fd : FuncData} {ps : List Str} {sp : Sp} {E : XK}
/-- a call of an own method from within a builtin -/
theorem run_own (F : FnOk X.prog X.w X.K X.mg X.base CX n f fd ps sp) {A : Around} (hroom : Room n A) (hfr : A.frames = X.A.frames) (hb : Binds X.K fd ps []) (hx : Passes CX X E) {pins : List (Addr × Obj)} {s : Shared} {σ : L2.St} {H : Hp} {vs : List V} {us : List Value} {Q : VK}
    (I : Inv X pins σ H s) (r : Vals vs us) (h : sp vs H Q E) : wpAny (model X.prog X.w) A (call (.ref f) us) (EP X pins σ Q) X.xe s := by
  have e0 : Env0 X.prog X.w X.K X.mg X.base A X.stack s H := by
    have e := I.env0
    exact ⟨by rw [hfr]; exact e.frames, e.mod, e.bs, e.bsz, e.funs, e.frf, e.hok, e.bare⟩
  have hl := F.len _ _ _ _ h
  have hl2 := r.length
  refine wpAny_call (codeAny_mono (F.run A X.stack s H ⟨us, []⟩ us vs _ E hroom e0 (by
    have := hb s us I.kIn (by simp only [List.append_nil]; omega)
    simpa using this) r h) fun rr s' hq => ?_)
  cases rr with
  | error e => exact hx pins σ H s e s' I hq
  | ok fl =>
    cases fl with
    | ret w =>
      obtain ⟨z, H', I', rz, q⟩ := I.after hq
      exact ⟨z, H', I', rz, q⟩
    | next => exact False.elim hq
    | brk => exact False.elim hq
    | cont => exact False.elim hq
end
end NL
/-! d.update(e), both with keys that are ints and texts -/
namespace NL
open PySem L2
end NL
namespace NL
open PySem L2
/-! ### drawn names -/
/-! ### the law's own groups -/
/-! ### the law's own rules: a list of tuples, with lists of groups -/
def RuleL (H : Hp) (v : V) (r : Rule) : Prop := ∃ t g, v = .ref t ∧ H t = some (.tup [.str r.st, .ref g, .str r.wd, .bl r.kp, .str r.nx]) ∧ H g = some (.lst (r.gs.map V.str))
def RulesL (H : Hp) (a : Addr) (rs : List Rule) : Prop := ∃ vs, H a = some (.lst vs) ∧ Paired (RuleL H) vs rs
section
variable {K : PySem.W.Frag} {H H' : Hp}
theorem RuleL.same {v : V} {r : Rule} (s : Same H H') (h : RuleL H v r) : RuleL H' v r := by
  obtain ⟨t, g, e, h1, h2⟩ := h; exact ⟨t, g, e, s _ _ h1, s _ _ h2⟩
theorem RuleL.at {v : V} {r : Rule} (h : RuleL H v r) : RuleAt K H v r := by
  obtain ⟨t, g, e, h1, h2⟩ := h; exact ⟨t, g, e, Sq.tup h1, Sq.lst h2⟩
theorem RulesL.same {a : Addr} {rs : List Rule} (s : Same H H') (h : RulesL H a rs) : RulesL H' a rs := by
  obtain ⟨vs, h1, h2⟩ := h; exact ⟨vs, s _ _ h1, Paired.mapP h2 fun _ _ => RuleL.same s⟩
theorem RulesL.at {a : Addr} {rs : List Rule} (h : RulesL H a rs) : RulesAt K H a rs := by
  obtain ⟨vs, h1, h2⟩ := h; exact ⟨vs, Sq.lst h1, Paired.mapP h2 fun _ _ => RuleL.at⟩
end
/-! ### dicts of lists -/
def PartR (H : Hp) (kv : Key × V) (q : Str × List Str) : Prop := kv.1 = Sum.inr q.1 ∧ ∃ a, kv.2 = .ref a ∧ H a = some (.lst (q.2.map V.str))
theorem PartR.same {H H' : Hp} {kv : Key × V} {q : Str × List Str} (s : Same H H') (h : PartR H kv q) : PartR H' kv q := by
  obtain ⟨e, a, h1, h2⟩ := h; exact ⟨e, a, h1, s _ _ h2⟩
/-! ### ints and bools as data -/
theorem name_ok {z : Str} (h : isNameB z = true) : PyData.strOk z = true := by
  unfold isNameB at h
  simp only [Bool.and_eq_true, List.all_eq_true, decide_eq_true_eq] at h
  unfold PyData.strOk
  rw [Array.all_eq_true_iff_forall_mem]
  intro c hc
  have h1 := h.2 c (by simpa using hc)
  have : ∀ c ∈ ALPHA, decide (c < 0x110000) = true := by decide +kernel
  exact this c h1
/-! ### drawn rules -/
def W3 : List Str := [("new" : Str), "old", "pass"]
theorem W3_name : ∀ z ∈ W3, isNameB z = true := by decide +kernel
/-- rules as the law draws them: of at most `many` states, at most `most` rules -/
structure Drawn (rs : List Rule) (many most : Int) : Prop where
  pos : 0 < rs.length
  few : (rs.length : Int) ≤ most
  wf : ∀ r ∈ rs, wfRule r = true
  gs : ∀ r ∈ rs, r.gs.length ≤ 4
  wd : ∀ r ∈ rs, r.wd ∈ W3
  st : ((statesR rs).length : Int) ≤ many
/-! ### facts beside the source -/
theorem Src.lst {H : Hp} {p : Addr} {c : Int} (h : Src H p c) : ∃ ys, H p = some (.lst ys) := by obtain ⟨_, _, e, _⟩ := h; exact ⟨_, e⟩
theorem run_words (rs : List Rule) (e : Int) (row : List Int) : ∀ w ∈ (runR rs e row).words, w = ("pass" : Str) ∨ ∃ r ∈ rs, w = r.wd := by
  suffices h : ∀ (s : RS), ∀ w ∈ (row.foldl (runStep rs e) s).words, w ∈ s.words ∨ w = ("pass" : Str) ∨ ∃ r ∈ rs, w = r.wd by
    intro w hw
    rcases h _ w hw with h | h
    · exact nomatch h
    · exact h
  induction row with
  | nil => intro s w hw; exact .inl hw
  | cons y row ih =>
    intro s w hw
    rcases ih _ w hw with h | h
    · simp only [runStep] at h
      rcases List.mem_append.mp h with h | h
      · exact .inl h
      · refine .inr ?_
        have e2 := List.mem_singleton.mp h
        unfold usedR at e2
        cases hf : rs.find? (hitR s.st (whereS s.kept y e)) with
        | none => rw [hf] at e2; exact .inl e2
        | some r => rw [hf] at e2; exact .inr ⟨r, List.mem_of_find?_eq_some hf, e2⟩
    · exact .inr h
theorem Drawn.words {rs : List Rule} {many most : Int} (h : Drawn rs many most) (e : Int) (row : List Int) : ∀ w ∈ (runR rs e row).words, PyData.strOk w = true := fun w hw => by
  rcases run_words rs e row w hw with rfl | ⟨r, hr, rfl⟩
  · decide +kernel
  · exact name_ok (W3_name _ (h.wd r hr))
/-! ### lists of data -/
def fineD (d : PyData) : Prop := d.canLay0 = true ∧ d.depth ≤ 10
theorem fine_all : ∀ {ds : List PyData}, (∀ d ∈ ds, fineD d) → PyData.canLayAll0 ds = true ∧ PyData.depthAll ds ≤ 10
  | [], _ => ⟨rfl, Nat.zero_le _⟩
  | d :: ds, h => by
    obtain ⟨h1, h2⟩ := fine_all fun x hx => h x (List.mem_cons_of_mem _ hx)
    obtain ⟨h3, h4⟩ := h d List.mem_cons_self
    refine ⟨?_, ?_⟩
    · show (d.canLay0 && PyData.canLayAll0 ds) = true
      rw [h3, h1]; rfl
    · show max d.depth (PyData.depthAll ds) ≤ 10
      omega
end NL
/-! ### the data layer: defs read as plain functions over data, no heap in sight -/
namespace NL
open PySem L2
inductive D where
  | non
  | bl (b : Bool)
  | int (i : Int)
  | str (z : Str)
  | lst (ds : List D)
  | tup (ds : List D)
  | dct (kvs : List (Key × D))
  | dcT (kvs : List (List Key × D))
  | loop (rs : List Rule) (ans : List (Str × Str))
  | run (r : RS) (an : Str)
  | src
  | set (ns : List Int)
  | cls
  | obj (c : Str) (fs : List (Str × D))
  | loc (a : Addr)
/-- cells that are changed by whoever knows their place -/
inductive MC where
  | lst (ds : List D)
  | dK (es : List (Key × D))
  | dT (es : List (List Key × D))
  | obj (c : Str) (dx : Addr) (fs : List (Str × D))
  | tab (q : Str)
  | dX (es : List (D × D))
/-- the source's state, and what is known of the cells that are changed -/
structure SrcT where
  g : Int
  s : Int
  c : Int
  m : Addr → Option MC := fun _ => none
/-- the source's place; what a def began with -/
structure Fr where
  p : Option Addr
  B0 : Hp
  H0 : Hp
  v : Bool := false
  M0 : Addr → Option MC := fun _ => none
/-- what is written: the classes' places -/
structure Gm where
  K : PySem.W.Frag
  cl : Addr
  cr : Addr
  ec : Nat → Addr
  ef : Nat → Str
  w : World
  oc : Str → Addr
  v : Bool := false
  fx : Option Fr := none
def SrcAt (H : Hp) (q : Addr) (S : SrcT) : Prop := H q = some (.lst [.int S.g, .int S.s, .int S.c]) ∧ 0 ≤ S.s ∧ S.s < 2147483647 ∧ 0 ≤ S.c
mutual
inductive DV (G : Gm) (p : Option Addr) (B : Hp) : V → D → Prop
  | non : DV G p B .non .non
  | bl (b : Bool) : DV G p B (.bl b) (.bl b)
  | int (i : Int) : DV G p B (.int i) (.int i)
  | str (z : Str) : DV G p B (.str z) (.str z)
  | lst {a : Addr} {xs : List V} {ds : List D} : B a = some (.lst xs) → DVs G p B xs ds → DV G p B (.ref a) (.lst ds)
  | tup {a : Addr} {xs : List V} {ds : List D} : SqT G.K B a xs → DVs G p B xs ds → DV G p B (.ref a) (.tup ds)
  | dct {a : Addr} {kvs : List (Key × V)} {es : List (Key × D)} : B a = some (.dK kvs) → kvs.map Prod.fst = es.map Prod.fst → DVs G p B (kvs.map Prod.snd) (es.map Prod.snd) → DV G p B (.ref a) (.dct es)
  | dcT {a : Addr} {kvs : List (List Key × V)} {es : List (List Key × D)} : B a = some (.dT kvs) → kvs.map Prod.fst = es.map Prod.fst → DVs G p B (kvs.map Prod.snd) (es.map Prod.snd) → DV G p B (.ref a) (.dcT es)
  | loop {a : Addr} {rs : List Rule} {ans : List (Str × Str)} : LoopAt G.K G.cl B a rs ans → DV G p B (.ref a) (.loop rs ans)
  | run {a : Addr} {r : RS} {an : Str} : RunAt G.K G.cr B a r an → DV G p B (.ref a) (.run r an)
  | src {q : Addr} : p = some q → DV G p B (.ref q) .src
  | set {a : Addr} {M : Int → Bool} {ns : List Int} : B a = some (SetO G.w a M ns.length) → (∀ k, M k = true ↔ k ∈ ns) → ns.Nodup → DV G p B (.ref a) (.set ns)
  | cls : DV G p B (.ref G.cl) .cls
  | obj {a dx : Addr} {c : Str} {kvs : List (Str × V)} {fs : List (Str × D)} : B a = some (.ins (G.oc c) dx kvs) → kvs.map Prod.fst = fs.map Prod.fst → DVs G p B (kvs.map Prod.snd) (fs.map Prod.snd) → DV G p B (.ref a) (.obj c fs)
  | loc (a : Addr) : DV G p B (.ref a) (.loc a)
inductive DVs (G : Gm) (p : Option Addr) (B : Hp) : List V → List D → Prop
  | nil : DVs G p B [] []
  | cons {v : V} {vs : List V} {d : D} {ds : List D} : DV G p B v d → DVs G p B vs ds → DVs G p B (v :: vs) (d :: ds)
end
section
variable {G : Gm} {p : Option Addr} {B B' : Hp}
mutual
theorem DV.same (s : Same B B') : ∀ {v : V} {d : D}, DV G p B v d → DV G p B' v d
  | _, _, .non => .non
  | _, _, .bl b => .bl b
  | _, _, .int i => .int i
  | _, _, .str z => .str z
  | _, _, .lst h hs => .lst (s _ _ h) (DVs.same s hs)
  | _, _, .tup h hs => .tup (SqT_same s h) (DVs.same s hs)
  | _, _, .dct h e hs => .dct (s _ _ h) e (DVs.same s hs)
  | _, _, .dcT h e hs => .dcT (s _ _ h) e (DVs.same s hs)
  | _, _, .loop h => .loop (h.same s)
  | _, _, .run h => .run (h.same s)
  | _, _, .src h => .src h
  | _, _, .set h h2 h3 => .set (s _ _ h) h2 h3
  | _, _, .cls => .cls
  | _, _, .obj h e hs => .obj (s _ _ h) e (DVs.same s hs)
  | _, _, .loc a => .loc a
theorem DVs.same (s : Same B B') : ∀ {vs : List V} {ds : List D}, DVs G p B vs ds → DVs G p B' vs ds
  | _, _, .nil => .nil
  | _, _, .cons h hs => .cons (DV.same s h) (DVs.same s hs)
end
theorem DVs.len {vs : List V} {ds : List D} (h : DVs G p B vs ds) : vs.length = ds.length := by
  induction ds generalizing vs with
  | nil => cases h; rfl
  | cons d ds ih => cases h with | cons h hs => simp [ih hs]
theorem DVs.get {i : Nat} {d : D} : ∀ {vs : List V} {ds : List D}, DVs G p B vs ds → ds[i]? = some d → ∃ v, vs[i]? = some v ∧ DV G p B v d := by
  induction i with
  | zero => intro vs ds h e; cases h with | nil => simp at e | cons h hs => simp at e; subst e; exact ⟨_, rfl, h⟩
  | succ i ih => intro vs ds h e; cases h with | nil => simp at e | cons h hs => simpa using ih hs (by simpa using e)
theorem DVs.getV {i : Nat} {v : V} : ∀ {vs : List V} {ds : List D}, DVs G p B vs ds → vs[i]? = some v → ∃ d, ds[i]? = some d ∧ DV G p B v d := by
  induction i with
  | zero => intro vs ds h e; cases h with | nil => simp at e | cons h hs => simp at e; subst e; exact ⟨_, rfl, h⟩
  | succ i ih => intro vs ds h e; cases h with | nil => simp at e | cons h hs => simpa using ih hs (by simpa using e)
theorem DVs.append {vs us : List V} {ds es : List D} (h : DVs G p B vs ds) (h2 : DVs G p B us es) : DVs G p B (vs ++ us) (ds ++ es) := by
  induction ds generalizing vs with
  | nil => cases h; exact h2
  | cons d ds ih => cases h with | cons h hs => exact .cons h (ih hs)
theorem DVs.drop {vs : List V} {ds : List D} (n : Nat) (h : DVs G p B vs ds) : DVs G p B (vs.drop n) (ds.drop n) := by
  induction n generalizing vs ds with
  | zero => exact h
  | succ n ih => cases h with | nil => exact .nil | cons h hs => exact ih hs
theorem DVs.take {vs : List V} {ds : List D} (n : Nat) (h : DVs G p B vs ds) : DVs G p B (vs.take n) (ds.take n) := by
  induction n generalizing vs ds with
  | zero => exact .nil
  | succ n ih => cases h with | nil => exact .nil | cons h hs => exact .cons h (ih hs)
end
/-! ### where one stands -/
/-- what is changed in place -/
def mutO : HO → Prop
  | .lst _ => True
  | .dK _ => True
  | .dT _ => True
  | .set _ _ => True
  | .ext _ => True
  | .ins _ _ _ => True
  | .tbl _ => True
  | _ => False
/-- kinds of things that cells are -/
def mutM : HO → Bool
  | .lst _ => true
  | .dK _ => true
  | .dT _ => true
  | .ins _ _ _ => true
  | .tbl _ => true
  | .ext _ => true
  | _ => false
abbrev Env := List (Option D)
/-- an owned thing's content -/
def DO (G : Gm) (p : Option Addr) (B : Hp) (o : HO) (d : D) : Prop := match o, d with
  | .lst vs, .lst ds => DVs G p B vs ds
  | .dK kvs, .dct es => kvs.map Prod.fst = es.map Prod.fst ∧ DVs G p B (kvs.map Prod.snd) (es.map Prod.snd)
  | .dT kvs, .dcT es => kvs.map Prod.fst = es.map Prod.fst ∧ DVs G p B (kvs.map Prod.snd) (es.map Prod.snd)
  | _, _ => False
theorem DO.same {G : Gm} {p : Option Addr} {B B' : Hp} {o : HO} {d : D} (s : Same B B') (h : DO G p B o d) : DO G p B' o d := by
  unfold DO at h ⊢
  split at h
  · exact DVs.same s h
  · exact ⟨h.1, DVs.same s h.2⟩
  · exact ⟨h.1, DVs.same s h.2⟩
  · exact h.elim
theorem DO.dv {G : Gm} {p : Option Addr} {B : Hp} {o : HO} {d : D} {a : Addr} (h : DO G p B o d) (e : B a = some o) : DV G p B (.ref a) d := by
  unfold DO at h
  split at h
  · exact .lst e h
  · exact .dct e h.1 h.2
  · exact .dcT e h.1 h.2
  · exact h.elim
theorem DO.mut {G : Gm} {p : Option Addr} {B : Hp} {o : HO} {d : D} (h : DO G p B o d) : mutO o := by
  unfold DO at h
  split at h
  · exact True.intro
  · exact True.intro
  · exact True.intro
  · exact h.elim
/-! data as keys -/
def keyB : D → Option NestedKey
  | .non => some .none
  | .bl b => some (.num (if b = true then 1 else 0))
  | .int i => some (.num i)
  | .str z => some (.text z)
  | _ => none
def tupsD : D → Option (List D)
  | .tup ds => some ds
  | _ => none
def keyM (f : D → Option NestedKey) : List D → Option (List NestedKey)
  | [] => some []
  | d :: ds => (f d).bind fun k => (keyM f ds).bind fun ks => some (k :: ks)
def keyL : Nat → D → Option NestedKey
  | 0, d => keyB d
  | n + 1, d => if (tupsD d).isSome = true then ((tupsD d).bind fun ds => keyM (keyL n) ds).map .tup else keyB d
def keyN (d : D) : Option NestedKey := keyL 6 d
/-- entries as data -/
abbrev ERel (G : Gm) (p : Option Addr) (B : Hp) : List XE → List (D × D) → Prop := Paired fun (x : XE) (e : D × D) => keyN e.1 = some x.1 ∧ DV G p B x.2.1 e.1 ∧ DV G p B x.2.2 e.2
theorem ERel.same {G : Gm} {p : Option Addr} {B B' : Hp} (s : Same B B') {xs : List XE} {es : List (D × D)} (h : ERel G p B xs es) : ERel G p B' xs es := Paired.mapP h fun _ _ q => ⟨q.1, q.2.1.same s, q.2.2.same s⟩
/-- what stands in a cell -/
def MemAt (G : Gm) (p : Option Addr) (B H : Hp) (a : Addr) : MC → Prop
  | .lst ds => ∃ vs, H a = some (.lst vs) ∧ DVs G p B vs ds
  | .dK es => ∃ kvs, H a = some (.dK kvs) ∧ kvs.map Prod.fst = es.map Prod.fst ∧ DVs G p B (kvs.map Prod.snd) (es.map Prod.snd)
  | .dT es => ∃ kvs, H a = some (.dT kvs) ∧ kvs.map Prod.fst = es.map Prod.fst ∧ DVs G p B (kvs.map Prod.snd) (es.map Prod.snd)
  | .obj c dx fs => ∃ kvs, H a = some (.ins (G.oc c) dx kvs) ∧ kvs.map Prod.fst = fs.map Prod.fst ∧ DVs G p B (kvs.map Prod.snd) (fs.map Prod.snd)
  | .dX es => ∃ ep xs, H a = some (GX G.w a ep xs) ∧ ERel G p B xs es
  | .tab q => ∃ ps : Array PySem.Value, H a = some (.tbl ps) ∧ PySem.TriplesOk ps.toList ∧ ∀ (pos : PySem.Pos) (cv : PySem.Value), PySem.codeAmong pos ps.toList = some cv → ∃ c, cv = .ref c ∧ B c = some (LamX.CodeO c q)
theorem MemAt.move {G : Gm} {p : Option Addr} {B H B' H' : Hp} {a : Addr} {c : MC} (s : Same B B') (e : ∀ o, H a = some o → H' a = some o) (h : MemAt G p B H a c) : MemAt G p B' H' a c := by
  cases c with
  | lst ds => obtain ⟨vs, h1, h2⟩ := h; exact ⟨vs, e _ h1, DVs.same s h2⟩
  | dK es => obtain ⟨vs, h1, h2, h3⟩ := h; exact ⟨vs, e _ h1, h2, DVs.same s h3⟩
  | dT es => obtain ⟨vs, h1, h2, h3⟩ := h; exact ⟨vs, e _ h1, h2, DVs.same s h3⟩
  | obj c dx fs => obtain ⟨vs, h1, h2, h3⟩ := h; exact ⟨vs, e _ h1, h2, DVs.same s h3⟩
  | dX es => obtain ⟨ep, xs, h1, h2⟩ := h; exact ⟨ep, xs, e _ h1, h2.same s⟩
  | tab q => obtain ⟨ps, h1, h2, h3⟩ := h; exact ⟨ps, e _ h1, h2, fun pos cv hc => let ⟨c, e1, e2⟩ := h3 pos cv hc; ⟨c, e1, s _ _ e2⟩⟩
theorem MemAt.some {G : Gm} {p : Option Addr} {B H : Hp} {a : Addr} {c : MC} (h : MemAt G p B H a c) : ∃ o, H a = some o ∧ mutM o = true := by
  cases c with
  | lst ds => obtain ⟨vs, h1, _⟩ := h; exact ⟨_, h1, rfl⟩
  | dK es => obtain ⟨vs, h1, _⟩ := h; exact ⟨_, h1, rfl⟩
  | dT es => obtain ⟨vs, h1, _⟩ := h; exact ⟨_, h1, rfl⟩
  | obj c dx fs => obtain ⟨vs, h1, _⟩ := h; exact ⟨_, h1, rfl⟩
  | dX es => obtain ⟨ep, xs, h1, _⟩ := h; exact ⟨_, h1, rfl⟩
  | tab q => obtain ⟨vs, h1, _⟩ := h; exact ⟨_, h1, rfl⟩
/-- the cells: they stand apart from all that is shared -/
def MemOk (G : Gm) (φ : Fr) (B H : Hp) (S : SrcT) : Prop := G.v = true → ∀ a c, S.m a = some c → MemAt G φ.p B H a c ∧ B a = none ∧ φ.p ≠ some a ∧ (φ.M0 a ≠ none ∨ φ.H0 a = none)
structure Rep (G : Gm) (φ : Fr) (O : List Nat) (σ : L2.St) (B H : Hp) (ρ : Env) (S : SrcT) : Prop where
  sub : Same B H
  fr : ∀ a o, φ.p ≠ some a → φ.M0 a = none → φ.H0 a = some o → H a = some o
  cl : ∀ a o, B a = some o → mutO o → φ.B0 a = some o ∨ φ.H0 a = none
  src : ∀ q, φ.p = some q → B q = none ∧ SrcAt H q S
  b0 : Same φ.B0 B
  len : σ.length = ρ.length
  val : ∀ i d, i ∉ O → ρ[i]? = some (some d) → ∃ v, σ[i]? = some (some v) ∧ DV G φ.p B v d
  own : ∀ i, i ∈ O → ∃ a o d, ρ[i]? = some (some d) ∧ σ[i]? = some (some (.ref a)) ∧ H a = some o ∧ B a = none ∧ φ.H0 a = none ∧ φ.p ≠ some a ∧ DO G φ.p B o d
  dis : ∀ i j, i ∈ O → j ∈ O → i ≠ j → σ[i]? ≠ σ[j]?
  al : ∀ a, H a = none → φ.H0 a = none
  mem : MemOk G φ B H S
  vv : φ.v = G.v ∧ (G.v = false → ∀ f, G.fx = some f → φ = f)
  nov : ∀ i, i ∈ O → G.v = false
def hideP (p : Option Addr) (H : Hp) : Hp := fun c => if p = some c then none else H c
theorem hideP_same {p : Option Addr} {H : Hp} : Same (hideP p H) H := fun c x h => by
  unfold hideP at h; split at h
  · cases h
  · exact h
theorem hideP_at {p : Option Addr} {H : Hp} {a : Addr} (h : p ≠ some a) : hideP p H a = H a := if_neg h
/-- from one place of a def to a later one -/
structure Go (φ : Fr) (B H B' H' : Hp) : Prop where
  b : Same B B'
  h : φ.v = false → Same (hideP φ.p H) (hideP φ.p H')
  n : ∀ a o, B' a = some o → mutO o → B a = some o ∨ H a = none
  d : ∀ a, H' a = none → H a = none
theorem Go.refl {φ : Fr} {B H : Hp} : Go φ B H B H := ⟨Same.refl _, fun _ => Same.refl _, fun _ _ h _ => .inl h, fun _ h => h⟩
theorem Go.trans {φ : Fr} {B H B1 H1 B2 H2 : Hp} (x : Go φ B H B1 H1) (y : Go φ B1 H1 B2 H2) : Go φ B H B2 H2 := by
  refine ⟨x.b.trans y.b, fun v => (x.h v).trans (y.h v), fun a o h hm => ?_, fun a h => x.d a (y.d a h)⟩
  rcases y.n a o h hm with k | k
  · exact x.n a o k hm
  · exact .inr (x.d a k)
/-- the heap that a value's data is told over: true: as it is now, the owned ones among it -/
def bs (m : Bool) (φ : Fr) (B H : Hp) : Hp := if (m && !φ.v) = true then hideP φ.p H else B
theorem Go.bs {φ : Fr} {B H B' H' : Hp} (m : Bool) (g : Go φ B H B' H') : Same (bs m φ B H) (NL.bs m φ B' H') := by
  unfold NL.bs; split
  · rename_i hm
    simp only [Bool.and_eq_true, Bool.not_eq_true'] at hm
    exact g.h hm.2
  · exact g.b
section
variable {G : Gm} {φ : Fr} {O : List Nat} {σ : L2.St} {B H : Hp} {ρ : Env} {S : SrcT}
theorem Rep.bh (R : Rep G φ O σ B H ρ S) : Same B (hideP φ.p H) := fun c x h => by
  by_cases e : φ.p = some c
  · rw [(R.src c e).1] at h; cases h
  · rw [hideP_at e]; exact R.sub c x h
theorem Rep.bsH (R : Rep G φ O σ B H ρ S) (m : Bool) : Same (bs m φ B H) H := by
  unfold bs; split
  · exact hideP_same
  · exact R.sub
theorem Rep.bbs (R : Rep G φ O σ B H ρ S) (m : Bool) : Same B (bs m φ B H) := by
  unfold bs; split
  · exact R.bh
  · exact Same.refl _
theorem Rep.bs_p (R : Rep G φ O σ B H ρ S) (m : Bool) {q : Addr} (e : φ.p = some q) : bs m φ B H q = none := by
  unfold bs; split
  · unfold hideP; rw [if_pos e]
  · exact (R.src q e).1
/-- a new object, put among what is shared -/
theorem Rep.new (R : Rep G φ O σ B H ρ S) {a : Addr} {o : HO} (n : H a = none) : Rep G φ O σ (upd B a o) (upd H a o) ρ S ∧ Go φ B H (upd B a o) (upd H a o) ∧ φ.p ≠ some a := by
  have np : φ.p ≠ some a := fun e => by have := (R.src a e).2.1; rw [n] at this; cases this
  have nB : B a = none := by
    cases h : B a with
    | none => rfl
    | some x => rw [R.sub _ _ h] at n; cases n
  have n0 : φ.H0 a = none := R.al a n
  refine ⟨⟨?_, ?_, ?_, ?_, ?_, R.len, ?_, ?_, R.dis, fun c h => R.al c (upd_no h), ?_, R.vv, R.nov⟩, ⟨same_new nB, fun _ => ?_, fun c x h hm => ?_, fun c h => upd_no h⟩, np⟩
  · intro c x h
    by_cases e : c = a
    · subst e; rw [upd_same] at h ⊢; exact h
    · rw [upd_ne e] at h ⊢; exact R.sub _ _ h
  · exact fun c x hp hm h => upd_keep (R.fr c x hp hm h) n
  · intro c x h hm
    by_cases e : c = a
    · subst e; exact .inr n0
    · rw [upd_ne e] at h; exact R.cl _ _ h hm
  · intro q hq
    have e : q ≠ a := fun e => np (e ▸ hq)
    obtain ⟨h1, h2, h3⟩ := R.src q hq
    exact ⟨by rw [upd_ne e]; exact h1, by rw [upd_ne e]; exact h2, h3⟩
  · exact R.b0.trans (same_new nB)
  · intro i d hi h
    obtain ⟨v, h1, h2⟩ := R.val i d hi h
    exact ⟨v, h1, h2.same (same_new nB)⟩
  · intro i hi
    obtain ⟨b, o', d, h1, h2, h3, h4, h5, h6, h7⟩ := R.own i hi
    have e : b ≠ a := fun e => by rw [e, n] at h3; cases h3
    exact ⟨b, o', d, h1, h2, by rw [upd_ne e]; exact h3, by rw [upd_ne e]; exact h4, h5, h6, h7.same (same_new nB)⟩
  · intro hv b c hc
    obtain ⟨h1, h2, h3, h4⟩ := R.mem hv b c hc
    obtain ⟨x, hx, _⟩ := h1.some
    have e : b ≠ a := fun e => by rw [e, n] at hx; cases hx
    exact ⟨h1.move (same_new nB) fun o h => upd_keep h n, by rw [upd_ne e]; exact h2, h3, h4⟩
  · intro c x h
    by_cases e : c = a
    · subst e
      rw [hideP_at np, n] at h; cases h
    · unfold hideP at h ⊢
      rw [upd_ne e]; exact h
  · by_cases e : c = a
    · subst e; exact .inr n
    · rw [upd_ne e] at h; exact .inl h
theorem bs_new (m : Bool) {a : Addr} {o : HO} (np : φ.p ≠ some a) : bs m φ (upd B a o) (upd H a o) a = some o := by
  unfold bs; split
  · rw [hideP_at np]; exact upd_same
  · exact upd_same
/-- a new object that nothing shares -/
theorem Rep.newN (R : Rep G φ O σ B H ρ S) {a : Addr} {o : HO} (n : H a = none) : Rep G φ O σ B (upd H a o) ρ S ∧ Go φ B H B (upd H a o) ∧ B a = none ∧ φ.H0 a = none ∧ φ.p ≠ some a := by
  obtain ⟨r, g, np⟩ := R.new (o := o) n
  have nB : B a = none := by
    cases h : B a with
    | none => rfl
    | some x => rw [R.sub _ _ h] at n; cases n
  have n0 : φ.H0 a = none := R.al a n
  refine ⟨⟨?_, r.fr, R.cl, fun q hq => ⟨(R.src q hq).1, (r.src q hq).2⟩, R.b0, R.len, R.val, ?_, R.dis, r.al, ?_, R.vv, R.nov⟩, ⟨Same.refl _, g.h, fun _ _ h _ => .inl h, g.d⟩, nB, n0, np⟩
  · exact fun c x h => upd_keep (R.sub _ _ h) n
  · intro i hi
    obtain ⟨b, o', d, h1, h2, h3, h4, h5, h6, h7⟩ := R.own i hi
    exact ⟨b, o', d, h1, h2, upd_keep h3 n, h4, h5, h6, h7⟩
  · intro hv b c hc
    obtain ⟨h1, h2, h3, h4⟩ := R.mem hv b c hc
    exact ⟨h1.move (Same.refl _) fun o h => upd_keep h n, h2, h3, h4⟩
end
/-! ### results -/
inductive Rs (α : Type) where
  | bad
  | exc (c : Nat) (d : Option D) (S : SrcT)
  | ok (a : α) (S : SrcT)
  | all (p : Addr → Prop) (k : Addr → Rs α)
noncomputable def Rs.bind {α β : Type} (r : Rs α) (k : α → SrcT → Rs β) : Rs β := Rs.rec (motive := fun _ => Rs β) .bad (fun c d S => .exc c d S) (fun a S => k a S) (fun p _ ih => .all p ih) r
/-- an exception's class and dict -/
def ExnAt (G : Gm) (p : Option Addr) (B H : Hp) (c : Nat) (d : Option D) (cv : Value) (od : Option Addr) : Prop := cv = .ref (G.ec c) ∧ match d with
  | none => od = none
  | some d => ∃ dx v, od = some dx ∧ H dx = some (.xd [(G.ef c, v)]) ∧ DV G p B v d
def XP (G : Gm) (φ : Fr) (E : XK) (B H : Hp) (c : Nat) (d : Option D) (S : SrcT) : Prop := ∀ B' H' cv od, Go φ B H B' H' → Rep G φ [] [] B' H' [] S → ExnAt G φ.p B' H' c d cv od → E cv od H'
theorem XP.go {G : Gm} {φ : Fr} {E : XK} {B H B1 H1 : Hp} {c : Nat} {d : Option D} {S : SrcT} (g : Go φ B H B1 H1) (h : XP G φ E B H c d S) : XP G φ E B1 H1 c d S := fun B' H' cv od g' => h B' H' cv od (g.trans g')
section
variable {ω α β : Type}
abbrev Rel (ω α : Type) := Option Addr → Hp → ω → α → Prop
def Pg (G : Gm) (φ : Fr) (m : Bool) (O : List Nat) (E : XK) (σ : L2.St) (ρ : Env) (rel : Rel ω α) (B H : Hp) (r : Rs α) (Q : ω → Hp → Prop) : Prop := match r with
  | .bad => False
  | .exc c d S => XP G φ E B H c d S
  | .ok a S => ∀ w B' H', Go φ B H B' H' → Rep G φ O σ B' H' ρ S → rel φ.p (bs m φ B' H') w a → Q w H'
  | .all p k => ∀ x, p x → Pg G φ m O E σ ρ rel B H (k x) Q
def tG (G : Gm) (m : Bool) (O : List Nat) (E : XK) (rel : Rel ω α) (F : Env → SrcT → Rs α) : L2.St → Hp → (ω → Hp → Prop) → Prop := fun σ H Q => ∃ φ B ρ S, Rep G φ O σ B H ρ S ∧ Pg G φ m O E σ ρ rel B H (F ρ S) Q
variable {G : Gm} {φ : Fr} {m m' : Bool} {O : List Nat} {E : XK} {σ : L2.St} {ρ : Env} {rel : Rel ω α} {B H B1 H1 : Hp}
theorem Pg.go {r : Rs α} {Q : ω → Hp → Prop} (g : Go φ B H B1 H1) (h : Pg G φ m O E σ ρ rel B H r Q) : Pg G φ m O E σ ρ rel B1 H1 r Q := by
  induction r with
  | bad => exact h
  | exc c d S => exact XP.go g h
  | ok a S => exact fun w B' H' g' => h w B' H' (g.trans g')
  | all p k ih => exact fun x px => ih x (h x px)
theorem Pg.bind {ω' : Type} {rel' : Rel ω' β} {r : Rs β} {k : β → SrcT → Rs α} {Q : ω → Hp → Prop} {Q' : ω' → Hp → Prop} (h : Pg G φ m O E σ ρ rel B H (r.bind k) Q)
    (hk : ∀ d S w B1 H1, Go φ B H B1 H1 → Rep G φ O σ B1 H1 ρ S → rel' φ.p (bs m' φ B1 H1) w d → Pg G φ m O E σ ρ rel B1 H1 (k d S) Q → Q' w H1) : Pg G φ m' O E σ ρ rel' B H r Q' := by
  induction r with
  | bad => exact h
  | exc c d S => exact h
  | ok a S => exact fun w B' H' g R hw => hk a S w B' H' g R hw (Pg.go g h)
  | all p f ih => exact fun x px => ih x (h x px)
/-- a weaker wish -/
theorem Pg.imp {ω' : Type} {rel' : Rel ω' α} {r : Rs α} {Q : ω → Hp → Prop} {Q' : ω' → Hp → Prop} (h : Pg G φ m O E σ ρ rel B H r Q)
    (hk : ∀ d S w B1 H1, Go φ B H B1 H1 → Rep G φ O σ B1 H1 ρ S → rel' φ.p (bs m' φ B1 H1) w d → (∀ w' B' H', Go φ B H B' H' → Rep G φ O σ B' H' ρ S → rel φ.p (bs m φ B' H') w' d → Q w' H') → Q' w H1) : Pg G φ m' O E σ ρ rel' B H r Q' := by
  induction r with
  | bad => exact h
  | exc c d S => exact h
  | ok a S => exact fun w B' H' g R hw => hk a S w B' H' g R hw h
  | all p f ih => exact fun x px => ih x (h x px)
theorem Pg.ok {a : α} {S : SrcT} {Q : ω → Hp → Prop} {w : ω} (h : Pg G φ m O E σ ρ rel B H (.ok a S) Q) (R : Rep G φ O σ B H ρ S) (hw : rel φ.p (bs m φ B H) w a) : Q w H := h w B H Go.refl R hw
theorem Rep.ownv {S : SrcT} {i : Nat} (R : Rep G φ O σ B H ρ S) (hi : i ∈ O) : φ.v = false := R.vv.1.trans (R.nov i hi)
theorem bs_true (hv : φ.v = false) : bs true φ B H = hideP φ.p H := by unfold bs; rw [hv]; rfl
/-- what a plain function gives -/
def Rs.sat {α : Type} (r : Rs α) (P : α → SrcT → Prop) : Prop := match r with
  | .ok a S => P a S
  | .all p k => ∀ x, p x → (k x).sat P
  | _ => False
/-- all ends are so -/
def Rs.each {α : Type} (r : Rs α) (P : α → Prop) : Prop := match r with
  | .bad => True
  | .exc _ _ _ => True
  | .ok a _ => P a
  | .all _ k => ∀ x, (k x).each P
theorem Rs.each.bind {α β : Type} {P : β → Prop} {r : Rs α} {k : α → SrcT → Rs β} {P0 : α → Prop} (h : r.each P0) (hk : ∀ a S, P0 a → (k a S).each P) : (r.bind k).each P := by
  induction r with
  | bad => exact True.intro
  | exc c d S => exact True.intro
  | ok a S => exact hk a S h
  | all p f ih => exact fun x => ih x (h x)
theorem Rs.each.triv {α : Type} (r : Rs α) : r.each fun _ => True := by
  induction r with
  | bad => exact True.intro
  | exc c d S => exact True.intro
  | ok a S => exact True.intro
  | all p f ih => exact fun x => ih x
theorem Pg.bindE {ω' : Type} {rel' : Rel ω' β} {r : Rs β} {k : β → SrcT → Rs α} {Q : ω → Hp → Prop} {Q' : ω' → Hp → Prop} {P0 : β → Prop} (he : r.each P0) (h : Pg G φ m O E σ ρ rel B H (r.bind k) Q)
    (hk : ∀ d S w B1 H1, P0 d → Go φ B H B1 H1 → Rep G φ O σ B1 H1 ρ S → rel' φ.p (bs m' φ B1 H1) w d → Pg G φ m O E σ ρ rel B1 H1 (k d S) Q → Q' w H1) : Pg G φ m' O E σ ρ rel' B H r Q' := by
  induction r with
  | bad => exact h
  | exc c d S => exact h
  | ok a S => exact fun w B' H' g R hw => hk a S w B' H' he g R hw (Pg.go g h)
  | all p f ih => exact fun x px => ih x (he x) (h x px)
end
abbrev Ex := Env → SrcT → Rs D
abbrev Exs := Env → SrcT → Rs (List D)
abbrev Tst := Env → SrcT → Rs Bool
abbrev tD (G : Gm) (m : Bool) (O : List Nat) (E : XK) (F : Ex) : TE := tG G m O E (DV G) F
abbrev tDs (G : Gm) (m : Bool) (O : List Nat) (E : XK) (F : Exs) : TA := tG G m O E (DVs G) F
abbrev tBt (G : Gm) (O : List Nat) (E : XK) (F : Tst) : TT := tG G true O E (fun _ _ b a => b = a) F
theorem _root_.L2.PE.mono {X : Cx} {e : Expr} {t t' : TE} (h : PE X e t) (s : ∀ σ H Q, t' σ H Q → t σ H Q) : PE X e t' := ⟨fun pins s0 σ H Q I hw => h.run pins s0 σ H Q I (s σ H Q hw)⟩
theorem _root_.L2.PT.mono {X : Cx} {e : Expr} {t t' : TT} (h : PT X e t) (s : ∀ σ H Q, t' σ H Q → t σ H Q) : PT X e t' := ⟨fun pins s0 σ H Q I hw => h.run pins s0 σ H Q I (s σ H Q hw)⟩
theorem _root_.L2.PW.mono {X : Cx} {e : Expr} {t t' : TT} (h : PW X e t) (s : ∀ σ H Q, t' σ H Q → t σ H Q) : PW X e t' := ⟨fun wh pins s0 σ H Q I hw => h.run wh pins s0 σ H Q I (s σ H Q hw)⟩
theorem _root_.L2.PA.mono {X : Cx} {es : List Expr} {t t' : TA} (h : PA X es t) (s : ∀ σ H Q, t' σ H Q → t σ H Q) : PA X es t' := ⟨fun pos pins s0 σ H Q I hw => h.run pos pins s0 σ H Q I (s σ H Q hw)⟩
theorem _root_.L2.PS.mono {X : Cx} {st : Stmt} {t t' : TS} (h : PS X st t) (s : ∀ E σ H, t' E σ H → t E σ H) : PS X st t' := ⟨fun pins s0 σ H D I hw => h.run pins s0 σ H D I (s D σ H hw)⟩
theorem _root_.L2.PSs.mono {X : Cx} {st : List Stmt} {t t' : TS} (h : PSs X st t) (s : ∀ E σ H, t' E σ H → t E σ H) : PSs X st t' := ⟨fun pins s0 σ H D I hw => h.run pins s0 σ H D I (s D σ H hw)⟩
end NL
/-! ### the data layer: expressions -/
namespace NL
noncomputable section
open PySem L2
def isSc : D → Bool
  | .non => true
  | .bl _ => true
  | .int _ => true
  | .str _ => true
  | _ => false
def cF (d : D) : Ex := fun _ S => .ok d S
def vF (i : Nat) : Ex := fun ρ S => match ρ[i]? with
  | some (some d) => .ok d S
  | _ => .bad
def nilF : Exs := fun _ S => .ok [] S
def consF (F : Ex) (Fs : Exs) : Exs := fun ρ S => (F ρ S).bind fun d S1 => (Fs ρ S1).bind fun ds S2 => .ok (d :: ds) S2
def optF (o : Option D) (S : SrcT) : Rs D := match o with
  | none => .bad
  | some d => .ok d S
def scF (F : Ex) : Ex := fun ρ S => (F ρ S).bind fun d S1 => if isSc d = true then .ok d S1 else .bad
def binF (op : D → D → Option D) (F1 F2 : Ex) : Ex := fun ρ S => (F1 ρ S).bind fun d1 S1 => (F2 ρ S1).bind fun d2 S2 => optF (op d1 d2) S2
def unF (op : D → Option D) (F : Ex) : Ex := fun ρ S => (F ρ S).bind fun d1 S1 => optF (op d1) S1
def argF (f : List D → Option D) (Fs : Exs) : Ex := fun ρ S => (Fs ρ S).bind fun ds S1 => optF (f ds) S1
def lstF (Fs : Exs) : Ex := fun ρ S => (Fs ρ S).bind fun ds S1 => .ok (.lst ds) S1
def tupF (Fs : Exs) : Ex := fun ρ S => (Fs ρ S).bind fun ds S1 => .ok (.tup ds) S1
def callF (f : List D → SrcT → Rs D) (Fs : Exs) : Ex := fun ρ S => (Fs ρ S).bind f
def iteF (c : Tst) (F1 F2 : Ex) : Ex := fun ρ S => (c ρ S).bind fun b S1 => if b = true then F1 ρ S1 else F2 ρ S1
section
variable {X : Cx} {G : Gm} {m m' : Bool} {O : List Nat} {E : XK} {e : Expr} {es : List Expr} {F F1 F2 : Ex} {Fs : Exs}
theorem de_const {v : V} {d : D} (h : PE X e (tC v)) (hd : ∀ p B, DV G p B v d) : PE X e (tD G m O E (cF d)) :=
  h.mono fun σ H Q ⟨φ, B, ρ, S, R, hp⟩ => Pg.ok hp R (hd _ _)
theorem de_int {i : Int} {j pos} : PE X (.Constant (.int i) j pos) (tD G m O E (cF (.int i))) := de_const pe_int fun _ _ => .int i
theorem de_str {z : Str} {j pos} : PE X (.Constant (.str z) j pos) (tD G m O E (cF (.str z))) := de_const pe_str fun _ _ => .str z
theorem de_bl {b : Bool} {j pos} : PE X (.Constant (.bool b) j pos) (tD G m O E (cF (.bl b))) := de_const pe_bl fun _ _ => .bl b
theorem de_non {j pos} : PE X (.Constant .none j pos) (tD G m O E (cF .non)) := de_const pe_non fun _ _ => .non
theorem de_var {i : Nat} (h : PE X e (tVar i)) (hi : m = true ∨ i ∉ O) : PE X e (tD G m O E (vF i)) := by
  refine h.mono fun σ H Q ⟨φ, B, ρ, S, R, hp⟩ => ?_
  unfold vF at hp
  split at hp
  · rename_i d hd
    by_cases ho : i ∈ O
    · obtain ⟨a, o, d', h1, h2, h3, h4, h5, h6, h7⟩ := R.own i ho
      have e1 : d' = d := by rw [hd] at h1; exact (Option.some.inj (Option.some.inj h1)).symm
      subst e1
      refine ⟨.ref a, h2, Pg.ok hp R ?_⟩
      rcases hi with hi | hi
      · subst hi
        rw [bs_true (R.ownv ho)]
        exact (h7.same R.bh).dv (by rw [hideP_at h6]; exact h3)
      · exact absurd ho hi
    · obtain ⟨v, h1, h2⟩ := R.val i d ho hd
      exact ⟨v, h1, Pg.ok hp R (h2.same (R.bbs m))⟩
  · exact hp.elim
theorem de_coe (h : PE X e (tD G false O E F)) : PE X e (tD G true O E F) := by
  refine h.mono fun σ H Q ⟨φ, B, ρ, S, R, hp⟩ => ⟨φ, B, ρ, S, R, ?_⟩
  exact Pg.imp hp fun d S1 w B' H' g R' hw q => q w B' H' g R' (DV.same (R'.bbs true) hw)
/-- written lists of arguments -/
structure DA (X : Cx) (es : List Expr) (G : Gm) (m : Bool) (O : List Nat) (E : XK) (Fs : Exs) : Prop where
  pa : PA X es (tDs G m O E Fs)
  len : ∀ ρ S, (Fs ρ S).each fun ds => ds.length = es.length
theorem da_nil : DA X [] G m O E nilF := ⟨pa_nil.mono fun σ H Q ⟨φ, B, ρ, S, R, hp⟩ => Pg.ok hp R .nil, fun ρ S => rfl⟩
theorem da_cons (ha : PE X e (tD G m O E F)) (hr : DA X es G m O E Fs) (hs : starEach (e :: es) X.env = (false, eval e X.env) :: starEach es X.env := by rfl) : DA X (e :: es) G m O E (consF F Fs) := by
  refine ⟨(pa_cons ha hr.pa hs).mono fun σ H Q ⟨φ, B, ρ, S, R, hp⟩ => ⟨φ, B, ρ, S, R, ?_⟩, fun ρ S => ?_⟩
  · refine Pg.bind hp fun d S1 w B1 H1 g R1 hw h1 => ⟨φ, B1, ρ, S1, R1, ?_⟩
    refine Pg.bind h1 fun ds S2 ws B2 H2 g2 R2 hws h2 => Pg.ok h2 R2 (.cons (hw.same (g2.bs m)) hws)
  · unfold consF
    refine (Rs.each.triv (F ρ S)).bind fun d S1 _ => (hr.len ρ S1).bind fun ds S2 hl => ?_
    show (d :: ds).length = _
    rw [List.length_cons, List.length_cons, hl]
/-- what a two-place rule must give -/
def Bin2 (G : Gm) (m m' : Bool) (r : R2) (op : D → D → Option D) : Prop := ∀ {φ : Fr} {O : List Nat} {σ : L2.St} {B H : Hp} {ρ : Env} {S : SrcT} {v1 v2 : V} {d1 d2 d : D} {Q : VK}, Rep G φ O σ B H ρ S → DV G φ.p (bs m φ B H) v1 d1 → DV G φ.p (bs m φ B H) v2 d2 → op d1 d2 = some d →
  (∀ v B' H', Go φ B H B' H' → Rep G φ O σ B' H' ρ S → DV G φ.p (bs m' φ B' H') v d → Q v H') → r v1 v2 H Q
theorem Pg.opt {φ : Fr} {σ : L2.St} {ρ : Env} {B H : Hp} {o : Option D} {S : SrcT} {Q : VK} (h : Pg G φ m O E σ ρ (DV G) B H (optF o S) Q) : ∃ d, o = some d ∧ ∀ v B' H', Go φ B H B' H' → Rep G φ O σ B' H' ρ S → DV G φ.p (bs m φ B' H') v d → Q v H' := by
  cases o with
  | none => exact h.elim
  | some d => exact ⟨d, rfl, h⟩
theorem de_bin {r : R2} {op : D → D → Option D} (hb : Bin2 G m m' r op) (h : PE X e (tOp r (tD G m O E F1) (tD G m O E F2))) : PE X e (tD G m' O E (binF op F1 F2)) := by
  refine h.mono fun σ H Q ⟨φ, B, ρ, S, R, hp⟩ => ⟨φ, B, ρ, S, R, ?_⟩
  refine Pg.bind hp fun d1 S1 v1 B1 H1 g R1 hw h1 => ⟨φ, B1, ρ, S1, R1, ?_⟩
  refine Pg.bind h1 fun d2 S2 v2 B2 H2 g2 R2 hw2 h2 => ?_
  obtain ⟨d, e, q⟩ := h2.opt
  exact hb R2 (hw.same (g2.bs m)) hw2 e q
def ArgN (G : Gm) (m m' : Bool) (r : List V → Hp → VK → Prop) (f : List D → Option D) : Prop := ∀ {φ : Fr} {O : List Nat} {σ : L2.St} {B H : Hp} {ρ : Env} {S : SrcT} {vs : List V} {ds : List D} {d : D} {Q : VK}, Rep G φ O σ B H ρ S → DVs G φ.p (bs m φ B H) vs ds → f ds = some d →
  (∀ v B' H', Go φ B H B' H' → Rep G φ O σ B' H' ρ S → DV G φ.p (bs m' φ B' H') v d → Q v H') → r vs H Q
theorem de_arg {r : List V → Hp → VK → Prop} {f : List D → Option D} (hb : ArgN G m m' r f) (h : PE X e (tCB r (tDs G m O E Fs))) : PE X e (tD G m' O E (argF f Fs)) := by
  refine h.mono fun σ H Q ⟨φ, B, ρ, S, R, hp⟩ => ⟨φ, B, ρ, S, R, ?_⟩
  refine Pg.bind hp fun d1 S1 v1 B1 H1 g R1 hw h1 => ?_
  obtain ⟨d, e, q⟩ := h1.opt
  exact hb R1 hw e q
/-! ints, texts, sequences -/
def okI (i : Int) : Bool := decide (-1000000000000000000000000000000000000000000000000000000000000 ≤ i) && decide (i ≤ 1000000000000000000000000000000000000000000000000000000000000)
theorem okI_lt {i : Int} (h : okI i = true) : i.natAbs < 2 ^ 250 := by
  unfold okI at h
  simp only [Bool.and_eq_true, decide_eq_true_eq] at h
  have : i.natAbs ≤ 1000000000000000000000000000000000000000000000000000000000000 := by omega
  exact Nat.lt_of_le_of_lt this (by decide +kernel)
def addD : D → D → Option D
  | .int a, .int b => some (.int (a + b))
  | .str a, .str b => if a.length + b.length ≤ 100000 then some (.str (a ++ b)) else none
  | .lst a, .lst b => if a.length + b.length ≤ 100000 then some (.lst (a ++ b)) else none
  | .tup a, .tup b => if a.length + b.length ≤ 100000 then some (.tup (a ++ b)) else none
  | _, _ => none
def subD : D → D → Option D
  | .int a, .int b => some (.int (a - b))
  | _, _ => none
def mulD : D → D → Option D
  | .int a, .int b => if (okI a && okI b) = true then some (.int (a * b)) else none
  | _, _ => none
def modD : D → D → Option D
  | .int a, .int b => if 0 < b then some (.int (a % b)) else none
  | _, _ => none
def fdivD : D → D → Option D
  | .int a, .int b => if 0 < b ∧ okI b = true then some (.int (a / b)) else none
  | _, _ => none
def powD : D → D → Option D
  | .int a, .int b => if 0 ≤ b ∧ b ≤ 1000 ∧ -1000000000 ≤ a ∧ a ≤ 1000000000 then some (.int (a ^ b.toNat)) else none
  | _, _ => none
theorem OpR.or {f : Value → Value → Sem Value} {r r' : R2} (h : OpR X f r) (h' : OpR X f r') : OpR X f (fun x y H Q => r x y H Q ∨ r' x y H Q) := by
  intro pins s σ H x y v u Q I rx ry q
  rcases q with q | q
  · exact h pins s σ H x y v u Q I rx ry q
  · exact h' pins s σ H x y v u Q I rx ry q
theorem CallR.or {f : Value} {r r' : List V → Hp → VK → Prop} (h : CallR X f r) (h' : CallR X f r') : CallR X f (fun xs H Q => r xs H Q ∨ r' xs H Q) := by
  intro pins s σ H xs us Q I rx q
  rcases q with q | q
  · exact h pins s σ H xs us Q I rx q
  · exact h' pins s σ H xs us Q I rx q
abbrev rAddS : R2 := fun x y H Q => ∃ i j, x = .str i ∧ y = .str j ∧ i.length + j.length ≤ sizeLine ∧ Q (.str (i ++ j)) H
def rAddA (K : PySem.W.Frag) : R2 := fun x y H Q => (rI0 (fun i j => .int (i + j)) x y H Q ∨ rAddS x y H Q) ∨ (rCat x y H Q ∨ rCatA K x y H Q)
theorem op_addA (hK : X.K = G.K := by rfl) : OpR X (binaryOp .Add) (rAddA G.K) := by
  rw [← hK]
  exact ((op_add (X := X)).or op_add_str).or ((op_cat (X := X)).or op_catA)
theorem sq_bs {φ : Fr} {O : List Nat} {σ : L2.St} {B H : Hp} {ρ : Env} {S : SrcT} (R : Rep G φ O σ B H ρ S) {K : PySem.W.Frag} {a : Addr} {xs : List V} (h : SqT K (bs m φ B H) a xs) : SqT K H a xs := SqT_same (R.bsH m) h
theorem bin_add : Bin2 G m m (rAddA G.K) addD := by
  intro φ O σ B H ρ S v1 v2 d1 d2 d Q R h1 h2 e q
  unfold addD at e
  split at e
  · cases h1; cases h2; cases e
    exact .inl (.inl ⟨_, _, rfl, rfl, q _ _ _ Go.refl R (.int _)⟩)
  · split at e
    · rename_i hl
      cases h1; cases h2; cases e
      exact .inl (.inr ⟨_, _, rfl, rfl, sz100k hl, q _ _ _ Go.refl R (.str _)⟩)
    · cases e
  · split at e
    · rename_i hl
      cases h1 with | lst ha hs => cases h2 with | lst hb ht =>
      cases e
      refine .inr (.inl ⟨_, _, _, _, rfl, rfl, R.bsH m _ _ ha, R.bsH m _ _ hb, sz100k (by rw [hs.len, ht.len]; exact hl), fun a na => ?_⟩)
      obtain ⟨R', g, np⟩ := R.new na
      exact q _ _ _ g R' (.lst (bs_new m np) ((hs.append ht).same (g.bs m)))
    · cases e
  · split at e
    · rename_i hl
      cases h1 with | tup ha hs => cases h2 with | tup hb ht =>
      cases e
      refine .inr (.inr ⟨_, _, _, _, rfl, rfl, sq_bs R ha, sq_bs R hb, sz100k (by rw [hs.len, ht.len]; exact hl), fun hx => ?_, fun hx hy => ?_, fun hx hy a na => ?_⟩)
      · subst hx
        cases hs
        exact q _ _ _ Go.refl R (.tup hb ht)
      · subst hy
        cases ht
        rw [List.append_nil] at *
        exact q _ _ _ Go.refl R (.tup ha hs)
      · obtain ⟨R', g, np⟩ := R.new na
        exact q _ _ _ g R' (.tup (SqT.of (bs_new m np)) ((hs.append ht).same (g.bs m)))
    · cases e
  · cases e
theorem bin_sub : Bin2 G m m' (rI0 fun i j => .int (i - j)) subD := by
  intro φ O σ B H ρ S v1 v2 d1 d2 d Q R h1 h2 e q
  unfold subD at e
  split at e
  · cases h1; cases h2; cases e
    exact ⟨_, _, rfl, rfl, q _ _ _ Go.refl R (.int _)⟩
  · cases e
theorem bin_mul : Bin2 G m m' (rI CMulW fun i j => .int (i * j)) mulD := by
  intro φ O σ B H ρ S v1 v2 d1 d2 d Q R h1 h2 e q
  unfold mulD at e
  split at e
  · split at e
    · rename_i hc
      simp only [Bool.and_eq_true] at hc
      cases h1; cases h2; cases e
      exact ⟨_, _, rfl, rfl, wide_mul (okI_lt hc.1) (okI_lt hc.2) (by decide) (by decide) (by decide), q _ _ _ Go.refl R (.int _)⟩
    · cases e
  · cases e
theorem bin_mod : Bin2 G m m' (rI (fun _ j => 0 < j) fun i j => .int (i % j)) modD := by
  intro φ O σ B H ρ S v1 v2 d1 d2 d Q R h1 h2 e q
  unfold modD at e
  split at e
  · split at e
    · rename_i hc
      cases h1; cases h2; cases e
      exact ⟨_, _, rfl, rfl, hc, q _ _ _ Go.refl R (.int _)⟩
    · cases e
  · cases e
theorem bin_fdiv : Bin2 G m m' (rI CDivW fun i j => .int (i / j)) fdivD := by
  intro φ O σ B H ρ S v1 v2 d1 d2 d Q R h1 h2 e q
  unfold fdivD at e
  split at e
  · split at e
    · rename_i hc
      cases h1; cases h2; cases e
      exact ⟨_, _, rfl, rfl, wide_div hc.1 (okI_lt hc.2) (by decide) (by decide), q _ _ _ Go.refl R (.int _)⟩
    · cases e
  · cases e
theorem bin_pow : Bin2 G m m' (rI CPow fun i j => .int (i ^ j.toNat)) powD := by
  intro φ O σ B H ρ S v1 v2 d1 d2 d Q R h1 h2 e q
  unfold powD at e
  split at e
  · split at e
    · rename_i hc
      cases h1; cases h2; cases e
      exact ⟨_, _, rfl, rfl, ⟨hc.1, by omega, by omega⟩, q _ _ _ Go.refl R (.int _)⟩
    · cases e
  · cases e
/-! displays -/
theorem de_tup {x1} {pos : Pos} (h : DA X es G m O E Fs) (hl : es.length ≤ 1000) : PE X (.Tuple es x1 pos) (tD G m O E (tupF Fs)) := by
  refine (pe_tup h.pa).mono fun σ H Q ⟨φ, B, ρ, S, R, hp⟩ => ⟨φ, B, ρ, S, R, ?_⟩
  unfold tupF at hp
  refine Pg.bindE (h.len ρ S) hp fun ds S1 ws B1 H1 hlen g R1 hws h1 => ?_
  have hlw : ws.length ≤ 1000 := by rw [hws.len, hlen]; exact hl
  refine ⟨sz1000 hlw, fun a na => ?_⟩
  obtain ⟨R', g', np⟩ := R1.new na
  exact (Pg.go g' h1).ok R' (.tup (SqT.of (bs_new m np)) (hws.same (g'.bs m)))
end
end
end NL
/-! ### the data layer: comparisons, tests, items, slices, built-ins, calls -/
namespace NL
noncomputable section
open PySem L2
mutual
def toP : D → Option PyData
  | .non => some .none
  | .bl b => some (.bool b)
  | .int i => some (.int i)
  | .str z => some (.str z)
  | .lst ds => (toPs ds).map .list
  | .tup ds => (toPs ds).map .tuple
  | .dct _ => none
  | .dcT _ => none
  | .loop _ _ => none
  | .run _ _ => none
  | .src => none
  | .set _ => none
  | .cls => none
  | .obj _ _ => none
  | .loc _ => none
def toPs : List D → Option (List PyData)
  | [] => some []
  | d :: ds => match toP d, toPs ds with
    | some p, some ps => some (p :: ps)
    | _, _ => none
end
section
variable {G : Gm} {p : Option Addr} {B : Hp}
mutual
theorem DV.dp : ∀ {v : V} {d : D}, DV G p B v d → ∀ {e : PyData}, toP d = some e → Dp G.K B v e
  | _, _, .non, e, h => by rw [toP] at h; cases h; exact .non
  | _, _, .bl b, e, h => by rw [toP] at h; cases h; exact .bl b
  | _, _, .int i, e, h => by rw [toP] at h; cases h; exact .int i
  | _, _, .str z, e, h => by rw [toP] at h; cases h; exact .str z
  | _, _, .lst h1 hs, e, h => by
    rw [toP] at h
    obtain ⟨ps, h2, rfl⟩ := Option.map_eq_some_iff.mp h
    exact .lst (SqL.of h1) (DVs.dp hs h2)
  | _, _, .tup h1 hs, e, h => by
    rw [toP] at h
    obtain ⟨ps, h2, rfl⟩ := Option.map_eq_some_iff.mp h
    exact .tup h1 (DVs.dp hs h2)
  | _, _, .dct _ _ _, e, h => by rw [toP] at h; exact nomatch h
  | _, _, .dcT _ _ _, e, h => by rw [toP] at h; exact nomatch h
  | _, _, .loop _, e, h => by rw [toP] at h; exact nomatch h
  | _, _, .run _, e, h => by rw [toP] at h; exact nomatch h
  | _, _, .src _, e, h => by rw [toP] at h; exact nomatch h
  | _, _, .set _ _ _, e, h => by rw [toP] at h; exact nomatch h
  | _, _, .cls, e, h => by rw [toP] at h; exact nomatch h
  | _, _, .obj _ _ _, e, h => by rw [toP] at h; exact nomatch h
  | _, _, .loc _, e, h => by rw [toP] at h; exact nomatch h
theorem DVs.dp : ∀ {vs : List V} {ds : List D}, DVs G p B vs ds → ∀ {es : List PyData}, toPs ds = some es → DpAll G.K B vs es
  | _, _, .nil, es, h => by rw [toPs] at h; cases h; exact .nil
  | _, _, .cons h1 hs, es, h => by
    rw [toPs] at h
    split at h
    · rename_i q qs h2 h3
      cases h
      exact .cons (DV.dp h1 h2) (DVs.dp hs h3)
    · cases h
end
end
def eqD (neg : Bool) (d1 d2 : D) : Option D := match toP d1, toP d2 with
  | some p1, some p2 => if (SeqAt.shaped p1 && SeqAt.shaped p2) = true then some (.bl (if neg then !PyData.eqv p1 p2 else PyData.eqv p1 p2)) else none
  | _, _ => none
def cmpD (fi : Int → Int → Bool) (fs : List Nat → List Nat → Bool) : D → D → Option D
  | .int a, .int b => some (.bl (fi a b))
  | .str a, .str b => some (.bl (fs a.cps.toList b.cps.toList))
  | _, _ => none
def ltD : D → D → Option D := cmpD (fun a b => decide (a < b)) (fun a b => decide (a < b))
def leD : D → D → Option D := cmpD (fun a b => decide (a ≤ b)) (fun a b => !decide (b < a))
def gtD : D → D → Option D := cmpD (fun a b => decide (b < a)) (fun a b => decide (b < a))
def vOf : D → V
  | .bl b => .bl b
  | .int i => .int i
  | .str z => .str z
  | _ => .non
def seqD : D → Option (List D)
  | .lst ds => some ds
  | .tup ds => some ds
  | _ => none
def inD (neg : Bool) (x c : D) : Option D := match seqD c with
  | some ds => if (isSc x && ds.all isSc) = true then some (.bl (if neg then !inV (vOf x) (ds.map vOf) else inV (vOf x) (ds.map vOf))) else none
  | none => none
def idxD : D → D → Option D
  | .lst ds, .int i => atI ds i
  | .tup ds, .int i => atI ds i
  | .str z, .int i => if z.length ≤ 100000 then (atI z.cps.toList i).map fun c => .str ⟨#[c]⟩ else none
  | _, _ => none
section
variable {X : Cx} {G : Gm} {m m' : Bool} {O : List Nat} {E : XK} {e : Expr} {es : List Expr} {F F1 F2 : Ex} {Fs : Exs}
section
variable {φ : Fr} {σ : L2.St} {B H : Hp} {ρ : Env} {S : SrcT}
theorem dv_H (R : Rep G φ O σ B H ρ S) {v : V} {d : D} (h : DV G φ.p (bs m φ B H) v d) : DV G φ.p H v d := h.same (R.bsH m)
end
theorem op_eqG (hu : X.A.units + 64 < cLine) (hK : X.K = G.K := by rfl) : OpR X (compareOp .Eq) (rEqD G.K) := by rw [← hK]; exact op_eqD hu
theorem op_neG (hu : X.A.units + 64 < cLine) (hK : X.K = G.K := by rfl) : OpR X (compareOp .NotEq) (rNeD G.K) := by rw [← hK]; exact op_neD hu
theorem bin_eq : Bin2 G m m' (rEqD G.K) (eqD false) := by
  intro φ O σ B H ρ S v1 v2 d1 d2 d Q R h1 h2 e q
  unfold eqD at e
  split at e
  · rename_i p1 p2 e1 e2
    split at e
    · rename_i hs
      simp only [Bool.and_eq_true] at hs
      cases e
      exact ⟨p1, p2, (dv_H R h1).dp e1, (dv_H R h2).dp e2, hs.1, hs.2, q _ _ _ Go.refl R (.bl _)⟩
    · cases e
  · cases e
theorem bin_ne : Bin2 G m m' (rNeD G.K) (eqD true) := by
  intro φ O σ B H ρ S v1 v2 d1 d2 d Q R h1 h2 e q
  unfold eqD at e
  split at e
  · rename_i p1 p2 e1 e2
    split at e
    · rename_i hs
      simp only [Bool.and_eq_true] at hs
      cases e
      exact ⟨p1, p2, (dv_H R h1).dp e1, (dv_H R h2).dp e2, hs.1, hs.2, q _ _ _ Go.refl R (.bl _)⟩
    · cases e
  · cases e
abbrev rCmpS (fs : List Nat → List Nat → Bool) : R2 := fun x y H Q => ∃ i j, x = .str i ∧ y = .str j ∧ Q (.bl (fs i.cps.toList j.cps.toList)) H
def rCmpA (fi : Int → Int → Bool) (fs : List Nat → List Nat → Bool) : R2 := fun x y H Q => rI0 (fun i j => .bl (fi i j)) x y H Q ∨ rCmpS fs x y H Q
theorem bin_cmp {fi : Int → Int → Bool} {fs : List Nat → List Nat → Bool} : Bin2 G m m' (rCmpA fi fs) (cmpD fi fs) := by
  intro φ O σ B H ρ S v1 v2 d1 d2 d Q R h1 h2 e q
  unfold cmpD at e
  split at e
  · cases h1; cases h2; cases e
    exact .inl ⟨_, _, rfl, rfl, q _ _ _ Go.refl R (.bl _)⟩
  · cases h1; cases h2; cases e
    exact .inr ⟨_, _, rfl, rfl, q _ _ _ Go.refl R (.bl _)⟩
  · cases e
theorem op_ltA : OpR X (compareOp .Lt) (rCmpA (fun a b => decide (a < b)) (fun a b => decide (a < b))) := (op_lt (X := X)).or op_lt_str
theorem op_leA : OpR X (compareOp .LtE) (rCmpA (fun a b => decide (a ≤ b)) (fun a b => !decide (b < a))) := (op_le (X := X)).or op_le_str
theorem op_gtA : OpR X (compareOp .Gt) (rCmpA (fun a b => decide (b < a)) (fun a b => decide (b < a))) := (op_gt (X := X)).or op_gt_str
theorem vOf_of {p : Option Addr} {B : Hp} {v : V} {d : D} (hs : isSc d = true) (h : DV G p B v d) : v = vOf d ∧ flatV v = true := by
  cases h <;> first | exact ⟨rfl, rfl⟩ | cases hs
theorem vOfs_of {p : Option Addr} {B : Hp} {vs : List V} {ds : List D} (hs : ds.all isSc = true) (h : DVs G p B vs ds) : vs = ds.map vOf ∧ vs.all flatV = true := by
  induction ds generalizing vs with
  | nil => cases h; exact ⟨rfl, rfl⟩
  | cons d ds ih =>
    cases h with
    | cons h1 h2 =>
      simp only [List.all_cons, Bool.and_eq_true] at hs
      obtain ⟨a1, a2⟩ := vOf_of hs.1 h1
      obtain ⟨b1, b2⟩ := ih hs.2 h2
      refine ⟨by rw [List.map_cons, ← a1, ← b1], ?_⟩
      rw [List.all_cons, a2, b2]; rfl
theorem sq_of {p : Option Addr} {B : Hp} {v : V} {c : D} {ds : List D} (hc : seqD c = some ds) (h : DV G p B v c) : ∃ a xs, v = .ref a ∧ (SqL G.K B a xs ∨ SqT G.K B a xs) ∧ DVs G p B xs ds := by
  cases h <;> first | (unfold seqD at hc; cases hc; done) | skip
  · rename_i a xs ds' h1 h2
    cases hc
    exact ⟨a, xs, rfl, .inl (SqL.of h1), h2⟩
  · rename_i a xs ds' h1 h2
    cases hc
    exact ⟨a, xs, rfl, .inr h1, h2⟩
theorem bin_in {neg : Bool} : Bin2 G m m' (rIn G.K neg) (inD neg) := by
  intro φ O σ B H ρ S v1 v2 d1 d2 d Q R h1 h2 e q
  unfold inD at e
  split at e
  · rename_i ds hc
    split at e
    · rename_i hs
      simp only [Bool.and_eq_true] at hs
      cases e
      obtain ⟨a, xs, rfl, hq, hd⟩ := sq_of hc (dv_H R h2)
      obtain ⟨e1, f1⟩ := vOf_of hs.1 h1
      obtain ⟨e2, f2⟩ := vOfs_of hs.2 hd
      refine ⟨a, xs, rfl, hq, f1, f2, ?_⟩
      rw [e1, e2]
      exact q _ _ _ Go.refl R (.bl _)
    · cases e
  · cases e
theorem op_inG (hK : X.K = G.K := by rfl) : OpR X (compareOp .In) (rIn G.K false) := by rw [← hK]; exact op_in_seq
theorem ix_G (hK : X.K = G.K := by rfl) : IxR X (rIx G.K) := by rw [← hK]; exact ix_seq
theorem dvs_at {p : Option Addr} {B : Hp} {vs : List V} {ds : List D} {i : Int} {d : D} (h : DVs G p B vs ds) (e : atI ds i = some d) : ∃ v, atI vs i = some v ∧ DV G p B v d := by
  unfold atI at e ⊢
  rw [h.len]
  cases hj : ixN ds.length i with
  | none => rw [hj] at e; cases e
  | some j =>
    rw [hj] at e
    exact h.get e
theorem bin_ix : Bin2 G m m (rIx G.K) idxD := by
  intro φ O σ B H ρ S v1 v2 d1 d2 d Q R h1 h2 e q
  unfold idxD at e
  split at e
  · cases h1 with | lst ha hs =>
    cases h2
    obtain ⟨v, hv, dv⟩ := dvs_at hs e
    exact .inl ⟨_, _, _, _, rfl, rfl, SqL.of (R.bsH m _ _ ha), hv, q _ _ _ Go.refl R dv⟩
  · cases h1 with | tup ha hs =>
    cases h2
    obtain ⟨v, hv, dv⟩ := dvs_at hs e
    exact .inr (.inl ⟨_, _, _, _, rfl, rfl, sq_bs R ha, hv, q _ _ _ Go.refl R dv⟩)
  · split at e
    · rename_i hl
      cases h1; cases h2
      obtain ⟨c, hc, rfl⟩ := Option.map_eq_some_iff.mp e
      exact .inr (.inr ⟨_, _, _, rfl, rfl, sz100k hl, hc, q _ _ _ Go.refl R (.str _)⟩)
    · cases e
  · cases e
/-- xs[i], xs a list of this def's own: its items are shared ones -/
def idxOF (i : Nat) (F : Ex) : Ex := fun ρ S => (F ρ S).bind fun d S1 => match ρ[i]? with
  | some (some c) => optF (idxD c d) S1
  | _ => .bad
/-! bools, tests -/
def andF (F1 F2 : Ex) : Ex := fun ρ S => (F1 ρ S).bind fun d S1 => match d with
  | .bl true => F2 ρ S1
  | .bl false => .ok (.bl false) S1
  | _ => .bad
def orF (F1 F2 : Ex) : Ex := fun ρ S => (F1 ρ S).bind fun d S1 => match d with
  | .bl true => .ok (.bl true) S1
  | .bl false => F2 ρ S1
  | _ => .bad
def notD : D → Option D
  | .bl b => some (.bl !b)
  | _ => none
def truD : D → Option Bool
  | .non => some false
  | .bl b => some b
  | .int i => some (i != 0)
  | .str z => if z.length ≤ 100000 then some ((z.length : Int) != 0) else none
  | .lst ds => some (!ds.isEmpty)
  | .tup ds => some (!ds.isEmpty)
  | .dct ds => some (!ds.isEmpty)
  | _ => none
def tstF (F : Ex) : Tst := fun ρ S => (F ρ S).bind fun d S1 => match truD d with
  | some b => .ok b S1
  | none => .bad
def andT (c1 c2 : Tst) : Tst := fun ρ S => (c1 ρ S).bind fun b S1 => if b = true then c2 ρ S1 else .ok false S1
def orT (c1 c2 : Tst) : Tst := fun ρ S => (c1 ρ S).bind fun b S1 => if b = true then .ok true S1 else c2 ρ S1
def notT (c : Tst) : Tst := fun ρ S => (c ρ S).bind fun b S1 => .ok (!b) S1
theorem de_and (h : PE X e (tAndV (tD G true O E F1) (tD G m O E F2))) : PE X e (tD G m O E (andF F1 F2)) := by
  refine h.mono fun σ H Q ⟨φ, B, ρ, S, R, hp⟩ => ⟨φ, B, ρ, S, R, ?_⟩
  refine Pg.bind hp fun d S1 w B1 H1 g R1 hw h1 => ?_
  cases hw with
  | bl b =>
    refine ⟨b, rfl, ?_⟩
    cases b with
    | true => rw [if_pos rfl]; exact ⟨φ, B1, ρ, S1, R1, h1⟩
    | false => rw [if_neg (by decide)]; exact Pg.ok h1 R1 (.bl _)
  | _ => exact h1.elim
theorem de_not (h : PE X e (tNotV (tD G true O E F))) : PE X e (tD G m O E (unF notD F)) := by
  refine h.mono fun σ H Q ⟨φ, B, ρ, S, R, hp⟩ => ⟨φ, B, ρ, S, R, ?_⟩
  refine Pg.bind hp fun d S1 w B1 H1 g R1 hw h1 => ?_
  obtain ⟨r, hr, q⟩ := h1.opt
  cases hw with
  | bl b => cases hr; exact ⟨b, rfl, q _ _ _ Go.refl R1 (.bl _)⟩
  | _ => cases hr
theorem tru_dv {p : Option Addr} {H : Hp} {v : V} {d : D} {b : Bool} (h : DV G p H v d) (e : truD d = some b) : TruV G.K v H b := by
  cases h with
  | non => cases e; rfl
  | bl b => cases e; rfl
  | int i => cases e; rfl
  | str z =>
    unfold truD at e
    dsimp only at e
    split at e
    · rename_i hl; cases e; exact ⟨sz100k hl, rfl⟩
    · cases e
  | lst h1 h2 =>
    cases e
    refine .inl ⟨_, SqL.of h1, ?_⟩
    cases h2 <;> rfl
  | tup h1 h2 =>
    cases e
    refine .inr (.inl ⟨_, h1, ?_⟩)
    cases h2 <;> rfl
  | dct h1 he h2 =>
    cases e
    refine .inr (.inr ⟨_, h1, ?_⟩)
    rename_i a kvs es
    cases kvs <;> cases es <;> first | rfl | (simp at he; done)
  | _ => cases e
theorem dt_val (h : PE X e (tD G true O E F)) (he : ∀ whole, isTrue e X.env whole = (do let v ← whole; standAt e.pos; holding [v] (truthy v)) := by intro _; rfl) (hK : X.K = G.K := by rfl) : PT X e (tBt G O E (tstF F)) := by
  refine (pt_truth h he).mono fun σ H Q ⟨φ, B, ρ, S, R, hp⟩ => ⟨φ, B, ρ, S, R, ?_⟩
  refine Pg.bind hp fun d S1 w B1 H1 g R1 hw h1 => ?_
  split at h1
  · rename_i b hb
    rw [hK]
    exact ⟨b, tru_dv (dv_H R1 hw) hb, Pg.ok h1 R1 rfl⟩
  · exact h1.elim
section
variable {c1 c2 : Tst}
theorem dw_or {pos : Pos} {a b : Expr} {rest : List Expr} (ha : PT X a (tBt G O E c1)) (hb : PW X (.BoolOp .Or (b :: rest) pos) (tBt G O E c2)) : PW X (.BoolOp .Or (a :: b :: rest) pos) (tBt G O E (orT c1 c2)) := by
  refine (pw_or ha hb).mono fun σ H Q ⟨φ, B, ρ, S, R, hp⟩ => ⟨φ, B, ρ, S, R, ?_⟩
  refine Pg.bind hp fun d S1 w B1 H1 g R1 hw h1 => ?_
  have hw : w = d := hw
  subst hw
  cases w with
  | true => exact Pg.ok h1 R1 rfl
  | false => exact ⟨φ, B1, ρ, S1, R1, h1⟩
theorem dt_not {pos : Pos} {a : Expr} (ha : PT X a (tBt G O E c1)) : PT X (.UnaryOp .Not a pos) (tBt G O E (notT c1)) := by
  refine (pt_not ha).mono fun σ H Q ⟨φ, B, ρ, S, R, hp⟩ => ⟨φ, B, ρ, S, R, ?_⟩
  refine Pg.bind hp fun d S1 w B1 H1 g R1 hw h1 => ?_
  have hw : w = d := hw
  subst hw
  exact Pg.ok h1 R1 rfl
end
/-! a call of a def of the program -/
def spPost (G : Gm) (p : Option Addr) (B H : Hp) (Q : VK) (E : XK) : Rs D → Prop
  | .bad => False
  | .exc c d S' => ∀ B' H' cv od, Same B B' → Same B' H' → (∀ a o, p ≠ some a → H a = some o → H' a = some o) → (∀ a o, B' a = some o → mutO o → B a = some o ∨ H a = none) → (∀ q, p = some q → B' q = none ∧ SrcAt H' q S') → ExnAt G p B' H' c d cv od → E cv od H'
  | .ok d S' => ∀ v B' H', Same B B' → Same B' H' → (∀ a o, p ≠ some a → H a = some o → H' a = some o) → (∀ a o, B' a = some o → mutO o → B a = some o ∨ H a = none) → (∀ q, p = some q → B' q = none ∧ SrcAt H' q S') → DV G p B' v d → Q v H'
  | .all p0 k => ∀ x, p0 x → spPost G p B H Q E (k x)
def spD (G : Gm) (f : List D → SrcT → Rs D) : Sp := fun vs H Q E => ∃ p B ds S, Same B H ∧ (∀ q, p = some q → B q = none ∧ SrcAt H q S) ∧ DVs G p B vs ds ∧ spPost G p B H Q E (f ds S)
/-- behind a call -/
theorem Rep.after {φ : Fr} {σ : L2.St} {B H : Hp} {ρ : Env} {S S' : SrcT} (R : Rep G φ O σ B H ρ S) (m : Bool) {Bc H' : Hp} (h1 : Same (bs m φ B H) Bc) (h2 : Same Bc H') (h3 : ∀ a o, φ.p ≠ some a → H a = some o → H' a = some o)
    (h4 : ∀ a o, Bc a = some o → mutO o → bs m φ B H a = some o ∨ H a = none) (h5 : ∀ q, φ.p = some q → Bc q = none ∧ SrcAt H' q S') (hv : G.v = false := by rfl) : ∃ B', Go φ B H B' H' ∧ Rep G φ O σ B' H' ρ S' ∧ Same Bc (bs m φ B' H') := by
  have hv2 : φ.v = false := R.vv.1.trans hv
  have gh : Same (hideP φ.p H) (hideP φ.p H') := fun c x h => by
    by_cases e : φ.p = some c
    · unfold hideP at h; rw [if_pos e] at h; cases h
    · rw [hideP_at e] at h ⊢; exact h3 c x e h
  have gd : ∀ a, H' a = none → H a = none := fun a h => by
    cases k : H a with
    | none => rfl
    | some x =>
      by_cases e : φ.p = some a
      · rw [(h5 a e).2.1] at h; cases h
      · rw [h3 a x e k] at h; cases h
  have hm : ∀ {B' : Hp}, MemOk G φ B' H' S' := fun hv3 => by rw [hv] at hv3; cases hv3
  cases m with
  | true =>
    rw [bs_true hv2] at h1 h4
    refine ⟨B, ⟨Same.refl _, fun _ => gh, fun _ _ h _ => .inl h, gd⟩, ⟨?_, fun a o hp hm h => h3 a o hp (R.fr a o hp hm h), R.cl, fun q hq => ⟨(R.src q hq).1, (h5 q hq).2⟩, R.b0, R.len, R.val, ?_, R.dis, fun a h => R.al a (gd a h), hm, R.vv, R.nov⟩, ?_⟩
    · exact fun c x h => h2 c x (h1 c x (R.bh c x h))
    · intro i hi
      obtain ⟨a, o, d, k1, k2, k3, k4, k5, k6, k7⟩ := R.own i hi
      exact ⟨a, o, d, k1, k2, h3 a o k6 k3, k4, k5, k6, k7⟩
    · rw [bs_true hv2]
      intro c x h
      by_cases e : φ.p = some c
      · rw [(h5 c e).1] at h; cases h
      · show hideP φ.p H' c = some x
        rw [hideP_at e]; exact h2 c x h
  | false =>
    have h1 : Same B Bc := h1
    have h4 : ∀ a o, Bc a = some o → mutO o → B a = some o ∨ H a = none := h4
    refine ⟨Bc, ⟨h1, fun _ => gh, h4, gd⟩, ⟨h2, fun a o hp hm h => h3 a o hp (R.fr a o hp hm h), ?_, h5, R.b0.trans h1, R.len, ?_, ?_, R.dis, fun a h => R.al a (gd a h), hm, R.vv, R.nov⟩, Same.refl _⟩
    · intro a o h hm
      rcases h4 a o h hm with k | k
      · exact R.cl a o k hm
      · exact .inr (R.al a k)
    · intro i d hi h
      obtain ⟨v, k1, k2⟩ := R.val i d hi h
      exact ⟨v, k1, k2.same h1⟩
    · intro i hi
      obtain ⟨a, o, d, k1, k2, k3, k4, k5, k6, k7⟩ := R.own i hi
      have hH' := h3 a o k6 k3
      refine ⟨a, o, d, k1, k2, hH', ?_, k5, k6, k7.same h1⟩
      cases h : Bc a with
      | none => rfl
      | some x =>
        have hx : x = o := by
          have := h2 a x h
          rw [hH'] at this; exact (Option.some.inj this).symm
        rcases h4 a x h (hx ▸ k7.mut) with k | k
        · rw [k4] at k; cases k
        · rw [k3] at k; cases k
theorem Rep.bare {φ : Fr} {σ : L2.St} {B H : Hp} {ρ : Env} {S : SrcT} (R : Rep G φ O σ B H ρ S) : Rep G φ [] [] B H [] S :=
  ⟨R.sub, R.fr, R.cl, R.src, R.b0, rfl, fun i d _ h => (by simp at h), fun i h => (nomatch h), fun i j h => (nomatch h), R.al, R.mem, R.vv, fun i h => (nomatch h)⟩
def noX {α : Type} : Rs α → Rs α
  | .ok a S => .ok a S
  | .all p k => .all p fun x => noX (k x)
  | _ => .bad
def callN (f : List D → SrcT → Rs D) (Fs : Exs) : Ex := fun ρ S => (Fs ρ S).bind fun ds S1 => noX (f ds S1)
theorem sp_call {φ : Fr} {σ : L2.St} {B H : Hp} {ρ : Env} {S : SrcT} {f : List D → SrcT → Rs D} {vs : List V} {ds : List D} {Q : VK} (R : Rep G φ O σ B H ρ S) (hv : DVs G φ.p (bs false φ B H) vs ds) (h : Pg G φ false O E σ ρ (DV G) B H (f ds S) Q) (hv0 : G.v = false := by rfl) : spD G f vs H Q E := by
  refine ⟨φ.p, bs false φ B H, ds, S, R.bsH false, fun q hq => ⟨R.bs_p false hq, (R.src q hq).2⟩, hv, ?_⟩
  generalize f ds S = r at h ⊢
  induction r with
  | bad => exact h
  | exc c d S' =>
    intro B' H' cv od h1 h2 h3 h4 h5 hx
    obtain ⟨B2, g, R2, hb⟩ := R.after false h1 h2 h3 h4 h5 hv0
    exact h B2 H' cv od g R2.bare (by
        obtain ⟨e1, e2⟩ := hx
        refine ⟨e1, ?_⟩
        cases d with
        | none => trivial
        | some d =>
          obtain ⟨dx, v, k1, k2, k3⟩ := e2
          exact ⟨dx, v, k1, k2, k3.same hb⟩)
  | ok d S' =>
    intro v B' H' h1 h2 h3 h4 h5 hd
    obtain ⟨B2, g, R2, hb⟩ := R.after false h1 h2 h3 h4 h5 hv0
    exact h v B2 H' g R2 (hd.same hb)
  | all p k ih => exact fun x px => ih x (h x px)
theorem sp_callN {φ : Fr} {σ : L2.St} {B H : Hp} {ρ : Env} {S : SrcT} {f : List D → SrcT → Rs D} {vs : List V} {ds : List D} {Q : VK} {E' : XK} (R : Rep G φ O σ B H ρ S) (hv : DVs G φ.p (bs true φ B H) vs ds) (h : Pg G φ true O E σ ρ (DV G) B H (noX (f ds S)) Q) (hv0 : G.v = false := by rfl) : spD G f vs H Q E' := by
  refine ⟨φ.p, bs true φ B H, ds, S, R.bsH true, fun q hq => ⟨R.bs_p true hq, (R.src q hq).2⟩, hv, ?_⟩
  generalize f ds S = r at h ⊢
  induction r with
  | bad => exact h
  | exc c d S' => exact h.elim
  | ok d S' =>
    intro v B' H' h1 h2 h3 h4 h5 hd
    obtain ⟨B2, g, R2, hb⟩ := R.after true h1 h2 h3 h4 h5 hv0
    exact h v B2 H' g R2 (hd.same hb)
  | all p k ih => exact fun x px => ih x (h x px)
theorem de_call {f : List D → SrcT → Rs D} (h : PE X e (tCall (spD G f) [] E (tDs G false O E Fs))) (hv0 : G.v = false := by rfl) : PE X e (tD G false O E (callF f Fs)) := by
  refine h.mono fun σ H Q ⟨φ, B, ρ, S, R, hp⟩ => ⟨φ, B, ρ, S, R, ?_⟩
  refine Pg.bind hp fun d S1 w B1 H1 g R1 hw h1 => ?_
  rw [List.append_nil]
  exact sp_call R1 hw h1 hv0
end
end
end NL
/-! ### the data layer: slices, built-ins, new lists, walks, comprehensions -/
namespace NL
noncomputable section
open PySem L2
/-! slices -/
def cutD (ds : List D) (lo hi : Option Int) : List D := (ds.drop (HT.sIx ds.length 0 lo)).take (HT.sIx ds.length ds.length hi - HT.sIx ds.length 0 lo)
def sliceD : D → Option Int → Option Int → Option D
  | .lst ds, lo, hi => some (.lst (cutD ds lo hi))
  | .tup ds, lo, hi => some (.tup (cutD ds lo hi))
  | .str z, lo, hi => if z.length ≤ 100000 then some (.str (cutS z lo hi)) else none
  | _, _, _ => none
abbrev Exo := Env → SrcT → Rs (Option Int)
def noF : Exo := fun _ S => .ok none S
def someF (F : Ex) : Exo := fun ρ S => (F ρ S).bind fun d S1 => match d with
  | .int i => .ok (some i) S1
  | _ => .bad
def slF (F : Ex) (L U : Exo) : Ex := fun ρ S => (F ρ S).bind fun d S1 => (L ρ S1).bind fun lo S2 => (U ρ S2).bind fun hi S3 => optF (sliceD d lo hi) S3
section
variable {X : Cx} {G : Gm} {m m' : Bool} {O : List Nat} {E : XK} {e : Expr} {es : List Expr} {F F1 F2 : Ex} {Fs : Exs} {L U : Exo}
abbrev tO (G : Gm) (O : List Nat) (E : XK) (F : Exo) : TO := tG G true O E (fun _ _ b a => b = a) F
theorem _root_.L2.PO.mono {X : Cx} {e : Option Expr} {t t' : TO} (h : PO X e t) (s : ∀ σ H Q, t' σ H Q → t σ H Q) : PO X e t' := ⟨fun pins s0 σ H Q I hw => h.run pins s0 σ H Q I (s σ H Q hw)⟩
theorem do_none : PO X none (tO G O E noF) := po_none.mono fun σ H Q ⟨φ, B, ρ, S, R, hp⟩ => Pg.ok hp R rfl
theorem do_some (h : PE X e (tD G true O E F)) : PO X (some e) (tO G O E (someF F)) := by
  refine (po_some h).mono fun σ H Q ⟨φ, B, ρ, S, R, hp⟩ => ⟨φ, B, ρ, S, R, ?_⟩
  refine Pg.bind hp fun d S1 w B1 H1 g R1 hw h1 => ?_
  cases hw with
  | int i => exact ⟨i, rfl, Pg.ok h1 R1 rfl⟩
  | _ => exact h1.elim
theorem dvs_cut {p : Option Addr} {B : Hp} {vs : List V} {ds : List D} (lo hi : Option Int) (h : DVs G p B vs ds) : DVs G p B (cutV vs lo hi) (cutD ds lo hi) := by
  unfold cutV cutD
  rw [h.len]
  exact (h.drop _).take _
def rSlG (K : PySem.W.Frag) : V → Option Int → Option Int → Hp → VK → Prop := fun x lo hi H Q => rSlL K x lo hi H Q ∨ (rSlA K x lo hi H Q ∨ rSlS x lo hi H Q)
theorem sl_G (hK : X.K = G.K := by rfl) : SlR X (rSlG G.K) := by rw [← hK]; exact (sl_list (X := X)).or ((sl_tupA (X := X)).or sl_str)
theorem de_slice {pos p2 : Pos} {lo hi : Option Expr} (h : PE X (.Subscript e (.Slice lo hi none p2) pos) (tSl (rSlG G.K) (tD G m O E F) (tO G O E L) (tO G O E U))) : PE X (.Subscript e (.Slice lo hi none p2) pos) (tD G m O E (slF F L U)) := by
  refine h.mono fun σ H Q ⟨φ, B, ρ, S, R, hp⟩ => ⟨φ, B, ρ, S, R, ?_⟩
  refine Pg.bind hp fun d S1 w B1 H1 g1 R1 hw h1 => ⟨φ, B1, ρ, S1, R1, ?_⟩
  refine Pg.bind h1 fun l S2 wl B2 H2 g2 R2 hwl h2 => ⟨φ, B2, ρ, S2, R2, ?_⟩
  refine Pg.bind h2 fun u S3 wu B3 H3 g3 R3 hwu h3 => ?_
  have hwl : wl = l := hwl
  have hwu : wu = u := hwu
  subst hwl; subst hwu
  obtain ⟨r, hr, q⟩ := h3.opt
  have hw := hw.same ((g2.trans g3).bs m)
  unfold sliceD at hr
  split at hr
  · cases hw with | lst ha hs =>
    cases hr
    refine .inl ⟨_, _, rfl, SqL.of (R3.bsH m _ _ ha), fun a na => ?_⟩
    obtain ⟨R', g, np⟩ := R3.new na
    exact q _ _ _ g R' (.lst (bs_new m np) ((dvs_cut _ _ hs).same (g.bs m)))
  · cases hw with | tup ha hs =>
    cases hr
    refine .inr (.inl ⟨_, _, rfl, sq_bs R3 ha, fun hw => ?_, fun _ a na => ?_⟩)
    · have hc := dvs_cut (lo := wl) (hi := wu) hs
      have e1 : ∀ xs : List V, (HT.sIx xs.length 0 wl = 0 ∧ HT.sIx xs.length xs.length wu = xs.length) → cutV xs wl wu = xs := fun xs hx => by
        unfold cutV; rw [hx.1, hx.2]; simp
      rw [e1 _ hw] at hc
      exact q _ _ _ Go.refl R3 (.tup ha hc)
    · obtain ⟨R', g, np⟩ := R3.new na
      exact q _ _ _ g R' (.tup (SqT.of (bs_new m np)) ((dvs_cut _ _ hs).same (g.bs m)))
  · split at hr
    · rename_i hl
      cases hw; cases hr
      exact .inr (.inr ⟨_, rfl, sz100k hl, q _ _ _ Go.refl R3 (.str _)⟩)
    · cases hr
  · cases hr
/-! built-ins -/
def lenD : List D → Option D
  | [.lst ds] => some (.int ds.length)
  | [.tup ds] => some (.int ds.length)
  | [.str z] => if z.length ≤ 100000 then some (.int z.length) else none
  | [.dct kvs] => some (.int kvs.length)
  | _ => none
def rLenG (K : PySem.W.Frag) : List V → Hp → VK → Prop := fun xs H Q => (∃ x n, xs = [x] ∧ LenV K x H n ∧ Q (.int n) H) ∨ (∃ a kvs, xs = [V.ref a] ∧ H a = some (.dK kvs) ∧ Q (.int kvs.length) H)
theorem call_lenG (hK : X.K = G.K := by rfl) : CallR X (.builtin "len") (rLenG G.K) := by rw [← hK]; exact (call_len (X := X)).or call_lenD
theorem arg_len : ArgN G m m' (rLenG G.K) lenD := by
  intro φ O σ B H ρ S vs ds d Q R hv e q
  unfold lenD at e
  split at e
  · cases hv with | cons h1 h2 => cases h2; cases h1 with | lst ha hs =>
    cases e
    refine .inl ⟨_, _, rfl, .inl ⟨_, SqL.of (R.bsH m _ _ ha), rfl⟩, ?_⟩
    rw [hs.len]; exact q _ _ _ Go.refl R (.int _)
  · cases hv with | cons h1 h2 => cases h2; cases h1 with | tup ha hs =>
    cases e
    refine .inl ⟨_, _, rfl, .inr ⟨_, sq_bs R ha, rfl⟩, ?_⟩
    rw [hs.len]; exact q _ _ _ Go.refl R (.int _)
  · split at e
    · rename_i hl
      cases hv with | cons h1 h2 =>
      cases h2; cases h1
      cases e
      exact .inl ⟨_, _, rfl, ⟨sz100k hl, rfl⟩, q _ _ _ Go.refl R (.int _)⟩
    · cases e
  · cases hv with | cons h1 h2 => cases h2; cases h1 with | dct ha he hs =>
    cases e
    refine .inr ⟨_, _, rfl, R.bsH m _ _ ha, ?_⟩
    have : ∀ {α β γ : Type} (l1 : List (γ × α)) (l2 : List (γ × β)), l1.map Prod.fst = l2.map Prod.fst → l1.length = l2.length := fun l1 l2 h => by simpa using congrArg List.length h
    rw [this _ _ he]; exact q _ _ _ Go.refl R (.int _)
  · cases e
def intD : List D → Option D
  | [.int i] => some (.int i)
  | [.bl b] => some (.int (if b then 1 else 0))
  | _ => none
def absD : List D → Option D
  | [.int i] => some (.int (if i < 0 then -i else i))
  | _ => none
abbrev rAbs : List V → Hp → VK → Prop := fun xs H Q => ∃ i, xs = [.int i] ∧ Q (.int (if i < 0 then -i else i)) H
theorem arg_abs : ArgN G m m' rAbs absD := by
  intro φ O σ B H ρ S vs ds d Q R hv e q
  unfold absD at e
  split at e
  · cases hv with | cons h1 h2 => cases h2; cases h1; cases e; exact ⟨_, rfl, q _ _ _ Go.refl R (.int _)⟩
  · cases e
def boolsD : List D → Option (List Bool)
  | [] => some []
  | .bl b :: ds => (boolsD ds).map (b :: ·)
  | _ => none
def intsD : List D → Option (List Int)
  | [] => some []
  | .int i :: ds => (intsD ds).map (i :: ·)
  | _ => none
def strsD : List D → Option (List Str)
  | [] => some []
  | .str i :: ds => (strsD ds).map (i :: ·)
  | _ => none
theorem bools_of {p : Option Addr} {B : Hp} : ∀ {ds : List D} {vs : List V} {bs : List Bool}, boolsD ds = some bs → DVs G p B vs ds → vs = bs.map V.bl := by
  intro ds
  induction ds with
  | nil => intro vs bs h hv; cases hv; cases h; rfl
  | cons d ds ih =>
    intro vs bs h hv
    cases hv with | cons h1 h2 =>
    unfold boolsD at h
    split at h
    · rename_i heq; cases heq
    · rename_i b ds' heq
      cases heq
      obtain ⟨bs', h3, rfl⟩ := Option.map_eq_some_iff.mp h
      cases h1
      rw [ih h3 h2]; rfl
    · cases h
theorem boolsD_map : ∀ bs : List Bool, boolsD (bs.map D.bl) = some bs
  | [] => rfl
  | b :: bs => by rw [List.map_cons, boolsD, boolsD_map bs]; rfl
def allD : List D → Option D
  | [.lst ds] => (boolsD ds).map fun bs => .bl (bs.all id)
  | _ => none
def anyD : List D → Option D
  | [.lst ds] => (boolsD ds).map fun bs => .bl (bs.any id)
  | _ => none
theorem arg_all : ArgN G m m' (rAll G.K) allD := by
  intro φ O σ B H ρ S vs ds d Q R hv e q
  unfold allD at e
  split at e
  · cases hv with | cons h1 h2 => cases h2; cases h1 with | lst ha hs =>
    obtain ⟨bl, h3, rfl⟩ := Option.map_eq_some_iff.mp e
    refine ⟨_, bl, rfl, ?_, q _ _ _ Go.refl R (.bl _)⟩
    rw [← bools_of h3 hs]; exact SqL.of (R.bsH m _ _ ha)
  · cases e
theorem arg_any : ArgN G m m' (rAny G.K) anyD := by
  intro φ O σ B H ρ S vs ds d Q R hv e q
  unfold anyD at e
  split at e
  · cases hv with | cons h1 h2 => cases h2; cases h1 with | lst ha hs =>
    obtain ⟨bl, h3, rfl⟩ := Option.map_eq_some_iff.mp e
    refine ⟨_, bl, rfl, ?_, q _ _ _ Go.refl R (.bl _)⟩
    rw [← bools_of h3 hs]; exact SqL.of (R.bsH m _ _ ha)
  · cases e
theorem call_allG (hc : X.calm = true) (hK : X.K = G.K := by rfl) : CallR X (.builtin "all") (rAll G.K) := by rw [← hK]; exact cr_all hc
theorem call_anyG (hc : X.calm = true) (hK : X.K = G.K := by rfl) : CallR X (.builtin "any") (rAny G.K) := by rw [← hK]; exact cr_any hc
end
end
end NL
/-! ### the data layer: new objects of one's own -/
namespace NL
noncomputable section
open PySem L2
section
variable {X : Cx} {G : Gm} {m m' : Bool} {O : List Nat} {E : XK} {e : Expr} {es : List Expr} {F F1 F2 : Ex} {Fs : Exs}
variable {φ : Fr} {σ : L2.St} {B H : Hp} {ρ : Env} {S : SrcT}
/-- a new object, not yet shared -/
structure New (G : Gm) (φ : Fr) (O : List Nat) (σ : L2.St) (m : Bool) (B H : Hp) (S : SrcT) (a : Addr) (o : HO) (d : D) : Prop where
  at' : H a = some o
  nB : B a = none
  n0 : φ.H0 a = none
  np : φ.p ≠ some a
  dis : ∀ i, i ∈ O → σ[i]? ≠ some (some (.ref a))
  dat : DO G φ.p (bs m φ B H) o d
  nm : G.v = true → S.m a = none
def PgN (G : Gm) (φ : Fr) (m : Bool) (O : List Nat) (E : XK) (σ : L2.St) (ρ : Env) (B H : Hp) (r : Rs D) (Q : VK) : Prop := match r with
  | .bad => False
  | .exc c d S => XP G φ E B H c d S
  | .ok d S => ∀ a o B' H', Go φ B H B' H' → Rep G φ O σ B' H' ρ S → New G φ O σ m B' H' S a o d → H a = none → Q (.ref a) H'
  | .all p k => ∀ x, p x → PgN G φ m O E σ ρ B H (k x) Q
def tN (G : Gm) (m : Bool) (O : List Nat) (E : XK) (F : Ex) : TE := fun σ H Q => ∃ φ B ρ S, Rep G φ O σ B H ρ S ∧ PgN G φ m O E σ ρ B H (F ρ S) Q
theorem PgN.go {B1 H1 : Hp} {r : Rs D} {Q : VK} (g : Go φ B H B1 H1) (h : PgN G φ m O E σ ρ B H r Q) : PgN G φ m O E σ ρ B1 H1 r Q := by
  induction r with
  | bad => exact h
  | exc c d S => exact XP.go g h
  | ok a S => exact fun w o B' H' g' R' n' hn => h w o B' H' (g.trans g') R' n' (g.d _ hn)
  | all p k ih => exact fun x px => ih x (h x px)
theorem PgN.bind {ω' β : Type} {rel' : Rel ω' β} {r : Rs β} {k : β → SrcT → Rs D} {Q : VK} {Q' : ω' → Hp → Prop} (h : PgN G φ m O E σ ρ B H (r.bind k) Q)
    (hk : ∀ d S w B1 H1, Go φ B H B1 H1 → Rep G φ O σ B1 H1 ρ S → rel' φ.p (bs m' φ B1 H1) w d → PgN G φ m O E σ ρ B1 H1 (k d S) Q → Q' w H1) : Pg G φ m' O E σ ρ rel' B H r Q' := by
  induction r with
  | bad => exact h
  | exc c d S => exact h
  | ok a S => exact fun w B' H' g R hw => hk a S w B' H' g R hw (PgN.go g h)
  | all p k ih => exact fun x px => ih x (h x px)
theorem PgN.bindE {ω' β : Type} {rel' : Rel ω' β} {r : Rs β} {k : β → SrcT → Rs D} {Q : VK} {Q' : ω' → Hp → Prop} {P0 : β → Prop} (he : r.each P0) (h : PgN G φ m O E σ ρ B H (r.bind k) Q)
    (hk : ∀ d S w B1 H1, P0 d → Go φ B H B1 H1 → Rep G φ O σ B1 H1 ρ S → rel' φ.p (bs m' φ B1 H1) w d → PgN G φ m O E σ ρ B1 H1 (k d S) Q → Q' w H1) : Pg G φ m' O E σ ρ rel' B H r Q' := by
  induction r with
  | bad => exact h
  | exc c d S => exact h
  | ok a S => exact fun w B' H' g R hw => hk a S w B' H' he g R hw (PgN.go g h)
  | all p k ih => exact fun x px => ih x (he x) (h x px)
theorem Rep.attach (R : Rep G φ O σ B H ρ S) {a : Addr} {o : HO} {d : D} (n : New G φ O σ m B H S a o d) : Rep G φ O σ (upd B a o) H ρ S ∧ DV G φ.p (bs m φ (upd B a o) H) (.ref a) d := by
  have sB : Same B (upd B a o) := same_new n.nB
  refine ⟨⟨?_, R.fr, ?_, ?_, R.b0.trans sB, R.len, ?_, ?_, R.dis, R.al, ?_, R.vv, R.nov⟩, ?_⟩
  · intro c x h
    by_cases e : c = a
    · subst e; rw [upd_same] at h; rw [← h]; exact n.at'
    · rw [upd_ne e] at h; exact R.sub c x h
  · intro c x h hm
    by_cases e : c = a
    · subst e; exact .inr n.n0
    · rw [upd_ne e] at h; exact R.cl c x h hm
  · intro q hq
    have e : q ≠ a := fun e => n.np (e ▸ hq)
    exact ⟨by rw [upd_ne e]; exact (R.src q hq).1, (R.src q hq).2⟩
  · intro i d hi h
    obtain ⟨v, k1, k2⟩ := R.val i d hi h
    exact ⟨v, k1, k2.same sB⟩
  · intro i hi
    obtain ⟨b, o', d', k1, k2, k3, k4, k5, k6, k7⟩ := R.own i hi
    have e : b ≠ a := fun e => n.dis i hi (e ▸ k2)
    exact ⟨b, o', d', k1, k2, k3, by rw [upd_ne e]; exact k4, k5, k6, k7.same sB⟩
  · intro hv b c hc
    obtain ⟨h1, h2, h3, h4⟩ := R.mem hv b c hc
    have e : b ≠ a := fun e => by rw [e, n.nm hv] at hc; cases hc
    exact ⟨h1.move sB fun o h => h, by rw [upd_ne e]; exact h2, h3, h4⟩
  · have hs : Same (bs m φ B H) (bs m φ (upd B a o) H) := by
      unfold bs; split
      · exact Same.refl _
      · exact sB
    refine (n.dat.same hs).dv ?_
    unfold bs; split
    · rw [hideP_at n.np]; exact n.at'
    · exact upd_same
theorem PgN.of {r : Rs D} {Q : VK} (h : Pg G φ m O E σ ρ (DV G) B H r Q) : PgN G φ m O E σ ρ B H r Q := by
  induction r with
  | bad => exact h
  | exc c d S => exact h
  | ok d S1 =>
    intro a o B' H' g R' n hn
    obtain ⟨R2, dv⟩ := R'.attach n
    refine h (.ref a) (upd B' a o) H' ⟨g.b.trans (same_new n.nB), g.h, fun c x h hm => ?_, g.d⟩ R2 dv
    by_cases e : c = a
    · subst e; exact .inr hn
    · rw [upd_ne e] at h; exact g.n c x h hm
  | all p k ih => exact fun x px => ih x (h x px)
theorem de_ofN (h : PE X e (tN G m O E F)) : PE X e (tD G m O E F) := h.mono fun σ H Q ⟨φ, B, ρ, S, R, hp⟩ => ⟨φ, B, ρ, S, R, PgN.of hp⟩
/-- a list (or dict) laid at a free place -/
theorem Rep.newO (R : Rep G φ O σ B H ρ S) {a : Addr} {o : HO} {d : D} (n : H a = none) (hd : DO G φ.p (bs m φ B H) o d) : Rep G φ O σ B (upd H a o) ρ S ∧ Go φ B H B (upd H a o) ∧ New G φ O σ m B (upd H a o) S a o d := by
  obtain ⟨R', g, nB, n0, np⟩ := R.newN (o := o) n
  refine ⟨R', g, ⟨upd_same, nB, n0, np, fun i hi h => ?_, hd.same (g.bs m), fun hv => ?_⟩⟩
  · obtain ⟨b, o', d', k1, k2, k3, _⟩ := R.own i hi
    rw [k2] at h
    have e : b = a := by injection h with h; injection h with h; injection h
    rw [e, n] at k3; cases k3
  · cases hc : S.m a with
    | none => rfl
    | some c =>
      obtain ⟨x, hx, _⟩ := (R.mem hv a c hc).1.some
      rw [n] at hx; cases hx
theorem de_lstN {pos : Pos} (h : DA X es G m O E Fs) (hl : es.length ≤ 1000) : PE X (.List es pos) (tN G m O E (lstF Fs)) := by
  refine (pe_lst h.pa).mono fun σ H Q ⟨φ, B, ρ, S, R, hp⟩ => ⟨φ, B, ρ, S, R, ?_⟩
  unfold lstF at hp
  refine PgN.bindE (h.len ρ S) hp fun ds S1 ws B1 H1 hlen g R1 hws h1 => ?_
  have hlw : ws.length ≤ 1000 := by rw [hws.len, hlen]; exact hl
  refine ⟨sz1000 hlw, fun a na => ?_⟩
  obtain ⟨R', g', n'⟩ := R1.newO (m := m) (o := .lst ws) (d := .lst ds) na hws
  exact h1 a _ B1 _ g' R' n' na
theorem de_lst {pos : Pos} (h : DA X es G m O E Fs) (hl : es.length ≤ 1000) : PE X (.List es pos) (tD G m O E (lstF Fs)) := de_ofN (de_lstN h hl)
theorem PgN.opt {o : Option D} {Q : VK} (h : PgN G φ m O E σ ρ B H (optF o S) Q) : ∃ d, o = some d ∧ ∀ a o B' H', Go φ B H B' H' → Rep G φ O σ B' H' ρ S → New G φ O σ m B' H' S a o d → H a = none → Q (.ref a) H' := by
  cases o with
  | none => exact h.elim
  | some d => exact ⟨d, rfl, h⟩
/-- list(x); sorted(x) -/
def listD : List D → Option D
  | [.lst ds] => some (.lst ds)
  | [.tup ds] => some (.lst ds)
  | _ => none
def ArgNN (G : Gm) (m m' : Bool) (r : List V → Hp → VK → Prop) (f : List D → Option D) : Prop := ∀ {φ : Fr} {O : List Nat} {σ : L2.St} {B H : Hp} {ρ : Env} {S : SrcT} {vs : List V} {ds : List D} {d : D} {Q : VK}, Rep G φ O σ B H ρ S → DVs G φ.p (bs m φ B H) vs ds → f ds = some d →
  (∀ a o B' H', Go φ B H B' H' → Rep G φ O σ B' H' ρ S → New G φ O σ m' B' H' S a o d → H a = none → Q (.ref a) H') → r vs H Q
theorem de_argN {r : List V → Hp → VK → Prop} {f : List D → Option D} (hb : ArgNN G m m' r f) (h : PE X e (tCB r (tDs G m O E Fs))) : PE X e (tN G m' O E (argF f Fs)) := by
  refine h.mono fun σ H Q ⟨φ, B, ρ, S, R, hp⟩ => ⟨φ, B, ρ, S, R, ?_⟩
  refine PgN.bind hp fun d1 S1 v1 B1 H1 g R1 hw h1 => ?_
  obtain ⟨d, e, q⟩ := h1.opt
  exact hb R1 hw e q
theorem call_listG (hK : X.K = G.K := by rfl) : CallR X (.type "list") (rListOf G.K) := by rw [← hK]; exact call_list_of
theorem arg_listN : ArgNN G m m (rListOf G.K) listD := by
  intro φ O σ B H ρ S vs ds d Q R hv e q
  unfold listD at e
  split at e
  · cases hv with | cons h1 h2 =>
    cases h2; cases h1 with | lst ha hs =>
    cases e
    refine ⟨_, _, rfl, .inl (SqL.of (R.bsH m _ _ ha)), fun a na => ?_⟩
    obtain ⟨R', g', n'⟩ := R.newO (m := m) (o := .lst _) (d := .lst _) na hs
    exact q a _ B _ g' R' n' na
  · cases hv with | cons h1 h2 =>
    cases h2; cases h1 with | tup ha hs =>
    cases e
    refine ⟨_, _, rfl, .inr (sq_bs R ha), fun a na => ?_⟩
    obtain ⟨R', g', n'⟩ := R.newO (m := m) (o := .lst _) (d := .lst _) na hs
    exact q a _ B _ g' R' n' na
  · cases e
/-- tuple(x) -/
def tupleD : List D → Option D
  | [.lst ds] => some (.tup ds)
  | [.tup ds] => some (.tup ds)
  | _ => none
theorem call_tupleG (hK : X.K = G.K := by rfl) : CallR X (.type "tuple") (rTupOf G.K) := by rw [← hK]; exact call_tuple_of
theorem arg_tuple : ArgN G m m (rTupOf G.K) tupleD := by
  intro φ O σ B H ρ S vs ds d Q R hv e q
  unfold tupleD at e
  split at e
  · cases hv with | cons h1 h2 =>
    cases h2; cases h1 with | lst ha hs =>
    cases e
    refine ⟨_, _, rfl, .inl ⟨SqL.of (R.bsH m _ _ ha), fun a na => ?_⟩⟩
    obtain ⟨R', g, np⟩ := R.new na
    exact q _ _ _ g R' (.tup (SqT.of (bs_new m np)) (hs.same (g.bs m)))
  · cases hv with | cons h1 h2 =>
    cases h2; cases h1 with | tup ha hs =>
    cases e
    exact ⟨_, _, rfl, .inr ⟨sq_bs R ha, q _ _ _ Go.refl R (.tup ha hs)⟩⟩
  · cases e
/-! sorted -/
def insI (x : Int) : List Int → List Int
  | [] => [x]
  | y :: r => if x ≤ y then x :: y :: r else y :: insI x r
def sortI : List Int → List Int
  | [] => []
  | x :: r => insI x (sortI r)
end
end
end NL
/-! ### the data layer: walks, targets, comprehensions -/
namespace NL
noncomputable section
open PySem L2
theorem _root_.L2.PI.mono {X : Cx} {tg e : Expr} {t t' : TI} (h : PI X tg e t) (s : ∀ σ H Q, t' σ H Q → t σ H Q) : PI X tg e t' := ⟨fun pins s0 σ H Q I hw => h.run pins s0 σ H Q I (s σ H Q hw)⟩
theorem _root_.L2.PG.mono {X : Cx} {tg : Expr} {t t' : TG} (h : PG X tg t) (s : ∀ v σ H Q, t' v σ H Q → t v σ H Q) : PG X tg t' := ⟨fun pins s0 σ H v u Q I r hw => h.run pins s0 σ H v u Q I r (s v σ H Q hw)⟩
theorem _root_.L2.PGs.mono {X : Cx} {tg : List Expr} {t t' : TGs} (h : PGs X tg t) (s : ∀ v σ H Q, t' v σ H Q → t v σ H Q) : PGs X tg t' := ⟨fun pins s0 σ H v u Q I r hw => h.run pins s0 σ H v u Q I r (s v σ H Q hw)⟩
theorem _root_.L2.PTs.mono {X : Cx} {e : List Expr} {t t' : TT} (h : PTs X e t) (s : ∀ σ H Q, t' σ H Q → t σ H Q) : PTs X e t' := ⟨fun pins s0 σ H Q I hw => h.run pins s0 σ H Q I (s σ H Q hw)⟩
/-- what a turn gives -/
def YD (G : Gm) (p : Option Addr) (B : Hp) (ds : List D) : Nat → Hp → V → Hp → Prop := fun i H x H' => ∃ d, ds[i]? = some d ∧ ((H' = H ∧ DV G p B x d) ∨ ∃ T o, x = .ref T ∧ H T = none ∧ H' = upd H T o ∧ ∀ B2, Same B B2 → B2 T = none → DV G p (upd B2 T o) x d)
structure DWalk (G : Gm) (p : Option Addr) (B : Hp) (J : It) (ds : List D) : Prop where
  ex : ∃ Gd : Hp → Prop, (∀ H, Same B H → Gd H) ∧ Walk J ds.length Gd (YD G p B ds)
abbrev tI (G : Gm) (O : List Nat) (E : XK) (F : Exs) : TI := tG G false O E (DWalk G) F
def iSeq2 (K : PySem.W.Frag) (tl : TE) : TI := fun σ H R => tl σ H fun x H1 => ∃ a xs, x = .ref a ∧ ((SqL K H1 a xs ∧ R (Itl K a) H1) ∨ (SqT K H1 a xs ∧ R (Itt K a) H1))
section
variable {X : Cx}
theorem pi_seq2 {tg l : Expr} {tl : TE} (hl : PE X l tl) : PI X tg l (iSeq2 X.K tl) := by
  refine ⟨fun pins s σ H R I h => ?_⟩
  refine thn (hl.run pins s σ H _ I h) fun v s1 ⟨x, H1, I1, r1, q1⟩ => ?_
  obtain ⟨a, xs, e, hq⟩ := q1
  subst e
  cases r1
  rcases hq with ⟨hq, q⟩ | ⟨hq, q⟩
  · obtain ⟨its, rv, p, hz⟩ := I1.list hq
    refine wpAny_pyIter_list p.isList ?_
    refine ⟨s1.heap.objs.size, [s1.heap.objs.size], _, _, H1, rfl, I1.kept (t' := s1.toks) fun b o e => Heap.get?_push_of_some _ e, turn_list a _, ⟨_, Heap.get?_push_size _ rfl, rfl, rfl⟩, fun b hb => ?_, q⟩
    have e : b = s1.heap.objs.size := by simpa using hb
    subst e
    exact I1.fpOk (Nat.le_refl _) (I1.hok.fresh (Nat.le_refl _))
  · obtain ⟨its, rv, p, hz⟩ := I1.tuple hq
    refine wpAny_pyIter_tuple (show s1.heap.IsTuple a its.toArray from p) ?_
    refine ⟨s1.heap.objs.size, [s1.heap.objs.size], _, _, H1, rfl, I1.kept (t' := s1.toks) fun b o e => Heap.get?_push_of_some _ e, turn_tuple a _, ⟨_, Heap.get?_push_size _ rfl, rfl, rfl⟩, fun b hb => ?_, q⟩
    have e : b = s1.heap.objs.size := by simpa using hb
    subst e
    exact I1.fpOk (Nat.le_refl _) (I1.hok.fresh (Nat.le_refl _))
end
def seqF (F : Ex) : Exs := fun ρ S => (F ρ S).bind fun d S1 => match seqD d with
  | some ds => .ok ds S1
  | none => .bad
def rngD (lo : Int) (n : Nat) : List D := (List.range n).map fun i : Nat => D.int (lo + (i : Int))
def okR (i : Int) : Bool := decide (-1000000000000 ≤ i) && decide (i ≤ 1000000000000)
def rng1F (Fs : Exs) : Exs := fun ρ S => (Fs ρ S).bind fun ds S1 => match ds with
  | [.int j] => if okR j = true then .ok (rngD 0 j.toNat) S1 else .bad
  | _ => .bad
def rng2F (Fs : Exs) : Exs := fun ρ S => (Fs ρ S).bind fun ds S1 => match ds with
  | [.int i, .int j] => if (okR i && okR j) = true then .ok (rngD i (j - i).toNat) S1 else .bad
  | _ => .bad
def signsD (z : Str) : List D := z.cps.toList.map fun c => D.str ⟨#[c]⟩
def strF (F : Ex) : Exs := fun ρ S => (F ρ S).bind fun d S1 => match d with
  | .str z => .ok (signsD z) S1
  | _ => .bad
section
variable {X : Cx} {G : Gm} {m m' : Bool} {O : List Nat} {E : XK} {e tg : Expr} {es : List Expr} {F F1 F2 : Ex} {Fs : Exs}
variable {φ : Fr} {σ : L2.St} {B H : Hp} {ρ : Env} {S : SrcT}
theorem di_seq (h : PE X e (tD G false O E F)) (hK : X.K = G.K := by rfl) : PI X tg e (tI G O E (seqF F)) := by
  refine (pi_seq2 h).mono fun σ H R' ⟨φ, B, ρ, S, R, hp⟩ => ⟨φ, B, ρ, S, R, ?_⟩
  rw [hK]
  refine Pg.bind hp fun d S1 w B1 H1 g1 R1 hw h1 => ?_
  have hw : DV G φ.p B1 w d := hw
  cases hw with
  | lst ha hs =>
    refine ⟨_, _, rfl, .inl ⟨SqL.of (R1.sub _ _ ha), Pg.ok h1 R1 ⟨fun H2 => SqL G.K H2 _ _, fun H2 s2 => SqL.of (s2 _ _ ha), ?_⟩⟩⟩
    rw [← hs.len]
    refine walk_list.mono (fun _ h => h) fun i H3 x H4 hi _ y => ?_
    obtain ⟨e1, e2⟩ := y
    obtain ⟨d', k1, k2⟩ := hs.getV e2
    exact ⟨d', k1, .inl ⟨e1, k2⟩⟩
  | tup ha hs =>
    refine ⟨_, _, rfl, .inr ⟨SqT_same R1.sub ha, Pg.ok h1 R1 ⟨fun H2 => SqT G.K H2 _ _, fun H2 s2 => SqT_same s2 ha, ?_⟩⟩⟩
    rw [← hs.len]
    refine walk_tup.mono (fun _ h => h) fun i H3 x H4 hi _ y => ?_
    obtain ⟨e1, e2⟩ := y
    obtain ⟨d', k1, k2⟩ := hs.getV e2
    exact ⟨d', k1, .inl ⟨e1, k2⟩⟩
  | _ => exact h1.elim
theorem rngD_get (lo : Int) (n i : Nat) (h : i < n) : (rngD lo n)[i]? = some (.int (lo + (i : Int))) := by
  unfold rngD; rw [List.getElem?_map, List.getElem?_range h]; rfl
theorem rng_walk {p : Option Addr} {lo : Int} {n : Nat} : DWalk G p B (Itr lo n) (rngD lo n) := by
  refine ⟨fun _ => True, fun _ _ => True.intro, ?_⟩
  have el : (rngD lo n).length = n := by unfold rngD; simp
  rw [el]
  refine walk_range.mono (fun _ h => h) fun i H3 x H4 hi _ y => ?_
  obtain ⟨e1, e2⟩ := y
  exact ⟨_, rngD_get lo n i hi, .inl ⟨e1, e2 ▸ .int _⟩⟩
theorem di_rng1 (h : PI X tg e (iRng1 (tDs G true O E Fs))) : PI X tg e (tI G O E (rng1F Fs)) := by
  refine h.mono fun σ H R' ⟨φ, B, ρ, S, R, hp⟩ => ⟨φ, B, ρ, S, R, ?_⟩
  refine Pg.bind hp fun d S1 w B1 H1 g1 R1 hw h1 => ?_
  split at h1
  · split at h1
    · rename_i j hj
      unfold okR at hj; simp only [Bool.and_eq_true, decide_eq_true_eq] at hj
      cases hw with | cons k1 k2 =>
      cases k2; cases k1
      exact ⟨j, rfl, by omega, by omega, Pg.ok h1 R1 rng_walk⟩
    · exact h1.elim
  · exact h1.elim
theorem di_str (h : PE X e (tD G true O E F)) : PI X tg e (tI G O E (strF F)) := by
  refine (pi_str h).mono fun σ H R' ⟨φ, B, ρ, S, R, hp⟩ => ⟨φ, B, ρ, S, R, ?_⟩
  refine Pg.bind hp fun d S1 w B1 H1 g1 R1 hw h1 => ?_
  cases hw with
  | str z =>
    refine ⟨z, rfl, Pg.ok h1 R1 ⟨fun _ => True, fun _ _ => True.intro, ?_⟩⟩
    have el : (signsD z).length = z.cps.size := by unfold signsD; simp
    rw [el]
    refine walk_str.mono (fun _ h => h) fun i H3 x H4 hi _ y => ?_
    obtain ⟨e1, c, e2, rfl⟩ := y
    refine ⟨.str ⟨#[c]⟩, ?_, .inl ⟨e1, .str _⟩⟩
    unfold signsD
    rw [List.getElem?_map]
    have : z.cps.toList[i]? = some c := by simpa using e2
    rw [this]; rfl
  | _ => exact h1.elim
/-! pairs -/
def enumD (ds : List D) : List D := (List.range ds.length).zipWith (fun (i : Nat) d => D.tup [.int (i : Int), d]) ds
def zipD (a b : List D) : List D := a.zipWith (fun x y => D.tup [x, y]) b
theorem pair_YD {p : Option Addr} {ds : List D} {i : Nat} {H H' : Hp} {x : V} {d1 d2 : D} {xs ys : Nat → Option V} (hd : ds[i]? = some (.tup [d1, d2])) (hx : ∀ v, xs i = some v → DV G p B v d1) (hy : ∀ v, ys i = some v → DV G p B v d2) (y : YPair xs ys i H x H') : YD G p B ds i H x H' := by
  obtain ⟨T, a, b, rfl, nT, e, h1, h2⟩ := y
  refine ⟨_, hd, .inr ⟨T, _, rfl, nT, e, fun B2 s2 n2 => ?_⟩⟩
  have s3 := s2.trans (same_new (o := .tup [a, b]) n2)
  exact .tup (SqT.of upd_same) (.cons ((hx a h1).same s3) (.cons ((hy b h2).same s3) .nil))
theorem enumD_get {ds : List D} {i : Nat} {d : D} (h : ds[i]? = some d) : (enumD ds)[i]? = some (.tup [.int (i : Int), d]) := by
  have hi : i < ds.length := (List.getElem?_eq_some_iff.mp h).1
  unfold enumD
  rw [List.getElem?_zipWith, List.getElem?_range hi, h]
theorem enumD_len (ds : List D) : (enumD ds).length = ds.length := by unfold enumD; simp
def enumF (Fs : Exs) : Exs := fun ρ S => (Fs ρ S).bind fun ds S1 => match ds with
  | [.lst ds] => .ok (enumD ds) S1
  | _ => .bad
def zipF (Fs : Exs) : Exs := fun ρ S => (Fs ρ S).bind fun ds S1 => match ds with
  | [.lst a, .lst b] => .ok (zipD a b) S1
  | _ => .bad
theorem di_enum (h : PI X tg e (iEnum X.K (tDs G false O E Fs))) (hK : X.K = G.K := by rfl) : PI X tg e (tI G O E (enumF Fs)) := by
  refine h.mono fun σ H R' ⟨φ, B, ρ, S, R, hp⟩ => ⟨φ, B, ρ, S, R, ?_⟩
  rw [hK]
  refine Pg.bind hp fun d S1 w B1 H1 g1 R1 hw h1 => ?_
  split at h1
  · cases hw with | cons k1 k2 =>
    cases k2; cases k1 with | lst ha hs =>
    have ha : B1 _ = some _ := ha
    have hs : DVs G φ.p B1 _ _ := hs
    refine ⟨_, _, rfl, SqL.of (R1.sub _ _ ha), Pg.ok h1 R1 ⟨fun H2 => SqL G.K H2 _ _, fun H2 s2 => SqL.of (s2 _ _ ha), ?_⟩⟩
    rw [enumD_len, ← hs.len]
    refine walk_enum.mono (fun _ h => h) fun i H3 x H4 hi _ y => ?_
    obtain ⟨d, hd⟩ : ∃ d, (_ : List D)[i]? = some d := ⟨_, List.getElem?_eq_getElem (hs.len ▸ hi)⟩
    refine pair_YD (enumD_get hd) (fun v hv => ?_) (fun v hv => ?_) y
    · cases hv; exact .int _
    · obtain ⟨d', k1, k2⟩ := hs.getV hv
      rw [hd] at k1; cases k1; exact k2
  · exact h1.elim
end
end
end NL
/-! ### the data layer: targets, comprehensions -/
namespace NL
noncomputable section
open PySem L2
section
variable {X : Cx} {G : Gm} {m m' : Bool} {O O2 : List Nat} {E : XK} {e tg : Expr} {es : List Expr} {F F1 F2 : Ex} {Fs : Exs}
variable {φ : Fr} {σ σ2 : L2.St} {B H B' H' : Hp} {ρ ρ2 : Env} {S S' : SrcT}
theorem Go.at {a : Addr} {o : HO} (g : Go φ B H B' H') (hv : φ.v = false) (np : φ.p ≠ some a) (h : H a = some o) : H' a = some o := by
  have := g.h hv a o (by rw [hideP_at np]; exact h)
  rw [hideP_at np] at this; exact this
/-- slots at a later place -/
theorem Rep.move (R : Rep G φ O σ B H ρ S) (g : Go φ B H B' H') (R' : Rep G φ O2 σ2 B' H' ρ2 S') : Rep G φ O σ B' H' ρ S' := by
  refine ⟨R'.sub, R'.fr, R'.cl, R'.src, R'.b0, R.len, ?_, ?_, R.dis, R'.al, R'.mem, R.vv, R.nov⟩
  · intro i d hi h
    obtain ⟨v, k1, k2⟩ := R.val i d hi h
    exact ⟨v, k1, k2.same g.b⟩
  · intro i hi
    obtain ⟨a, o, d, k1, k2, k3, k4, k5, k6, k7⟩ := R.own i hi
    have hH' := g.at (R.ownv hi) k6 k3
    refine ⟨a, o, d, k1, k2, hH', ?_, k5, k6, k7.same g.b⟩
    cases h : B' a with
    | none => rfl
    | some x =>
      have hx : x = o := by
        have := R'.sub a x h
        rw [hH'] at this; exact (Option.some.inj this).symm
      rcases g.n a x h (hx ▸ k7.mut) with k | k
      · rw [k4] at k; cases k
      · rw [k3] at k; cases k
/-- what no one shares is changed -/
theorem Rep.poke (R : Rep G φ O σ B H ρ S) {a : Addr} {o : HO} (nB : B a = none) (n0 : φ.H0 a = none) (np : φ.p ≠ some a) (hd : ∀ i, i ∈ O → σ[i]? ≠ some (some (.ref a))) (hm : G.v = true → S.m a = none) : Rep G φ O σ B (upd H a o) ρ S := by
  refine ⟨?_, ?_, R.cl, ?_, R.b0, R.len, R.val, ?_, R.dis, fun c h => R.al c (upd_no h), ?_, R.vv, R.nov⟩
  · intro c x h
    have e : c ≠ a := fun e => by rw [e, nB] at h; cases h
    rw [upd_ne e]; exact R.sub c x h
  · intro c x hp hm h
    have e : c ≠ a := fun e => by rw [e, n0] at h; cases h
    rw [upd_ne e]; exact R.fr c x hp hm h
  · intro q hq
    have e : q ≠ a := fun e => np (e ▸ hq)
    obtain ⟨h1, h2, h3⟩ := R.src q hq
    exact ⟨h1, by rw [upd_ne e]; exact h2, h3⟩
  · intro i hi
    obtain ⟨b, o', d, k1, k2, k3, k4, k5, k6, k7⟩ := R.own i hi
    have e : b ≠ a := fun e => hd i hi (e ▸ k2)
    exact ⟨b, o', d, k1, k2, by rw [upd_ne e]; exact k3, k4, k5, k6, k7⟩
  · intro hv b c hc
    obtain ⟨h1, h2, h3, h4⟩ := R.mem hv b c hc
    have e : b ≠ a := fun e => by rw [e, hm hv] at hc; cases hc
    exact ⟨h1.move (Same.refl _) fun o h => by rw [upd_ne e]; exact h, h2, h3, h4⟩
theorem Rep.set (R : Rep G φ O σ B H ρ S) {i : Nat} {v : V} {d : D} (hi : i ∉ O) (h : DV G φ.p B v d) : Rep G φ O (σ.set i (some v)) B H (ρ.set i (some d)) S := by
  refine ⟨R.sub, R.fr, R.cl, R.src, R.b0, by rw [List.length_set, List.length_set]; exact R.len, ?_, ?_, ?_, R.al, R.mem, R.vv, R.nov⟩
  · intro j d' hj hd
    by_cases e : i = j
    · subst e
      rw [List.getElem?_set] at hd ⊢
      rw [if_pos rfl] at hd ⊢
      split at hd
      · rename_i hl
        rw [if_pos (by rw [R.len]; exact hl)]
        cases hd
        exact ⟨v, rfl, h⟩
      · cases hd
    · rw [List.getElem?_set_ne e] at hd ⊢
      exact R.val j d' hj hd
  · intro j hj
    have e : i ≠ j := fun e => hi (e ▸ hj)
    rw [List.getElem?_set_ne e, List.getElem?_set_ne e]
    exact R.own j hj
  · intro j k hj hk
    have e : i ≠ j := fun e => hi (e ▸ hj)
    have e2 : i ≠ k := fun e => hi (e ▸ hk)
    rw [List.getElem?_set_ne e, List.getElem?_set_ne e2]
    exact R.dis j k hj hk
theorem Rep.unset (R : Rep G φ O σ B H ρ S) {i : Nat} (hi : i ∉ O) : Rep G φ O (σ.set i none) B H (ρ.set i none) S := by
  refine ⟨R.sub, R.fr, R.cl, R.src, R.b0, by rw [List.length_set, List.length_set]; exact R.len, ?_, ?_, ?_, R.al, R.mem, R.vv, R.nov⟩
  · intro j d' hj hd
    by_cases e : i = j
    · subst e
      rw [List.getElem?_set] at hd
      rw [if_pos rfl] at hd
      split at hd
      · cases hd
      · cases hd
    · rw [List.getElem?_set_ne e] at hd ⊢
      exact R.val j d' hj hd
  · intro j hj
    have e : i ≠ j := fun e => hi (e ▸ hj)
    rw [List.getElem?_set_ne e, List.getElem?_set_ne e]
    exact R.own j hj
  · intro j k hj hk
    have e : i ≠ j := fun e => hi (e ▸ hj)
    have e2 : i ≠ k := fun e => hi (e ▸ hk)
    rw [List.getElem?_set_ne e, List.getElem?_set_ne e2]
    exact R.dis j k hj hk
def wipeE (ρ : Env) : List Nat → Env
  | [] => ρ
  | v :: vs => (wipeE ρ vs).set v none
theorem Rep.wipe (R : Rep G φ O σ B H ρ S) : ∀ {vs : List Nat}, (∀ i, i ∈ vs → i ∉ O) → Rep G φ O (L2.wipe σ vs) B H (wipeE ρ vs) S
  | [], _ => R
  | v :: vs, h => (Rep.wipe R fun i hi => h i (List.mem_cons_of_mem _ hi)).unset (h v List.mem_cons_self)
theorem wipe_get (σ : L2.St) : ∀ (vs : List Nat) (k : Nat), (L2.wipe σ vs)[k]? = if k ∈ vs then (if k < σ.length then some none else none) else σ[k]?
  | [], k => by simp [L2.wipe]
  | v :: vs, k => by
    show ((L2.wipe σ vs).set v none)[k]? = _
    rw [List.getElem?_set]
    by_cases e : v = k
    · subst e
      rw [if_pos rfl, wipe_length, if_pos List.mem_cons_self]
    · rw [if_neg e, wipe_get σ vs k]
      have e2 : ¬ k = v := fun q => e q.symm
      simp [e2]
/-! targets -/
/-- the slots is may be other -/
def Frm (is : List Nat) (σ σ' : L2.St) : Prop := σ'.length = σ.length ∧ ∀ k, k ∉ is → σ'[k]? = σ[k]?
theorem Frm.wipe {is vs : List Nat} (h : Frm is (L2.wipe σ vs) σ2) (hs : ∀ k, k ∈ is → k ∈ vs) : L2.wipe σ2 vs = L2.wipe σ vs := by
  apply List.ext_getElem?
  intro k
  have hl : σ2.length = σ.length := by rw [h.1, wipe_length]
  rw [wipe_get, wipe_get, hl]
  split
  · rfl
  · rename_i hk
    rw [h.2 k (fun q => hk (hs k q)), wipe_get, if_neg hk]
abbrev Tgt := D → Env → Option Env
abbrev Tgts := List D → Env → Option Env
def tTg (G : Gm) (O is : List Nat) (g : Tgt) : TG := fun v σ H Q => ∃ φ B ρ S d ρ', Rep G φ O σ B H ρ S ∧ DV G φ.p B v d ∧ g d ρ = some ρ' ∧ ∀ σ', Rep G φ O σ' B H ρ' S → Frm is σ σ' → Q σ' H
def tTgs (G : Gm) (O is : List Nat) (g : Tgts) : TGs := fun vs σ H Q => ∃ φ B ρ S ds ρ', Rep G φ O σ B H ρ S ∧ DVs G φ.p B vs ds ∧ g ds ρ = some ρ' ∧ ∀ σ', Rep G φ O σ' B H ρ' S → Frm is σ σ' → Q σ' H
def gN (i : Nat) : Tgt := fun d ρ => some (ρ.set i (some d))
def gsNil : Tgts := fun ds ρ => match ds with
  | [] => some ρ
  | _ => none
def gsCons (g : Tgt) (gs : Tgts) : Tgts := fun ds ρ => match ds with
  | d :: ds => (g d ρ).bind fun ρ1 => gs ds ρ1
  | [] => none
def gT (n : Nat) (gs : Tgts) : Tgt := fun d ρ => match seqD d with
  | some ds => if ds.length = n then gs ds ρ else none
  | none => none
theorem dg_name {i : Nat} (h : PG X tg (gName i)) (hi : i ∉ O) : PG X tg (tTg G O [i] (gN i)) := by
  refine h.mono fun v σ H Q ⟨φ, B, ρ, S, d, ρ', R, hd, hg, q⟩ => ?_
  cases hg
  refine q _ (R.set hi hd) ⟨by rw [List.length_set], fun k hk => ?_⟩
  rw [List.getElem?_set_ne]
  intro e; exact hk (e ▸ List.mem_cons_self)
theorem Frm.trans {is js : List Nat} {σ1 σ2 σ3 : L2.St} (h : Frm is σ1 σ2) (h2 : Frm js σ2 σ3) : Frm (is ++ js) σ1 σ3 :=
  ⟨h2.1.trans h.1, fun k hk => by rw [h2.2 k (fun q => hk (List.mem_append_right _ q)), h.2 k (fun q => hk (List.mem_append_left _ q))]⟩
theorem dgs_nil : PGs X [] (tTgs G O [] gsNil) := by
  refine pgs_nil.mono fun vs σ H Q ⟨φ, B, ρ, S, ds, ρ', R, hd, hg, q⟩ => ?_
  unfold gsNil at hg
  split at hg
  · cases hg; cases hd; exact ⟨rfl, q _ R ⟨rfl, fun _ _ => rfl⟩⟩
  · cases hg
theorem dgs_cons {is js : List Nat} {g : Tgt} {gs : Tgts} (h1 : PG X e (tTg G O is g)) (h2 : PGs X es (tTgs G O js gs)) (hs : (assignEach (e :: es) X.env).map (·.2) = assign e X.env :: (assignEach es X.env).map (·.2) := by rfl) : PGs X (e :: es) (tTgs G O (is ++ js) (gsCons g gs)) := by
  refine (pgs_cons h1 h2 hs).mono fun vs σ H Q ⟨φ, B, ρ, S, ds, ρ', R, hd, hg, q⟩ => ?_
  unfold gsCons at hg
  split at hg
  · cases hd with | cons k1 k2 =>
    cases hg1 : g _ ρ with
    | none => rw [hg1] at hg; cases hg
    | some ρ1 =>
      rw [hg1] at hg
      refine ⟨_, _, rfl, φ, B, ρ, S, _, ρ1, R, k1, hg1, fun σ1 R1 f1 => ?_⟩
      exact ⟨φ, B, ρ1, S, _, ρ', R1, k2, hg, fun σ2 R2 f2 => q σ2 R2 (f1.trans f2)⟩
  · cases hg
theorem dg_tup {k n : Nat} {is : List Nat} {gs : Tgts} {pos : Pos} (hc : X.calm = true) (h : PGs X es (tTgs G O is gs)) (hn : (assignEach es X.env).length = n := by rfl) (hst : (assignEach es X.env).findIdx? (·.1) = none := by rfl) (hK : X.K = G.K := by rfl) : PG X (.Tuple es k pos) (tTg G O is (gT n gs)) := by
  refine (pg_seq hc h hn hst).mono fun v σ H Q ⟨φ, B, ρ, S, d, ρ', R, hd, hg, q⟩ => ?_
  rw [hK]
  unfold gT at hg
  split at hg
  · rename_i ds hds
    split at hg
    · rename_i hl
      obtain ⟨a, xs, rfl, hq, hs⟩ := sq_of hds hd
      refine ⟨a, xs, rfl, ?_, by rw [hs.len]; exact hl, φ, B, ρ, S, ds, ρ', R, hs, hg, q⟩
      rcases hq with hq | hq
      · exact .inl (R.sub.seq hq)
      · exact .inr (SqT_same R.sub hq)
    · cases hg
  · cases hg
/-! comprehensions -/
def yesT : Tst := fun _ S => .ok true S
theorem dts_nil : PTs X [] (tBt G O E yesT) := pts_nil.mono fun σ H Q ⟨φ, B, ρ, S, R, hp⟩ => Pg.ok hp R rfl
def lcGo (g : Tgt) (c : Tst) (Fe : Ex) (ρ : Env) : List D → SrcT → Rs (List D)
  | [], S => .ok [] S
  | d :: ds, S => match g d ρ with
    | none => .bad
    | some ρ' => (c ρ' S).bind fun b S1 => if b = true then (Fe ρ' S1).bind fun y S2 => (lcGo g c Fe ρ ds S2).bind fun ys S3 => .ok (y :: ys) S3 else lcGo g c Fe ρ ds S1
def lcF (is : List Nat) (FI : Exs) (g : Tgt) (c : Tst) (Fe : Ex) : Ex := fun ρ S => (FI ρ S).bind fun ds S1 => if ds.length ≤ 100000 then (lcGo g c Fe (wipeE ρ is) ds S1).bind fun ys S2 => .ok (.lst ys) S2 else .bad
theorem Rs.bind_assoc {α β γ : Type} (r : Rs α) (f : α → SrcT → Rs β) (g : β → SrcT → Rs γ) : (r.bind f).bind g = r.bind fun a S => (f a S).bind g := by
  induction r with
  | all p k ih => show Rs.all p _ = Rs.all p _; congr 1; funext x; exact ih x
  | _ => rfl
/-- the turn's item is put among what is shared -/
theorem yield_rep (R : Rep G φ O σ B H ρ S) {B1 : Hp} (hs : Same B1 B) {ds : List D} {i : Nat} {x : V} {H' : Hp} (y : YD G φ.p B1 ds i H x H') : ∃ d B', ds[i]? = some d ∧ Rep G φ O σ B' H' ρ S ∧ Go φ B H B' H' ∧ DV G φ.p B' x d := by
  obtain ⟨d, hd, h | ⟨T, o, rfl, nT, rfl, h⟩⟩ := y
  · obtain ⟨rfl, h⟩ := h
    exact ⟨d, B, hd, R, Go.refl, h.same hs⟩
  · obtain ⟨R', g, np⟩ := R.new (o := o) nT
    have nB : B T = none := by
      cases k : B T with
      | none => rfl
      | some x => rw [R.sub _ _ k] at nT; cases nT
    exact ⟨d, _, hd, R', g, h B hs nB⟩
theorem lc_imp {is js : List Nat} {FI : Exs} {g : Tgt} {c : Tst} {Fe : Ex} (hO : ∀ i, i ∈ is → i ∉ O) (hj : ∀ i, i ∈ js → i ∈ is) (σ : L2.St) (H : Hp) (Q : VK) (h : tN G m O E (lcF is FI g c Fe) σ H Q) (hv0 : G.v = false := by rfl) : tLc (tI G O E FI) (tTg G O js g) (tBt G O E c) (tD G false O E Fe) is σ H Q := by
  obtain ⟨φ, B, ρ, S, R, hp⟩ := h
  refine ⟨φ, B, ρ, S, R, ?_⟩
  refine PgN.bind hp fun ds S1 J B1 H1 g1 R1 hJ h1 => fun A nA => ?_
  split at h1
  case isFalse => exact h1.elim
  rename_i hdl
  have hJ : DWalk G φ.p B1 J ds := hJ
  obtain ⟨Gd, hGd, W⟩ := hJ
  have npA : φ.p ≠ some A := fun e => by have := (R1.src A e).2.1; rw [nA] at this; cases this
  have n0A : φ.H0 A = none := R1.al A nA
  have hv1 : φ.v = false := R1.vv.1.trans hv0
  have Rw := R1.wipe (vs := is) hO
  have disA : ∀ i, i ∈ O → σ[i]? ≠ some (some (.ref A)) := fun i hi hk => by
    obtain ⟨b, o', d', k1, k2, k3, _⟩ := R1.own i hi
    rw [k2] at hk
    have e : b = A := by injection hk with hk; injection hk with hk; injection hk
    rw [e, nA] at k3; cases k3
  have disW : ∀ i, i ∈ O → (L2.wipe σ is)[i]? ≠ some (some (.ref A)) := fun i hi hk => by
    obtain ⟨b, o', d', k1, k2, k3, _⟩ := Rw.own i hi
    rw [k2] at hk
    have e : b = A := by injection hk with hk; injection hk with hk; injection hk
    rw [e, nA] at k3; cases k3
  refine lc_it W (fun i H' => ∃ Bi Si acc vs, Rep G φ O (L2.wipe σ is) Bi H' (wipeE ρ is) Si ∧ Go φ B1 H1 Bi H' ∧ H' A = some (.lst vs) ∧ DVs G φ.p Bi vs acc ∧ acc.length ≤ i ∧ Bi A = none ∧ PgN G φ m O E σ ρ B1 H1 ((lcGo g c Fe (wipeE ρ is) (ds.drop i) Si).bind fun ys S => .ok (.lst (acc ++ ys)) S) Q) ?_ ?_ ?_ ?_
  · obtain ⟨Rn, gn, nB, _, _⟩ := Rw.newN (o := .lst []) nA
    exact ⟨B1, S1, [], [], Rn, gn, upd_same, .nil, Nat.le_refl _, nB, h1⟩
  · rintro i H' hi ⟨Bi, Si, acc, vs, Ri, gi, _⟩
    exact hGd H' (gi.b.trans Ri.sub)
  · rintro i x H2 H3 hi ⟨Bi, Si, acc, vs, Ri, gi, hA, hvs, hl, nBA, hp'⟩ y
    obtain ⟨d, B2, hd, R2, g2, dv⟩ := yield_rep Ri gi.b y
    have hdrop : ds.drop i = d :: ds.drop (i + 1) := by
      have hi' := (List.getElem?_eq_some_iff.mp hd)
      rw [List.drop_eq_getElem_cons hi'.1, hi'.2]
    rw [hdrop] at hp'
    rw [lcGo] at hp'
    have hp2 := hp'
    cases hg : g d (wipeE ρ is) with
    | none => rw [hg] at hp2; exact hp2.elim
    | some ρ' =>
      rw [hg] at hp2
      refine ⟨φ, B2, wipeE ρ is, Si, d, ρ', R2, dv, hg, fun σ' R' fr => ⟨fr.wipe hj, φ, B2, ρ', Si, R', ?_⟩⟩
      dsimp only at hp2
      rw [Rs.bind_assoc] at hp2
      have keepA : ∀ {Bx Hx By Hy : Hp} {Sy : SrcT} {Oy : List Nat} {σy : L2.St} {ρy : Env}, Go φ Bx Hx By Hy → Rep G φ Oy σy By Hy ρy Sy → ∀ {us : List V}, Hx A = some (.lst us) → Bx A = none → Hy A = some (.lst us) ∧ By A = none := fun {Bx Hx By Hy Sy Oy σy ρy} gx Ry {us} hx nx => by
        have h1 := gx.at hv1 npA hx
        refine ⟨h1, ?_⟩
        cases k : By A with
        | none => rfl
        | some z =>
          have hz := Ry.sub A z k
          rw [h1] at hz
          cases hz
          rcases gx.n A _ k True.intro with q | q
          · rw [nx] at q; cases q
          · rw [hx] at q; cases q
      obtain ⟨hA2, nA2⟩ := keepA g2 R2 hA nBA
      have hvs2 := hvs.same g2.b
      have g12 := gi.trans g2
      generalize c ρ' Si = rc at hp2
      induction rc with
      | bad => exact hp2.elim
      | exc cc dd SS => exact XP.go g12 hp2
      | all p0 k0 ih => exact fun x px => ih x (hp2 x px)
      | ok b S3 =>
        intro bw B3 H4 g3 R3 hbw
        have hbw : bw = b := hbw
        subst hbw
        obtain ⟨hA3, nA3⟩ := keepA g3 R3 hA2 nA2
        have hp3 := hp2
        have Rw3 : Rep G φ O (L2.wipe σ is) B3 H4 (wipeE ρ is) S3 := Rw.move (g12.trans g3) R3
        cases bw with
        | false =>
          rw [if_neg (by decide)]
          exact ⟨B3, S3, acc, vs, Rw3, g12.trans g3, hA3, hvs2.same g3.b, by omega, nA3, hp3⟩
        | true =>
          rw [if_pos rfl]
          simp only [Rs.bind, if_true] at hp3
          refine ⟨φ, B3, ρ', S3, R3, ?_⟩
          generalize Fe ρ' S3 = rf at hp3
          induction rf with
          | bad => exact hp3.elim
          | exc cc dd SS => exact XP.go (g12.trans g3) hp3
          | all p0 k0 ih => exact fun x px => ih x (hp3 x px)
          | ok yd S4 =>
            intro yv B4 H5 g4 R4 hyv
            have hyv : DV G φ.p B4 yv yd := hyv
            obtain ⟨hA4, nA4⟩ := keepA g4 R4 hA3 nA3
            have hp4 := hp3
            have hvs4 := (hvs2.same g3.b).same g4.b
            refine ⟨vs, hA4, sz100k_lt (by rw [hvs4.len]; omega), ?_⟩
            have Rw4 : Rep G φ O (L2.wipe σ is) B4 H5 (wipeE ρ is) S4 := Rw.move ((g12.trans g3).trans g4) R4
            have gA := (g12.trans g3).trans g4
            have g5 : Go φ B1 H1 B4 (upd H5 A (.lst (vs ++ [yv]))) := by
              refine ⟨gA.b, fun hv q z hz => ?_, gA.n, fun q hq => gA.d q (upd_no hq)⟩
              have hz2 := gA.h hv q z hz
              have e : q ≠ A := fun e => by rw [e, hideP_at npA, nA] at hz; cases hz
              unfold hideP at hz2 ⊢
              rw [upd_ne e]; exact hz2
            refine ⟨B4, S4, acc ++ [yd], vs ++ [yv], Rw4.poke nA4 n0A npA disW (fun hv => by rw [hv0] at hv; cases hv), g5, upd_same, hvs4.append (.cons hyv .nil), by rw [List.length_append]; simp; omega, nA4, ?_⟩
            have e5 : ((lcGo g c Fe (wipeE ρ is) (ds.drop (i + 1)) S4).bind fun ys S => Rs.ok (D.lst (acc ++ [yd] ++ ys)) S) = ((lcGo g c Fe (wipeE ρ is) (ds.drop (i + 1)) S4).bind fun ys S3 => Rs.ok (yd :: ys) S3).bind (fun ys S => Rs.ok (D.lst (acc ++ ys)) S) := by
              rw [Rs.bind_assoc]; congr 1; funext ys S; simp [Rs.bind]
            rw [e5]; exact hp4
  · rintro H' ⟨Bi, Si, acc, vs, Ri, gi, hA, hvs, hl, nBA, hp'⟩
    rw [List.drop_length] at hp'
    have hp' : PgN G φ m O E σ ρ B1 H1 (.ok (.lst (acc ++ [])) Si) Q := hp'
    rw [List.append_nil] at hp'
    exact hp' A _ Bi H' gi (R1.move gi Ri) ⟨hA, nBA, n0A, npA, disA, DVs.same (Ri.bbs m) hvs, fun hv => by rw [hv0] at hv; cases hv⟩ nA
theorem de_lcN {is js : List Nat} {FI : Exs} {g : Tgt} {c : Tst} {Fe : Ex} (hO : ∀ i, i ∈ is → i ∉ O) (hj : ∀ i, i ∈ js → i ∈ is) (h : PE X e (tLc (tI G O E FI) (tTg G O js g) (tBt G O E c) (tD G false O E Fe) is)) (hv0 : G.v = false := by rfl) : PE X e (tN G m O E (lcF is FI g c Fe)) := h.mono fun σ H Q hw => lc_imp hO hj σ H Q hw hv0
end
end
end NL
/-! ### the data layer: statements, defs -/
namespace NL
noncomputable section
open PySem L2
inductive Fl where
  | nx
  | brk
  | cont
  | ret (d : D)
abbrev Sx := Env → SrcT → Rs (Fl × Env)
def XS (G : Gm) (φ : Fr) (E : XK) (B : Hp) (c : Nat) (d : Option D) (S : SrcT) : Prop := ∀ B' H' cv od, Same B B' → Rep G φ [] [] B' H' [] S → ExnAt G φ.p B' H' c d cv od → E cv od H'
def PostS (G : Gm) (φ : Fr) (O' Ol : List Nat) (E : XK) (D : Ends) (B : Hp) (r : Rs (Fl × Env)) : Prop := match r with
  | .bad => False
  | .exc c d S => XS G φ E B c d S
  | .ok (.nx, ρ') S => ∀ σ' B' H', Same B B' → Rep G φ O' σ' B' H' ρ' S → D.nx σ' H'
  | .ok (.brk, ρ') S => ∀ σ' B' H', Same B B' → Rep G φ Ol σ' B' H' ρ' S → D.bk σ' H'
  | .ok (.cont, ρ') S => ∀ σ' B' H', Same B B' → Rep G φ Ol σ' B' H' ρ' S → D.ct σ' H'
  | .ok (.ret d, _) S => ∀ v B' H', Same B B' → Rep G φ [] [] B' H' [] S → DV G φ.p B' v d → D.rt v H'
  | .all p k => ∀ x, p x → PostS G φ O' Ol E D B (k x)
def tS (G : Gm) (O O' Ol : List Nat) (E : XK) (F : Sx) : TS := fun D σ H => ∃ φ B ρ S, Rep G φ O σ B H ρ S ∧ PostS G φ O' Ol E D B (F ρ S)
section
variable {X : Cx} {G : Gm} {m m' : Bool} {O O1 O2 O' Ol : List Nat} {E : XK} {e tg : Expr} {es : List Expr} {F F1 F2 : Ex} {Fs : Exs}
variable {φ : Fr} {σ σ2 : L2.St} {B H B' H' : Hp} {ρ ρ2 : Env} {S S' : SrcT} {st : Stmt} {sts rest : List Stmt} {A A1 A2 : Sx}
theorem PostS.same {D : Ends} {r : Rs (Fl × Env)} (s : Same B B') (h : PostS G φ O' Ol E D B r) : PostS G φ O' Ol E D B' r := by
  induction r with
  | bad => exact h
  | exc c d S => exact fun B2 H2 cv od s2 => h B2 H2 cv od (s.trans s2)
  | ok q S =>
    match q, h with
    | (.nx, ρ'), h => exact fun σ' B2 H2 s2 => h σ' B2 H2 (s.trans s2)
    | (.brk, ρ'), h => exact fun σ' B2 H2 s2 => h σ' B2 H2 (s.trans s2)
    | (.cont, ρ'), h => exact fun σ' B2 H2 s2 => h σ' B2 H2 (s.trans s2)
    | (.ret d, ρ'), h => exact fun v B2 H2 s2 => h v B2 H2 (s.trans s2)
  | all p k ih => exact fun x px => ih x (h x px)
/-- an expression ahead of a statement's end -/
theorem PostS.bind {ω β : Type} {rel : Rel ω β} {D : Ends} {r : Rs β} {k : β → SrcT → Rs (Fl × Env)} {Q : ω → Hp → Prop} (h : PostS G φ O' Ol E D B (r.bind k))
    (hk : ∀ d S w B1 H1, Go φ B H B1 H1 → Rep G φ O σ B1 H1 ρ S → rel φ.p (bs m φ B1 H1) w d → PostS G φ O' Ol E D B1 (k d S) → Q w H1) : Pg G φ m O E σ ρ rel B H r Q := by
  induction r with
  | bad => exact h
  | exc c d S => exact fun B2 H2 cv od g => h B2 H2 cv od g.b
  | ok a S => exact fun w B1 H1 g R hw => hk a S w B1 H1 g R hw (PostS.same g.b h)
  | all p f ih => exact fun x px => ih x (h x px)
theorem PostS.bindN {D : Ends} {r : Rs NL.D} {k : NL.D → SrcT → Rs (Fl × Env)} {Q : VK} (h : PostS G φ O' Ol E D B (r.bind k))
    (hk : ∀ d S a o B1 H1, Go φ B H B1 H1 → Rep G φ O σ B1 H1 ρ S → New G φ O σ m B1 H1 S a o d → PostS G φ O' Ol E D B1 (k d S) → Q (.ref a) H1) : PgN G φ m O E σ ρ B H r Q := by
  induction r with
  | bad => exact h
  | exc c d S => exact fun B2 H2 cv od g => h B2 H2 cv od g.b
  | ok d S => exact fun a o B1 H1 g R n _ => hk d S a o B1 H1 g R n (PostS.same g.b h)
  | all p f ih => exact fun x px => ih x (h x px)
/-- a block ahead of a block's end -/
theorem PostS.seq {β : Type} {D D' : Ends} {O1 Ol1 : List Nat} {r : Rs (Fl × Env)} {k : Fl × Env → SrcT → Rs (Fl × Env)} (h : PostS G φ O' Ol E D B (r.bind k))
    (hn : ∀ ρ' S σ' B' H', Same B B' → Rep G φ O1 σ' B' H' ρ' S → PostS G φ O' Ol E D B' (k (.nx, ρ') S) → D'.nx σ' H')
    (hb : ∀ ρ' S σ' B' H', Same B B' → Rep G φ Ol1 σ' B' H' ρ' S → PostS G φ O' Ol E D B' (k (.brk, ρ') S) → D'.bk σ' H')
    (hc : ∀ ρ' S σ' B' H', Same B B' → Rep G φ Ol1 σ' B' H' ρ' S → PostS G φ O' Ol E D B' (k (.cont, ρ') S) → D'.ct σ' H')
    (hr : ∀ ρ' d S v B' H', Same B B' → Rep G φ [] [] B' H' [] S → DV G φ.p B' v d → PostS G φ O' Ol E D B' (k (.ret d, ρ') S) → D'.rt v H') : PostS G φ O1 Ol1 E D' B r := by
  induction r with
  | bad => exact h
  | exc c d S => exact h
  | ok q S =>
    match q, h with
    | (.nx, ρ'), h => exact fun σ' B' H' s R => hn ρ' S σ' B' H' s R (PostS.same s h)
    | (.brk, ρ'), h => exact fun σ' B' H' s R => hb ρ' S σ' B' H' s R (PostS.same s h)
    | (.cont, ρ'), h => exact fun σ' B' H' s R => hc ρ' S σ' B' H' s R (PostS.same s h)
    | (.ret d, ρ'), h => exact fun v B' H' s R hv => hr ρ' d S v B' H' s R hv (PostS.same s h)
  | all p f ih => exact fun x px => ih x (h x px)
def nilS : Sx := fun ρ S => .ok (.nx, ρ) S
def brkS : Sx := fun ρ S => .ok (.brk, ρ) S
def contS : Sx := fun ρ S => .ok (.cont, ρ) S
def seqS (A1 A2 : Sx) : Sx := fun ρ S => (A1 ρ S).bind fun r S1 => match r with
  | (.nx, ρ1) => A2 ρ1 S1
  | r => .ok r S1
theorem ds_nil : PSs X [] (tS G O O Ol E nilS) := pss_nil.mono fun D σ H ⟨φ, B, ρ, S, R, hp⟩ => hp σ B H (Same.refl _) R
theorem ds_one (h : PS X st (tS G O O' Ol E A)) : PSs X [st] (tS G O O' Ol E A) := pss_one h
theorem ds_cons (h1 : PS X st (tS G O O1 Ol E A1)) (h2 : PSs X rest (tS G O1 O' Ol E A2)) : PSs X (st :: rest) (tS G O O' Ol E (seqS A1 A2)) := by
  refine (pss_cons h1 h2).mono fun D σ H ⟨φ, B, ρ, S, R, hp⟩ => ⟨φ, B, ρ, S, R, ?_⟩
  unfold seqS at hp
  exact PostS.seq (β := Unit) hp (fun ρ' S σ' B' H' s R' h => ⟨φ, B', ρ', S, R', h⟩) (fun ρ' S σ' B' H' s R' h => h σ' B' H' (Same.refl _) R') (fun ρ' S σ' B' H' s R' h => h σ' B' H' (Same.refl _) R') (fun ρ' d S v B' H' s R' hv h => h v B' H' (Same.refl _) R' hv)
def retS (F : Ex) : Sx := fun ρ S => (F ρ S).bind fun d S1 => .ok (.ret d, ρ) S1
theorem ds_ret {pos : Pos} (h : PE X e (tD G false O E F)) : PS X (.Return (some e) pos) (tS G O O' Ol E (retS F)) := by
  refine (ps_ret h).mono fun D σ H ⟨φ, B, ρ, S, R, hp⟩ => ⟨φ, B, ρ, S, R, ?_⟩
  exact PostS.bind hp fun d S1 w B1 H1 g R1 hw h1 => h1 w B1 H1 (Same.refl _) R1.bare hw
def exprS (F : Ex) : Sx := fun ρ S => (F ρ S).bind fun _ S1 => .ok (.nx, ρ) S1
theorem ds_expr (h : PS X st (tDrop (tD G true O E F))) : PS X st (tS G O O Ol E (exprS F)) := by
  refine h.mono fun D σ H ⟨φ, B, ρ, S, R, hp⟩ => ⟨φ, B, ρ, S, R, ?_⟩
  exact PostS.bind hp fun d S1 w B1 H1 g R1 hw h1 => h1 σ B1 H1 (Same.refl _) R1
/-! owned slots -/
def offO (O : List Nat) (i : Nat) : List Nat := O.filter fun j => j != i
theorem mem_off {i j : Nat} : j ∈ offO O i ↔ j ∈ O ∧ j ≠ i := by unfold offO; simp
theorem Rep.drop1 (R : Rep G φ O σ B H ρ S) (i : Nat) : ∃ B', Same B B' ∧ Rep G φ (offO O i) σ B' H ρ S := by
  by_cases hi : i ∈ O
  · obtain ⟨a, o, d, k1, k2, k3, k4, k5, k6, k7⟩ := R.own i hi
    have sB : Same B (upd B a o) := same_new k4
    refine ⟨upd B a o, sB, ⟨?_, R.fr, ?_, ?_, R.b0.trans sB, R.len, ?_, ?_, ?_, R.al, (fun hv => by rw [R.nov i hi] at hv; cases hv), R.vv, fun j hj => R.nov j (mem_off.mp hj).1⟩⟩
    · intro c x h
      by_cases e : c = a
      · subst e; rw [upd_same] at h; rw [← h]; exact k3
      · rw [upd_ne e] at h; exact R.sub c x h
    · intro c x h hm
      by_cases e : c = a
      · subst e; exact .inr k5
      · rw [upd_ne e] at h; exact R.cl c x h hm
    · intro q hq
      have e : q ≠ a := fun e => k6 (e ▸ hq)
      exact ⟨by rw [upd_ne e]; exact (R.src q hq).1, (R.src q hq).2⟩
    · intro j d' hj hd
      by_cases e : j = i
      · subst e
        rw [k1] at hd; cases hd
        exact ⟨.ref a, k2, (k7.same sB).dv upd_same⟩
      · obtain ⟨v, q1, q2⟩ := R.val j d' (fun q => hj (mem_off.mpr ⟨q, e⟩)) hd
        exact ⟨v, q1, q2.same sB⟩
    · intro j hj
      obtain ⟨hj, e⟩ := mem_off.mp hj
      obtain ⟨b, o', d', q1, q2, q3, q4, q5, q6, q7⟩ := R.own j hj
      have e2 : b ≠ a := fun e2 => R.dis j i hj hi e (by rw [q2, k2, e2])
      exact ⟨b, o', d', q1, q2, q3, by rw [upd_ne e2]; exact q4, q5, q6, q7.same sB⟩
    · intro j k hj hk
      exact R.dis j k (mem_off.mp hj).1 (mem_off.mp hk).1
  · refine ⟨B, Same.refl _, ⟨R.sub, R.fr, R.cl, R.src, R.b0, R.len, fun j d hj hd => R.val j d (fun q => hj (mem_off.mpr ⟨q, fun e => hi (e ▸ q)⟩)) hd, fun j hj => R.own j (mem_off.mp hj).1, fun j k hj hk => R.dis j k (mem_off.mp hj).1 (mem_off.mp hk).1, R.al, R.mem, R.vv, fun j hj => R.nov j (mem_off.mp hj).1⟩⟩
/-- from here on slot i's list is shared (it is changed no more) -/
theorem ds_frz (i : Nat) (hO : O2 = offO O i) (h : PSs X sts (tS G O2 O' Ol E A)) : PSs X sts (tS G O O' Ol E A) := by
  subst hO
  refine h.mono fun D σ H ⟨φ, B, ρ, S, R, hp⟩ => ?_
  obtain ⟨B', s, R'⟩ := R.drop1 i
  exact ⟨φ, B', ρ, S, R', hp.same s⟩
def setS (i : Nat) (F : Ex) : Sx := fun ρ S => (F ρ S).bind fun d S1 => .ok (.nx, ρ.set i (some d)) S1
theorem ds_set {i : Nat} (hO : O' = offO O i) (h : PS X st (tAsg (tD G false O E F) (gName i))) : PS X st (tS G O O' Ol E (setS i F)) := by
  subst hO
  refine h.mono fun D σ H ⟨φ, B, ρ, S, R, hp⟩ => ⟨φ, B, ρ, S, R, ?_⟩
  refine PostS.bind hp fun d S1 w B1 H1 g R1 hw h1 => ?_
  obtain ⟨B2, s2, R2⟩ := R1.drop1 i
  have hw : DV G φ.p B1 w d := hw
  exact h1 _ B2 H1 s2 (R2.set (fun q => (mem_off.mp q).2 rfl) (hw.same s2))
theorem Rep.setO (R : Rep G φ O σ B H ρ S) {i : Nat} {a : Addr} {o : HO} {d : NL.D} (hi : i ∉ O) (hl : i < ρ.length) (n : New G φ O σ false B H S a o d) (hv0 : G.v = false) : Rep G φ (i :: O) (σ.set i (some (.ref a))) B H (ρ.set i (some d)) S := by
  refine ⟨R.sub, R.fr, R.cl, R.src, R.b0, by rw [List.length_set, List.length_set]; exact R.len, ?_, ?_, ?_, R.al, R.mem, R.vv, fun _ _ => hv0⟩
  · intro j d' hj hd
    have e : i ≠ j := fun e => hj (e ▸ List.mem_cons_self)
    rw [List.getElem?_set_ne e] at hd ⊢
    exact R.val j d' (fun q => hj (List.mem_cons_of_mem _ q)) hd
  · intro j hj
    by_cases e : i = j
    · subst e
      rw [List.getElem?_set, List.getElem?_set, if_pos rfl, if_pos rfl, if_pos hl, if_pos (by rw [R.len]; exact hl)]
      exact ⟨a, o, d, rfl, rfl, n.at', n.nB, n.n0, n.np, n.dat⟩
    · rw [List.getElem?_set_ne e, List.getElem?_set_ne e]
      rcases List.mem_cons.mp hj with q | q
      · exact absurd q.symm e
      · exact R.own j q
  · intro j k hj hk hjk
    have ha : ∀ x, x ∈ O → i ≠ x → (σ.set i (some (V.ref a)))[i]? ≠ (σ.set i (some (V.ref a)))[x]? := fun x hx e => by
      rw [List.getElem?_set_ne e, List.getElem?_set, if_pos rfl, if_pos (by rw [R.len]; exact hl)]
      exact fun q => n.dis x hx q.symm
    rcases List.mem_cons.mp hj with rfl | hj'
    · rcases List.mem_cons.mp hk with rfl | hk'
      · exact absurd rfl hjk
      · exact ha k hk' hjk
    · rcases List.mem_cons.mp hk with rfl | hk'
      · exact fun q => ha j hj' (Ne.symm hjk) q.symm
      · by_cases e : i = j
        · subst e
          exact ha k hk' hjk
        · by_cases e2 : i = k
          · subst e2; exact fun q => ha j hj' e q.symm
          · rw [List.getElem?_set_ne e, List.getElem?_set_ne e2]; exact R.dis j k hj' hk' hjk
def setN (i : Nat) (F : Ex) : Sx := fun ρ S => (F ρ S).bind fun d S1 => if i < ρ.length then .ok (.nx, ρ.set i (some d)) S1 else .bad
theorem ds_setN {i : Nat} (hi : i ∉ O) (hO : O' = i :: O) (h : PS X st (tAsg (tN G false O E F) (gName i))) (hv0 : G.v = false := by rfl) : PS X st (tS G O O' Ol E (setN i F)) := by
  subst hO
  refine h.mono fun D σ H ⟨φ, B, ρ, S, R, hp⟩ => ⟨φ, B, ρ, S, R, ?_⟩
  refine PostS.bindN hp fun d S1 a o B1 H1 g R1 n h1 => ?_
  split at h1
  · rename_i hl; exact h1 _ B1 H1 (Same.refl _) (R1.setO hi hl n hv0)
  · exact h1.elim
theorem _root_.L2.PS.asg_mono {X : Cx} {st : Stmt} {t t' : TE} {g : TG} (h : PS X st (tAsg t g)) (s : ∀ σ H Q, t' σ H Q → t σ H Q) : PS X st (tAsg t' g) := h.mono fun D σ H hw => s σ H _ hw
def asgS (F : Ex) (g : Tgt) : Sx := fun ρ S => (F ρ S).bind fun d S1 => match g d ρ with
  | some ρ' => .ok (.nx, ρ') S1
  | none => .bad
theorem ds_asg {is : List Nat} {g : Tgt} (h : PS X st (tAsg (tD G false O E F) (tTg G O is g))) : PS X st (tS G O O Ol E (asgS F g)) := by
  refine h.mono fun D σ H ⟨φ, B, ρ, S, R, hp⟩ => ⟨φ, B, ρ, S, R, ?_⟩
  refine PostS.bind hp fun d S1 w B1 H1 g' R1 hw h1 => ?_
  split at h1
  · rename_i ρ' hg
    exact ⟨φ, B1, ρ, S1, d, ρ', R1, hw, hg, fun σ' R' _ => h1 σ' B1 H1 (Same.refl _) R'⟩
  · exact h1.elim
def parS (i j : Nat) (Fs : Exs) : Sx := fun ρ S => (Fs ρ S).bind fun ds S1 => match ds with
  | [a, b] => .ok (.nx, (ρ.set i (some a)).set j (some b)) S1
  | _ => .bad
theorem ds_par {i j : Nat} (hi : i ∉ O) (hj : j ∉ O) (h : PS X st (tPar i j (tDs G false O E Fs))) : PS X st (tS G O O Ol E (parS i j Fs)) := by
  refine h.mono fun D σ H ⟨φ, B, ρ, S, R, hp⟩ => ⟨φ, B, ρ, S, R, ?_⟩
  refine PostS.bind hp fun ds S1 w B1 H1 g' R1 hw h1 => ?_
  split at h1
  · cases hw with | cons k1 k2 =>
    cases k2 with | cons k2 k3 =>
    cases k3
    exact ⟨_, _, rfl, h1 _ B1 H1 (Same.refl _) ((R1.set hi k1).set hj k2)⟩
  · exact h1.elim
def iteS (c : Tst) (A1 A2 : Sx) : Sx := fun ρ S => (c ρ S).bind fun b S1 => if b = true then A1 ρ S1 else A2 ρ S1
theorem ds_if {c : Expr} {a b : List Stmt} {pos : Pos} {c1 : Tst} (hc : PT X c (tBt G O E c1)) (ha : PSs X a (tS G O O' Ol E A1)) (hb : PSs X b (tS G O O' Ol E A2)) : PS X (.If c a b pos) (tS G O O' Ol E (iteS c1 A1 A2)) := by
  refine (ps_if hc ha hb).mono fun D σ H ⟨φ, B, ρ, S, R, hp⟩ => ⟨φ, B, ρ, S, R, ?_⟩
  refine PostS.bind hp fun d S1 w B1 H1 g' R1 hw h1 => ?_
  have hw : w = d := hw
  subst hw
  split at h1
  · rename_i hb; rw [if_pos hb]; exact ⟨φ, B1, ρ, S1, R1, h1⟩
  · rename_i hb; rw [if_neg hb]; exact ⟨φ, B1, ρ, S1, R1, h1⟩
/-! loops -/
def forGo (g : Tgt) (A : Sx) : List NL.D → Env → SrcT → Rs (Fl × Env)
  | [], ρ, S => .ok (.nx, ρ) S
  | d :: ds, ρ, S => match g d ρ with
    | none => .bad
    | some ρ1 => (A ρ1 S).bind fun r S1 => match r with
      | (.nx, ρ2) => forGo g A ds ρ2 S1
      | (.cont, ρ2) => forGo g A ds ρ2 S1
      | (.brk, ρ2) => .ok (.nx, ρ2) S1
      | (.ret d, ρ2) => .ok (.ret d, ρ2) S1
def forS (FI : Exs) (g : Tgt) (A : Sx) : Sx := fun ρ S => (FI ρ S).bind fun ds S1 => forGo g A ds ρ S1
theorem ds_for {is : List Nat} {FI : Exs} {g : Tgt} (h : PS X st (tFor (tI G O E FI) (tTg G O is g) (tS G O O O E A))) : PS X st (tS G O O Ol E (forS FI g A)) := by
  refine h.mono fun D σ H ⟨φ, B, ρ, S, R, hp⟩ => ⟨φ, B, ρ, S, R, ?_⟩
  refine PostS.bind hp fun ds S1 J B1 H1 g1 R1 hJ h1 => ?_
  have hJ : DWalk G φ.p B1 J ds := hJ
  obtain ⟨Gd, hGd, W⟩ := hJ
  refine for_it W (fun i σ H => ∃ Bi ρi Si, Rep G φ O σ Bi H ρi Si ∧ Same B1 Bi ∧ PostS G φ O Ol E D Bi (forGo g A (ds.drop i) ρi Si)) ?_ ?_ ?_ ?_
  · exact ⟨B1, ρ, S1, R1, Same.refl _, h1⟩
  · rintro i σ H' hi ⟨Bi, ρi, Si, Ri, si, _⟩
    exact hGd H' (si.trans Ri.sub)
  · rintro i x σ H2 H3 hi ⟨Bi, ρi, Si, Ri, si, hp'⟩ y
    obtain ⟨d, B2, hd, R2, g2, dv⟩ := yield_rep Ri si y
    have hdrop : ds.drop i = d :: ds.drop (i + 1) := by
      have hi' := (List.getElem?_eq_some_iff.mp hd)
      rw [List.drop_eq_getElem_cons hi'.1, hi'.2]
    rw [hdrop, forGo] at hp'
    have hp2 := PostS.same g2.b hp'
    have s12 := si.trans g2.b
    cases hg : g d ρi with
    | none => rw [hg] at hp2; exact hp2.elim
    | some ρ' =>
      rw [hg] at hp2
      refine ⟨φ, B2, ρi, Si, d, ρ', R2, dv, hg, fun σ' R' fr => ⟨φ, B2, ρ', Si, R', ?_⟩⟩
      dsimp only at hp2
      exact PostS.seq (β := Unit) hp2 (fun ρ1 S1 σ'' B'' H'' s'' R'' h => ⟨B'', ρ1, S1, R'', s12.trans s'', h⟩) (fun ρ1 S1 σ'' B'' H'' s'' R'' h => h σ'' B'' H'' (Same.refl _) R'') (fun ρ1 S1 σ'' B'' H'' s'' R'' h => ⟨B'', ρ1, S1, R'', s12.trans s'', h⟩) (fun ρ1 d S1 v B'' H'' s'' R'' hv h => h v B'' H'' (Same.refl _) R'' hv)
  · rintro σ H' ⟨Bi, ρi, Si, Ri, si, hp'⟩
    rw [List.drop_length] at hp'
    exact hp' σ Bi H' (Same.refl _) Ri
/-! a list of this def's own grows -/
theorem Rep.pokeO (R : Rep G φ O σ B H ρ S) {i : Nat} {a : Addr} {o : HO} {d : NL.D} (hi : i ∈ O) (h2 : σ[i]? = some (some (.ref a))) (hd : DO G φ.p B o d) : Rep G φ O σ B (upd H a o) (ρ.set i (some d)) S := by
  obtain ⟨a', o', d', k1, k2, k3, k4, k5, k6, k7⟩ := R.own i hi
  have ea : a' = a := by rw [h2] at k2; injection k2 with k2; injection k2 with k2; injection k2 with k2; exact k2.symm
  subst ea
  have hl : i < ρ.length := (List.getElem?_eq_some_iff.mp k1).1
  refine ⟨?_, ?_, R.cl, ?_, R.b0, by rw [List.length_set]; exact R.len, ?_, ?_, R.dis, fun c h => R.al c (upd_no h), (fun hv => by rw [R.nov i hi] at hv; cases hv), R.vv, R.nov⟩
  · intro c x h
    have e : c ≠ a' := fun e => by rw [e, k4] at h; cases h
    rw [upd_ne e]; exact R.sub c x h
  · intro c x hp hm h
    have e : c ≠ a' := fun e => by rw [e, k5] at h; cases h
    rw [upd_ne e]; exact R.fr c x hp hm h
  · intro q hq
    have e : q ≠ a' := fun e => k6 (e ▸ hq)
    obtain ⟨h1, h2, h3⟩ := R.src q hq
    exact ⟨h1, by rw [upd_ne e]; exact h2, h3⟩
  · intro j d2 hj hd2
    have e : i ≠ j := fun e => hj (e ▸ hi)
    rw [List.getElem?_set_ne e] at hd2
    exact R.val j d2 hj hd2
  · intro j hj
    by_cases e : i = j
    · subst e
      rw [List.getElem?_set, if_pos rfl, if_pos hl]
      exact ⟨a', o, d, rfl, k2, upd_same, k4, k5, k6, hd⟩
    · rw [List.getElem?_set_ne e]
      obtain ⟨b, o2, d2, q1, q2, q3, q4, q5, q6, q7⟩ := R.own j hj
      have e2 : b ≠ a' := fun e2 => R.dis i j hi hj e (by rw [q2, k2, e2])
      exact ⟨b, o2, d2, q1, q2, by rw [upd_ne e2]; exact q3, q4, q5, q6, q7⟩
def appS (i : Nat) (F : Ex) : Sx := fun ρ S => match ρ[i]? with
  | some (some (.lst ds)) => (F ρ S).bind fun d S1 => if ds.length < 100000 then .ok (.nx, ρ.set i (some (.lst (ds ++ [d])))) S1 else .bad
  | _ => .bad
theorem ds_app {i : Nat} (hi : i ∈ O) (h : PS X st (tDrop (tBM X.K "list" rAppend (tVar i) (tDs G false O E (consF F nilF))))) (hK : X.K = G.K := by rfl) : PS X st (tS G O O Ol E (appS i F)) := by
  refine h.mono fun D σ H ⟨φ, B, ρ, S, R, hp⟩ => ?_
  obtain ⟨a, o, d0, k1, k2, k3, k4, k5, k6, k7⟩ := R.own i hi
  -- what stands there is a list, or nothing is promised
  by_cases hd : ∃ ds0, d0 = NL.D.lst ds0
  · obtain ⟨ds0, rfl⟩ := hd
    have ho : ∃ us, o = .lst us ∧ DVs G φ.p B us ds0 := by
      unfold DO at k7
      split at k7
      · rename_i us ds1 he; cases he; exact ⟨us, rfl, k7⟩
      · rename_i he; cases he
      · rename_i he; cases he
      · exact k7.elim
    obtain ⟨us, rfl, hu⟩ := ho
    refine ⟨.ref a, k2, .inl ⟨rfl, us, SqL.of k3⟩, φ, B, ρ, S, R, ?_⟩
    have hp : PostS G φ O Ol E D B (((consF F nilF) ρ S).bind fun ds S1 => match ds with
      | [d] => if ds0.length < 100000 then .ok (.nx, ρ.set i (some (.lst (ds0 ++ [d])))) S1 else .bad
      | _ => .bad) := by
      unfold appS at hp
      unfold consF nilF
      rw [k1] at hp
      rw [Rs.bind_assoc]
      exact hp
    refine PostS.bind hp fun ds S1 w B1 H1 g R1 hw h1 => ?_
    split at h1
    · split at h1
      · rename_i hlen
        cases hw with | cons q1 q2 =>
        cases q2
        have q1 : DV G φ.p B1 _ _ := q1
        have hH1 := g.at (R.ownv hi) k6 k3
        refine ⟨a, us, _, rfl, rfl, hH1, sz100k_lt (by rw [hu.len]; exact hlen), ?_⟩
        exact h1 σ B1 _ (Same.refl _) (R1.pokeO hi k2 ((hu.same g.b).append (.cons q1 .nil)))
      · exact h1.elim
    · exact h1.elim
  · exfalso
    unfold appS at hp
    rw [k1] at hp
    cases d0 with
    | lst ds => exact hd ⟨ds, rfl⟩
    | _ => exact hp
/-! defs -/
def fnF (n N : Nat) (A : Sx) : List NL.D → SrcT → Rs NL.D := fun ds S => if ds.length = n then (A (ds.map some ++ List.replicate (N - n) none) S).bind fun r S1 => match r with
  | (.ret d, _) => .ok d S1
  | (.nx, _) => .ok .non S1
  | _ => .bad
  else .bad
theorem fn_len {n N : Nat} {vs : List V} {Q : VK} (h : spD G (fnF n N A) vs H Q E) : vs.length = n := by
  obtain ⟨p, B, ds, S, h1, h2, h3, h4⟩ := h
  rw [h3.len]
  unfold fnF at h4
  by_cases hn : ds.length = n
  · exact hn
  · rw [if_neg hn] at h4; exact h4.elim
theorem fn_read {n : Nat} {Ns : List Str} {vs : List V} {Q : VK} (h : spD G (fnF n Ns.length A) vs H Q E) (hv0 : G.v = false := by rfl) (hfx : G.fx = none := by rfl) : tS G [] O' Ol E A { nx := fun _ H' => Q .non H', rt := Q } (L2.start Ns vs) H := by
  have hlen := fn_len h
  obtain ⟨p, B, ds, S, h1, h2, h3, h4⟩ := h
  have hl : ds.length = n := by rw [← h3.len]; exact hlen
  unfold fnF at h4
  rw [if_pos hl] at h4
  refine ⟨{ p := p, B0 := B, H0 := H }, B, ds.map some ++ List.replicate (Ns.length - n) none, S, ⟨h1, fun a o _ _ h => h, fun a o h _ => .inl h, h2, Same.refl _, ?_, ?_, fun i hi => (nomatch hi), fun i j hi => (nomatch hi), fun a h => h, (fun hv => by rw [hv0] at hv; cases hv), ⟨hv0.symm, fun _ f hf => by rw [hfx] at hf; cases hf⟩, fun i hi => (nomatch hi)⟩, ?_⟩
  · unfold L2.start; simp [h3.len, hl]
  · intro i d _ hd
    unfold L2.start
    rw [hlen]
    by_cases hi : i < ds.length
    · rw [List.getElem?_append_left (by simpa using hi), List.getElem?_map] at hd
      obtain ⟨d', hd', hd''⟩ := Option.map_eq_some_iff.mp hd
      cases hd''
      obtain ⟨v, k1, k2⟩ := h3.get hd'
      refine ⟨v, ?_, k2⟩
      rw [List.getElem?_append_left (by rw [List.length_map, h3.len]; exact hi), List.getElem?_map, k1]; rfl
    · rw [List.getElem?_append_right (by simpa using hi)] at hd
      obtain ⟨_, hd2⟩ := List.getElem?_eq_some_iff.mp hd
      rw [List.getElem_replicate] at hd2; cases hd2
  · generalize A (ds.map some ++ List.replicate (Ns.length - n) none) S = r at h4
    induction r with
    | bad => exact h4
    | exc c d S' => exact fun B' H' cv od s R' hx => h4 B' H' cv od s R'.sub (fun a o hp h => R'.fr a o hp rfl h) (fun a o h hm => R'.cl a o h hm) R'.src hx
    | all p0 k ih => exact fun x px => ih x (h4 x px)
    | ok q S' =>
      match q, h4 with
      | (.nx, _), h4 => exact fun σ' B' H' s R' => h4 .non B' H' s R'.sub (fun a o hp h => R'.fr a o hp rfl h) (fun a o h hm => R'.cl a o h hm) R'.src .non
      | (.brk, _), h4 => exact h4.elim
      | (.cont, _), h4 => exact h4.elim
      | (.ret d, _), h4 => exact fun v B' H' s R' hd => h4 v B' H' s R'.sub (fun a o hp h => R'.fr a o hp rfl h) (fun a o h hm => R'.cl a o h hm) R'.src hd
end
end
end NL
/-! ### the data layer: more rules -/
namespace NL
noncomputable section
open PySem L2
section
variable {X : Cx} {G : Gm} {m m' : Bool} {O O1 O2 O' Ol : List Nat} {E : XK} {e tg : Expr} {es : List Expr} {F F1 F2 F3 : Ex} {Fs : Exs}
variable {φ : Fr} {σ σ2 : L2.St} {B H B' H' : Hp} {ρ ρ2 : Env} {S S' : SrcT} {st : Stmt} {sts rest : List Stmt} {A A1 A2 : Sx}
theorem ofN_imp {σ : L2.St} {H : Hp} {Q : VK} (h : tD G m O E F σ H Q) : tN G m O E F σ H Q := by
  obtain ⟨φ, B, ρ, S, R, hp⟩ := h
  refine ⟨φ, B, ρ, S, R, ?_⟩
  exact PgN.of hp
def badS : Sx := fun _ _ => .bad
theorem ds_never : PS X st (tS G O O' Ol E badS) := ps_never.mono fun D σ H ⟨φ, B, ρ, S, R, hp⟩ => hp
theorem dvs_strs {p : Option Addr} : ∀ ns : List Str, DVs G p B (ns.map V.str) (ns.map D.str)
  | [] => .nil
  | n :: ns => .cons (.str n) (dvs_strs ns)
def blT (F : Ex) : Tst := fun ρ S => (F ρ S).bind fun d S1 => match d with
  | .bl b => .ok b S1
  | _ => .bad
theorem Pg.blT {rel : Rel V D} {Q : Bool → Hp → Prop} {r : Rs D} (h : Pg G φ true O E σ ρ (fun _ _ b a => b = a) B H (r.bind fun d S1 => match d with
  | .bl b => Rs.ok b S1
  | _ => .bad) Q) : Pg G φ true O E σ ρ (DV G) B H r fun x H' => ∃ k, x = .bl k ∧ Q k H' := by
  refine Pg.bind h fun d S1 w B1 H1 g R1 hw h1 => ?_
  cases hw with
  | bl b => exact ⟨b, rfl, Pg.ok h1 R1 rfl⟩
  | _ => exact h1.elim
theorem dt_cmp {r : R2} {op : D → D → Option D} (hb : Bin2 G true true r op) (h : PT X e (tTest (tOp r (tD G true O E F1) (tD G true O E F2)))) : PT X e (tBt G O E (blT (binF op F1 F2))) := by
  refine h.mono fun σ H Q ⟨φ, B, ρ, S, R, hp⟩ => ⟨φ, B, ρ, S, R, ?_⟩
  have hp := Pg.blT (rel := DV G) hp
  refine Pg.bind hp fun d1 S1 v1 B1 H1 g R1 hw h1 => ⟨φ, B1, ρ, S1, R1, ?_⟩
  refine Pg.bind h1 fun d2 S2 v2 B2 H2 g2 R2 hw2 h2 => ?_
  obtain ⟨d, e, q⟩ := h2.opt
  exact hb R2 (hw.same (g2.bs true)) hw2 e q
/-! a < b < c -/
def chF (op op' : D → D → Option D) (F1 F2 F3 : Ex) : Ex := fun ρ S => (F1 ρ S).bind fun d1 S1 => (F2 ρ S1).bind fun d2 S2 => match op d1 d2 with
  | some (.bl true) => (F3 ρ S2).bind fun d3 S3 => optF (op' d2 d3) S3
  | some (.bl false) => .ok (.bl false) S2
  | _ => .bad
theorem chain_imp {r r' : R2} {op op' : D → D → Option D} (hb : Bin2 G true true r op) (hb' : Bin2 G true m r' op') (R : Rep G φ O σ B H ρ S) {Q : VK} (hp : Pg G φ m O E σ ρ (DV G) B H (chF op op' F1 F2 F3 ρ S) Q) : tChain r r' (tD G true O E F1) (tD G true O E F2) (tD G true O E F3) σ H Q := by
  refine ⟨φ, B, ρ, S, R, ?_⟩
  refine Pg.bind hp fun d1 S1 v1 B1 H1 g R1 hw h1 => ⟨φ, B1, ρ, S1, R1, ?_⟩
  refine Pg.bind h1 fun d2 S2 v2 B2 H2 g2 R2 hw2 h2 => ?_
  split at h2
  · rename_i e1
    refine hb R2 (hw.same (g2.bs true)) hw2 e1 fun v B3 H3 g3 R3 dv => ?_
    cases dv
    refine ⟨true, rfl, ?_⟩
    rw [if_pos rfl]
    refine ⟨φ, B3, ρ, S2, R3, ?_⟩
    refine Pg.bind (Pg.go g3 h2) fun d3 S3 v3 B4 H4 g4 R4 hw3 h4 => ?_
    obtain ⟨d, e, q⟩ := h4.opt
    exact hb' R4 ((hw2.same (g3.bs true)).same (g4.bs true)) hw3 e q
  · rename_i e1
    refine hb R2 (hw.same (g2.bs true)) hw2 e1 fun v B3 H3 g3 R3 dv => ?_
    cases dv
    refine ⟨false, rfl, ?_⟩
    rw [if_neg (by decide)]
    exact (Pg.go g3 h2).ok R3 (.bl _)
  · exact h2.elim
theorem de_chain {r r' : R2} {op op' : D → D → Option D} (hb : Bin2 G true true r op) (hb' : Bin2 G true m r' op') (h : PE X e (tChain r r' (tD G true O E F1) (tD G true O E F2) (tD G true O E F3))) : PE X e (tD G m O E (chF op op' F1 F2 F3)) :=
  h.mono fun σ H Q ⟨φ, B, ρ, S, R, hp⟩ => chain_imp hb hb' R hp
abbrev rInt1 : List V → Hp → VK → Prop := fun xs H Q => (∃ i, xs = [.int i] ∧ Q (.int i) H) ∨ ∃ k, xs = [.bl k] ∧ Q (.int (if k then 1 else 0)) H
theorem arg_int : ArgN G m m' rInt1 intD := by
  intro φ O σ B H ρ S vs ds d Q R hv e q
  unfold intD at e
  split at e
  · cases hv with | cons h1 h2 =>
    cases h2; cases h1; cases e; exact .inl ⟨_, rfl, q _ _ _ Go.refl R (.int _)⟩
  · cases hv with | cons h1 h2 =>
    cases h2; cases h1; cases e; exact .inr ⟨_, rfl, q _ _ _ Go.refl R (.int _)⟩
  · cases e
/-! runs -/
/-! isinstance -/
def isInt : D → Option D
  | .non => some (.bl false)
  | .bl _ => some (.bl true)
  | .int _ => some (.bl true)
  | .str _ => some (.bl false)
  | .lst _ => some (.bl false)
  | .tup _ => some (.bl false)
  | .dct _ => some (.bl false)
  | .dcT _ => some (.bl false)
  | _ => none
theorem de_isInt (h : PE X e (tCB (rIsi X.K) (tCons (tD G true O E F) (tCons (tC (.ty "int")) tNil)))) (hK : X.K = G.K := by rfl) : PE X e (tD G m O E (unF isInt F)) := by
  refine h.mono fun σ H Q ⟨φ, B, ρ, S, R, hp⟩ => ⟨φ, B, ρ, S, R, ?_⟩
  rw [hK]
  refine Pg.bind hp fun d S1 w B1 H1 g R1 hw h1 => ?_
  obtain ⟨r, hr, q⟩ := h1.opt
  have hw := dv_H R1 hw
  cases hw with
  | non => cases hr; exact ⟨_, _, _, _, false, rfl, .ty _, TyX.base TyOf.non, kit_ty (by decide +kernel), q _ _ _ Go.refl R1 (.bl _)⟩
  | bl b => cases hr; exact ⟨_, _, _, _, true, rfl, .ty _, TyX.base (TyOf.bl _), kit_ty (by decide +kernel), q _ _ _ Go.refl R1 (.bl _)⟩
  | int b => cases hr; exact ⟨_, _, _, _, true, rfl, .ty _, TyX.base (TyOf.int _), kit_ty (by decide +kernel), q _ _ _ Go.refl R1 (.bl _)⟩
  | str b => cases hr; exact ⟨_, _, _, _, false, rfl, .ty _, TyX.base (TyOf.str _), kit_ty (by decide +kernel), q _ _ _ Go.refl R1 (.bl _)⟩
  | lst ha hs => cases hr; exact ⟨_, _, _, _, false, rfl, .ty _, TyX.base (TyOf.lst ha), kit_ty (by decide +kernel), q _ _ _ Go.refl R1 (.bl _)⟩
  | tup ha hs => cases hr; exact ⟨_, _, _, _, false, rfl, .ty _, SqT.tyx ha, kit_ty (by decide +kernel), q _ _ _ Go.refl R1 (.bl _)⟩
  | dct ha _ hs => cases hr; exact ⟨_, _, _, _, false, rfl, .ty _, TyX.base (TyOf.dK ha), kit_ty (by decide +kernel), q _ _ _ Go.refl R1 (.bl _)⟩
  | dcT ha _ hs => cases hr; exact ⟨_, _, _, _, false, rfl, .ty _, TyX.base (TyOf.dT ha), kit_ty (by decide +kernel), q _ _ _ Go.refl R1 (.bl _)⟩
  | _ => cases hr
def isBool : D → Option D
  | .non => some (.bl false)
  | .bl _ => some (.bl true)
  | .int _ => some (.bl false)
  | .str _ => some (.bl false)
  | .lst _ => some (.bl false)
  | .tup _ => some (.bl false)
  | .dct _ => some (.bl false)
  | .dcT _ => some (.bl false)
  | _ => none
theorem de_isBool (h : PE X e (tCB (rIsi X.K) (tCons (tD G true O E F) (tCons (tC (.ty "bool")) tNil)))) (hK : X.K = G.K := by rfl) : PE X e (tD G m O E (unF isBool F)) := by
  refine h.mono fun σ H Q ⟨φ, B, ρ, S, R, hp⟩ => ⟨φ, B, ρ, S, R, ?_⟩
  rw [hK]
  refine Pg.bind hp fun d S1 w B1 H1 g R1 hw h1 => ?_
  obtain ⟨r, hr, q⟩ := h1.opt
  have hw := dv_H R1 hw
  cases hw with
  | non => cases hr; exact ⟨_, _, _, _, false, rfl, .ty _, TyX.base TyOf.non, kit_ty (by decide +kernel), q _ _ _ Go.refl R1 (.bl _)⟩
  | bl b => cases hr; exact ⟨_, _, _, _, true, rfl, .ty _, TyX.base (TyOf.bl _), kit_ty (by decide +kernel), q _ _ _ Go.refl R1 (.bl _)⟩
  | int b => cases hr; exact ⟨_, _, _, _, false, rfl, .ty _, TyX.base (TyOf.int _), kit_ty (by decide +kernel), q _ _ _ Go.refl R1 (.bl _)⟩
  | str b => cases hr; exact ⟨_, _, _, _, false, rfl, .ty _, TyX.base (TyOf.str _), kit_ty (by decide +kernel), q _ _ _ Go.refl R1 (.bl _)⟩
  | lst ha hs => cases hr; exact ⟨_, _, _, _, false, rfl, .ty _, TyX.base (TyOf.lst ha), kit_ty (by decide +kernel), q _ _ _ Go.refl R1 (.bl _)⟩
  | tup ha hs => cases hr; exact ⟨_, _, _, _, false, rfl, .ty _, SqT.tyx ha, kit_ty (by decide +kernel), q _ _ _ Go.refl R1 (.bl _)⟩
  | dct ha _ hs => cases hr; exact ⟨_, _, _, _, false, rfl, .ty _, TyX.base (TyOf.dK ha), kit_ty (by decide +kernel), q _ _ _ Go.refl R1 (.bl _)⟩
  | dcT ha _ hs => cases hr; exact ⟨_, _, _, _, false, rfl, .ty _, TyX.base (TyOf.dT ha), kit_ty (by decide +kernel), q _ _ _ Go.refl R1 (.bl _)⟩
  | _ => cases hr
def isStr : D → Option D
  | .non => some (.bl false)
  | .bl _ => some (.bl false)
  | .int _ => some (.bl false)
  | .str _ => some (.bl true)
  | .lst _ => some (.bl false)
  | .tup _ => some (.bl false)
  | .dct _ => some (.bl false)
  | .dcT _ => some (.bl false)
  | _ => none
theorem de_isStr (h : PE X e (tCB (rIsi X.K) (tCons (tD G true O E F) (tCons (tC (.ty "str")) tNil)))) (hK : X.K = G.K := by rfl) : PE X e (tD G m O E (unF isStr F)) := by
  refine h.mono fun σ H Q ⟨φ, B, ρ, S, R, hp⟩ => ⟨φ, B, ρ, S, R, ?_⟩
  rw [hK]
  refine Pg.bind hp fun d S1 w B1 H1 g R1 hw h1 => ?_
  obtain ⟨r, hr, q⟩ := h1.opt
  have hw := dv_H R1 hw
  cases hw with
  | non => cases hr; exact ⟨_, _, _, _, false, rfl, .ty _, TyX.base TyOf.non, kit_ty (by decide +kernel), q _ _ _ Go.refl R1 (.bl _)⟩
  | bl b => cases hr; exact ⟨_, _, _, _, false, rfl, .ty _, TyX.base (TyOf.bl _), kit_ty (by decide +kernel), q _ _ _ Go.refl R1 (.bl _)⟩
  | int b => cases hr; exact ⟨_, _, _, _, false, rfl, .ty _, TyX.base (TyOf.int _), kit_ty (by decide +kernel), q _ _ _ Go.refl R1 (.bl _)⟩
  | str b => cases hr; exact ⟨_, _, _, _, true, rfl, .ty _, TyX.base (TyOf.str _), kit_ty (by decide +kernel), q _ _ _ Go.refl R1 (.bl _)⟩
  | lst ha hs => cases hr; exact ⟨_, _, _, _, false, rfl, .ty _, TyX.base (TyOf.lst ha), kit_ty (by decide +kernel), q _ _ _ Go.refl R1 (.bl _)⟩
  | tup ha hs => cases hr; exact ⟨_, _, _, _, false, rfl, .ty _, SqT.tyx ha, kit_ty (by decide +kernel), q _ _ _ Go.refl R1 (.bl _)⟩
  | dct ha _ hs => cases hr; exact ⟨_, _, _, _, false, rfl, .ty _, TyX.base (TyOf.dK ha), kit_ty (by decide +kernel), q _ _ _ Go.refl R1 (.bl _)⟩
  | dcT ha _ hs => cases hr; exact ⟨_, _, _, _, false, rfl, .ty _, TyX.base (TyOf.dT ha), kit_ty (by decide +kernel), q _ _ _ Go.refl R1 (.bl _)⟩
  | _ => cases hr
def isList : D → Option D
  | .non => some (.bl false)
  | .bl _ => some (.bl false)
  | .int _ => some (.bl false)
  | .str _ => some (.bl false)
  | .lst _ => some (.bl true)
  | .tup _ => some (.bl false)
  | .dct _ => some (.bl false)
  | .dcT _ => some (.bl false)
  | _ => none
def isTup : D → Option D
  | .non => some (.bl false)
  | .bl _ => some (.bl false)
  | .int _ => some (.bl false)
  | .str _ => some (.bl false)
  | .lst _ => some (.bl false)
  | .tup _ => some (.bl true)
  | .dct _ => some (.bl false)
  | .dcT _ => some (.bl false)
  | _ => none
theorem de_isTup (h : PE X e (tCB (rIsi X.K) (tCons (tD G true O E F) (tCons (tC (.ty "tuple")) tNil)))) (hK : X.K = G.K := by rfl) : PE X e (tD G m O E (unF isTup F)) := by
  refine h.mono fun σ H Q ⟨φ, B, ρ, S, R, hp⟩ => ⟨φ, B, ρ, S, R, ?_⟩
  rw [hK]
  refine Pg.bind hp fun d S1 w B1 H1 g R1 hw h1 => ?_
  obtain ⟨r, hr, q⟩ := h1.opt
  have hw := dv_H R1 hw
  cases hw with
  | non => cases hr; exact ⟨_, _, _, _, false, rfl, .ty _, TyX.base TyOf.non, kit_ty (by decide +kernel), q _ _ _ Go.refl R1 (.bl _)⟩
  | bl b => cases hr; exact ⟨_, _, _, _, false, rfl, .ty _, TyX.base (TyOf.bl _), kit_ty (by decide +kernel), q _ _ _ Go.refl R1 (.bl _)⟩
  | int b => cases hr; exact ⟨_, _, _, _, false, rfl, .ty _, TyX.base (TyOf.int _), kit_ty (by decide +kernel), q _ _ _ Go.refl R1 (.bl _)⟩
  | str b => cases hr; exact ⟨_, _, _, _, false, rfl, .ty _, TyX.base (TyOf.str _), kit_ty (by decide +kernel), q _ _ _ Go.refl R1 (.bl _)⟩
  | lst ha hs => cases hr; exact ⟨_, _, _, _, false, rfl, .ty _, TyX.base (TyOf.lst ha), kit_ty (by decide +kernel), q _ _ _ Go.refl R1 (.bl _)⟩
  | tup ha hs => cases hr; exact ⟨_, _, _, _, true, rfl, .ty _, SqT.tyx ha, kit_ty (by decide +kernel), q _ _ _ Go.refl R1 (.bl _)⟩
  | dct ha _ hs => cases hr; exact ⟨_, _, _, _, false, rfl, .ty _, TyX.base (TyOf.dK ha), kit_ty (by decide +kernel), q _ _ _ Go.refl R1 (.bl _)⟩
  | dcT ha _ hs => cases hr; exact ⟨_, _, _, _, false, rfl, .ty _, TyX.base (TyOf.dT ha), kit_ty (by decide +kernel), q _ _ _ Go.refl R1 (.bl _)⟩
  | _ => cases hr
def isSq : D → Option D
  | .non => some (.bl false)
  | .bl _ => some (.bl false)
  | .int _ => some (.bl false)
  | .str _ => some (.bl false)
  | .lst _ => some (.bl true)
  | .tup _ => some (.bl true)
  | .dct _ => some (.bl false)
  | .dcT _ => some (.bl false)
  | _ => none
theorem any2 {K : PySem.W.Frag} {t : String} {b1 b2 : Bool} (h1 : kitB t "list" = some b1) (h2 : kitB t "tuple" = some b2) : PySem.W.kitAny K (.type t) [.type "list", .type "tuple"] = some (b1 || b2) := by
  refine kitAny_cons (b := b1) (kit_ty h1) (fun e => ?_) (fun e => by rw [e]; rfl)
  rw [e]
  exact kitAny_cons (b := b2) (kit_ty h2) (fun e => by rw [e]; rfl) (fun e => by rw [e]; rfl)
theorem de_isSq (h : PE X e (tCB (rIsiT X.K) (tCons (tD G true O E F) (tCons (tTup (tCons (tC (.ty "list")) (tCons (tC (.ty "tuple")) tNil))) tNil)))) (hK : X.K = G.K := by rfl) : PE X e (tD G m O E (unF isSq F)) := by
  refine h.mono fun σ H Q ⟨φ, B, ρ, S, R, hp⟩ => ⟨φ, B, ρ, S, R, ?_⟩
  rw [hK]
  refine Pg.bind hp fun d S1 w B1 H1 g R1 hw h1 => ?_
  obtain ⟨r, hr, q⟩ := h1.opt
  refine ⟨by decide, fun tp ntp => ?_⟩
  obtain ⟨R2, g2, np⟩ := R1.new (o := .tup [.ty "list", .ty "tuple"]) ntp
  have hw := dv_H R2 (hw.same (g2.bs true))
  have fin : ∀ (t : String) (b1 b2 : Bool), TyX G.K (upd H1 tp (.tup [.ty "list", .ty "tuple"])) w (.type t) → kitB t "list" = some b1 → kitB t "tuple" = some b2 → r = .bl (b1 || b2) → rIsiT G.K [w, .ref tp] (upd H1 tp (.tup [.ty "list", .ty "tuple"])) Q := fun t b1 b2 ht k1 k2 er => by
    subst er
    exact ⟨w, tp, _, _, [.type "list", .type "tuple"], _, rfl, upd_same, .cons (.ty _) (.cons (.ty _) .nil), ht, any2 k1 k2, q _ _ _ g2 R2 (.bl _)⟩
  cases hw with
  | non => cases hr; exact fin _ false false (TyX.base TyOf.non) (by decide +kernel) (by decide +kernel) rfl
  | bl b => cases hr; exact fin _ false false (TyX.base (TyOf.bl _)) (by decide +kernel) (by decide +kernel) rfl
  | int b => cases hr; exact fin _ false false (TyX.base (TyOf.int _)) (by decide +kernel) (by decide +kernel) rfl
  | str b => cases hr; exact fin _ false false (TyX.base (TyOf.str _)) (by decide +kernel) (by decide +kernel) rfl
  | lst ha hs => cases hr; exact fin _ true false (TyX.base (TyOf.lst ha)) (by decide +kernel) (by decide +kernel) rfl
  | tup ha hs => cases hr; exact fin _ false true (SqT.tyx ha) (by decide +kernel) (by decide +kernel) rfl
  | dct ha _ hs => cases hr; exact fin _ false false (TyX.base (TyOf.dK ha)) (by decide +kernel) (by decide +kernel) rfl
  | dcT ha _ hs => cases hr; exact fin _ false false (TyX.base (TyOf.dT ha)) (by decide +kernel) (by decide +kernel) rfl
  | _ => cases hr
end
end
end NL
/-! ### the data layer: the source, the law's own beginning and end -/
namespace NL
noncomputable section
open PySem L2
def drawV (S : SrcT) (m : Int) : Int := if 1 < S.g then S.g % m else ((S.s + 7919 * (S.c + 1)) ^ (5 : Int).toNat % 2147483629 * 48271 + 16807 * (S.c + 1) * (S.c + 1) + 11) ^ (3 : Int).toNat % 1000000007 % m
def drawS (S : SrcT) (m : Int) : SrcT := { S with g := if 1 < S.g then S.g / m else S.g, c := S.c + 1 }
def f__law_draw : List D → SrcT → Rs D := fun ds S => match ds with
  | [.src, .int m] => if (decide (0 < m) && decide (m < 1000000) && decide (S.c ≤ 990000)) = true then .ok (.int (drawV S m)) (drawS S m) else .bad
  | _ => .bad
theorem draw_ok {S : SrcT} {m : Int} (h0 : 0 < m) (h1 : m < 1000000) (hc : S.c ≤ 990000) : ∃ r S', f__law_draw [.src, .int m] S = .ok (.int r) S' ∧ 0 ≤ r ∧ r < m ∧ S'.c = S.c + 1 := by
  refine ⟨drawV S m, drawS S m, ?_, ?_, ?_, rfl⟩
  · show (if _ then _ else _) = _
    rw [if_pos (by simp [h0, h1, hc])]
  · unfold drawV; split <;> exact Int.emod_nonneg _ (by omega)
  · unfold drawV; split <;> exact Int.emod_lt_of_pos _ h0
end
end NL
/-! ### the data layer: loops and runs -/
namespace NL
noncomputable section
open PySem L2
open Classical in
/-- what is shared behind a call that is told in the heap's own words: N are new places -/
noncomputable def grow (B H' : Hp) (N : List Addr) : Hp := fun a => match B a with
  | some o => some o
  | none => match H' a with
    | some o => if ¬ mutO o ∨ a ∈ N then some o else none
    | none => none
/-! runs -/
end
end NL
/-! ### the data layer: joined texts, lists that are changed, dicts -/
namespace NL
noncomputable section
open PySem L2
def keyD : D → Option Key
  | .int i => some (.inl i)
  | .str z => some (.inr z)
  | _ => none
def valE {κ : Type} [DecidableEq κ] (es : List (κ × D)) (k : κ) : Option D := (es.find? fun kv => decide (kv.1 = k)).map (·.2)
def putE {κ : Type} [DecidableEq κ] (es : List (κ × D)) (k : κ) (d : D) : List (κ × D) :=
  if (es.any fun kv => decide (kv.1 = k)) = true then es.map (fun kv => if kv.1 = k then (kv.1, d) else kv) else es ++ [(k, d)]
section
variable {X : Cx} {G : Gm} {m m' : Bool} {O O' Ol : List Nat} {E : XK} {e o i : Expr} {es : List Expr} {F F1 F2 F3 : Ex} {Fs : Exs} {st : Stmt}
/-! joined -/
/-! xs.insert(i, e), xs of this def's own -/
def insS (i : Nat) (Fs : Exs) : Sx := fun ρ S => match ρ[i]? with
  | some (some (.lst ds)) => (Fs ρ S).bind fun as S1 => match as with
    | [.int k, d] => if ds.length < 100000 ∧ 0 ≤ k ∧ k ≤ 1000000 then .ok (.nx, ρ.set i (some (.lst (ds.take k.toNat ++ [d] ++ ds.drop k.toNat)))) S1 else .bad
    | _ => .bad
  | _ => .bad
/-! dicts -/
def putS (i : Nat) (Fk Fv : Ex) : Sx := fun ρ S => match ρ[i]? with
  | some (some (.dct es)) => (Fv ρ S).bind fun v S1 => (Fk ρ S1).bind fun k S2 => match keyD k with
    | some k => if es.length < 100000 then .ok (.nx, ρ.set i (some (.dct (putE es k v)))) S2 else .bad
    | none => .bad
  | _ => .bad
def get2F (F1 F2 F3 : Ex) : Ex := fun ρ S => (F1 ρ S).bind fun c S1 => match c with
  | .dct es => (F2 ρ S1).bind fun k S2 => (F3 ρ S2).bind fun x S3 => match keyD k with
    | some k => .ok ((valE es k).getD x) S3
    | none => .bad
  | _ => .bad
def dgetF (F1 F2 : Ex) : Ex := fun ρ S => (F1 ρ S).bind fun c S1 => match c with
  | .dct es => (F2 ρ S1).bind fun k S2 => match keyD k with
    | some k => optF (valE es k) S2
    | none => .bad
  | _ => .bad
end
end
end NL
/-! ### {e for x in xs}: a comprehension that makes a set of any kind of things, told by two words: the new set, and what adding asks -/
namespace NL
noncomputable section
open PySem PySem.Spec PyProof.Rows L2
/-- a set that nothing is in -/
abbrev emptySetObj (w : World) : Obj := { cls := .type "set", dict := none, data := .set #[] 0 (.fresh 0 0 (!w.params.followText "set-order")) }
abbrev AddW := Addr → V → Hp → (Hp → Prop) → Prop
def tScG (fresh : Addr → HO) (add : AddW) (wi : TI) (g : TG) (tt : TT) (te : TE) (vs : List Nat) : TE := fun σ H Q =>
  wi σ H fun J H1 => ∀ A, H1 A = none → ∃ W : Nat → Nat → Hp → Prop,
    (∃ m, W 0 m (upd H1 A (fresh A))) ∧
    ∀ i m H, W i m H → (J.stop i H ∧ Q (.ref A) H) ∨
      (J.go i H ∧ ∃ Nx : Hp → Prop, (∀ H', Nx H' → ∃ m', m' < m ∧ W (i + 1) m' H') ∧
        ∀ x H', J.yld i H x H' → g x (wipe σ vs) H' fun σ2 H2 =>
          wipe σ2 vs = wipe σ vs ∧ tt σ2 H2 fun b H3 => if b = true then te σ2 H3 fun y H4 => add A y H4 Nx else Nx H3)
/-- the two words are true of the machine -/
structure SetWords (P : Program) (w : World) (K : PySem.W.Frag) (fresh : Addr → HO) (add : AddW) : Prop where
  new : ∀ (H : Hp) (h : Heap), ObjOk P w H (h.push (emptySetObj w)) h.objs.size (fresh h.objs.size)
  put : ∀ (X : Cx), X.prog = P → X.w = w → X.K = K → X.A.units + 65 < cLine → ∀ (pins : List (Addr × Obj)) (σ : L2.St) (H : Hp) (s : Shared) (A : Addr) (y : V) (z : Value) (N : Hp → Prop) (Q : Value → Shared → Prop) (E : Value → Shared → Prop),
    Inv X pins σ H s → RelV y z → add A y H N → (∀ H' s', Inv X pins σ H' s' → N H' → Q .none s') → wpAny (model X.prog X.w) X.A (call (.builtin "set.add") [.ref A, z]) Q E s
section
variable {X : Cx} {fresh : Addr → HO} {add : AddW} {elt tg iter : Expr} {ifs : List Expr} {scope : Scope} {own : List (Str × Nat)} {pos : Pos} {wi : TI} {g : TG} {tt : TT} {te : TE}
abbrev inBlk (X : Cx) (scope : Scope) (P : Cx → Prop) : Prop := ∀ (s : Shared) (H : Hp) (C : Addr) (cl : List (Str × Addr)) (fp : List Addr), P (X.blk s H scope (compEnvC scope cl C X.env) fp)
theorem pe_scG (hu : X.A.units + 65 < cLine) (sw : SetWords X.prog X.w X.K fresh add) (calm : X.calm = true) (nd : X.N.Nodup) (pi : PI X tg iter wi) (blk : BlkOk X.N X.env.scope scope own)
    (pg : inBlk X scope fun Y => PG Y tg g) (pt : inBlk X scope fun Y => PTs Y ifs tt) (pe : inBlk X scope fun Y => PE Y elt te)
    (fold : ∀ x, foldedSetIterable iter X.env x = pure x := by intro _; rfl) : PE X (.SetComp elt [⟨tg, iter, ifs, 0⟩] scope pos) (tScG fresh add wi g tt te (own.map (·.2))) := by
  refine ⟨fun pins s σ H Q I want => ?_⟩
  rw [PpSet.eval_SetComp]
  have cells : ∀ y ∈ scope.names, y.2 = .free → ∃ c, X.env.cells.lookup y.1 = some c := fun y hy e => by
    rcases blk.free y hy e with k | k
    · exact I.ok.has _ (.inl k)
    · exact I.ok.has _ (.inr k)
  refine wpAny_comprehension_free rfl fold (closure_ok cells) blk.kind (fun y hy e => by rw [blk.uniq y hy, e]) ?_
  refine thn (pi.run pins s σ H _ I want) fun _ s1 got => thn got fun _ s2 walk => ?_
  obtain ⟨it, fp, tn, J, H2, rfl, I2, T, at2, fp2, rest⟩ := walk
  refine PpSet.newSet_ok (newEnv_comp ?_)
  generalize eA : s2.heap.objs.size = A
  have freeA : H2 A = none := I2.hok.fresh (Nat.le_of_eq eA)
  obtain ⟨W, ⟨m0, start⟩, turn⟩ := rest A freeA
  generalize es3 : ({ s2 with heap := s2.heap.push (emptySetObj X.w) } : Shared) = s3
  have heap3 : s3.heap = s2.heap.push (emptySetObj X.w) := by rw [← es3]
  have I3 : Inv X pins σ (upd H2 A (fresh A)) s3 := by
    rw [← es3]
    refine I2.laid (t' := s2.toks) (fun b o e => Heap.get?_push_of_some _ e) (Nat.le_of_eq eA) ?_
    rw [← eA]; exact sw.new _ _
  have fp3 : ∀ b ∈ fp, FpOk X pins (upd H2 A (fresh A)) b ∧ b < s3.heap.objs.size := fun b hb => by
    obtain ⟨o, ho, _⟩ := T.obj _ _ at2 b hb
    have lt := Heap.lt_size ho
    refine ⟨⟨?_, (fp2 b hb).2⟩, by rw [heap3, Heap.size_push]; exact Nat.lt_succ_of_lt lt⟩
    rw [upd_ne (by rw [← eA]; exact Nat.ne_of_lt lt)]
    exact (fp2 b hb).1
  have at3 : tn 0 s3.heap := T.keep _ _ _ at2 fun b _ o e => by rw [heap3]; exact Heap.get?_push_of_some _ e
  have I4 := block_start I3 blk nd fp3
  have none3 : ∀ b ∈ fp, (upd H2 A (fresh A)) b = none := fun b hb => (fp3 b hb).1.1
  generalize eH3 : upd H2 A (fresh A) = H3 at I3 I4 start none3 fp3
  have qg := pg s3 H3 s3.heap.objs.size (cellsFrom (s3.heap.objs.size + 1) scope.names (cloFrom X.env.cells scope.names [])) fp
  have qt := pt s3 H3 s3.heap.objs.size (cellsFrom (s3.heap.objs.size + 1) scope.names (cloFrom X.env.cells scope.names [])) fp
  have qe := pe s3 H3 s3.heap.objs.size (cellsFrom (s3.heap.objs.size + 1) scope.names (cloFrom X.env.cells scope.names [])) fp
  show codeAny _ _ (.compStart _ 0 _ _ (compEnvC scope (cellsFrom (s3.heap.objs.size + 1) scope.names (cloFrom X.env.cells scope.names [])) s3.heap.objs.size X.env)) (compPost _ _ X.xe none (EP X pins σ Q) _ s3.heap.objs.size) _
  generalize eC : compEnvC scope (cellsFrom (s3.heap.objs.size + 1) scope.names (cloFrom X.env.cells scope.names [])) s3.heap.objs.size X.env = ce at I4 qg qt qe ⊢
  have locals : ce.locals = s3.heap.objs.size := by subst eC; rfl
  generalize es4 : ({ s3 with heap := pushCells (s3.heap.push { cls := .type "dict", data := .dict #[] }) scope.names } : Shared) = s4 at I4 ⊢
  have at4 : tn 0 s4.heap := T.keep _ _ _ at3 fun b _ o e => by rw [← es4]; exact pushCells_keeps _ _ _ _ (Heap.get?_push_of_some _ e)
  have stay : ∀ {σ' : L2.St} {H' : Hp} {s' : Shared}, Inv (X.blk s3 H3 scope ce fp) [] σ' H' s' → (∀ b ∈ fp, H' b = none) → ∀ b ∈ fp, FpOk (X.blk s3 H3 scope ce fp) [] H' b := fun {σ' H' s'} J' hn b hb =>
    ⟨hn b hb, (J'.ok.exf b hb).1, J'.ok.exfs b hb, .inl hb, fun x c e => (J'.ok.exf b hb).2 x c e, fun p hp => absurd (show p ∈ ([] : List (Addr × Obj)) ++ [] from hp) (by simp)⟩
  have loop : codeAny (model X.prog X.w) X.A (.compLoop (.SetComp elt [⟨tg, iter, ifs, 0⟩] scope pos) 0 (.ref it) (.ref A) ce) (compPost (model X.prog X.w) X.A X.xe none (EP X pins σ Q) (.ref A) s3.heap.objs.size) s4 := by
    refine PpSet.compLoopS_any (fun n s' => ∃ i H', Inv (X.blk s3 H3 scope ce fp) [] (wipe σ (own.map (·.2))) H' s' ∧ tn i s'.heap ∧ (∀ b ∈ fp, H' b = none) ∧ W i n H') ?_ m0 ⟨0, H3, I4, at4, none3, start⟩
    rintro n s5 ⟨i, H5, I5, at5, none5, w5⟩
    rcases turn i n H5 w5 with ⟨stop, fin⟩ | ⟨go, Nx, less, step⟩
    · refine thnF (T.done (X.blk s3 H3 scope ce fp) rfl rfl rfl calm i [] s5 _ H5 (fun _ _ => False) I5 (stay I5 none5) at5 stop) fun r s6 ⟨er, I6⟩ => ?_
      subst er
      have back : Inv X pins σ H5 s6 := I3.call' (ch := fp) I6.os I6.base I6.hok I6.bare fun b hb => by
        obtain ⟨⟨_, a1, _, a3, a4, a5⟩, _⟩ := fp3 b hb
        exact ⟨a3, a1, a4, a5⟩
      have freeC : H5 s3.heap.objs.size = none := by
        have z : H5 ce.locals = none := I6.free
        rw [locals] at z; exact z
      obtain ⟨mm, ns, _⟩ := I6.loc
      have ns : s6.heap.Ns ce.locals mm := ns
      rw [locals] at ns
      obtain ⟨f0, f1, f2, f3, f4, f5⟩ := I3.fpOk (Nat.le_refl _) freeC
      exact ⟨mm, ns, fun h'' sb => ⟨.ref A, H5, back.turned (t' := s6.toks) (fun b o hb e => (sb.2 b hb).trans e) f0 f1 f3 f4 f5, rfl, fin⟩⟩
    · refine thnF (T.item (X.blk s3 H3 scope ce fp) rfl rfl rfl calm i [] s5 _ H5 (fun _ _ => False) I5 (stay I5 none5) at5 go) fun r s6 ⟨u, er, got6⟩ => ?_
      subst er
      refine thnF got6 fun _ s7 ⟨x, H7, I7, rx, yx, at7, none7⟩ => ?_
      have held := I7.pinned (stay I7 none7) (T.obj _ _ at7)
      refine thnF (qg.run _ s7 _ H7 x u _ held rx (step x H7 yx)) fun _ s8 ⟨σ8, H8, I8, wiped, next8⟩ => ?_
      refine thnF (qt.run _ s8 σ8 H8 _ I8 next8) fun b s9 ⟨H9, I9, next9⟩ => ?_
      have close : ∀ {s' : Shared} {H' : Hp}, Inv (X.blk s3 H3 scope ce fp) ([] ++ pinsAt fp s7.heap) σ8 H' s' → Nx H' → ∃ k, k < n ∧ ∃ i H', Inv (X.blk s3 H3 scope ce fp) [] (wipe σ (own.map (·.2))) H' s' ∧ tn i s'.heap ∧ (∀ b ∈ fp, H' b = none) ∧ W i k H' := fun {s' H'} I' nx => by
        obtain ⟨k, lt, w'⟩ := less H' nx
        have kept : ∀ b ∈ fp, ∀ o, s7.heap.get? b = some o → s'.heap.get? b = some o ∧ H' b = none := fun b hb o e => by
          have z := I'.pin (b, o) (List.mem_append_right _ (List.mem_append_right _ (mem_pinsAt hb e)))
          exact ⟨z.1, z.2.1⟩
        have len8 : (wipe σ (own.map (·.2))).length = σ8.length := by rw [← wiped, wipe_length]
        refine ⟨k, lt, i + 1, H', (I'.unpinned (pins := [])).weak len8 (fun j v e => ?_), T.keep _ _ _ at7 fun b hb o e => (kept b hb o e).1, fun b hb => ?_, w'⟩
        · rw [← wiped] at e; exact (wipe_some e).1
        · obtain ⟨o, e, _⟩ := T.obj _ _ at7 b hb
          exact (kept b hb o e).2
      cases b with
      | false => exact close I9 next9
      | true =>
        refine thnF (qe.run _ s9 σ8 H9 _ I9 next9) fun z s10 ⟨y, H10, I10, ry, nx⟩ => ?_
        exact sw.put (X.blk s3 H3 scope ce fp) rfl rfl rfl hu _ σ8 H10 s10 A y z Nx _ _ I10 ry nx fun H' s' I' n' => close I' n'
  exact PpSet.codeAny_compStart_set loop (T.self X.A 0 _ _ _ at4 loop)
theorem sc_it {J : It} {n : Nat} {Gd : Hp → Prop} {Y : Nat → Hp → V → Hp → Prop} (wk : Walk J n Gd Y) {vs : List Nat} {σ : L2.St} {H1 : Hp} {A : Addr} {Qd : Hp → Prop} (Pv : Nat → Hp → Prop) (h0 : Pv 0 (upd H1 A (fresh A))) (hG : ∀ i H, i ≤ n → Pv i H → Gd H)
    (hs : ∀ i x H H', i < n → Pv i H → Y i H x H' → g x (wipe σ vs) H' fun σ2 H2 => wipe σ2 vs = wipe σ vs ∧ tt σ2 H2 fun b H3 => if b = true then te σ2 H3 fun y H4 => add A y H4 (Pv (i + 1)) else Pv (i + 1) H3)
    (hd : ∀ H, Pv n H → Qd H) : ∃ W : Nat → Nat → Hp → Prop, (∃ m, W 0 m (upd H1 A (fresh A))) ∧ ∀ i m H, W i m H → (J.stop i H ∧ Qd H) ∨
      (J.go i H ∧ ∃ Nx : Hp → Prop, (∀ H', Nx H' → ∃ m', m' < m ∧ W (i + 1) m' H') ∧ ∀ x H', J.yld i H x H' → g x (wipe σ vs) H' fun σ2 H2 => wipe σ2 vs = wipe σ vs ∧ tt σ2 H2 fun b H3 => if b = true then te σ2 H3 fun y H4 => add A y H4 Nx else Nx H3) := by
  refine ⟨fun i m H => m + i = n ∧ Pv i H, ⟨n, by omega, h0⟩, ?_⟩
  rintro i m H ⟨hm, p⟩
  have q := hG i H (by omega) p
  rcases Nat.lt_or_ge i n with lt | ge
  · exact .inr ⟨wk.goes i H lt q, Pv (i + 1), fun H' p' => ⟨m - 1, by omega, by omega, p'⟩, fun x H' y => hs i x H H' lt p (wk.yields i H x H' lt q y)⟩
  · have e : i = n := by omega
    subst e
    exact .inl ⟨wk.stops H q, hd H p⟩
/-! ints -/
end
end
end NL
/-! ### the data layer: sets of ints, dict comprehensions -/
namespace NL
noncomputable section
open PySem L2
def insI' (acc : List Int) (k : Int) : List Int := if k ∈ acc then acc else acc ++ [k]
/-- the different ones, in the order in which they come -/
def ddI (ns : List Int) : List Int := ns.foldl insI' []
def scGo (g : Tgt) (c : Tst) (Fe : Ex) (ρ : Env) : List D → SrcT → Rs (List Int)
  | [], S => .ok [] S
  | d :: ds, S => match g d ρ with
    | none => .bad
    | some ρ' => (c ρ' S).bind fun b S1 => if b = true then (Fe ρ' S1).bind fun y S2 => match y with
        | .int k => (scGo g c Fe ρ ds S2).bind fun ys S3 => .ok (k :: ys) S3
        | _ => .bad
      else scGo g c Fe ρ ds S1
def setCF (is : List Nat) (FI : Exs) (g : Tgt) (c : Tst) (Fe : Ex) : Ex := fun ρ S => (FI ρ S).bind fun ds S1 => if ds.length ≤ 4000 then (scGo g c Fe (wipeE ρ is) ds S1).bind fun ys S2 => .ok (.set (ddI ys)) S2 else .bad
end
end NL
/-! ### the data layer: dict comprehensions, built-ins on sets -/
namespace NL
noncomputable section
open PySem L2
def dcGo (g : Tgt) (c : Tst) (Fk Fv : Ex) (ρ : Env) : List D → SrcT → Rs (List (Key × D))
  | [], S => .ok [] S
  | d :: ds, S => match g d ρ with
    | none => .bad
    | some ρ' => (c ρ' S).bind fun b S1 => if b = true then (Fk ρ' S1).bind fun y S2 => (Fv ρ' S2).bind fun z S3 => match keyD y with
        | some k => (dcGo g c Fk Fv ρ ds S3).bind fun ys S4 => .ok ((k, z) :: ys) S4
        | none => .bad
      else dcGo g c Fk Fv ρ ds S1
def putsE (acc ys : List (Key × D)) : List (Key × D) := ys.foldl (fun es kv => putE es kv.1 kv.2) acc
def dctCF (is : List Nat) (FI : Exs) (g : Tgt) (c : Tst) (Fk Fv : Ex) : Ex := fun ρ S => (FI ρ S).bind fun ds S1 => if ds.length ≤ 4000 then (dcGo g c Fk Fv (wipeE ρ is) ds S1).bind fun ys S2 => .ok (.dct (putsE [] ys)) S2 else .bad
end
end NL
/-! ### the data layer: sorted(set), len(set), extend, index, list(range) -/
namespace NL
noncomputable section
open PySem PySem.Spec PyProof.Rows L2
section
variable {X : Cx} {G : Gm} {m m' : Bool} {O O' Ol : List Nat} {E : XK} {e tg : Expr} {F F1 F2 : Ex} {Fs : Exs} {st : Stmt}
/-! sorted(set) -/
/-! len(set) -/
/-! len(set(xs)), xs a list of ints, equal ones told once -/
/-! xs.extend(e), xs of this def's own -/
def extS (i : Nat) (F : Ex) : Sx := fun ρ S => match ρ[i]? with
  | some (some (.lst ds)) => (F ρ S).bind fun d S1 => match d with
    | .lst es => if ds.length + es.length ≤ 100000 then .ok (.nx, ρ.set i (some (.lst (ds ++ es)))) S1 else .bad
    | _ => .bad
  | _ => .bad
/-! xs.index(x), plain things -/
def idxOfD (c x : D) : Option D := match c with
  | .lst ds => if (isSc x && ds.all isSc) = true then (ds.findIdx? fun z => eqV (vOf z) (vOf x)).map fun j => .int (j : Nat) else none
  | _ => none
def idxOfF (F1 F2 : Ex) : Ex := fun ρ S => (F1 ρ S).bind fun c S1 => match c with
  | .lst _ => (F2 ρ S1).bind fun x S2 => optF (idxOfD c x) S2
  | _ => .bad
/-! list(range(n)) -/
def lstRgF (F : Ex) : Ex := fun ρ S => (F ρ S).bind fun d S1 => match d with
  | .int n => if 0 ≤ n ∧ n ≤ 100000 then .ok (.lst (rngD 0 n.toNat)) S1 else .bad
  | _ => .bad
end
end
end NL
/-! ### the data layer: return [left.pop(e) for x in xs], left a list of this def's own -/
namespace NL
noncomputable section
open PySem L2
def popGo (g : Tgt) (i : Nat) (F : Ex) : List D → Env → SrcT → Rs (List D)
  | [], _, S => .ok [] S
  | d :: ds, ρ, S => match g d ρ with
    | none => .bad
    | some ρ' => match ρ[i]? with
      | some (some (.lst xs)) => (F ρ' S).bind fun k S1 => match k with
        | .int j => if 0 ≤ j ∧ j ≤ 1000000 then match xs[j.toNat]? with
            | some y => (popGo g i F ds (ρ.set i (some (.lst (xs.eraseIdx j.toNat)))) S1).bind fun ys S2 => .ok (y :: ys) S2
            | none => .bad
          else .bad
        | _ => .bad
      | _ => .bad
def popS (is : List Nat) (FI : Exs) (g : Tgt) (i : Nat) (F : Ex) : Sx := fun ρ S => (FI ρ S).bind fun ds S1 => if ds.length ≤ 4000 then (popGo g i F ds (wipeE ρ is) S1).bind fun ys S2 => .ok (.ret (.lst ys), ρ) S2 else .bad
end
end NL
/-! ### the data layer: several names at once, some of them owned -/
namespace NL
noncomputable section
open PySem L2
section
variable {X : Cx} {G : Gm} {m m' : Bool} {O O1 O2 O' Ol : List Nat} {E : XK} {e tg : Expr} {es : List Expr} {F F1 F2 : Ex} {Fs : Exs}
variable {φ : Fr} {σ σ2 : L2.St} {B H B' H' H0 : Hp} {ρ ρ2 : Env} {S S' : SrcT} {st : Stmt}
theorem New.go {a : Addr} {o : HO} {d : NL.D} (n : New G φ O σ false B H S a o d) (g : Go φ B H B' H') (sub : Same B' H') (hv0 : G.v = false) (hv1 : φ.v = false) : New G φ O σ false B' H' S' a o d := by
  have at2 : H' a = some o := by
    have := g.h hv1 a o (by rw [hideP_at n.np]; exact n.at')
    rw [hideP_at n.np] at this; exact this
  have dat2 : DO G φ.p B o d := n.dat
  refine ⟨at2, ?_, n.n0, n.np, n.dis, DO.same g.b dat2, fun hv => by rw [hv0] at hv; cases hv⟩
  cases hb : B' a with
  | none => rfl
  | some o' =>
    have e : o' = o := by have := sub a o' hb; rw [at2] at this; exact (Option.some.inj this).symm
    subst e
    rcases g.n a o' hb dat2.mut with q | q
    · rw [n.nB] at q; cases q
    · rw [n.at'] at q; cases q
/-- values, some of them new -/
inductive MX (G : Gm) (φ : Fr) (O : List Nat) (σ : L2.St) (B H H0 : Hp) : List Bool → List V → List NL.D → List Addr → Prop
  | nil : MX G φ O σ B H H0 [] [] [] []
  | old {v : V} {d : NL.D} {ks : List Bool} {vs : List V} {ds : List NL.D} {as : List Addr} : DV G φ.p B v d → MX G φ O σ B H H0 ks vs ds as → MX G φ O σ B H H0 (false :: ks) (v :: vs) (d :: ds) as
  | new {a : Addr} {o : HO} {d : NL.D} {ks : List Bool} {vs : List V} {ds : List NL.D} {as : List Addr} {S : SrcT} : New G φ O σ false B H S a o d → H0 a = none → a ∉ as → MX G φ O σ B H H0 ks vs ds as → MX G φ O σ B H H0 (true :: ks) (.ref a :: vs) (d :: ds) (a :: as)
theorem MX.go {ks : List Bool} {vs : List V} {ds : List NL.D} {as : List Addr} (x : MX G φ O σ B H H0 ks vs ds as) (g : Go φ B H B' H') (sub : Same B' H') (hv0 : G.v = false) (hv1 : φ.v = false) : MX G φ O σ B' H' H0 ks vs ds as := by
  induction x with
  | nil => exact .nil
  | old hd _ ih => exact .old (hd.same g.b) ih
  | new n h0 hn _ ih => exact .new (S := ⟨0, 0, 0, fun _ => none⟩) (n.go g sub hv0 hv1) h0 hn ih
theorem MX.start {H1 : Hp} {ks : List Bool} {vs : List V} {ds : List NL.D} {as : List Addr} (x : MX G φ O σ B H H0 ks vs ds as) (g : ∀ a, H0 a = none → H1 a = none) : MX G φ O σ B H H1 ks vs ds as := by
  induction x with
  | nil => exact .nil
  | old hd _ ih => exact .old hd ih
  | new n h0 hn _ ih => exact .new n (g _ h0) hn ih
theorem MX.free {ks : List Bool} {vs : List V} {ds : List NL.D} {as : List Addr} (x : MX G φ O σ B H H0 ks vs ds as) : ∀ a ∈ as, H0 a = none := by
  induction x with
  | nil => exact fun a h => nomatch h
  | old hd _ ih => exact ih
  | new n h0 hn _ ih =>
    intro a h
    rcases List.mem_cons.mp h with h | h
    · rw [h]; exact h0
    · exact ih a h
theorem MX.len {ks : List Bool} {vs : List V} {ds : List NL.D} {as : List Addr} (x : MX G φ O σ B H H0 ks vs ds as) : vs.length = ks.length ∧ ds.length = ks.length := by
  induction x with
  | nil => exact ⟨rfl, rfl⟩
  | old hd _ ih => exact ⟨congrArg Nat.succ ih.1, congrArg Nat.succ ih.2⟩
  | new n h0 hn _ ih => exact ⟨congrArg Nat.succ ih.1, congrArg Nat.succ ih.2⟩
def PgM (G : Gm) (φ : Fr) (O : List Nat) (E : XK) (σ : L2.St) (ρ : Env) (B H : Hp) (ks : List Bool) (r : Rs (List NL.D)) (Q : List V → Hp → Prop) : Prop := match r with
  | .bad => False
  | .exc c d S => XP G φ E B H c d S
  | .ok ds S' => ∀ vs as B' H', Go φ B H B' H' → Rep G φ O σ B' H' ρ S' → MX G φ O σ B' H' H ks vs ds as → Q vs H'
  | .all p k => ∀ x, p x → PgM G φ O E σ ρ B H ks (k x) Q
theorem PgM.go {B1 H1 : Hp} {ks : List Bool} {r : Rs (List NL.D)} {Q : List V → Hp → Prop} (g : Go φ B H B1 H1) (h : PgM G φ O E σ ρ B H ks r Q) : PgM G φ O E σ ρ B1 H1 ks r Q := by
  induction r with
  | bad => exact h
  | exc c d S => exact XP.go g h
  | ok ds S => exact fun vs as B' H' g2 R x => h vs as B' H' (g.trans g2) R (x.start g.d)
  | all p k ih => exact fun x px => ih x (h x px)
/-! the stores -/
def setsE : List Nat → List NL.D → Env → Env
  | i :: is, d :: ds, ρ => setsE is ds (ρ.set i (some d))
  | _, _, ρ => ρ
def mulS (is : List Nat) (Fs : Exs) : Sx := fun ρ S => (Fs ρ S).bind fun ds S1 => if (is.all fun i => decide (i < ρ.length)) = true then .ok (.nx, setsE is ds ρ) S1 else .bad
end
end
end NL
/-! ### the data layer: a def that gives a new list and a number; the caller owns the list -/
namespace NL
noncomputable section
open PySem L2
section
variable {X : Cx} {G : Gm} {m m' : Bool} {O O1 O2 O' Ol : List Nat} {E : XK} {e tg : Expr} {es : List Expr} {F F1 F2 : Ex} {Fs : Exs}
variable {φ : Fr} {σ σ2 : L2.St} {B H B' H' H0 : Hp} {ρ ρ2 : Env} {S S' : SrcT} {st : Stmt} {sts rest : List Stmt} {A A1 A2 : Sx}
def PostF (G : Gm) (φ : Fr) (E : XK) (D : Ends) (B : Hp) (r : Rs (Fl × Env)) : Prop := match r with
  | .bad => False
  | .exc c d S => XS G φ E B c d S
  | .ok (.ret (.tup [.lst es, .int k]), _) S => ∀ t a xs B' H', Same B B' → Rep G φ [] [] B' H' [] S → H' t = some (.tup [.ref a, .int k]) → H' a = some (.lst xs) → B' a = none → φ.H0 a = none → φ.p ≠ some a → DVs G φ.p B' xs es → D.rt (.ref t) H'
  | .all p k => ∀ x, p x → PostF G φ E D B (k x)
  | _ => False
theorem PostF.same {D : Ends} {r : Rs (Fl × Env)} (s : Same B B') (h : PostF G φ E D B r) : PostF G φ E D B' r := by
  induction r with
  | bad => exact h
  | exc c d S => exact fun B2 H2 cv od s2 => h B2 H2 cv od (s.trans s2)
  | all p k ih => exact fun x px => ih x (h x px)
  | ok q S =>
    unfold PostF at h ⊢
    split at h
    · exact h
    · rename_i e; cases e
    · exact fun t a xs B2 H2 s2 => h t a xs B2 H2 (s.trans s2)
    · rename_i e; cases e
    · exact h.elim
def freS (i j : Nat) (f : List NL.D → SrcT → Rs NL.D) (Fs : Exs) : Sx := fun ρ S => (Fs ρ S).bind fun ds S1 => (f ds S1).bind fun d S2 => match d with
  | .tup [.lst es, .int k] => if (decide (i < ρ.length) && decide (j < ρ.length)) = true then .ok (.nx, (ρ.set i (some (.lst es))).set j (some (.int k))) S2 else .bad
  | _ => .bad
end
end
end NL
/-! ### zip of a list and a tuple -/
namespace NL
noncomputable section
open PySem L2 PySem.Spec PyProof.Rows
def zipMF (Fs : Exs) : Exs := fun ρ S => (Fs ρ S).bind fun ds S1 => match ds with
  | [.lst a, .tup b] => .ok (zipD a b) S1
  | _ => .bad
end
end NL
/-! ### x == y, x != y by a class's own __eq__, y of any type -/
namespace NL
noncomputable section
open PySem L2 PySem.Spec PyProof.Rows
section
variable {M : Model} {prog : Program} {w : World} {A : Around} {E : Value → Shared → Prop} {s : Shared} {K : PySem.W.Frag} {x C : Addr} {ox : Obj} {od : Option Obj} {b : Value}
theorem ne_bound {us : List Value} {Q : Option Value → Shared → Prop} (kin : K.In s.heap) (J : PySem.W.InstAt s.heap x ox C od) (hs : PySem.W.findIn K (.ref C) "__ne__" = some (some (.builtin "object.__ne__")))
    (h : wpAny M A (call (.builtin "object.__ne__") (.ref x :: us)) (fun v => Q (some v)) E s) : wpAny M A (callSpecialIfBound? (.ref x) "__ne__" us) Q E s := by
  simp only [callSpecialIfBound?, bindSpecialIfBound?]
  refine wpAny_holding (wpAny_bind (wpAny_bind (wpAny_bind (J.type.here ((PySem.W.looks_findIn kin hs).here ?_)))))
  have last : wpAny M A (call (.builtin "object.__ne__") ([.ref x] ++ us) >>= fun v => pure (some v)) Q E s := wpAny_bind (wpAny_mono h (fun v s' q => wpAny_pure q) fun _ _ q => q)
  refine wpAny_bind (wpAny_askSetting (wpAny_ite ?_))
  split
  · exact wpAny_bind (wpAny_of_eq (F.cmp_object.ne.bind _) (wpAny_pure (by exact last)))
  · exact wpAny_tryCatch (wpAny_bind (wpAny_of_eq (F.cmp_object.ne.bind _) (wpAny_pure (by exact last))))
theorem ne_entry {Q : Fin → Shared → Prop} (hu : A.units < cLine) (h : wpAny M A (callSpecialIfBound? (.ref x) "__eq__" [b]) (fun r s' => ∃ i : Bool, r = some (.bool i) ∧ Q (.done (.ret (.bool (!i)))) s') E s) :
    wpAny M A (Builtin.«object.__ne__» ⟨[.ref x, b], []⟩) Q E s := by
  unfold Builtin.«object.__ne__»
  refine wpAny_bind (wpAny_pure ?_)
  refine wpAny_bind (wpAny_cRoomFor hu ?_)
  refine wpAny_bind (wpAny_mono h (fun r s' q => ?_) fun _ _ q => q)
  obtain ⟨i, rfl, q⟩ := q
  refine wpAny_bind (wpAny_truthy_bool ?_)
  exact wpAny_pure q
end
/-- what a class of the program must be: no __ne__ of its own, instances with a dict, a plain class -/
structure OwnC (K : PySem.W.Frag) (C : Addr) : Prop where
  ha : PySem.W.findIn K (.ref C) "__class__" = some (some (.builtin "object.__class__"))
  hn : PySem.W.specialIn K (.builtin "object.__class__") "__get__" = some (some (.builtin "getset_descriptor.__get__"))
  htk : PySem.W.takesIn K (.builtin "object.__class__") = some true
  hm : PySem.W.mroIn K C (.type "object") = some true
  hc : PySem.W.isClsIn K C = true
  ht : PySem.W.typeIn K (.ref C) = some (.type "type")
  ne : PySem.W.findIn K (.ref C) "__ne__" = some (some (.builtin "object.__ne__"))
/-- isinstance of a value of a built-in type, an own class asked -/
theorem kit_own {K : PySem.W.Frag} {C : Addr} {T : String} {ms : List Value} (h : OwnC K C) (e : fastBuiltinMro T = some ms) (hm : ms.contains (.ref C) = false) : PySem.W.kitOne K (.type T) (.ref C) = some false := by
  have hne : ((Value.type T) == .ref C) = false := by
    cases q : ((Value.type T) == .ref C) with
    | false => rfl
    | true => exact nomatch (eq_of_beq q)
  unfold PySem.W.kitOne PySem.W.kitCls
  rw [hne, if_neg Bool.false_ne_true]
  dsimp only
  rw [if_pos (by rw [show (PySem.W.clsIn K C).isSome = true from h.hc, h.ht, Bool.true_and]; exact beq_self_eq_true _)]
  show (fastBuiltinMro T).map (·.contains (.ref C)) = some false
  rw [e, Option.map_some, hm]
theorem first_own {K : PySem.W.Frag} {C : Addr} {T : String} {ms : List Value} (e : fastBuiltinMro T = some ms) (hm : ms.contains (.ref C) = false) : PySem.W.notFirst K C (.type T) = true := by
  unfold PySem.W.notFirst
  have q : PySem.W.subIn K (.type T) (.ref C) = some false := by
    show (fastBuiltinMro T).map (·.contains (.ref C)) = some false
    rw [e, Option.map_some, hm]
  rw [q]; simp
section
variable {X : Cx} {CX : CXT} {n : Nat} {f C : Addr} {fd : FuncData} {ps : List Str} {sp : Sp} {E : XK}
/-- x == y, x != y, x of the class at C -/
def rCmpO (neg : Bool) (K : PySem.W.Frag) (C : Addr) (sp : Sp) (E : XK) : R2 := fun x y H Q => ∃ a dx fs t, x = .ref a ∧ H a = some (.ins C dx fs) ∧ TyX K H y t ∧ PySem.W.notFirst K C t = true ∧ sp [.ref a, y] H (fun v H' => ∃ i : Bool, v = .bl i ∧ Q (.bl (if neg then !i else i)) H') E
theorem op_eqC (F : FnOk X.prog X.w X.K X.mg X.base CX n f fd ps sp) (hroom : Room n X.A) (M : Meth X.K C "__eq__" f) (hb : Binds X.K fd ps []) (hx : Passes CX X E) : OpR X (compareOp .Eq) (rCmpO false X.K C sp E) := by
  intro pins s σ H x y v u Q I rx ry hq
  obtain ⟨a, dx, fs, t, rfl, ha, ht, hn, h⟩ := hq
  show wpAny (model X.prog X.w) X.A (richCompare .Eq v u) (EP X pins σ Q) X.xe s
  cases rx
  obtain ⟨mA, J, _⟩ := ins_get I.hok ha
  obtain ⟨od, J, _⟩ := J.look
  obtain ⟨m, hF⟩ := I.fr
  obtain ⟨PP, kx, hP, _⟩ := kit_of I ry ht
  refine PySem.W.cmp_K (op := .Eq) (tb := t) hroom.units0 hF I.ok.mod.kin J (kx.ty _ _ I.kIn hP) hn M.at_ M.fn ?_
  have r2 : Vals [V.ref a, y] [Value.ref a, u] := .cons rfl (.cons ry .nil)
  refine wpAny_mono (run_own F hroom rfl hb hx I r2 h) (fun v s' q => ?_) fun _ _ e => e
  obtain ⟨z, H', I', rz, i, rfl, q⟩ := q
  cases rz
  exact ⟨.bl i, H', I', rfl, q⟩
theorem op_neC (oc : OwnC X.K C) (Fo : FnOk X.prog X.w X.K X.mg X.base CX n f fd ps sp) (hroom : Room (n + 1) X.A) (M : Meth X.K C "__eq__" f) (hb : Binds X.K fd ps []) (hx : Passes CX X E) : OpR X (compareOp .NotEq) (rCmpO true X.K C sp E) := by
  intro pins s σ H x y v u Q I rx ry hq
  obtain ⟨a, dx, fs, t, rfl, ha, ht, hn, h⟩ := hq
  show wpAny (model X.prog X.w) X.A (richCompare .NotEq v u) (EP X pins σ Q) X.xe s
  cases rx
  obtain ⟨mA, J, _⟩ := ins_get I.hok ha
  obtain ⟨od, J, _⟩ := J.look
  obtain ⟨m, hF⟩ := I.fr
  obtain ⟨PP, kx, hP, _⟩ := kit_of I ry ht
  have r2 : Vals [V.ref a, y] [Value.ref a, u] := .cons rfl (.cons ry .nil)
  have hu0 : X.A.units < cLine := hroom.units0
  have hu1 : X.A.in1.units < cLine := hroom.in1.units0
  have inner : wpAny (model X.prog X.w) X.A (tryCompare (.ref a) "__ne__" u) (fun r s' => ∃ w, r = some w ∧ EP X pins σ Q w s') X.xe s := by
    unfold tryCompare
    refine wpAny_bind (ne_bound I.kIn J oc.ne ?_)
    refine wpAny_call (codeAny_call_builtin F.cmp_object.ne.plain F.cmpEntry_ne (PySem.W.check_slot F.cmpKind_ne F.cmpSplit_ne (J.type.andThen (PySem.W.looks_mroIn I.kIn oc.hm)) (F.cmpArgs_ne _ _) (ne_entry hu1 ?_)))
    refine PySem.W.ifBound_K I.kIn J M.at_ M.fn ?_
    refine wpAny_mono (run_own Fo hroom.in1 rfl hb hx I r2 h) (fun v s' q => ?_) fun _ _ e => e
    obtain ⟨z, H', I', rz, i, rfl, q⟩ := q
    cases rz
    exact ⟨i, rfl, wpAny_pure ⟨_, rfl, .bl (!i), H', I', rfl, q⟩⟩
  simp only [richCompare, cmpInfo_NotEq, oneThing_ref]
  refine wpAny_holding (wpAny_bind (wpAny_cRoomFor hu0 ?_))
  refine wpAny_bind (J.type.here (wpAny_bind ((kx.ty _ _ I.kIn hP).here ?_)))
  split
  · rename_i q
    have e : PySem.W.subIn X.K t (.ref C) = some false := by
      rcases Bool.or_eq_true_iff.mp hn with e | e
      · rw [beq_iff_eq.mp e] at q; simp at q
      · exact beq_iff_eq.mp e
    refine wpAny_bind ((PySem.W.looks_subIn I.kIn e).here ?_)
    simp only [Bool.false_eq_true, if_false]
    refine wpAny_bind (wpAny_mono inner (fun r s' z => ?_) fun _ _ e => e)
    obtain ⟨w, rfl, q⟩ := z
    exact wpAny_pure q
  · refine wpAny_bind (wpAny_pure ?_)
    simp only [Bool.false_eq_true, if_false]
    refine wpAny_bind (wpAny_mono inner (fun r s' z => ?_) fun _ _ e => e)
    obtain ⟨w, rfl, q⟩ := z
    exact wpAny_pure q
end
/-! the data layer -/
/-- data of a built-in type -/
def baseK : D → Bool
  | .non => true
  | .bl _ => true
  | .int _ => true
  | .str _ => true
  | .lst _ => true
  | .tup _ => true
  | .dct _ => true
  | .dcT _ => true
  | _ => false
/-- p tells the data that stand for instances of the class at C -/
def InsK (G : Gm) (C : Addr) (p : D → Bool) : Prop := ∀ {q : Option Addr} {B : Hp} {v : V} {d : D}, DV G q B v d → p d = true → ∃ a dx fs, v = .ref a ∧ B a = some (.ins C dx fs)
theorem base_ty {G : Gm} {q : Option Addr} {B : Hp} {v : V} {d : D} {C : Addr} (h : DV G q B v d) (hb : baseK d = true) : ∃ T ms, TyX G.K B v (.type T) ∧ fastBuiltinMro T = some ms ∧ ms.contains (.ref C) = false := by
  have e : ∀ T : String, (fastBuiltinMro T).isSome = true → ∀ ms, fastBuiltinMro T = some ms → (ms.all fun m => match m with | .type _ => true | _ => false) = true → ∃ ms, fastBuiltinMro T = some ms ∧ ms.contains (.ref C) = false := fun T _ ms e1 e2 => ⟨ms, e1, by
    cases hc : ms.contains (.ref C) with
    | false => rfl
    | true =>
      rw [List.contains_iff_exists_mem_beq] at hc
      obtain ⟨y, hy, hye⟩ := hc
      have := List.all_eq_true.mp e2 y hy
      rw [← eq_of_beq hye] at this
      exact nomatch this⟩
  cases h with
  | non => obtain ⟨ms, h1, h2⟩ := e "NoneType" (by decide +kernel) [.type "NoneType", .type "object"] (by decide +kernel) (by decide +kernel); exact ⟨_, ms, TyX.base TyOf.non, h1, h2⟩
  | bl b => obtain ⟨ms, h1, h2⟩ := e "bool" (by decide +kernel) [.type "bool", .type "int", .type "object"] (by decide +kernel) (by decide +kernel); exact ⟨_, ms, TyX.base (TyOf.bl _), h1, h2⟩
  | int b => obtain ⟨ms, h1, h2⟩ := e "int" (by decide +kernel) [.type "int", .type "object"] (by decide +kernel) (by decide +kernel); exact ⟨_, ms, TyX.base (TyOf.int _), h1, h2⟩
  | str b => obtain ⟨ms, h1, h2⟩ := e "str" (by decide +kernel) [.type "str", .type "object"] (by decide +kernel) (by decide +kernel); exact ⟨_, ms, TyX.base (TyOf.str _), h1, h2⟩
  | lst ha hs => obtain ⟨ms, h1, h2⟩ := e "list" (by decide +kernel) [.type "list", .type "object"] (by decide +kernel) (by decide +kernel); exact ⟨_, ms, TyX.base (TyOf.lst ha), h1, h2⟩
  | tup ha hs => obtain ⟨ms, h1, h2⟩ := e "tuple" (by decide +kernel) [.type "tuple", .type "object"] (by decide +kernel) (by decide +kernel); exact ⟨_, ms, SqT.tyx ha, h1, h2⟩
  | dct ha _ hs => obtain ⟨ms, h1, h2⟩ := e "dict" (by decide +kernel) [.type "dict", .type "object"] (by decide +kernel) (by decide +kernel); exact ⟨_, ms, TyX.base (TyOf.dK ha), h1, h2⟩
  | dcT ha _ hs => obtain ⟨ms, h1, h2⟩ := e "dict" (by decide +kernel) [.type "dict", .type "object"] (by decide +kernel) (by decide +kernel); exact ⟨_, ms, TyX.base (TyOf.dT ha), h1, h2⟩
  | _ => cases hb
section
variable {X : Cx} {G : Gm} {m : Bool} {O : List Nat} {E E' : XK} {e : Expr} {es : List Expr} {F F1 F2 : Ex} {Fs : Exs} {C : Addr} {p : D → Bool}
def isOwnD (p : D → Bool) : D → Option D := fun d => if p d = true then some (.bl true) else if baseK d = true then some (.bl false) else none
theorem de_isOwn (hp : InsK G C p) (cl : Cls G.K C) (oc : OwnC G.K C) (h : PE X e (tCB (rIsi X.K) (tCons (tD G true O E F) (tCons (tC (.ref C)) tNil)))) (hK : X.K = G.K := by rfl) : PE X e (tD G m O E (unF (isOwnD p) F)) := by
  refine h.mono fun σ H Q ⟨φ, B, ρ, S, R, hp'⟩ => ⟨φ, B, ρ, S, R, ?_⟩
  rw [hK]
  refine Pg.bind hp' fun d S1 w B1 H1 g R1 hw h1 => ?_
  obtain ⟨r, hr, q⟩ := h1.opt
  have hw := dv_H R1 hw
  unfold isOwnD at hr
  split at hr
  · rename_i hk
    cases hr
    obtain ⟨a, dx, fs, rfl, ha⟩ := hp hw hk
    exact ⟨_, _, _, _, true, rfl, .own C, TyX.base (TyOf.ins ha cl oc.ha oc.hn oc.htk oc.hm), if_pos (beq_self_eq_true _), q _ _ _ Go.refl R1 (.bl _)⟩
  · split at hr
    · rename_i hk
      cases hr
      obtain ⟨T, ms, t1, t2, t3⟩ := base_ty (C := C) hw hk
      exact ⟨_, _, _, _, false, rfl, .own C, t1, kit_own oc t2 t3, q _ _ _ Go.refl R1 (.bl _)⟩
    · cases hr
def eqOF (neg : Bool) (p : D → Bool) (f : List D → SrcT → Rs D) (F1 F2 : Ex) : Ex := fun ρ S => (F1 ρ S).bind fun d1 S1 => (F2 ρ S1).bind fun d2 S2 => if (p d1 && (p d2 || baseK d2)) = true then (noX (f [d1, d2] S2)).bind fun r S3 => match r with
    | .bl b => .ok (.bl (if neg then !b else b)) S3
    | _ => .bad
  else .bad
theorem de_eqO {neg : Bool} {f : List D → SrcT → Rs D} (hp : InsK G C p) (cl : Cls G.K C) (oc : OwnC G.K C) (h : PE X e (tOp (rCmpO neg X.K C (spD G f) E') (tD G true O E F1) (tD G true O E F2))) (hK : X.K = G.K := by rfl) (hv0 : G.v = false := by rfl) : PE X e (tD G m O E (eqOF neg p f F1 F2)) := by
  refine h.mono fun σ H Q ⟨φ, B, ρ, S, R, hq⟩ => ⟨φ, B, ρ, S, R, ?_⟩
  rw [hK]
  refine Pg.bind hq fun d1 S1 v1 B1 H1 g R1 hw h1 => ⟨φ, B1, ρ, S1, R1, ?_⟩
  refine Pg.bind h1 fun d2 S2 v2 B2 H2 g2 R2 hw2 h2 => ?_
  split at h2
  · rename_i hk
    simp only [Bool.and_eq_true, Bool.or_eq_true] at hk
    have hw1 := hw.same (g2.bs true)
    obtain ⟨a, dx, fs, rfl, ha⟩ := hp (dv_H R2 hw1) hk.1
    obtain ⟨t, ht, hn⟩ : ∃ t, TyX G.K H2 v2 t ∧ PySem.W.notFirst G.K C t = true := by
      rcases hk.2 with k | k
      · obtain ⟨a2, dx2, fs2, rfl, ha2⟩ := hp (dv_H R2 hw2) k
        exact ⟨_, TyX.base (TyOf.ins ha2 cl oc.ha oc.hn oc.htk oc.hm), by unfold PySem.W.notFirst; simp⟩
      · obtain ⟨T, ms, t1, t2, t3⟩ := base_ty (C := C) (dv_H R2 hw2) k
        exact ⟨_, t1, first_own t2 t3⟩
    refine ⟨a, dx, fs, t, rfl, ha, ht, hn, sp_callN (E := E) R2 (.cons hw1 (.cons hw2 .nil)) ?_ hv0⟩
    refine Pg.bind h2 fun r S3 v B3 H3 g3 R3 hw3 h3 => ?_
    split at h3
    · cases hw3; exact ⟨_, rfl, Pg.ok h3 R3 (.bl _)⟩
    · exact h3.elim
  · exact h2.elim
theorem dt_eqO {neg : Bool} {f : List D → SrcT → Rs D} (hp : InsK G C p) (cl : Cls G.K C) (oc : OwnC G.K C) (h : PT X e (tTest (tOp (rCmpO neg X.K C (spD G f) E') (tD G true O E F1) (tD G true O E F2)))) (hK : X.K = G.K := by rfl) (hv0 : G.v = false := by rfl) : PT X e (tBt G O E (blT (eqOF neg p f F1 F2))) := by
  refine h.mono fun σ H Q ⟨φ, B, ρ, S, R, hq⟩ => ⟨φ, B, ρ, S, R, ?_⟩
  rw [hK]
  have hq := Pg.blT (rel := DV G) hq
  refine Pg.bind hq fun d1 S1 v1 B1 H1 g R1 hw h1 => ⟨φ, B1, ρ, S1, R1, ?_⟩
  refine Pg.bind h1 fun d2 S2 v2 B2 H2 g2 R2 hw2 h2 => ?_
  split at h2
  · rename_i hk
    simp only [Bool.and_eq_true, Bool.or_eq_true] at hk
    have hw1 := hw.same (g2.bs true)
    obtain ⟨a, dx, fs, rfl, ha⟩ := hp (dv_H R2 hw1) hk.1
    obtain ⟨t, ht, hn⟩ : ∃ t, TyX G.K H2 v2 t ∧ PySem.W.notFirst G.K C t = true := by
      rcases hk.2 with k | k
      · obtain ⟨a2, dx2, fs2, rfl, ha2⟩ := hp (dv_H R2 hw2) k
        exact ⟨_, TyX.base (TyOf.ins ha2 cl oc.ha oc.hn oc.htk oc.hm), by unfold PySem.W.notFirst; simp⟩
      · obtain ⟨T, ms, t1, t2, t3⟩ := base_ty (C := C) (dv_H R2 hw2) k
        exact ⟨_, t1, first_own t2 t3⟩
    refine ⟨a, dx, fs, t, rfl, ha, ht, hn, sp_callN (E := E) R2 (.cons hw1 (.cons hw2 .nil)) ?_ hv0⟩
    refine Pg.bind h2 fun r S3 v B3 H3 g3 R3 hw3 h3 => ?_
    split at h3
    · cases hw3; exact ⟨_, rfl, Pg.ok h3 R3 (.bl _)⟩
    · exact h3.elim
  · exact h2.elim
def lenOF (p : D → Bool) (f : List D → SrcT → Rs D) (F : Ex) : Ex := fun ρ S => (F ρ S).bind fun d S1 => if p d = true then (noX (f [d] S1)).bind fun r S2 => match r with
    | .int i => if (decide (0 ≤ i) && okR i) = true then .ok (.int i) S2 else .bad
    | _ => .bad
  else .bad
end
end
end NL
/-! ### enumerate(xs, start=k), xs a list -/
namespace NL
noncomputable section
open PySem L2 PySem.Spec PyProof.Rows
/-! data -/
def enumKD (k : Int) (ds : List D) : List D := (List.range ds.length).zipWith (fun (i : Nat) d => D.tup [.int (k + (i : Int)), d]) ds
def enumKF (k : Int) (Fs : Exs) : Exs := fun ρ S => (Fs ρ S).bind fun ds S1 => match ds with
  | [.lst ds] => .ok (enumKD k ds) S1
  | _ => .bad
end
end NL
/-! ### the data layer: texts cut, classmethods -/
namespace NL
noncomputable section
open PySem L2 ClX
def splitF (F1 F2 : Ex) : Ex := fun ρ S => (F1 ρ S).bind fun d1 S1 => match d1 with
  | .str a => (F2 ρ S1).bind fun d2 S2 => match d2 with
    | .str b => if (!(b.length == 0) && decide (a.length ≤ 100000)) = true then .ok (.lst ((Txt.split a b).map D.str)) S2 else .bad
    | _ => .bad
  | _ => .bad
def partF (F1 F2 : Ex) : Ex := fun ρ S => (F1 ρ S).bind fun d1 S1 => match d1 with
  | .str a => (F2 ρ S1).bind fun d2 S2 => match d2 with
    | .str b => if (!(b.length == 0) && decide (a.length ≤ 100000)) = true then .ok (.tup [.str (Txt.partition a b).1, .str (Txt.partition a b).2.1, .str (Txt.partition a b).2.2]) S2 else .bad
    | _ => .bad
  | _ => .bad
section
variable {X : Cx} {G : Gm} {m m' : Bool} {O O' Ol : List Nat} {E : XK} {e tg : Expr} {es : List Expr} {F F1 F2 : Ex} {Fs : Exs}
/-! what the old layer promised -/
theorem Rep.more {φ : Fr} {σ : L2.St} {B H H' : Hp} {ρ : Env} {S : SrcT} (R : Rep G φ O σ B H ρ S) (sm : Same H H') : Go φ B H B H' ∧ Rep G φ O σ B H' ρ S := by
  have gd : ∀ a, H' a = none → H a = none := fun a h => by
    cases k : H a with
    | none => rfl
    | some x => rw [sm a x k] at h; cases h
  refine ⟨⟨Same.refl _, fun _ c x h => ?_, fun a o h _ => .inl h, gd⟩, ⟨R.sub.trans sm, fun a o hp hm h => sm _ _ (R.fr a o hp hm h), R.cl, fun q hq => ⟨(R.src q hq).1, sm _ _ (R.src q hq).2.1, (R.src q hq).2.2⟩, R.b0, R.len, R.val, fun i hi => ?_, R.dis, fun a h => R.al a (gd a h), fun hv b c hc => ?_, R.vv, R.nov⟩⟩
  · unfold hideP at h ⊢
    split at h
    · cases h
    · rename_i e
      rw [if_neg e]; exact sm _ _ h
  · obtain ⟨a, o, d, h1, h2, h3, h4, h5, h6, h7⟩ := R.own i hi
    exact ⟨a, o, d, h1, h2, sm _ _ h3, h4, h5, h6, h7⟩
  · obtain ⟨h1, h2, h3, h4⟩ := R.mem hv b c hc
    exact ⟨h1.move (Same.refl _) fun o h => sm _ _ h, h2, h3, h4⟩
def f_is_name : List D → SrcT → Rs D := fun ds S => match ds with
  | [.str z] => if z.length ≤ 10000 then .ok (.bl (isNameB z)) S else .bad
  | _ => .bad
/-! the class's own call, C.m(..) and cls(..) -/
def callC (f : List D → SrcT → Rs D) (Fs : Exs) : Ex := fun ρ S => (Fs ρ S).bind fun ds S1 => f (.cls :: ds) S1
def callL (F0 : Ex) (f : List D → SrcT → Rs D) (Fs : Exs) : Ex := fun ρ S => (F0 ρ S).bind fun d S1 => match d with
  | .cls => (Fs ρ S1).bind f
  | _ => .bad
/-! a dict and {} -/
/-! a sign in a text -/
def inSD (neg : Bool) : D → D → Option D
  | .str a, .str z => match a.cps.toList with
    | [c] => some (.bl (if neg then !decide (c ∈ z.cps.toList) else decide (c ∈ z.cps.toList)))
    | _ => none
  | _, _ => none
theorem one_sign {a : Str} {c : Nat} (h : a.cps.toList = [c]) : a = ⟨#[c]⟩ := Str.ext' (Array.toList_inj.mp (by rw [h]))
theorem bin_inS : Bin2 G true m' (fun x y H Q => ∃ (c : Nat) (z : Str), x = .str ⟨#[c]⟩ ∧ y = .str z ∧ Q (.bl (decide (c ∈ z.cps.toList))) H) (inSD false) := by
  intro φ O σ B H ρ S v1 v2 d1 d2 d Q R h1 h2 e q
  unfold inSD at e
  split at e
  · split at e
    · rename_i hc
      cases h1; cases h2; cases e
      exact ⟨_, _, by rw [one_sign hc], rfl, q _ _ _ Go.refl R (.bl _)⟩
    · cases e
  · cases e
end
end
end NL
/-! ### what a plain function of the data layer gives -/
namespace NL
noncomputable section
open PySem L2
section
variable {α β : Type} {P : α → SrcT → Prop} {Q : β → SrcT → Prop} {S : SrcT}
theorem sat_bind {r : Rs β} {k : β → SrcT → Rs α} : (r.bind k).sat P ↔ r.sat fun b S => (k b S).sat P := by
  induction r with
  | all p f ih => exact ⟨fun h x px => (ih x).mp (h x px), fun h x px => (ih x).mpr (h x px)⟩
  | _ => exact Iff.rfl
theorem Rs.sat.mono {r : Rs α} {P' : α → SrcT → Prop} (h : r.sat P) (hp : ∀ a S, P a S → P' a S) : r.sat P' := by
  induction r with
  | ok a S => exact hp a S h
  | bad => exact h
  | exc _ _ _ => exact h
  | all p f ih => exact fun x px => ih x (h x px)
end
theorem draw_sat {P : D → SrcT → Prop} {S : SrcT} {m : Int} (h0 : 0 < m) (h1 : m < 1000000) (hc : S.c ≤ 990000) (h : ∀ r S', 0 ≤ r → r < m → S'.c = S.c + 1 → P (.int r) S') : (f__law_draw [.src, .int m] S).sat P := by
  obtain ⟨r, S', e, r0, r1, c1⟩ := draw_ok h0 h1 hc
  rw [e]; exact h r S' r0 r1 c1
theorem atI_ex {α : Type} {xs : List α} {r : Int} (h0 : 0 ≤ r) (h1 : r < (xs.length : Int)) : ∃ v, atI xs r = some v ∧ v ∈ xs := atI_mem h0 h1
/-! a list is walked -/
theorem for_sat {g : Tgt} {A : Sx} {P : Fl × Env → SrcT → Prop} (I : Nat → Env → SrcT → Prop) {ds : List D}
    (hs : ∀ i d ρ S, ds[i]? = some d → I i ρ S → ∃ ρ1, g d ρ = some ρ1 ∧ (A ρ1 S).sat fun r S' => match r with
      | (.nx, ρ2) => I (i + 1) ρ2 S'
      | (.cont, ρ2) => I (i + 1) ρ2 S'
      | (.brk, ρ2) => P (.nx, ρ2) S'
      | (.ret d, ρ2) => P (.ret d, ρ2) S')
    (he : ∀ ρ S, I ds.length ρ S → P (.nx, ρ) S) {ρ : Env} {S : SrcT} (h0 : I 0 ρ S) : (forGo g A ds ρ S).sat P := by
  have key : ∀ (n i : Nat) (ρ : Env) (S : SrcT), i + n = ds.length → I i ρ S → (forGo g A (ds.drop i) ρ S).sat P := by
    intro n
    induction n with
    | zero =>
      intro i ρ S hi h
      rw [List.drop_eq_nil_of_le (by omega)]
      have : i = ds.length := by omega
      subst this
      exact he ρ S h
    | succ n ih =>
      intro i ρ S hi h
      have hlt : i < ds.length := by omega
      rw [List.drop_eq_getElem_cons hlt, forGo]
      obtain ⟨ρ1, e1, h1⟩ := hs i ds[i] ρ S (List.getElem?_eq_getElem hlt) h
      rw [e1]
      dsimp only
      rw [sat_bind]
      refine h1.mono fun r S' hr => ?_
      match r, hr with
      | (.nx, ρ2), hr => exact ih (i + 1) ρ2 S' (by omega) hr
      | (.cont, ρ2), hr => exact ih (i + 1) ρ2 S' (by omega) hr
      | (.brk, ρ2), hr => exact hr
      | (.ret d, ρ2), hr => exact hr
  simpa using key ds.length 0 ρ S (by omega) h0
/-- a comprehension without a test -/
theorem lc_sat {g : Tgt} {c : Tst} {Fe : Ex} {ρ : Env} {P : List D → SrcT → Prop} (I : Nat → List D → SrcT → Prop) {ds : List D}
    (hs : ∀ i d acc S, ds[i]? = some d → I i acc S → ∃ ρ1, g d ρ = some ρ1 ∧ (c ρ1 S).sat fun b S1 => if b = true then (Fe ρ1 S1).sat fun y S2 => I (i + 1) (acc ++ [y]) S2 else I (i + 1) acc S1)
    (he : ∀ acc S, I ds.length acc S → P acc S) {S : SrcT} (h0 : I 0 [] S) : (lcGo g c Fe ρ ds S).sat P := by
  have key : ∀ (n i : Nat) (acc : List D) (S : SrcT), i + n = ds.length → I i acc S → (lcGo g c Fe ρ (ds.drop i) S).sat fun ys S' => P (acc ++ ys) S' := by
    intro n
    induction n with
    | zero =>
      intro i acc S hi h
      rw [List.drop_eq_nil_of_le (by omega)]
      have : i = ds.length := by omega
      subst this
      show P (acc ++ []) S
      rw [List.append_nil]; exact he acc S h
    | succ n ih =>
      intro i acc S hi h
      have hlt : i < ds.length := by omega
      rw [List.drop_eq_getElem_cons hlt, lcGo]
      obtain ⟨ρ1, e1, h1⟩ := hs i ds[i] acc S (List.getElem?_eq_getElem hlt) h
      rw [e1]
      dsimp only
      rw [sat_bind]
      refine h1.mono fun b S1 hb => ?_
      cases b with
      | false => exact ih (i + 1) acc S1 (by omega) hb
      | true =>
        simp only [if_true] at hb ⊢
        rw [sat_bind]
        refine hb.mono fun y S2 hy => ?_
        rw [sat_bind]
        refine (ih (i + 1) (acc ++ [y]) S2 (by omega) hy).mono fun ys S3 hq => ?_
        show P (acc ++ y :: ys) S3
        simpa using hq
  simpa using key ds.length 0 [] S (by omega) h0
/-! one step -/
section
variable {ρ : Env} {S : SrcT} {F F1 F2 F3 : Ex} {Fs : Exs} {L U : Exo} {A A1 A2 : Sx} {c c1 c2 : Tst} {i j n N : Nat} {P : D → SrcT → Prop} {Ps : List D → SrcT → Prop} {PS : Fl × Env → SrcT → Prop} {Pb : Bool → SrcT → Prop}
theorem fnF_sat {ds : List D} (hl : ds.length = n) (h : (A (ds.map some ++ List.replicate (N - n) none) S).sat fun r S' => match r with
  | (.ret d, _) => P d S'
  | (.nx, _) => P .non S'
  | _ => False) : (fnF n N A ds S).sat P := by
  unfold fnF
  rw [if_pos hl, sat_bind]
  refine h.mono fun r S' hr => ?_
  match r, hr with
  | (.ret d, _), hr => exact hr
  | (.nx, _), hr => exact hr
theorem seqS_sat (h : (A1 ρ S).sat fun r S1 => match r with
  | (.nx, ρ1) => (A2 ρ1 S1).sat PS
  | r => PS r S1) : (seqS A1 A2 ρ S).sat PS := by
  unfold seqS
  rw [sat_bind]
  refine h.mono fun r S' hr => ?_
  match r, hr with
  | (.ret d, _), hr => exact hr
  | (.nx, _), hr => exact hr
  | (.brk, _), hr => exact hr
  | (.cont, _), hr => exact hr
theorem nilS_sat (h : PS (.nx, ρ) S) : (nilS ρ S).sat PS := h
theorem brkS_sat (h : PS (.brk, ρ) S) : (brkS ρ S).sat PS := h
theorem contS_sat (h : PS (.cont, ρ) S) : (contS ρ S).sat PS := h
theorem setS_sat (h : (F ρ S).sat fun d S1 => PS (.nx, ρ.set i (some d)) S1) : (setS i F ρ S).sat PS := by unfold setS; rw [sat_bind]; exact h
theorem setN_sat (hi : i < ρ.length) (h : (F ρ S).sat fun d S1 => PS (.nx, ρ.set i (some d)) S1) : (setN i F ρ S).sat PS := by
  unfold setN; rw [sat_bind]
  refine h.mono fun d S1 hd => ?_
  rw [if_pos hi]; exact hd
theorem retS_sat (h : (F ρ S).sat fun d S1 => PS (.ret d, ρ) S1) : (retS F ρ S).sat PS := by unfold retS; rw [sat_bind]; exact h
theorem exprS_sat (h : (F ρ S).sat fun _ S1 => PS (.nx, ρ) S1) : (exprS F ρ S).sat PS := by unfold exprS; rw [sat_bind]; exact h
theorem asgS_sat {g : Tgt} (h : (F ρ S).sat fun d S1 => ∃ ρ', g d ρ = some ρ' ∧ PS (.nx, ρ') S1) : (asgS F g ρ S).sat PS := by
  unfold asgS; rw [sat_bind]
  refine h.mono fun d S1 ⟨ρ', e, hd⟩ => ?_
  rw [e]; exact hd
theorem parS_sat (h : (Fs ρ S).sat fun ds S1 => ∃ a b, ds = [a, b] ∧ PS (.nx, (ρ.set i (some a)).set j (some b)) S1) : (parS i j Fs ρ S).sat PS := by
  unfold parS; rw [sat_bind]
  refine h.mono fun ds S1 ⟨a, b, e, hd⟩ => ?_
  subst e; exact hd
theorem iteS_sat (h : (c ρ S).sat fun b S1 => if b = true then (A1 ρ S1).sat PS else (A2 ρ S1).sat PS) : (iteS c A1 A2 ρ S).sat PS := by
  unfold iteS; rw [sat_bind]
  refine h.mono fun b S1 hb => ?_
  cases b with
  | true => exact hb
  | false => exact hb
theorem appS_sat {ds : List D} (hi : ρ[i]? = some (some (.lst ds))) (hl : ds.length < 100000) (h : (F ρ S).sat fun d S1 => PS (.nx, ρ.set i (some (.lst (ds ++ [d])))) S1) : (appS i F ρ S).sat PS := by
  unfold appS; rw [hi]; dsimp only; rw [sat_bind]
  refine h.mono fun d S1 hd => ?_
  rw [if_pos hl]; exact hd
theorem insS_sat {ds : List D} (hi : ρ[i]? = some (some (.lst ds))) (hl : ds.length < 100000) (h : (Fs ρ S).sat fun as S1 => ∃ k d, as = [.int k, d] ∧ 0 ≤ k ∧ k ≤ 1000000 ∧ PS (.nx, ρ.set i (some (.lst (ds.take k.toNat ++ [d] ++ ds.drop k.toNat)))) S1) : (insS i Fs ρ S).sat PS := by
  unfold insS; rw [hi]; dsimp only; rw [sat_bind]
  refine h.mono fun as S1 ⟨k, d, e, h0, h1, hd⟩ => ?_
  subst e
  dsimp only
  rw [if_pos ⟨hl, h0, h1⟩]; exact hd
theorem putS_sat {es : List (Key × D)} (hi : ρ[i]? = some (some (.dct es))) (hl : es.length < 100000) (h : (F2 ρ S).sat fun v S1 => (F1 ρ S1).sat fun k S2 => ∃ kk, keyD k = some kk ∧ PS (.nx, ρ.set i (some (.dct (putE es kk v)))) S2) : (putS i F1 F2 ρ S).sat PS := by
  unfold putS; rw [hi]; dsimp only; rw [sat_bind]
  refine h.mono fun v S1 h1 => ?_
  rw [sat_bind]
  refine h1.mono fun k S2 ⟨kk, e, hd⟩ => ?_
  rw [e]; dsimp only; rw [if_pos hl]; exact hd
theorem forS_sat {FI : Exs} {g : Tgt} (h : (FI ρ S).sat fun ds S1 => (forGo g A ds ρ S1).sat PS) : (forS FI g A ρ S).sat PS := by unfold forS; rw [sat_bind]; exact h
theorem cF_sat {d : D} (h : P d S) : (cF d ρ S).sat P := h
theorem vF_sat {d : D} (hi : ρ[i]? = some (some d)) (h : P d S) : (vF i ρ S).sat P := by unfold vF; rw [hi]; exact h
theorem nilF_sat (h : Ps [] S) : (nilF ρ S).sat Ps := h
theorem consF_sat (h : (F ρ S).sat fun d S1 => (Fs ρ S1).sat fun ds S2 => Ps (d :: ds) S2) : (consF F Fs ρ S).sat Ps := by
  unfold consF; rw [sat_bind]
  refine h.mono fun d S1 h1 => ?_
  rw [sat_bind]; exact h1
theorem scF_sat (h : (F ρ S).sat fun d S1 => isSc d = true ∧ P d S1) : (scF F ρ S).sat P := by
  unfold scF; rw [sat_bind]
  refine h.mono fun d S1 ⟨e, h1⟩ => ?_
  rw [if_pos e]; exact h1
theorem binF_sat {op : D → D → Option D} (h : (F1 ρ S).sat fun d1 S1 => (F2 ρ S1).sat fun d2 S2 => ∃ d, op d1 d2 = some d ∧ P d S2) : (binF op F1 F2 ρ S).sat P := by
  unfold binF; rw [sat_bind]
  refine h.mono fun d1 S1 h1 => ?_
  rw [sat_bind]
  refine h1.mono fun d2 S2 ⟨d, e, h2⟩ => ?_
  rw [e]; exact h2
theorem unF_sat {op : D → Option D} (h : (F ρ S).sat fun d1 S1 => ∃ d, op d1 = some d ∧ P d S1) : (unF op F ρ S).sat P := by
  unfold unF; rw [sat_bind]
  refine h.mono fun d1 S1 ⟨d, e, h2⟩ => ?_
  rw [e]; exact h2
theorem argF_sat {f : List D → Option D} (h : (Fs ρ S).sat fun ds S1 => ∃ d, f ds = some d ∧ P d S1) : (argF f Fs ρ S).sat P := by
  unfold argF; rw [sat_bind]
  refine h.mono fun d1 S1 ⟨d, e, h2⟩ => ?_
  rw [e]; exact h2
theorem lstF_sat (h : (Fs ρ S).sat fun ds S1 => P (.lst ds) S1) : (lstF Fs ρ S).sat P := by unfold lstF; rw [sat_bind]; exact h
theorem tupF_sat (h : (Fs ρ S).sat fun ds S1 => P (.tup ds) S1) : (tupF Fs ρ S).sat P := by unfold tupF; rw [sat_bind]; exact h
theorem callF_sat {f : List D → SrcT → Rs D} (h : (Fs ρ S).sat fun ds S1 => (f ds S1).sat P) : (callF f Fs ρ S).sat P := by unfold callF; rw [sat_bind]; exact h
theorem callN_sat {f : List D → SrcT → Rs D} (h : (Fs ρ S).sat fun ds S1 => (f ds S1).sat P) : (callN f Fs ρ S).sat P := by
  unfold callN; rw [sat_bind]
  refine h.mono fun ds S1 h1 => ?_
  generalize f ds S1 = r at h1
  induction r with
  | ok a S => exact h1
  | bad => exact h1
  | exc _ _ _ => exact h1
  | all p f ih => exact fun x px => ih x (h1 x px)
theorem iteF_sat (h : (c ρ S).sat fun b S1 => if b = true then (F1 ρ S1).sat P else (F2 ρ S1).sat P) : (iteF c F1 F2 ρ S).sat P := by
  unfold iteF; rw [sat_bind]
  refine h.mono fun b S1 hb => ?_
  cases b with
  | true => exact hb
  | false => exact hb
theorem idxOF_sat {cc : D} (hi : ρ[i]? = some (some cc)) (h : (F ρ S).sat fun d S1 => ∃ r, idxD cc d = some r ∧ P r S1) : (idxOF i F ρ S).sat P := by
  unfold idxOF; rw [sat_bind]
  refine h.mono fun d S1 ⟨r, e, h1⟩ => ?_
  rw [hi]; dsimp only; rw [e]; exact h1
theorem andF_sat (h : (F1 ρ S).sat fun d S1 => ∃ b, d = .bl b ∧ if b = true then (F2 ρ S1).sat P else P (.bl false) S1) : (andF F1 F2 ρ S).sat P := by
  unfold andF; rw [sat_bind]
  refine h.mono fun d S1 ⟨b, e, h1⟩ => ?_
  subst e
  cases b with
  | true => exact h1
  | false => exact h1
theorem orF_sat (h : (F1 ρ S).sat fun d S1 => ∃ b, d = .bl b ∧ if b = true then P (.bl true) S1 else (F2 ρ S1).sat P) : (orF F1 F2 ρ S).sat P := by
  unfold orF; rw [sat_bind]
  refine h.mono fun d S1 ⟨b, e, h1⟩ => ?_
  subst e
  cases b with
  | true => exact h1
  | false => exact h1
theorem tstF_sat (h : (F ρ S).sat fun d S1 => ∃ b, truD d = some b ∧ Pb b S1) : (tstF F ρ S).sat Pb := by
  unfold tstF; rw [sat_bind]
  refine h.mono fun d S1 ⟨b, e, h1⟩ => ?_
  rw [e]; exact h1
theorem blT_sat (h : (F ρ S).sat fun d S1 => ∃ b, d = .bl b ∧ Pb b S1) : (blT F ρ S).sat Pb := by
  unfold blT; rw [sat_bind]
  refine h.mono fun d S1 ⟨b, e, h1⟩ => ?_
  subst e; exact h1
theorem andT_sat (h : (c1 ρ S).sat fun b S1 => if b = true then (c2 ρ S1).sat Pb else Pb false S1) : (andT c1 c2 ρ S).sat Pb := by
  unfold andT; rw [sat_bind]
  refine h.mono fun b S1 h1 => ?_
  cases b with
  | true => exact h1
  | false => exact h1
theorem orT_sat (h : (c1 ρ S).sat fun b S1 => if b = true then Pb true S1 else (c2 ρ S1).sat Pb) : (orT c1 c2 ρ S).sat Pb := by
  unfold orT; rw [sat_bind]
  refine h.mono fun b S1 h1 => ?_
  cases b with
  | true => exact h1
  | false => exact h1
theorem notT_sat (h : (c ρ S).sat fun b S1 => Pb (!b) S1) : (notT c ρ S).sat Pb := by unfold notT; rw [sat_bind]; exact h
theorem yesT_sat (h : Pb true S) : (yesT ρ S).sat Pb := h
theorem chF_sat {op op' : D → D → Option D} (h : (F1 ρ S).sat fun d1 S1 => (F2 ρ S1).sat fun d2 S2 => ∃ b, op d1 d2 = some (.bl b) ∧ if b = true then (F3 ρ S2).sat fun d3 S3 => ∃ d, op' d2 d3 = some d ∧ P d S3 else P (.bl false) S2) : (chF op op' F1 F2 F3 ρ S).sat P := by
  unfold chF; rw [sat_bind]
  refine h.mono fun d1 S1 h1 => ?_
  rw [sat_bind]
  refine h1.mono fun d2 S2 ⟨b, e, h2⟩ => ?_
  rw [e]
  cases b with
  | true =>
    dsimp only
    rw [sat_bind]
    refine h2.mono fun d3 S3 ⟨d, e2, h3⟩ => ?_
    rw [e2]; exact h3
  | false => exact h2
theorem noF_sat {Po : Option Int → SrcT → Prop} (h : Po none S) : (noF ρ S).sat Po := h
theorem someF_sat {Po : Option Int → SrcT → Prop} (h : (F ρ S).sat fun d S1 => ∃ k, d = .int k ∧ Po (some k) S1) : (someF F ρ S).sat Po := by
  unfold someF; rw [sat_bind]
  refine h.mono fun d S1 ⟨k, e, h1⟩ => ?_
  subst e; exact h1
theorem slF_sat (h : (F ρ S).sat fun d S1 => (L ρ S1).sat fun lo S2 => (U ρ S2).sat fun hi S3 => ∃ r, sliceD d lo hi = some r ∧ P r S3) : (slF F L U ρ S).sat P := by
  unfold slF; rw [sat_bind]
  refine h.mono fun d S1 h1 => ?_
  rw [sat_bind]
  refine h1.mono fun lo S2 h2 => ?_
  rw [sat_bind]
  refine h2.mono fun hi S3 ⟨r, e, h3⟩ => ?_
  rw [e]; exact h3
theorem lcF_sat {is : List Nat} {FI : Exs} {g : Tgt} {Fe : Ex} (h : (FI ρ S).sat fun ds S1 => ds.length ≤ 100000 ∧ (lcGo g c Fe (wipeE ρ is) ds S1).sat fun ys S2 => P (.lst ys) S2) : (lcF is FI g c Fe ρ S).sat P := by
  unfold lcF; rw [sat_bind]
  refine h.mono fun ds S1 ⟨hl, h1⟩ => ?_
  rw [if_pos hl, sat_bind]; exact h1
theorem seqF_sat (h : (F ρ S).sat fun d S1 => ∃ ds, seqD d = some ds ∧ Ps ds S1) : (seqF F ρ S).sat Ps := by
  unfold seqF; rw [sat_bind]
  refine h.mono fun d S1 ⟨ds, e, h1⟩ => ?_
  rw [e]; exact h1
theorem rng1F_sat (h : (Fs ρ S).sat fun ds S1 => ∃ k, ds = [.int k] ∧ okR k = true ∧ Ps (rngD 0 k.toNat) S1) : (rng1F Fs ρ S).sat Ps := by
  unfold rng1F; rw [sat_bind]
  refine h.mono fun d S1 ⟨k, e, hk, h1⟩ => ?_
  subst e; dsimp only; rw [if_pos hk]; exact h1
theorem rng2F_sat (h : (Fs ρ S).sat fun ds S1 => ∃ i k, ds = [.int i, .int k] ∧ okR i = true ∧ okR k = true ∧ Ps (rngD i (k - i).toNat) S1) : (rng2F Fs ρ S).sat Ps := by
  unfold rng2F; rw [sat_bind]
  refine h.mono fun d S1 ⟨i, k, e, hi, hk, h1⟩ => ?_
  subst e; dsimp only; rw [if_pos (by rw [hi, hk]; rfl)]; exact h1
theorem strF_sat (h : (F ρ S).sat fun d S1 => ∃ z, d = .str z ∧ Ps (signsD z) S1) : (strF F ρ S).sat Ps := by
  unfold strF; rw [sat_bind]
  refine h.mono fun d S1 ⟨z, e, h1⟩ => ?_
  subst e; exact h1
theorem zipF_sat (h : (Fs ρ S).sat fun ds S1 => ∃ a b, ds = [.lst a, .lst b] ∧ Ps (zipD a b) S1) : (zipF Fs ρ S).sat Ps := by
  unfold zipF; rw [sat_bind]
  refine h.mono fun d S1 ⟨a, b, e, h1⟩ => ?_
  subst e; exact h1
theorem enumF_sat (h : (Fs ρ S).sat fun ds S1 => ∃ a, ds = [.lst a] ∧ Ps (enumD a) S1) : (enumF Fs ρ S).sat Ps := by
  unfold enumF; rw [sat_bind]
  refine h.mono fun d S1 ⟨a, e, h1⟩ => ?_
  subst e; exact h1
theorem get2F_sat (h : (F1 ρ S).sat fun c S1 => ∃ es, c = .dct es ∧ (F2 ρ S1).sat fun k S2 => (F3 ρ S2).sat fun x S3 => ∃ kk, keyD k = some kk ∧ P ((valE es kk).getD x) S3) : (get2F F1 F2 F3 ρ S).sat P := by
  unfold get2F; rw [sat_bind]
  refine h.mono fun c S1 ⟨es, e, h1⟩ => ?_
  subst e; dsimp only; rw [sat_bind]
  refine h1.mono fun k S2 h2 => ?_
  rw [sat_bind]
  refine h2.mono fun x S3 ⟨kk, e, h3⟩ => ?_
  rw [e]; exact h3
end
theorem okR_of {k : Int} (h0 : -1000000000000 ≤ k) (h1 : k ≤ 1000000000000) : okR k = true := by unfold okR; simp [h0, h1]
theorem okI_of {k : Int} (h0 : -1000000000000000000000000000000000000000000000000000000000000 ≤ k) (h1 : k ≤ 1000000000000000000000000000000000000000000000000000000000000) : okI k = true := by unfold okI; simp [h0, h1]
theorem rngD_len (lo : Int) (n : Nat) : (rngD lo n).length = n := by unfold rngD; simp
theorem rngD_at {lo : Int} {n i : Nat} {d : D} (h : (rngD lo n)[i]? = some d) : i < n ∧ d = .int (lo + (i : Int)) := by
  have hi : i < n := by have := (List.getElem?_eq_some_iff.mp h).1; rw [rngD_len] at this; exact this
  rw [rngD_get lo n i hi] at h
  exact ⟨hi, (Option.some.inj h).symm⟩
theorem if_nt {A B : Prop} (h : B) : if (!true) = true then A else B := h
theorem if_f {A B : Prop} (h : B) : if false = true then A else B := h
theorem if_nf {A B : Prop} (h : A) : if (!false) = true then A else B := h
theorem if_t {A B : Prop} (h : A) : if true = true then A else B := h
/-- a comprehension that draws nothing -/
theorem lc_filtM {α : Type} {g : Tgt} {c : Tst} {Fe : Ex} {ρ : Env} {S : SrcT} {P : List D → SrcT → Prop} {xs : List α} {φ : α → D} (p : α → Bool) (f : α → D)
    (hs : ∀ x ∈ xs, ∃ ρ1, g (φ x) ρ = some ρ1 ∧ (c ρ1 S).sat (fun b S1 => b = p x ∧ S1 = S) ∧ (p x = true → (Fe ρ1 S).sat fun y S2 => y = f x ∧ S2 = S)) (hP : P ((xs.filter p).map f) S) : (lcGo g c Fe ρ (xs.map φ) S).sat P := by
  refine lc_sat (fun i acc S' => acc = ((xs.take i).filter p).map f ∧ S' = S) ?_ ?_ ⟨rfl, rfl⟩
  · rintro i d acc S1 hd ⟨rfl, rfl⟩
    rw [List.getElem?_map] at hd
    obtain ⟨x, hx, rfl⟩ := Option.map_eq_some_iff.mp hd
    obtain ⟨ρ1, h1, h2, h3⟩ := hs x (List.mem_of_getElem? hx)
    refine ⟨ρ1, h1, h2.mono ?_⟩
    rintro b S2 ⟨rfl, rfl⟩
    rw [take_snoc hx, List.filter_append]
    by_cases hp : p x = true
    · rw [if_pos hp]
      refine (h3 hp).mono ?_
      rintro y S3 ⟨rfl, rfl⟩
      refine ⟨?_, rfl⟩
      simp [List.filter, hp]
    · rw [if_neg hp]
      have hp : p x = false := by simpa using hp
      refine ⟨?_, rfl⟩
      simp [List.filter, hp]
  · rintro acc S1 ⟨rfl, rfl⟩
    rw [List.length_map, List.take_length]; exact hP
theorem lc_mapM {α : Type} {g : Tgt} {c : Tst} {Fe : Ex} {ρ : Env} {S : SrcT} {P : List D → SrcT → Prop} {xs : List α} {φ : α → D} (f : α → D)
    (hs : ∀ x ∈ xs, ∃ ρ1, g (φ x) ρ = some ρ1 ∧ (c ρ1 S).sat (fun b S1 => b = true ∧ S1 = S) ∧ (Fe ρ1 S).sat fun y S2 => y = f x ∧ S2 = S) (hP : P (xs.map f) S) : (lcGo g c Fe ρ (xs.map φ) S).sat P :=
  lc_filtM (fun _ => true) f (fun x hx => by
    obtain ⟨ρ1, h1, h2, h3⟩ := hs x hx
    exact ⟨ρ1, h1, h2, fun _ => h3⟩) (by rw [List.filter_eq_self.mpr (fun _ _ => rfl)]; exact hP)
end
end NL
/-! ### what a plain function gives: sets, dicts -/
namespace NL
noncomputable section
open PySem L2
section
variable {ρ : Env} {S : SrcT} {F F1 F2 F3 Fk Fv Fe : Ex} {Fs FI : Exs} {g : Tgt} {c : Tst} {is : List Nat} {i j n N : Nat} {P : D → SrcT → Prop} {Ps : List D → SrcT → Prop} {PS : Fl × Env → SrcT → Prop} {Pb : Bool → SrcT → Prop}
theorem zipMF_sat (h : (Fs ρ S).sat fun ds S1 => ∃ a b, ds = [.lst a, .tup b] ∧ Ps (zipD a b) S1) : (zipMF Fs ρ S).sat Ps := by
  unfold zipMF; rw [sat_bind]
  refine Rs.sat.mono h fun ds S1 ⟨a, b, e, h⟩ => ?_
  subst e; exact h
theorem freS_sat {f : List D → SrcT → Rs D} (hi : i < ρ.length) (hj : j < ρ.length) (h : (Fs ρ S).sat fun ds S1 => (f ds S1).sat fun d S2 => ∃ es k, d = .tup [.lst es, .int k] ∧ PS (.nx, (ρ.set i (some (.lst es))).set j (some (.int k))) S2) : (freS i j f Fs ρ S).sat PS := by
  unfold freS; rw [sat_bind]
  refine Rs.sat.mono h fun ds S1 h => ?_
  rw [sat_bind]
  refine Rs.sat.mono h fun d S2 h => ?_
  obtain ⟨es, k, rfl, h⟩ := h
  show Rs.sat (if _ then _ else _) _
  rw [if_pos (by rw [decide_eq_true hi, decide_eq_true hj]; rfl)]; exact h
theorem mulS_sat {ks : List Nat} (hr : (ks.all fun i => decide (i < ρ.length)) = true) (h : (Fs ρ S).sat fun ds S1 => PS (.nx, setsE ks ds ρ) S1) : (mulS ks Fs ρ S).sat PS := by
  unfold mulS; rw [sat_bind]
  refine Rs.sat.mono h fun ds S1 h => ?_
  rw [if_pos hr]; exact h
/-- x == y by an own __eq__ -/
def OkEq (p : D → Bool) (f : List D → SrcT → Rs D) (d1 d2 : D) (S : SrcT) (P : Bool → SrcT → Prop) : Prop := (p d1 && (p d2 || baseK d2)) = true ∧ (f [d1, d2] S).sat fun r S3 => ∃ b, r = .bl b ∧ P b S3
theorem OkEq.mk {p : D → Bool} {f : List D → SrcT → Rs D} {d1 d2 : D} {P : Bool → SrcT → Prop} (h : (p d1 && (p d2 || baseK d2)) = true) (h2 : (f [d1, d2] S).sat fun r S3 => ∃ b, r = .bl b ∧ P b S3) : OkEq p f d1 d2 S P := ⟨h, h2⟩
theorem eqOF_sat {neg : Bool} {p : D → Bool} {f : List D → SrcT → Rs D} (h : (F1 ρ S).sat fun d1 S1 => (F2 ρ S1).sat fun d2 S2 => OkEq p f d1 d2 S2 fun b S3 => P (.bl (if neg then !b else b)) S3) : (eqOF neg p f F1 F2 ρ S).sat P := by
  unfold eqOF; rw [sat_bind]
  refine Rs.sat.mono h fun d1 S1 h => ?_
  rw [sat_bind]
  refine Rs.sat.mono h fun d2 S2 h => ?_
  obtain ⟨h0, h⟩ := h
  rw [if_pos h0]
  generalize f [d1, d2] S2 = r at h ⊢
  induction r with
  | ok a S => obtain ⟨b, rfl, hP⟩ := h; exact hP
  | bad => exact h
  | exc _ _ _ => exact h
  | all p f ih => exact fun x px => ih x (h x px)
/-- len(x) by an own __len__ -/
def OkLen (p : D → Bool) (f : List D → SrcT → Rs D) (d : D) (S : SrcT) (P : Int → SrcT → Prop) : Prop := p d = true ∧ (f [d] S).sat fun r S2 => ∃ i : Int, r = .int i ∧ 0 ≤ i ∧ i < 1000000 ∧ P i S2
theorem lenOF_sat {p : D → Bool} {f : List D → SrcT → Rs D} (h : (F ρ S).sat fun d S1 => OkLen p f d S1 fun i S2 => P (.int i) S2) : (lenOF p f F ρ S).sat P := by
  unfold lenOF; rw [sat_bind]
  refine Rs.sat.mono h fun d1 S1 h => ?_
  obtain ⟨h0, h⟩ := h
  rw [if_pos h0]
  generalize f [d1] S1 = r at h ⊢
  induction r with
  | ok a S =>
    obtain ⟨i, rfl, i0, i1, hP⟩ := h
    show Rs.sat (if (decide (0 ≤ i) && okR i) = true then _ else _) _
    rw [if_pos (by rw [decide_eq_true i0, okR_of (by omega) (by omega)]; rfl)]; exact hP
  | bad => exact h
  | exc _ _ _ => exact h
  | all p f ih => exact fun x px => ih x (h x px)
theorem splitF_sat (h : (F1 ρ S).sat fun d1 S1 => ∃ a, d1 = .str a ∧ (F2 ρ S1).sat fun d2 S2 => ∃ b, d2 = .str b ∧ (!(b.length == 0) && decide (a.length ≤ 100000)) = true ∧ P (.lst ((Txt.split a b).map D.str)) S2) : (splitF F1 F2 ρ S).sat P := by
  unfold splitF; rw [sat_bind]
  refine Rs.sat.mono h fun d1 S1 h => ?_
  obtain ⟨a, rfl, h⟩ := h
  show Rs.sat ((F2 ρ S1).bind _) P
  rw [sat_bind]
  refine Rs.sat.mono h fun d2 S2 h => ?_
  obtain ⟨b, rfl, hc, h⟩ := h
  show Rs.sat (if _ then _ else _) P
  rw [if_pos hc]; exact h
theorem partF_sat (h : (F1 ρ S).sat fun d1 S1 => ∃ a, d1 = .str a ∧ (F2 ρ S1).sat fun d2 S2 => ∃ b, d2 = .str b ∧ (!(b.length == 0) && decide (a.length ≤ 100000)) = true ∧ P (.tup [.str (Txt.partition a b).1, .str (Txt.partition a b).2.1, .str (Txt.partition a b).2.2]) S2) : (partF F1 F2 ρ S).sat P := by
  unfold partF; rw [sat_bind]
  refine Rs.sat.mono h fun d1 S1 h => ?_
  obtain ⟨a, rfl, h⟩ := h
  show Rs.sat ((F2 ρ S1).bind _) P
  rw [sat_bind]
  refine Rs.sat.mono h fun d2 S2 h => ?_
  obtain ⟨b, rfl, hc, h⟩ := h
  show Rs.sat (if _ then _ else _) P
  rw [if_pos hc]; exact h
theorem callC_sat {f : List D → SrcT → Rs D} (h : (Fs ρ S).sat fun ds S1 => (f (.cls :: ds) S1).sat P) : (callC f Fs ρ S).sat P := by unfold callC; rw [sat_bind]; exact h
theorem callL_sat {F0 : Ex} {f : List D → SrcT → Rs D} (h : (F0 ρ S).sat fun d S1 => d = .cls ∧ (Fs ρ S1).sat fun ds S2 => (f ds S2).sat P) : (callL F0 f Fs ρ S).sat P := by
  unfold callL; rw [sat_bind]
  refine Rs.sat.mono h fun d S1 h => ?_
  obtain ⟨rfl, h⟩ := h
  show Rs.sat ((Fs ρ S1).bind f) P
  rw [sat_bind]; exact h
theorem enumKF_sat {k : Int} (h : (Fs ρ S).sat fun ds S1 => ∃ a, ds = [.lst a] ∧ Ps (enumKD k a) S1) : (enumKF k Fs ρ S).sat Ps := by
  unfold enumKF; rw [sat_bind]
  refine Rs.sat.mono h fun d S1 ⟨a, e, h1⟩ => ?_
  subst e; exact h1
theorem setCF_sat (h : (FI ρ S).sat fun ds S1 => ds.length ≤ 4000 ∧ (scGo g c Fe (wipeE ρ is) ds S1).sat fun ys S2 => P (.set (ddI ys)) S2) : (setCF is FI g c Fe ρ S).sat P := by
  unfold setCF; rw [sat_bind]
  refine h.mono fun ds S1 ⟨h1, h2⟩ => ?_
  rw [if_pos h1, sat_bind]; exact h2
theorem dctCF_sat (h : (FI ρ S).sat fun ds S1 => ds.length ≤ 4000 ∧ (dcGo g c Fk Fv (wipeE ρ is) ds S1).sat fun ys S2 => P (.dct (putsE [] ys)) S2) : (dctCF is FI g c Fk Fv ρ S).sat P := by
  unfold dctCF; rw [sat_bind]
  refine h.mono fun ds S1 ⟨h1, h2⟩ => ?_
  rw [if_pos h1, sat_bind]; exact h2
theorem dgetF_sat (h : (F1 ρ S).sat fun cc S1 => ∃ es, cc = .dct es ∧ (F2 ρ S1).sat fun k S2 => ∃ kk d, keyD k = some kk ∧ valE es kk = some d ∧ P d S2) : (dgetF F1 F2 ρ S).sat P := by
  unfold dgetF; rw [sat_bind]
  refine h.mono fun cc S1 ⟨es, e, h2⟩ => ?_
  subst e
  dsimp only
  rw [sat_bind]
  refine h2.mono fun k S2 ⟨kk, d, e1, e2, hp⟩ => ?_
  rw [e1]; dsimp only; rw [e2]; exact hp
theorem extS_sat {ds : List D} (hi : ρ[i]? = some (some (.lst ds))) (h : (F ρ S).sat fun d S1 => ∃ es, d = .lst es ∧ ds.length + es.length ≤ 100000 ∧ PS (.nx, ρ.set i (some (.lst (ds ++ es)))) S1) : (extS i F ρ S).sat PS := by
  unfold extS; rw [hi]; dsimp only; rw [sat_bind]
  refine h.mono fun d S1 ⟨es, e, hl, hp⟩ => ?_
  subst e
  dsimp only
  rw [if_pos hl]; exact hp
theorem idxOfF_sat (h : (F1 ρ S).sat fun cc S1 => ∃ ds, cc = .lst ds ∧ (F2 ρ S1).sat fun x S2 => ∃ r, idxOfD (.lst ds) x = some r ∧ P r S2) : (idxOfF F1 F2 ρ S).sat P := by
  unfold idxOfF; rw [sat_bind]
  refine h.mono fun cc S1 ⟨ds, e, h2⟩ => ?_
  subst e
  dsimp only
  rw [sat_bind]
  refine h2.mono fun x S2 ⟨r, e1, hp⟩ => ?_
  rw [e1]; exact hp
theorem lstRgF_sat (h : (F ρ S).sat fun d S1 => ∃ k : Int, d = .int k ∧ 0 ≤ k ∧ k ≤ 100000 ∧ P (.lst (rngD 0 k.toNat)) S1) : (lstRgF F ρ S).sat P := by
  unfold lstRgF; rw [sat_bind]
  refine h.mono fun d S1 ⟨k, e, h1, h2, hp⟩ => ?_
  subst e
  dsimp only
  rw [if_pos ⟨h1, h2⟩]; exact hp
theorem popS_sat (h : (FI ρ S).sat fun ds S1 => ds.length ≤ 4000 ∧ (popGo g i F ds (wipeE ρ is) S1).sat fun ys S2 => PS (.ret (.lst ys), ρ) S2) : (popS is FI g i F ρ S).sat PS := by
  unfold popS; rw [sat_bind]
  refine h.mono fun ds S1 ⟨h1, h2⟩ => ?_
  rw [if_pos h1, sat_bind]; exact h2
end
end
end NL
/-! ### equal data, slices, loops and runs as data -/
namespace Law
open PySem L2 NL
theorem toPs_strs : ∀ ns : List Str, toPs (ns.map D.str) = some (ns.map PyData.str)
  | [] => rfl
  | n :: ns => by rw [List.map_cons, toPs, toPs_strs ns]; rfl
/-! equal data, slices, loops, runs -/
def fineN (n : Nat) (d : D) : Prop := ∃ p, toP d = some p ∧ p.canLay0 = true ∧ p.depth ≤ n
theorem fineN.mono {n k : Nat} {d : D} (h : fineN n d) (hk : n ≤ k) : fineN k d := by
  obtain ⟨p, h1, h2, h3⟩ := h; exact ⟨p, h1, h2, Nat.le_trans h3 hk⟩
theorem fine_all {n : Nat} : ∀ {ds : List D}, (∀ d ∈ ds, fineN n d) → ∃ ps, toPs ds = some ps ∧ PyData.canLayAll0 ps = true ∧ PyData.depthAll ps ≤ n
  | [], _ => ⟨[], rfl, rfl, Nat.zero_le _⟩
  | d :: ds, h => by
    obtain ⟨p, h1, h2, h3⟩ := h d List.mem_cons_self
    obtain ⟨ps, k1, k2, k3⟩ := fine_all (n := n) fun x hx => h x (List.mem_cons_of_mem _ hx)
    refine ⟨p :: ps, by rw [toPs, h1, k1], ?_, ?_⟩
    · show (p.canLay0 && PyData.canLayAll0 ps) = true
      rw [h2, k2]; rfl
    · show max p.depth (PyData.depthAll ps) ≤ n
      exact Nat.max_le.mpr ⟨h3, k3⟩
theorem fineL {n : Nat} {ds : List D} (h : ∀ d ∈ ds, fineN n d) : fineN (n + 1) (.lst ds) := by
  obtain ⟨ps, h1, h2, h3⟩ := fine_all h
  exact ⟨.list ps, by rw [toP, h1]; rfl, h2, Nat.succ_le_succ h3⟩
theorem fineT {n : Nat} {ds : List D} (h : ∀ d ∈ ds, fineN n d) : fineN (n + 1) (.tup ds) := by
  obtain ⟨ps, h1, h2, h3⟩ := fine_all h
  exact ⟨.tuple ps, by rw [toP, h1]; rfl, h2, Nat.succ_le_succ h3⟩
theorem fineS {n : Nat} {z : Str} (h : PyData.strOk z = true) : fineN n (.str z) := ⟨.str z, rfl, h, Nat.zero_le _⟩
theorem fineI {n : Nat} (i : Int) : fineN n (.int i) := ⟨.int i, rfl, rfl, Nat.zero_le _⟩
theorem fineO {n : Nat} : fineN n .non := ⟨.none, rfl, rfl, Nat.zero_le _⟩
theorem fineTS {zs : List Str} (h : ∀ z ∈ zs, PyData.strOk z = true) : fineN 1 (.tup (zs.map .str)) := fineT (n := 0) fun d hd => by
  obtain ⟨z, hz, rfl⟩ := List.mem_map.mp hd; exact fineS (h z hz)
theorem fineLI (zs : List Int) : fineN 1 (.lst (zs.map .int)) := fineL (n := 0) fun d hd => by
  obtain ⟨z, hz, rfl⟩ := List.mem_map.mp hd; exact fineI z
/-- == and != of equal data -/
theorem eqD_same {neg : Bool} {d1 d2 : D} (e : d1 = d2) (h : fineN 60 d1) : eqD neg d1 d2 = some (.bl (!neg)) := by
  subst e
  obtain ⟨p, h1, h2, h3⟩ := h
  have hs : SeqAt.shaped p = true := shaped_of h2 (by omega)
  unfold eqD
  rw [h1]
  dsimp only
  rw [if_pos (by rw [hs]; rfl), eqv_same hs]
  cases neg <;> rfl
theorem eqv_strs {a b : Str} : PyData.eqv (.str a) (.str b) = decide (a = b) := by
  by_cases h : a = b
  · subst h; simp [PyData.eqv]
  · simp [PyData.eqv, h]
theorem eqv_ints {a b : Int} : PyData.eqv (.int a) (.int b) = decide (a = b) := by
  by_cases h : a = b
  · subst h; simp [PyData.eqv]
  · simp [PyData.eqv, h]
theorem eqD_int {neg : Bool} {a b : Int} : eqD neg (.int a) (.int b) = some (.bl (if neg then !decide (a = b) else decide (a = b))) := by
  show some (D.bl (if neg then !PyData.eqv (.int a) (.int b) else PyData.eqv (.int a) (.int b))) = _
  rw [eqv_ints]
theorem cutD_to (ds : List D) (n : Nat) : cutD ds none (some (n : Int)) = ds.take n := by
  unfold cutD
  rw [HT.sIx_none, HT.sIx_nat]
  simp [List.take_eq_take_iff]
end Law
/-! ### x in c, where the items are data of any depth -/
namespace NL
noncomputable section
open PySem L2 PySem.Spec PyProof.Rows
section
variable {X : Cx} {G : Gm} {m m' : Bool}
def rInX (K : PySem.W.Frag) (neg : Bool) : R2 := fun x y H Q => ∃ d c ds, Dp K H x d ∧ Dp K H y c ∧ (c = .list ds ∨ c = .tuple ds) ∧ SeqAt.shaped d = true ∧ PyData.canLayAll0 ds = true ∧ Q (.bl (if neg then !ds.any fun z => PyData.eqv z d else ds.any fun z => PyData.eqv z d)) H
theorem op_inX (hu : X.A.units + 65 < cLine) : OpR X (compareOp .In) (rInX X.K false) := by
  intro pins s σ H x y v u Q I rx ry h
  obtain ⟨d, c, ds, hd, he, hc, sd, se, q⟩ := h
  obtain ⟨as, r1⟩ := Dp.reads I d x v hd rx
  obtain ⟨bs, r2⟩ := Dp.reads I c y u he ry
  rcases hc with rfl | rfl
  · exact SeqAt.in_list_reads r2 r1 se (SeqAt.canLay_of_shaped sd) (room_in_shaped sd hu) ⟨.bl _, H, I, rfl, q⟩
  · exact SeqAt.in_tuple_reads r2 r1 se (SeqAt.canLay_of_shaped sd) (room_in_shaped sd hu) ⟨.bl _, H, I, rfl, q⟩
theorem op_notInX (hu : X.A.units + 65 < cLine) : OpR X (compareOp .NotIn) (rInX X.K true) := by
  intro pins s σ H x y v u Q I rx ry h
  obtain ⟨d, c, ds, hd, he, hc, sd, se, q⟩ := h
  obtain ⟨as, r1⟩ := Dp.reads I d x v hd rx
  obtain ⟨bs, r2⟩ := Dp.reads I c y u he ry
  rcases hc with rfl | rfl
  · exact SeqAt.notIn_list_reads r2 r1 se (SeqAt.canLay_of_shaped sd) (room_in_shaped sd hu) ⟨.bl _, H, I, rfl, q⟩
  · exact SeqAt.notIn_tuple_reads r2 r1 se (SeqAt.canLay_of_shaped sd) (room_in_shaped sd hu) ⟨.bl _, H, I, rfl, q⟩
theorem hu65 {A : Around} {k : Nat} (hr : Room k A) : A.units + 65 < cLine := by have := hr.un; omega
def inXD (neg : Bool) (x c : D) : Option D := match toP x, seqD c with
  | some p, some ds => match toPs ds with
    | some ps => if (SeqAt.shaped p && PyData.canLayAll0 ps) = true then some (.bl (if neg then !ps.any fun z => PyData.eqv z p else ps.any fun z => PyData.eqv z p)) else none
    | none => none
  | _, _ => none
theorem bin_inX {neg : Bool} : Bin2 G m m' (rInX G.K neg) (inXD neg) := by
  intro φ O σ B H ρ S v1 v2 d1 d2 d Q R h1 h2 e q
  unfold inXD at e
  split at e
  · rename_i p ds e1 e2
    split at e
    · rename_i ps e3
      split at e
      · rename_i hs
        simp only [Bool.and_eq_true] at hs
        cases e
        have hq : ∃ c, toP d2 = some c ∧ (c = .list ps ∨ c = .tuple ps) := by
          cases d2 with
          | lst es => cases e2; exact ⟨.list ps, by rw [toP, e3]; rfl, .inl rfl⟩
          | tup es => cases e2; exact ⟨.tuple ps, by rw [toP, e3]; rfl, .inr rfl⟩
          | _ => cases e2
        obtain ⟨c, hc, hcc⟩ := hq
        exact ⟨p, c, ps, (dv_H R h1).dp e1, (dv_H R h2).dp hc, hcc, hs.1, hs.2, q _ _ _ Go.refl R (.bl _)⟩
      · cases e
    · cases e
  · cases e
theorem op_inXG (hu : X.A.units + 65 < cLine) (hK : X.K = G.K := by rfl) : OpR X (compareOp .In) (rInX G.K false) := by rw [← hK]; exact op_inX hu
theorem op_notInXG (hu : X.A.units + 65 < cLine) (hK : X.K = G.K := by rfl) : OpR X (compareOp .NotIn) (rInX G.K true) := by rw [← hK]; exact op_notInX hu
end
/-! plain -/
theorem inX_scalar {neg : Bool} {x c : D} {ds : List D} {p : PyData} {ps : List PyData} (hx : toP x = some p) (hc : seqD c = some ds) (hp : toPs ds = some ps) (h1 : SeqAt.shaped p = true) (h2 : PyData.canLayAll0 ps = true) : inXD neg x c = some (.bl (if neg then !ps.any fun z => PyData.eqv z p else ps.any fun z => PyData.eqv z p)) := by
  unfold inXD
  rw [hx, hc]; dsimp only; rw [hp]; dsimp only
  rw [if_pos (by rw [h1, h2]; rfl)]
end
end NL
/-! ### a comprehension within a comprehension -/
namespace NL
end NL
/-! ### f-strings, a display with a star, the fields of a loop, the lines of its answers -/
namespace NL
noncomputable section
open PySem L2
section
variable {G : Gm} {φ : Fr} {m : Bool} {O : List Nat} {E : XK} {σ : L2.St} {ρ : Env} {B H : Hp} {S : SrcT} {X : Cx} {e : Expr} {es : List Expr} {F : Ex} {Fs : Exs}
/-- the texts one behind the other -/
def jnF : List Ex → Str → Env → SrcT → Rs D
  | [], acc, _, S => .ok (.str acc) S
  | F :: Fs, acc, ρ, S => (F ρ S).bind fun d S1 => match d with
    | .str z => if (acc ++ z).length ≤ 100000 then jnF Fs (acc ++ z) ρ S1 else .bad
    | _ => .bad
def joinF (Fs : List Ex) : Ex := jnF Fs Str.empty
/-- [.., *xs] -/
def seqItems : D → Option (List D)
  | .tup ds => some ds
  | .lst ds => some ds
  | _ => none
def starF (F : Ex) (Fs : Exs) : Exs := fun ρ S => (F ρ S).bind fun d S1 => match seqItems d with
  | some ds => (Fs ρ S1).bind fun es S2 => .ok (ds ++ es) S2
  | none => .bad
/-- a display of at most 1000 items -/
def lstSF (Fs : Exs) : Ex := fun ρ S => (Fs ρ S).bind fun ds S1 => if ds.length ≤ 1000 then .ok (.lst ds) S1 else .bad
/-! ### the fields of a loop -/
/-! ### the lines of the answers: a comprehension over a dict's items -/
theorem Rep.ext {H' : Hp} (R : Rep G φ O σ B H ρ S) (s : Same H H') : Rep G φ O σ B H' ρ S ∧ Go φ B H B H' := ⟨(R.more s).2, (R.more s).1⟩
end
end
end NL
/-! ### == of lists and dicts with dicts among them -/
namespace NL
end NL
/-! ### methods and properties of own objects, as data -/
namespace NL
noncomputable section
open PySem L2
section
variable {G : Gm} {φ : Fr} {m : Bool} {O : List Nat} {E E' : XK} {σ : L2.St} {ρ : Env} {B H : Hp} {S : SrcT} {X : Cx} {e : Expr} {es : List Expr} {F : Ex} {Fs : Exs} {C : Addr} {p : D → Bool} {mn : Str}
/-- p tells the data that stand for instances of the class at C that have no field m -/
def InsM (G : Gm) (C : Addr) (p : D → Bool) (mn : Str) : Prop := ∀ {q : Option Addr} {B : Hp} {v : V} {d : D}, DV G q B v d → p d = true → ∃ a dx fs, v = .ref a ∧ B a = some (.ins C dx fs) ∧ fs.lookup mn = none
def methF (f : List D → SrcT → Rs D) (p : D → Bool) (F : Ex) (Fs : Exs) : Ex := fun ρ S => (F ρ S).bind fun d S1 => if p d = true then (Fs ρ S1).bind fun ds S2 => f (d :: ds) S2 else .bad
def propF (f : List D → SrcT → Rs D) (p : D → Bool) (F : Ex) : Ex := fun ρ S => (F ρ S).bind fun d S1 => if p d = true then f [d] S1 else .bad
theorem de_meth {f : List D → SrcT → Rs D} (hp : InsM G C p mn) (h : PE X e (tMeth C mn (spD G f) [] E (tD G false O E F) (tDs G false O E Fs))) (hv0 : G.v = false := by rfl) : PE X e (tD G false O E (methF f p F Fs)) := by
  refine h.mono fun σ H Q ⟨φ, B, ρ, S, R, hp'⟩ => ⟨φ, B, ρ, S, R, ?_⟩
  refine Pg.bind hp' fun d S1 w B1 H1 g R1 hw h1 => ?_
  split at h1
  · rename_i hd
    obtain ⟨a, dx, fs, rfl, ha, hl⟩ := hp hw hd
    refine ⟨a, dx, fs, rfl, R1.bsH false _ _ ha, hl, φ, B1, ρ, S1, R1, ?_⟩
    refine Pg.bind h1 fun ds S2 ws B2 H2 g2 R2 hws h2 => ?_
    rw [List.append_nil]
    exact sp_call R2 (.cons (hw.same (g2.bs false)) hws) h2 hv0
  · exact h1.elim
theorem de_meth0 {f : List D → SrcT → Rs D} (hp : InsM G C p mn) (h : PE X e (tMeth C mn (spD G f) [] E (tD G false O E F) tNil)) (hv0 : G.v = false := by rfl) : PE X e (tD G false O E (propF f p F)) := by
  refine h.mono fun σ H Q ⟨φ, B, ρ, S, R, hp'⟩ => ⟨φ, B, ρ, S, R, ?_⟩
  refine Pg.bind hp' fun d S1 w B1 H1 g R1 hw h1 => ?_
  split at h1
  · rename_i hd
    obtain ⟨a, dx, fs, rfl, ha, hl⟩ := hp hw hd
    refine ⟨a, dx, fs, rfl, R1.bsH false _ _ ha, hl, ?_⟩
    exact sp_call R1 (.cons hw .nil) h1 hv0
  · exact h1.elim
theorem de_propO {f : List D → SrcT → Rs D} (hp : InsK G C p) (h : PE X e (tProp C (spD G f) [] E (tD G false O E F))) (hv0 : G.v = false := by rfl) : PE X e (tD G false O E (propF f p F)) := by
  refine h.mono fun σ H Q ⟨φ, B, ρ, S, R, hp'⟩ => ⟨φ, B, ρ, S, R, ?_⟩
  refine Pg.bind hp' fun d S1 w B1 H1 g R1 hw h1 => ?_
  split at h1
  · rename_i hd
    obtain ⟨a, dx, fs, rfl, ha⟩ := hp hw hd
    refine ⟨a, dx, fs, rfl, R1.bsH false _ _ ha, ?_⟩
    exact sp_call R1 (.cons hw .nil) h1 hv0
  · exact h1.elim
/-! the two parts of the comprehension of the answers' lines -/
end
end
end NL
/-! ### plain steps: f-strings, stars, methods, properties, == of dicts -/
namespace NL
noncomputable section
open PySem L2 Law
section
variable {ρ : Env} {S : SrcT} {F : Ex} {Fs : Exs} {P : D → SrcT → Prop} {Ps : List D → SrcT → Prop} {p : D → Bool} {f : List D → SrcT → Rs D}
theorem jn_nil {acc : Str} (h : P (.str acc) S) : (jnF [] acc ρ S).sat P := h
theorem jn_cons {acc : Str} {Fl : List Ex} (h : (F ρ S).sat fun d S1 => ∃ z, d = .str z ∧ (acc ++ z).length ≤ 100000 ∧ (jnF Fl (acc ++ z) ρ S1).sat P) : (jnF (F :: Fl) acc ρ S).sat P := by
  unfold jnF; rw [sat_bind]
  refine h.mono fun d S1 ⟨z, e, hz, h1⟩ => ?_
  subst e
  dsimp only
  rw [if_pos hz]; exact h1
theorem joinF_sat {Fl : List Ex} (h : (jnF Fl Str.empty ρ S).sat P) : (joinF Fl ρ S).sat P := h
theorem starF_sat (h : (F ρ S).sat fun d S1 => ∃ ds, seqItems d = some ds ∧ (Fs ρ S1).sat fun es S2 => Ps (ds ++ es) S2) : (starF F Fs ρ S).sat Ps := by
  unfold starF; rw [sat_bind]
  refine h.mono fun d S1 ⟨ds, e, h1⟩ => ?_
  rw [e]; dsimp only; rw [sat_bind]; exact h1
theorem lstSF_sat (h : (Fs ρ S).sat fun ds S1 => ds.length ≤ 1000 ∧ P (.lst ds) S1) : (lstSF Fs ρ S).sat P := by
  unfold lstSF; rw [sat_bind]
  refine h.mono fun ds S1 ⟨e, h1⟩ => ?_
  rw [if_pos e]; exact h1
theorem propF_sat (h : (F ρ S).sat fun d S1 => p d = true ∧ (f [d] S1).sat P) : (propF f p F ρ S).sat P := by
  unfold propF; rw [sat_bind]
  refine h.mono fun ds S1 ⟨e, h1⟩ => ?_
  rw [if_pos e]; exact h1
theorem methF_sat (h : (F ρ S).sat fun d S1 => p d = true ∧ (Fs ρ S1).sat fun ds S2 => (f (d :: ds) S2).sat P) : (methF f p F Fs ρ S).sat P := by
  unfold methF; rw [sat_bind]
  refine h.mono fun ds S1 ⟨e, h1⟩ => ?_
  rw [if_pos e, sat_bind]; exact h1
end
/-! == -/
end
end NL
/-! ### written dicts, d.update(e), the table of a loop -/
namespace NL
noncomputable section
open PySem L2
def dispGo (ρ : NL.Env) : List (Ex × Ex) → SrcT → Rs (List (Key × D))
  | [], S => .ok [] S
  | (Fk, Fv) :: r, S => (Fk ρ S).bind fun k S1 => (Fv ρ S1).bind fun v S2 => match keyD k with
    | some kk => (dispGo ρ r S2).bind fun ys S3 => .ok ((kk, v) :: ys) S3
    | none => .bad
def dispF (l : List (Ex × Ex)) : Ex := fun ρ S => (dispGo ρ l S).bind fun ys S1 => if ys.length ≤ 15 then .ok (.dct (putsE [] ys)) S1 else .bad
section
variable {G : Gm} {φ : Fr} {m : Bool} {O O' Ol : List Nat} {E : XK} {σ : L2.St} {ρ : NL.Env} {B H B' H' : Hp} {S : SrcT} {X : Cx} {st : Stmt} {e : Expr} {F F1 F2 : Ex} {Fs : Exs} {pos : Pos}
/-! d.update(e) of an owned dict -/
def updS (i : Nat) (F : Ex) : Sx := fun ρ S => match ρ[i]? with
  | some (some (.dct es)) => (F ρ S).bind fun d S1 => match d with
    | .dct more => if es.length + more.length ≤ 100000 then .ok (.nx, ρ.set i (some (.dct (putsE es more)))) S1 else .bad
    | _ => .bad
  | _ => .bad
/-! loop.table.get((state, place)) -/
def tabGF (F1 : Ex) (Fs : Exs) : Ex := fun ρ S => (F1 ρ S).bind fun d S1 => match d with
  | .loop rs _ => (Fs ρ S1).bind fun ds S2 => match ds with
    | [.str s, .str p] => .ok (match fitIdx rs s p with | some k => .int (k : Nat) | none => .non) S2
    | _ => .bad
  | _ => .bad
/-! Run(words, keeps, kept, state, answer) -/
def mkRunF (Fs : Exs) : Ex := fun ρ S => (Fs ρ S).bind fun ds S1 => match ds with
  | [.lst ws, .lst ks, .lst ns, .str st, .str an] => match strsD ws, boolsD ks, intsD ns with
    | some w, some k, some n => .ok (.run ⟨st, w, k, n⟩ an) S1
    | _, _, _ => .bad
  | _ => .bad
/-! isinstance(x, (str, tuple)); xs * n -/
end
end
end NL
/-! ### own errors: __init__ says super().__init__(text), then self.f = f -/
namespace NL
open PySem L2
/-- an expression that gives some value and changes nothing that stands -/
def ArgOk (P : Program) (w : World) (e : Expr) (env : PySem.Env) (m : Str → Option Value) : Prop := ∀ (A : Around) (s : Shared) (Q : Value → Shared → Prop) (E : Value → Shared → Prop), s.heap.Ns env.locals m →
  (∀ v s', (∀ b o, s.heap.get? b = some o → s'.heap.get? b = some o) → s'.os = s.os → s'.gens = s.gens → Q v s') → wpAny (model P w) A (eval e env) Q E s
/-- as above, where what stands at h0 stands -/
def ArgOkH (P : Program) (w : World) (h0 : Heap) (e : Expr) (env : PySem.Env) (m : Str → Option Value) : Prop := ∀ (A : Around) (s : Shared) (Q : Value → Shared → Prop) (E : Value → Shared → Prop), A.units + 150 < cLine → s.heap.Ns env.locals m →
  (∀ b o, h0.get? b = some o → s.heap.get? b = some o) → (∀ v s', (∀ b o, s.heap.get? b = some o → s'.heap.get? b = some o) → s'.os = s.os → s'.gens = s.gens → Q v s') → wpAny (model P w) A (eval e env) Q E s
theorem ArgOk.at {P : Program} {w : World} {h0 : Heap} {e : Expr} {env : PySem.Env} {m : Str → Option Value} (h : ArgOk P w e env m) : ArgOkH P w h0 e env m := fun A s Q E _ hn _ q => h A s Q E hn q
end NL
/-! ### raise, and calls that may raise -/
namespace NL
end NL
/-! ### own errors whose text is an f-string of their number -/
namespace NL
end NL
/-! ### try, with clauses of both kinds -/
namespace NL
end NL
/-! ### try, as data -/
namespace NL
noncomputable section
open PySem L2 PySem.Spec PyProof.Rows
section
variable {G : Gm} {φ : Fr} {m : Bool} {O O' Ol L : List Nat} {E : XK} {W : WX} {σ : L2.St} {ρ : NL.Env} {B H B' H' : Hp} {S S' : SrcT} {X : Cx} {st : Stmt} {rest body : List Stmt} {e : Expr} {F : Ex} {Fs : Exs} {A A1 A2 : Sx} {pos : Pos}
/-! the body: its first statement may raise -/
/-- arguments do not raise -/
def callW (f : List D → SrcT → Rs D) (Fs : Exs) : Ex := fun ρ S => (noX (Fs ρ S)).bind f
/-- (c, e) -/
def tup2F (d : D) (F : Ex) : Ex := fun ρ S => (F ρ S).bind fun x S1 => .ok (.tup [d, x]) S1
/-- what follows does not raise -/
def noXS (A : Sx) : Sx := fun ρ S => noX (A ρ S)
/-! suites -/
end
end
end NL
/-! ### plain steps: tables, runs made, written dicts, updates, try -/
namespace NL
noncomputable section
open PySem L2
section
variable {ρ : Env} {S : SrcT} {F F1 : Ex} {Fs : Exs} {A : Sx} {P : D → SrcT → Prop} {PS : Fl × Env → SrcT → Prop} {f : List D → SrcT → Rs D}
theorem tabGF_sat (h : (F1 ρ S).sat fun d S1 => ∃ rs ans, d = .loop rs ans ∧ (Fs ρ S1).sat fun ds S2 => ∃ s p, ds = [.str s, .str p] ∧ P (match fitIdx rs s p with | some k => .int (k : Nat) | none => .non) S2) : (tabGF F1 Fs ρ S).sat P := by
  unfold tabGF; rw [sat_bind]
  refine h.mono fun d S1 ⟨rs, ans, e, h1⟩ => ?_
  subst e
  dsimp only
  rw [sat_bind]
  refine h1.mono fun ds S2 ⟨s, p, e, h2⟩ => ?_
  subst e
  exact h2
theorem mkRunF_sat (h : (Fs ρ S).sat fun ds S1 => ∃ ws ks ns st an, ds = [.lst ws, .lst ks, .lst ns, .str st, .str an] ∧ ∃ w k n, strsD ws = some w ∧ boolsD ks = some k ∧ intsD ns = some n ∧ P (.run ⟨st, w, k, n⟩ an) S1) : (mkRunF Fs ρ S).sat P := by
  unfold mkRunF; rw [sat_bind]
  refine h.mono fun ds S1 ⟨ws, ks, ns, st, an, e, w, k, n, h1, h2, h3, h4⟩ => ?_
  subst e
  dsimp only
  rw [h1, h2, h3]
  exact h4
theorem updS_sat {i : Nat} {es : List (Key × D)} (hi : ρ[i]? = some (some (.dct es))) (h : (F ρ S).sat fun d S1 => ∃ more, d = .dct more ∧ es.length + more.length ≤ 100000 ∧ PS (.nx, ρ.set i (some (.dct (putsE es more)))) S1) : (updS i F ρ S).sat PS := by
  unfold updS; rw [hi]
  dsimp only
  rw [sat_bind]
  refine h.mono fun d S1 ⟨more, e, hl, h1⟩ => ?_
  subst e
  dsimp only
  rw [if_pos hl]; exact h1
theorem noX_sat {α : Type} {r : Rs α} {P : α → SrcT → Prop} (h : r.sat P) : (noX r).sat P := by
  induction r with
  | all p k ih => exact fun x px => ih x (h x px)
  | ok a S => exact h
  | _ => exact h.elim
theorem noXS_sat (h : (A ρ S).sat PS) : (noXS A ρ S).sat PS := noX_sat h
theorem callW_sat (h : (Fs ρ S).sat fun ds S1 => (f ds S1).sat P) : (callW f Fs ρ S).sat P := by unfold callW; rw [sat_bind]; exact noX_sat h
theorem tup2F_sat {d : D} (h : (F ρ S).sat fun x S1 => P (.tup [d, x]) S1) : (tup2F d F ρ S).sat P := by unfold tup2F; rw [sat_bind]; exact h
/-- what a plain function gives, or what it raises -/
def Rs.satX {α : Type} (r : Rs α) (P : α → SrcT → Prop) (E : Nat → Option D → SrcT → Prop) : Prop := match r with
  | .ok a S => P a S
  | .exc c d S => E c d S
  | .all p k => ∀ x, p x → (k x).satX P E
  | .bad => False
theorem Rs.satX.mono {α : Type} {r : Rs α} {P P' : α → SrcT → Prop} {E E' : Nat → Option D → SrcT → Prop} (h : r.satX P E) (hp : ∀ a S, P a S → P' a S) (he : ∀ c d S, E c d S → E' c d S) : r.satX P' E' := by
  induction r with
  | ok a S => exact hp a S h
  | bad => exact h
  | exc c d S => exact he c d S h
  | all p f ih => exact fun x px => ih x (h x px)
theorem dgo_nil {P : List (Key × D) → SrcT → Prop} (h : P [] S) : (dispGo ρ [] S).sat P := h
theorem dgo_cons {Fk Fv : Ex} {l : List (Ex × Ex)} {P : List (Key × D) → SrcT → Prop} (h : (Fk ρ S).sat fun k S1 => (Fv ρ S1).sat fun v S2 => ∃ kk, keyD k = some kk ∧ (dispGo ρ l S2).sat fun ys S3 => P ((kk, v) :: ys) S3) : (dispGo ρ ((Fk, Fv) :: l) S).sat P := by
  unfold dispGo; rw [sat_bind]
  refine h.mono fun k S1 h1 => ?_
  rw [sat_bind]
  refine h1.mono fun v S2 ⟨kk, hk, h2⟩ => ?_
  rw [hk]; dsimp only
  rw [sat_bind]; exact h2
theorem dispF_sat {l : List (Ex × Ex)} (h : (dispGo ρ l S).sat fun ys S1 => ys.length ≤ 15 ∧ P (.dct (putsE [] ys)) S1) : (dispF l ρ S).sat P := by
  unfold dispF; rw [sat_bind]
  refine h.mono fun ys S1 ⟨hl, h1⟩ => ?_
  rw [if_pos hl]; exact h1
end
end
end NL
/-! ### plain steps where something may be raised -/
namespace NL
end NL
/-! ### defs that change what others know: cells -/
namespace NL
noncomputable section
open PySem L2
def Gm.vol (G : Gm) : Gm := { G with v := true }
section
variable {G : Gm} {p : Option Addr} {B : Hp}
mutual
theorem DV.vol : ∀ {v : V} {d : D}, DV G p B v d → DV G.vol p B v d
  | _, _, .non => .non
  | _, _, .bl b => .bl b
  | _, _, .int i => .int i
  | _, _, .str z => .str z
  | _, _, .lst h hs => .lst h (DVs.vol hs)
  | _, _, .tup h hs => .tup h (DVs.vol hs)
  | _, _, .dct h e hs => .dct h e (DVs.vol hs)
  | _, _, .dcT h e hs => .dcT h e (DVs.vol hs)
  | _, _, .loop h => .loop h
  | _, _, .run h => .run h
  | _, _, .src h => .src h
  | _, _, .set h h2 h3 => .set h h2 h3
  | _, _, .cls => .cls
  | _, _, .obj h e hs => .obj h e (DVs.vol hs)
  | _, _, .loc a => .loc a
theorem DVs.vol : ∀ {vs : List V} {ds : List D}, DVs G p B vs ds → DVs G.vol p B vs ds
  | _, _, .nil => .nil
  | _, _, .cons h hs => .cons (DV.vol h) (DVs.vol hs)
end
mutual
theorem DV.unvol : ∀ {v : V} {d : D}, DV G.vol p B v d → DV G p B v d
  | _, _, .non => .non
  | _, _, .bl b => .bl b
  | _, _, .int i => .int i
  | _, _, .str z => .str z
  | _, _, .lst h hs => .lst h (DVs.unvol hs)
  | _, _, .tup h hs => .tup h (DVs.unvol hs)
  | _, _, .dct h e hs => .dct h e (DVs.unvol hs)
  | _, _, .dcT h e hs => .dcT h e (DVs.unvol hs)
  | _, _, .loop h => .loop h
  | _, _, .run h => .run h
  | _, _, .src h => .src h
  | _, _, .set h h2 h3 => .set h h2 h3
  | _, _, .cls => .cls
  | _, _, .obj h e hs => .obj h e (DVs.unvol hs)
  | _, _, .loc a => .loc a
theorem DVs.unvol : ∀ {vs : List V} {ds : List D}, DVs G.vol p B vs ds → DVs G p B vs ds
  | _, _, .nil => .nil
  | _, _, .cons h hs => .cons (DV.unvol h) (DVs.unvol hs)
end
end
/-! ### the promise -/
def MemOk0 (G : Gm) (p : Option Addr) (B H : Hp) (M : Addr → Option MC) : Prop := ∀ a c, M a = some c → MemAt G p B H a c ∧ B a = none ∧ p ≠ some a
/-- behind a call -/
structure AftV (G : Gm) (p : Option Addr) (B H : Hp) (M : Addr → Option MC) (B' H' : Hp) (S' : SrcT) : Prop where
  b : Same B B'
  s : Same B' H'
  f : ∀ a o, p ≠ some a → M a = none → H a = some o → H' a = some o
  d : ∀ a, H' a = none → H a = none
  n : ∀ a o, B' a = some o → mutO o → B a = some o ∨ H a = none
  src : ∀ q, p = some q → B' q = none ∧ SrcAt H' q S'
  mem : ∀ a c, S'.m a = some c → MemAt G p B' H' a c ∧ B' a = none ∧ p ≠ some a ∧ (M a ≠ none ∨ H a = none)
def spPostV (G : Gm) (p : Option Addr) (B H : Hp) (M : Addr → Option MC) (Q : VK) (E : XK) : Rs D → Prop
  | .bad => False
  | .exc c d S' => ∀ B' H' cv od, AftV G p B H M B' H' S' → ExnAt G p B' H' c d cv od → E cv od H'
  | .ok d S' => ∀ v B' H', AftV G p B H M B' H' S' → DV G p B' v d → Q v H'
  | .all p0 k => ∀ x, p0 x → spPostV G p B H M Q E (k x)
def spV (G : Gm) (f : List D → SrcT → Rs D) : Sp := fun vs H Q E => ∃ p B ds S, Same B H ∧ (∀ q, p = some q → B q = none ∧ SrcAt H q S) ∧ MemOk0 G p B H S.m ∧ DVs G p B vs ds ∧ spPostV G p B H S.m Q E (f ds S)
section
variable {X : Cx} {G : Gm} {m m' : Bool} {O O' Ol : List Nat} {E : XK} {e tg : Expr} {es : List Expr} {F F1 F2 : Ex} {Fs : Exs}
variable {φ : Fr} {σ σ' : L2.St} {B H B' H' : Hp} {ρ ρ' : Env} {S S' : SrcT} {st : Stmt} {sts rest : List Stmt} {A A1 A2 : Sx}
theorem Rep.noown (R : Rep G φ O σ B H ρ S) (hv : G.v = true) {i : Nat} (hi : i ∈ O) : False := by
  have := R.nov i hi
  rw [hv] at this; cases this
theorem Rep.vt (R : Rep G φ O σ B H ρ S) (hv : G.v = true) (h : φ.v = false) : False := by
  rw [R.vv.1, hv] at h; cases h
theorem ne_none_of {α : Type} {o : Option α} {x : α} (h : o = some x) : o ≠ none := by rw [h]; exact fun z => nomatch z
theorem fn_lenV {n N : Nat} {vs : List V} {Q : VK} (h : spV G (fnF n N A) vs H Q E) : vs.length = n := by
  obtain ⟨p, B, ds, S, h1, h2, _, h3, h4⟩ := h
  rw [h3.len]
  unfold fnF at h4
  by_cases hn : ds.length = n
  · exact hn
  · rw [if_neg hn] at h4; exact h4.elim
theorem Rep.aft {p : Option Addr} {M : Addr → Option MC} (hv : G.v = true) (R : Rep G { p := p, B0 := B, H0 := H, v := true, M0 := M } O σ B' H' ρ S') : AftV G p B H M B' H' S' :=
  ⟨R.b0, R.sub, fun a o h1 h2 h3 => R.fr a o h1 h2 h3, fun a h => R.al a h, fun a o h hm => R.cl a o h hm, R.src, fun a c h => R.mem hv a c h⟩
theorem fn_readV {n : Nat} {Ns : List Str} {vs : List V} {Q : VK} (h : spV G (fnF n Ns.length A) vs H Q E) (hv : G.v = true := by rfl) : tS G [] O' Ol E A { nx := fun _ H' => Q .non H', rt := Q } (L2.start Ns vs) H := by
  have hlen := fn_lenV h
  obtain ⟨p, B, ds, S, h1, h2, hM, h3, h4⟩ := h
  have hl : ds.length = n := by rw [← h3.len]; exact hlen
  unfold fnF at h4
  rw [if_pos hl] at h4
  refine ⟨{ p := p, B0 := B, H0 := H, v := true, M0 := S.m }, B, ds.map some ++ List.replicate (Ns.length - n) none, S, ⟨h1, fun a o _ _ h => h, fun a o h _ => .inl h, h2, Same.refl _, ?_, ?_, fun i hi => (nomatch hi), fun i j hi => (nomatch hi), fun a h => h, fun _ a c hc => ⟨(hM a c hc).1, (hM a c hc).2.1, (hM a c hc).2.2, .inl (ne_none_of hc)⟩, ⟨hv.symm, fun h => by rw [hv] at h; cases h⟩, fun i hi => (nomatch hi)⟩, ?_⟩
  · unfold L2.start; simp [h3.len, hl]
  · intro i d _ hd
    unfold L2.start
    rw [hlen]
    by_cases hi : i < ds.length
    · rw [List.getElem?_append_left (by simpa using hi), List.getElem?_map] at hd
      obtain ⟨d', hd', hd''⟩ := Option.map_eq_some_iff.mp hd
      cases hd''
      obtain ⟨v, k1, k2⟩ := h3.get hd'
      refine ⟨v, ?_, k2⟩
      rw [List.getElem?_append_left (by rw [List.length_map, h3.len]; exact hi), List.getElem?_map, k1]; rfl
    · rw [List.getElem?_append_right (by simpa using hi)] at hd
      obtain ⟨_, hd2⟩ := List.getElem?_eq_some_iff.mp hd
      rw [List.getElem_replicate] at hd2; cases hd2
  · generalize A (ds.map some ++ List.replicate (Ns.length - n) none) S = r at h4
    induction r with
    | bad => exact h4
    | exc c d S' => exact fun B' H' cv od s R' hx => h4 B' H' cv od (R'.aft hv) hx
    | all p0 k ih => exact fun x px => ih x (h4 x px)
    | ok q S' =>
      match q, h4 with
      | (.nx, _), h4 => exact fun σ' B' H' s R' => h4 .non B' H' (R'.aft hv) .non
      | (.brk, _), h4 => exact h4.elim
      | (.cont, _), h4 => exact h4.elim
      | (.ret d, _), h4 => exact fun v B' H' s R' hd => h4 v B' H' (R'.aft hv) hd
theorem Rep.afterV (R : Rep G φ O σ B H ρ S) (hv : G.v = true) (x : AftV G φ.p B H S.m B' H' S') : Go φ B H B' H' ∧ Rep G φ O σ B' H' ρ S' := by
  refine ⟨⟨x.b, fun h => (R.vt hv h).elim, x.n, x.d⟩, ⟨x.s, fun a o hp hm h => ?_, fun a o h hm => ?_, x.src, R.b0.trans x.b, R.len, fun i d hi h => ?_, fun i hi => (R.noown hv hi).elim, R.dis, fun a h => R.al a (x.d a h), fun _ a c hc => ?_, R.vv, R.nov⟩⟩
  · refine x.f a o hp ?_ (R.fr a o hp hm h)
    cases k : S.m a with
    | none => rfl
    | some c =>
      rcases (R.mem hv a c k).2.2.2 with q | q
      · exact absurd hm q
      · rw [q] at h; cases h
  · rcases x.n a o h hm with k | k
    · exact R.cl a o k hm
    · exact .inr (R.al a k)
  · obtain ⟨v, k1, k2⟩ := R.val i d hi h
    exact ⟨v, k1, k2.same x.b⟩
  · obtain ⟨h1, h2, h3, h4⟩ := x.mem a c hc
    refine ⟨h1, h2, h3, ?_⟩
    rcases h4 with q | q
    · cases k : S.m a with
      | none => exact absurd k q
      | some c' => exact (R.mem hv a c' k).2.2.2
    · exact .inr (R.al a q)
/-! a def that knows cells calls one that knows none -/
def Rs.keepM {α : Type} (M : Addr → Option MC) (r : Rs α) : Rs α := match r with
  | .bad => .bad
  | .exc c d S => .exc c d { S with m := M }
  | .ok a S => .ok a { S with m := M }
  | .all p k => .all p fun x => (k x).keepM M
def callK (f : List D → SrcT → Rs D) (Fs : Exs) : Ex := fun ρ S => (Fs ρ S).bind fun ds S1 => (f ds S1).keepM S1.m
theorem Rep.afterK (R : Rep G.vol φ O σ B H ρ S) (h1 : Same B B') (h2 : Same B' H') (h3 : ∀ a o, φ.p ≠ some a → H a = some o → H' a = some o)
    (h4 : ∀ a o, B' a = some o → mutO o → B a = some o ∨ H a = none) (h5 : ∀ q, φ.p = some q → B' q = none ∧ SrcAt H' q S') : AftV G.vol φ.p B H S.m B' H' { S' with m := S.m } := by
  have gd : ∀ a, H' a = none → H a = none := fun a h => by
    cases k : H a with
    | none => rfl
    | some x =>
      by_cases e : φ.p = some a
      · rw [(h5 a e).2.1] at h; cases h
      · rw [h3 a x e k] at h; cases h
  refine ⟨h1, h2, fun a o hp _ h => h3 a o hp h, gd, h4, fun q hq => ⟨(h5 q hq).1, (h5 q hq).2⟩, fun a c hc => ?_⟩
  obtain ⟨k1, k2, k3, k4⟩ := R.mem rfl a c hc
  obtain ⟨o, ho, hmo⟩ := k1.some
  have mo : mutO o := by cases o <;> first | exact True.intro | cases hmo
  refine ⟨k1.move h1 fun o h => h3 a o k3 h, ?_, k3, .inl (ne_none_of hc)⟩
  cases hb : B' a with
  | none => rfl
  | some x =>
    have hx : x = o := by
      have := h2 a x hb
      rw [h3 a o k3 ho] at this; exact (Option.some.inj this).symm
    subst hx
    rcases h4 a x hb mo with q | q
    · rw [k2] at q; cases q
    · rw [ho] at q; cases q
theorem sp_callK {f : List D → SrcT → Rs D} {vs : List V} {ds : List D} {Q : VK} (R : Rep G.vol φ O σ B H ρ S) (hw : DVs G.vol φ.p (bs m φ B H) vs ds) (h : Pg G.vol φ m' O E σ ρ (DV G.vol) B H ((f ds S).keepM S.m) Q) : spD G f vs H Q E := by
  have hb : ∀ {m : Bool} {B H : Hp}, bs m φ B H = B := fun {m B H} => by unfold bs; rw [R.vv.1]; simp [Gm.vol]
  rw [hb] at hw
  refine ⟨φ.p, B, ds, S, R.sub, R.src, hw.unvol, ?_⟩
  generalize f ds S = r at h ⊢
  induction r with
  | bad => exact h
  | exc c d S' =>
    intro B' H' cv od h1 h2 h3 h4 h5 hx
    obtain ⟨g, R2⟩ := R.afterV rfl (R.afterK h1 h2 h3 h4 h5)
    refine h B' H' cv od g R2.bare ⟨hx.1, ?_⟩
    have hx2 := hx.2
    cases d with
    | none => exact hx2
    | some d =>
      obtain ⟨dx, v, k1, k2, k3⟩ := hx2
      exact ⟨dx, v, k1, k2, k3.vol⟩
  | ok d S' =>
    intro v B' H' h1 h2 h3 h4 h5 hd
    obtain ⟨g, R2⟩ := R.afterV rfl (R.afterK h1 h2 h3 h4 h5)
    exact h v B' H' g R2 (by rw [hb]; exact hd.vol)
  | all p k ih => exact fun x px => ih x (h x px)
theorem de_callK {f : List D → SrcT → Rs D} (h : PE X e (tCall (spD G f) [] E (tDs G.vol m O E Fs))) : PE X e (tD G.vol m' O E (callK f Fs)) := by
  refine h.mono fun σ H Q ⟨φ, B, ρ, S, R, hp⟩ => ⟨φ, B, ρ, S, R, ?_⟩
  refine Pg.bind hp fun d S1 w B1 H1 g R1 hw h1 => ?_
  rw [List.append_nil]
  exact sp_callK R1 hw h1
/-! ### a frame within a frame -/
def Fr.sub (φ : Fr) (B H : Hp) (S : SrcT) : Fr := { p := φ.p, B0 := B, H0 := H, v := φ.v, M0 := S.m }
theorem Rep.enter (R : Rep G φ O σ B H ρ S) (hv : G.v = true) : Rep G (φ.sub B H S) O σ B H ρ S :=
  ⟨R.sub, fun _ _ _ _ h => h, fun _ _ h _ => .inl h, R.src, Same.refl _, R.len, R.val, fun i hi => (R.noown hv hi).elim, R.dis, fun _ h => h, fun _ a c hc => ⟨(R.mem hv a c hc).1, (R.mem hv a c hc).2.1, (R.mem hv a c hc).2.2.1, .inl (ne_none_of hc)⟩, ⟨R.vv.1, fun h => by rw [hv] at h; cases h⟩, R.nov⟩
theorem Rep.leave {O2 : List Nat} (R : Rep G φ O σ B H ρ S) (hv : G.v = true) (R' : Rep G (φ.sub B H S) O2 σ' B' H' ρ' S') : Rep G φ O2 σ' B' H' ρ' S' ∧ Go φ B H B' H' := by
  refine ⟨⟨R'.sub, fun a o hp hm h => ?_, fun a o h hm => ?_, R'.src, R.b0.trans R'.b0, R'.len, R'.val, fun i hi => (R'.noown hv hi).elim, R'.dis, fun a h => R.al a (R'.al a h), fun _ a c hc => ?_, R.vv, R'.nov⟩, ⟨R'.b0, fun h => (R.vt hv h).elim, fun a o h hm => R'.cl a o h hm, fun a h => R'.al a h⟩⟩
  · refine R'.fr a o hp ?_ (R.fr a o hp hm h)
    show S.m a = none
    cases k : S.m a with
    | none => rfl
    | some c =>
      rcases (R.mem hv a c k).2.2.2 with q | q
      · exact absurd hm q
      · rw [q] at h; cases h
  · rcases R'.cl a o h hm with k | k
    · exact R.cl a o k hm
    · exact .inr (R.al a k)
  · obtain ⟨h1, h2, h3, h4⟩ := R'.mem hv a c hc
    refine ⟨h1, h2, h3, ?_⟩
    rcases h4 with q | q
    · cases k : S.m a with
      | none => exact absurd k q
      | some c' => exact (R.mem hv a c' k).2.2.2
    · exact .inr (R.al a q)
/-- what nobody knows stays -/
theorem Rep.keep {O2 : List Nat} (R' : Rep G (φ.sub B H S) O2 σ' B' H' ρ' S') (hv : G.v = true) {a : Addr} {o : HO} (np : φ.p ≠ some a) (hm : S.m a = none) (hB : B a = none) (hH : H a = some o) (ho : mutO o) : H' a = some o ∧ B' a = none ∧ S'.m a = none := by
  have h1 := R'.fr a o np hm hH
  refine ⟨h1, ?_, ?_⟩
  · cases hb : B' a with
    | none => rfl
    | some x =>
      have hx : x = o := by have := R'.sub a x hb; rw [h1] at this; exact (Option.some.inj this).symm
      subst hx
      rcases R'.cl a x hb ho with q | q
      · rw [show B a = some x from q] at hB; cases hB
      · rw [show H a = none from q] at hH; cases hH
  · cases hc : S'.m a with
    | none => rfl
    | some c =>
      rcases (R'.mem hv a c hc).2.2.2 with q | q
      · exact absurd hm q
      · rw [show H a = none from q] at hH; cases hH
/-! ### writing, laying cells -/
def updM (M : Addr → Option MC) (a : Addr) (c : MC) : Addr → Option MC := fun b => if b = a then some c else M b
theorem updM_same {M : Addr → Option MC} {a : Addr} {c : MC} : updM M a c a = some c := by unfold updM; rw [if_pos rfl]
theorem updM_ne {M : Addr → Option MC} {a b : Addr} {c : MC} (h : b ≠ a) : updM M a c b = M b := by unfold updM; rw [if_neg h]
def SrcT.put (S : SrcT) (a : Addr) (c : MC) : SrcT := { S with m := updM S.m a c }
theorem Rep.write (R : Rep G φ O σ B H ρ S) (hv : G.v = true) {a : Addr} {c c' : MC} {o : HO} (ha : S.m a = some c) (ho : MemAt G φ.p B (upd H a o) a c') : Rep G φ O σ B (upd H a o) ρ (S.put a c') ∧ Go φ B H B (upd H a o) := by
  obtain ⟨k1, k2, k3, k4⟩ := R.mem hv a c ha
  refine ⟨⟨fun b x h => ?_, fun b x hp hm h => ?_, R.cl, fun q hq => ?_, R.b0, R.len, R.val, fun i hi => (R.noown hv hi).elim, R.dis, fun b h => R.al b (upd_no h), fun _ b c2 hc => ?_, R.vv, R.nov⟩, ⟨Same.refl _, fun h => (R.vt hv h).elim, fun _ _ h _ => .inl h, fun b h => upd_no h⟩⟩
  · have e : b ≠ a := fun e => by rw [e, k2] at h; cases h
    rw [upd_ne e]; exact R.sub b x h
  · have e : b ≠ a := fun e => by
      subst e
      rcases k4 with q | q
      · exact q hm
      · rw [q] at h; cases h
    rw [upd_ne e]; exact R.fr b x hp hm h
  · have e : q ≠ a := fun e => k3 (e ▸ hq)
    obtain ⟨h1, h2, h3⟩ := R.src q hq
    exact ⟨h1, by rw [upd_ne e]; exact h2, h3⟩
  · by_cases e : b = a
    · subst e
      have hc : updM S.m b c' b = some c2 := hc
      rw [updM_same] at hc
      cases hc
      exact ⟨ho, k2, k3, k4⟩
    · have hc : updM S.m a c' b = some c2 := hc
      rw [updM_ne e] at hc
      obtain ⟨h1, h2, h3, h4⟩ := R.mem hv b c2 hc
      exact ⟨h1.move (Same.refl _) fun o h => by rw [upd_ne e]; exact h, h2, h3, h4⟩
theorem Rep.mfree (R : Rep G φ O σ B H ρ S) (hv : G.v = true) {a : Addr} (n : H a = none) : S.m a = none := by
  cases hc : S.m a with
  | none => rfl
  | some c =>
    obtain ⟨x, hx, _⟩ := (R.mem hv a c hc).1.some
    rw [n] at hx; cases hx
end
end
end NL
/-! ### cells: laid, read, written -/
namespace NL
noncomputable section
open PySem L2
/-! plain -/
def putFD (f : Str) (d : D) : List (Str × D) → List (Str × D)
  | [] => [(f, d)]
  | (g, x) :: r => if g = f then (g, d) :: r else (g, x) :: putFD f d r
/-- x.f = e -/
def setMS (c f : Str) (Fo Fv : Ex) : Sx := fun ρ S => (Fv ρ S).bind fun d S1 => (Fo ρ S1).bind fun o S2 => match o with
  | .loc a => match S2.m a with
    | some (.obj c' dx fs) => if c' = c ∧ fs.length < 900 then .ok (.nx, ρ) (S2.put a (.obj c' dx (putFD f d fs))) else .bad
    | _ => .bad
  | _ => .bad
/-- all cells below are put among what is shared -/
def frzD : Nat → (Addr → Option MC) → D → Option D
  | 0, _, d => some d
  | n + 1, M, .loc a => match M a with
    | some (.lst ds) => (ds.mapM (frzD n M)).map .lst
    | some (.dK es) => (es.mapM fun q => (frzD n M q.2).map fun y => (q.1, y)).map .dct
    | some (.dT es) => (es.mapM fun q => (frzD n M q.2).map fun y => (q.1, y)).map .dcT
    | some (.obj c _ fs) => (fs.mapM fun q => (frzD n M q.2).map fun y => (q.1, y)).map (.obj c)
    | some (.tab _) => none
    | some (.dX _) => none
    | none => none
  | _ + 1, _, d => some d
/-- C(..) of a def that knows cells; what comes is shared from then on -/
def makeFF (c : Str) (f : List D → SrcT → Rs D) (Fs : Exs) : Ex := fun ρ S => (Fs ρ S).bind fun ds S1 => .all (fun _ => True) fun x => .all (fun y => y ≠ x) fun dx =>
  (f (.loc x :: ds) { S1 with m := fun a => if a = x then some (.obj c dx []) else none }).bind fun r S2 => match r with
  | .non => optF (frzD 10 S2.m (.loc x)) { S2 with m := S1.m }
  | _ => .bad
section
variable {G : Gm} {p : Option Addr} {B : Hp}
theorem lookup_dv {f : Str} {d : D} : ∀ {kvs : List (Str × V)} {fs : List (Str × D)}, kvs.map Prod.fst = fs.map Prod.fst → DVs G p B (kvs.map Prod.snd) (fs.map Prod.snd) → fs.lookup f = some d → ∃ v, kvs.lookup f = some v ∧ DV G p B v d
  | [], [], _, _, h => by cases h
  | [], _ :: _, e, _, _ => by cases e
  | _ :: _, [], e, _, _ => by cases e
  | (g, v) :: kvs, (g', d') :: fs, e, hv, h => by
    rw [List.map_cons, List.map_cons] at e hv
    injection e with e1 e2
    have e1 : g = g' := e1
    subst e1
    cases hv with | cons h1 h2 =>
    rw [List.lookup_cons] at h ⊢
    cases hb : (f == g) with
    | true => rw [hb] at h; cases h; exact ⟨v, rfl, h1⟩
    | false => rw [hb] at h; exact lookup_dv e2 h2 h
theorem putF_dv {f : Str} {v : V} {d : D} (hd : DV G p B v d) : ∀ {kvs : List (Str × V)} {fs : List (Str × D)}, kvs.map Prod.fst = fs.map Prod.fst → DVs G p B (kvs.map Prod.snd) (fs.map Prod.snd) → (putF f v kvs).map Prod.fst = (putFD f d fs).map Prod.fst ∧ DVs G p B ((putF f v kvs).map Prod.snd) ((putFD f d fs).map Prod.snd)
  | [], [], _, _ => ⟨rfl, .cons hd .nil⟩
  | [], _ :: _, e, _ => by cases e
  | _ :: _, [], e, _ => by cases e
  | (g, v') :: kvs, (g', d') :: fs, e, hv => by
    rw [List.map_cons, List.map_cons] at e hv
    injection e with e1 e2
    have e1 : g = g' := e1
    subst e1
    cases hv with | cons h1 h2 =>
    unfold putF putFD
    by_cases hg : g = f
    · rw [if_pos hg, if_pos hg]; exact ⟨by rw [List.map_cons, List.map_cons, e2], .cons hd h2⟩
    · rw [if_neg hg, if_neg hg]
      obtain ⟨k1, k2⟩ := putF_dv hd e2 h2
      exact ⟨by rw [List.map_cons, List.map_cons, k1], .cons h1 k2⟩
end
section
variable {X : Cx} {G : Gm} {m m' : Bool} {O O' Ol : List Nat} {E : XK} {e e2 e3 tg : Expr} {es : List Expr} {F F1 F2 F3 Fo Fv : Ex} {Fs : Exs} {pos pos' apos cpos : Pos}
variable {φ : Fr} {σ σ' : L2.St} {B H B' H' : Hp} {ρ ρ' : Env} {S S' : SrcT} {st : Stmt} {c f : Str}
theorem Rep.bsv (R : Rep G φ O σ B H ρ S) (hv : G.v = true) {m : Bool} {B1 H1 : Hp} : bs m φ B1 H1 = B1 := by unfold bs; rw [R.vv.1, hv]; simp
theorem ds_setM {C : Addr} (hC : G.oc c = C) (hc : Cls G.K C) (hn : NoAttr G.K C f) (h : PS X st (sFld X.K (tD G m O E Fo) (tD G m' O E Fv) f)) (hv : G.v = true := by rfl) (hK : X.K = G.K := by rfl) : PS X st (tS G O O Ol E (setMS c f Fo Fv)) := by
  subst hC
  refine h.mono fun D σ H ⟨φ, B, ρ, S, R, hp⟩ => ⟨φ, B, ρ, S, R, ?_⟩
  rw [hK]
  refine PostS.bind hp fun d S1 w B1 H1 g R1 hw h1 => ⟨φ, B1, ρ, S1, R1, ?_⟩
  rw [R1.bsv hv] at hw
  refine PostS.bind h1 fun o S2 y B2 H2 g2 R2 hy h2 => ?_
  rw [R2.bsv hv] at hy
  split at h2
  · rename_i a
    split at h2
    · rename_i c' dx fs hm
      split at h2
      · rename_i hcl
        obtain ⟨e, hl⟩ := hcl
        subst e
        cases hy
        obtain ⟨kvs, k1, k2, k3⟩ := (R2.mem hv a _ hm).1
        have hlen : kvs.length = fs.length := by have := congrArg List.length k2; simpa using this
        obtain ⟨q1, q2⟩ := putF_dv (f := f) (hw.same g2.b) k2 k3
        refine ⟨a, _, dx, kvs, rfl, k1, hc, hn, by omega, ?_⟩
        obtain ⟨R3, g3⟩ := R2.write hv (c' := .obj c' dx (putFD f d fs)) (o := .ins (G.oc c') dx (putF f w kvs)) hm ⟨_, upd_same, q1, q2⟩
        exact h2 σ B2 _ (Same.refl _) R3
      · exact h2.elim
    · exact h2.elim
  · exact h2.elim
end
end
end NL
/-! ### cells are put among what is shared; comprehensions of defs that know cells -/
namespace NL
noncomputable section
open PySem L2
def absorb (B H' : Hp) (M : Addr → Option MC) : Hp := fun a => match B a with
  | some o => some o
  | none => match M a with
    | some _ => H' a
    | none => none
section
variable {G : Gm} {p : Option Addr} {B H : Hp} {M : Addr → Option MC}
theorem absorb_b : Same B (absorb B H M) := fun a o h => by unfold absorb; rw [h]
theorem absorb_h (s : Same B H) : Same (absorb B H M) H := fun a o h => by
  unfold absorb at h
  split at h
  · rename_i o' e; cases h; exact s _ _ e
  · split at h
    · exact h
    · cases h
theorem absorb_at {a : Addr} {c : MC} (hB : B a = none) (hM : M a = some c) : absorb B H M a = H a := by unfold absorb; rw [hB, hM]
theorem frz_list {f : D → Option D} {B2 : Hp} (hf : ∀ v d d', DV G p B v d → f d = some d' → DV G p B2 v d') : ∀ {vs : List V} {ds ds' : List D}, DVs G p B vs ds → ds.mapM f = some ds' → DVs G p B2 vs ds'
  | _, _, ds', .nil, h => by
    rw [List.mapM_nil] at h
    cases h; exact .nil
  | _, _, ds', .cons (d := d) (ds := ds) h1 h2, h => by
    rw [List.mapM_cons] at h
    cases hd : f d with
    | none => rw [hd] at h; cases h
    | some y =>
      rw [hd] at h
      cases hr : ds.mapM f with
      | none => rw [hr] at h; cases h
      | some ys =>
        rw [hr] at h
        cases h
        exact .cons (hf _ _ _ h1 hd) (frz_list hf h2 hr)
theorem frz_keys {κ : Type} {f : D → Option D} : ∀ {es es' : List (κ × D)}, (es.mapM fun q => (f q.2).map fun y => (q.1, y)) = some es' → es.map Prod.fst = es'.map Prod.fst ∧ (es.map Prod.snd).mapM f = some (es'.map Prod.snd)
  | [], es', h => by
    rw [List.mapM_nil] at h
    cases h; exact ⟨rfl, rfl⟩
  | q :: es, es', h => by
    rw [List.mapM_cons] at h
    cases hd : f q.2 with
    | none => rw [hd] at h; cases h
    | some y =>
      rw [hd] at h
      cases hr : (es.mapM fun q => (f q.2).map fun y => (q.1, y)) with
      | none => simp [hr] at h
      | some ys =>
        simp [hr] at h
        subst h
        obtain ⟨k1, k2⟩ := frz_keys hr
        refine ⟨by rw [List.map_cons, List.map_cons, k1], ?_⟩
        rw [List.map_cons, List.mapM_cons, hd, k2]; rfl
theorem frz_dv (hM : ∀ a c, M a = some c → MemAt G p B H a c ∧ B a = none) : ∀ (n : Nat) {v : V} {d d' : D}, DV G p B v d → frzD n M d = some d' → DV G p (absorb B H M) v d'
  | 0, v, d, d', h, e => by
    unfold frzD at e; cases e; exact h.same absorb_b
  | n + 1, v, d, d', h, e => by
    have ih : ∀ v d d', DV G p B v d → frzD n M d = some d' → DV G p (absorb B H M) v d' := fun v d d' h e => frz_dv hM n h e
    cases d with
    | loc a =>
      cases h
      unfold frzD at e
      cases hm : M a with
      | none => rw [hm] at e; cases e
      | some c =>
        obtain ⟨k1, k2⟩ := hM a c hm
        have at' := absorb_at (H := H) k2 hm
        rw [hm] at e
        cases c with
        | lst ds =>
          obtain ⟨ds', h1, rfl⟩ := Option.map_eq_some_iff.mp e
          obtain ⟨vs, q1, q2⟩ := k1
          exact .lst (at'.trans q1) (frz_list ih q2 h1)
        | dK es =>
          obtain ⟨es', h1, rfl⟩ := Option.map_eq_some_iff.mp e
          obtain ⟨kvs, q1, q2, q3⟩ := k1
          obtain ⟨e1, e2⟩ := frz_keys h1
          exact .dct (at'.trans q1) (q2.trans e1) (frz_list ih q3 e2)
        | dT es =>
          obtain ⟨es', h1, rfl⟩ := Option.map_eq_some_iff.mp e
          obtain ⟨kvs, q1, q2, q3⟩ := k1
          obtain ⟨e1, e2⟩ := frz_keys h1
          exact .dcT (at'.trans q1) (q2.trans e1) (frz_list ih q3 e2)
        | obj c dx fs =>
          obtain ⟨fs', h1, rfl⟩ := Option.map_eq_some_iff.mp e
          obtain ⟨kvs, q1, q2, q3⟩ := k1
          obtain ⟨e1, e2⟩ := frz_keys h1
          exact .obj (at'.trans q1) (q2.trans e1) (frz_list ih q3 e2)
        | tab q => cases e
        | dX es => cases e
    | _ => unfold frzD at e; cases e; exact h.same absorb_b
end
section
variable {X : Cx} {G : Gm} {m m' : Bool} {O O' Ol : List Nat} {E : XK} {e e2 e3 tg : Expr} {es : List Expr} {F F1 F2 F3 Fo Fv : Ex} {Fs : Exs} {pos pos' apos cpos : Pos}
variable {φ : Fr} {σ σ' : L2.St} {B H B' H' : Hp} {ρ ρ' : Env} {S S' : SrcT} {st : Stmt} {c : Str}
/-- the making itself -/
def makeK (c : Str) (f : List D → SrcT → Rs D) (ds : List D) (S1 : SrcT) : Rs D := .all (fun _ => True) fun x => .all (fun y => y ≠ x) fun dx =>
  (f (.loc x :: ds) { S1 with m := fun a => if a = x then some (.obj c dx []) else none }).bind fun r S2 => match r with
  | .non => optF (frzD 10 S2.m (.loc x)) { S2 with m := S1.m }
  | _ => .bad
theorem make_core {f : List D → SrcT → Rs D} {ds : List D} {ws : List V} {B1 H1 : Hp} {S1 : SrcT} {Q : VK} (R1 : Rep G φ O σ B1 H1 ρ S1) (hws : DVs G φ.p B1 ws ds) (h1 : Pg G φ m O E σ ρ (DV G) B1 H1 (makeK c f ds S1) Q) (hv0 : G.v = false) (x dx : Addr) (nx : H1 x = none) (ndx : H1 dx = none) (ne : dx ≠ x) :
    spV G.vol f (.ref x :: ws) (upd (upd H1 dx (.own x)) x (.ins (G.oc c) dx [])) (fun v H2 => v = .non ∧ Q (.ref x) H2) E := by
  have h2 := h1 x True.intro dx ne
  dsimp only at h2
  have npx : φ.p ≠ some x := fun e => by have := (R1.src x e).2.1; rw [nx] at this; cases this
  have nBx : B1 x = none := by
    cases k : B1 x with
    | none => rfl
    | some o => rw [R1.sub _ _ k] at nx; cases nx
  have smL : Same H1 (upd (upd H1 dx (.own x)) x (.ins (G.oc c) dx [])) := (same_new ndx).trans (same_new (by rw [upd_ne ne.symm]; exact nx))
  obtain ⟨M0, hM0⟩ : ∃ M0 : Addr → Option MC, M0 = fun a => if a = x then some (.obj c dx []) else none := ⟨_, rfl⟩
  have m0 : ∀ a, a ≠ x → M0 a = none := fun a ha => by rw [hM0]; exact if_neg ha
  rw [← hM0] at h2
  have fr : ∀ {B' H' : Hp} {S' : SrcT}, AftV G.vol φ.p B1 (upd (upd H1 dx (.own x)) x (.ins (G.oc c) dx [])) M0 B' H' S' → ∀ a o, φ.p ≠ some a → H1 a = some o → H' a = some o := fun A a o hp ha =>
    A.f a o hp (m0 a (ne_of_none ha nx)) (smL _ _ ha)
  have nn : ∀ a, (upd (upd H1 dx (.own x)) x (.ins (G.oc c) dx [])) a = none → H1 a = none := fun a ha => upd_no (upd_no ha)
  refine ⟨φ.p, B1, .loc x :: ds, { S1 with m := M0 }, R1.sub.trans smL, fun q hq => ⟨(R1.src q hq).1, smL _ _ (R1.src q hq).2.1, (R1.src q hq).2.2⟩, fun a c' hc => ?_, .cons (.loc x) hws.vol, ?_⟩
  · by_cases ea : a = x
    · subst ea
      have hc : M0 a = some c' := hc
      rw [hM0] at hc
      dsimp only at hc
      rw [if_pos rfl] at hc
      cases hc
      exact ⟨⟨[], upd_same, rfl, .nil⟩, nBx, npx⟩
    · have hc : M0 a = some c' := hc
      rw [m0 a ea] at hc; cases hc
  · show spPostV G.vol φ.p B1 _ M0 _ E _
    generalize f (.loc x :: ds) { S1 with m := M0 } = r at h2 ⊢
    induction r with
    | bad => exact h2
    | exc cc d S' =>
      intro B' H' cv od A hx
      obtain ⟨B2, g2, R2, hb⟩ := R1.after false (S' := S') (Bc := B') A.b A.s (fr A) (fun a o h hm => (A.n a o h hm).imp id (nn a)) A.src hv0
      refine h2 B2 H' cv od g2 R2.bare ⟨hx.1, ?_⟩
      have hx2 := hx.2
      cases d with
      | none => exact hx2
      | some d =>
        obtain ⟨dx, v, k1, k2, k3⟩ := hx2
        exact ⟨dx, v, k1, k2, k3.unvol.same hb⟩
    | all p0 k ih => exact fun x px => ih x (h2 x px)
    | ok d S' =>
      intro v B' H' A hd
      replace h2 : Pg G φ m O E σ ρ (DV G) B1 H1 (match (generalizing := false) d with
        | .non => optF (frzD 10 S'.m (.loc x)) { S' with m := S1.m }
        | _ => .bad) Q := h2
      cases d with
      | non =>
        cases hd
        obtain ⟨d', e1, q⟩ := h2.opt
        have hM : ∀ a c, S'.m a = some c → MemAt G.vol φ.p B' H' a c ∧ B' a = none := fun a c hc => ⟨(A.mem a c hc).1, (A.mem a c hc).2.1⟩
        have dv := (frz_dv hM 10 (DV.loc x) e1).unvol
        obtain ⟨B2, g2, R2, hb⟩ := R1.after false (S' := { S' with m := S1.m }) (Bc := absorb B' H' S'.m) (show Same B1 _ from A.b.trans absorb_b) (absorb_h A.s) (fr A) (fun a o h hm => by
          unfold absorb at h
          split at h
          · rename_i o' e; cases h
            exact (A.n a o e hm).imp id (nn a)
          · split at h
            · rename_i c' hc
              rcases (A.mem a c' hc).2.2.2 with k | k
              · by_cases ea : a = x
                · exact .inr (ea ▸ nx)
                · exact absurd (m0 a ea) k
              · exact .inr (nn a k)
            · cases h) (fun q hq => ⟨by
              unfold absorb
              rw [(A.src q hq).1]
              dsimp only
              cases hc : S'.m q with
              | none => rfl
              | some c' => exact absurd hq (A.mem q c' hc).2.2.1, (A.src q hq).2⟩) hv0
        exact ⟨rfl, q (.ref x) B2 H' g2 R2 ((dv.same hb).same (R2.bbs m))⟩
      | _ => exact h2.elim
theorem de_makeF {f : List D → SrcT → Rs D} {C : Addr} (hC : G.oc c = C) (h : PE X e (tMake C (spV G.vol f) [] E (tDs G false O E Fs))) (hv0 : G.v = false := by rfl) : PE X e (tD G m O E (makeFF c f Fs)) := by
  refine h.mono fun σ H Q ⟨φ, B, ρ, S, R, hp⟩ => ⟨φ, B, ρ, S, R, ?_⟩
  refine Pg.bind hp fun ds S1 ws B1 H1 g R1 hws h1 => fun x dx nx ndx ne => ?_
  rw [List.append_nil]
  subst hC
  exact make_core R1 hws h1 hv0 x dx nx ndx ne
/-! a comprehension, defs that know cells -/
theorem lc_impV {is js : List Nat} {FI : Exs} {g : Tgt} {c : Tst} {Fe : Ex} (hj : ∀ i, i ∈ js → i ∈ is) (σ : L2.St) (H : Hp) (Q : VK) (h : tN G m O E (lcF is FI g c Fe) σ H Q) (hv : G.v = true := by rfl) : tLc (tI G O E FI) (tTg G O js g) (tBt G O E c) (tD G false O E Fe) is σ H Q := by
  obtain ⟨φ, B, ρ, S, R, hp⟩ := h
  refine ⟨φ, B, ρ, S, R, ?_⟩
  refine PgN.bind hp fun ds S1 J B1 H1 g1 R1 hJ h1 => fun A nA => ?_
  split at h1
  case isFalse => exact h1.elim
  rename_i hdl
  have hJ : DWalk G φ.p B1 J ds := hJ
  obtain ⟨Gd, hGd, W⟩ := hJ
  have npA : φ.p ≠ some A := fun e => by have := (R1.src A e).2.1; rw [nA] at this; cases this
  have n0A : φ.H0 A = none := R1.al A nA
  have hO : ∀ i, i ∈ is → i ∉ O := fun i _ hi => R1.noown hv hi
  have Rw := R1.wipe (vs := is) hO
  have dis : ∀ {σ : L2.St} (i : Nat), i ∈ O → σ[i]? ≠ some (some (.ref A)) := fun i hi => (R1.noown hv hi).elim
  refine lc_it W (fun i H' => ∃ Bi Si acc vs, Rep G φ O (L2.wipe σ is) Bi H' (wipeE ρ is) Si ∧ Go φ B1 H1 Bi H' ∧ H' A = some (.lst vs) ∧ DVs G φ.p Bi vs acc ∧ acc.length ≤ i ∧ Bi A = none ∧ Si.m A = none ∧ PgN G φ m O E σ ρ B1 H1 ((lcGo g c Fe (wipeE ρ is) (ds.drop i) Si).bind fun ys S => .ok (.lst (acc ++ ys)) S) Q) ?_ ?_ ?_ ?_
  · obtain ⟨Rn, gn, nB, _, _⟩ := Rw.newN (o := .lst []) nA
    exact ⟨B1, S1, [], [], Rn, gn, upd_same, .nil, Nat.le_refl _, nB, R1.mfree hv nA, h1⟩
  · rintro i H' hi ⟨Bi, Si, acc, vs, Ri, gi, _⟩
    exact hGd H' (gi.b.trans Ri.sub)
  · rintro i x H2 H3 hi ⟨Bi, Si, acc, vs, Ri, gi, hA, hvs, hl, nBA, nMA, hp'⟩ y
    obtain ⟨d, B2, hd, R2, g2, dv⟩ := yield_rep Ri gi.b y
    have hdrop : ds.drop i = d :: ds.drop (i + 1) := by
      have hi' := (List.getElem?_eq_some_iff.mp hd)
      rw [List.drop_eq_getElem_cons hi'.1, hi'.2]
    rw [hdrop] at hp'
    rw [lcGo] at hp'
    have hp2 := hp'
    cases hg : g d (wipeE ρ is) with
    | none => rw [hg] at hp2; exact hp2.elim
    | some ρ' =>
      rw [hg] at hp2
      have hA2 : H3 A = some (.lst vs) ∧ B2 A = none := by
        obtain ⟨d', hd', hy⟩ := y
        rcases hy with ⟨rfl, _⟩ | ⟨T, o, rfl, nT, rfl, _⟩
        · refine ⟨hA, ?_⟩
          cases k : B2 A with
          | none => rfl
          | some z =>
            have hz := R2.sub A z k
            rw [hA] at hz; cases hz
            rcases g2.n A _ k True.intro with q | q
            · rw [nBA] at q; cases q
            · rw [hA] at q; cases q
        · have hA3 : upd H2 T o A = some (.lst vs) := upd_keep hA nT
          refine ⟨hA3, ?_⟩
          cases k : B2 A with
          | none => rfl
          | some z =>
            have hz := R2.sub A z k
            rw [hA3] at hz; cases hz
            rcases g2.n A _ k True.intro with q | q
            · rw [nBA] at q; cases q
            · rw [hA] at q; cases q
      refine ⟨φ, B2, wipeE ρ is, Si, d, ρ', R2, dv, hg, fun σ' R' fr => ⟨fr.wipe hj, φ.sub B2 H3 Si, B2, ρ', Si, R'.enter hv, ?_⟩⟩
      dsimp only at hp2
      rw [Rs.bind_assoc] at hp2
      obtain ⟨hA2, nA2⟩ := hA2
      have hvs2 := hvs.same g2.b
      have g12 := gi.trans g2
      generalize c ρ' Si = rc at hp2
      induction rc with
      | bad => exact hp2.elim
      | exc cc dd SS => exact fun B' H' cv od g R3 hx => hp2 B' H' cv od (g12.trans (R'.leave hv R3).2) (R'.leave hv R3).1 hx
      | all p0 k0 ih => exact fun x px => ih x (hp2 x px)
      | ok b S3 =>
        intro bw B3 H4 _ R3s hbw
        have hbw : bw = b := hbw
        subst hbw
        obtain ⟨hA3, nA3, nM3⟩ := R3s.keep hv npA nMA nA2 hA2 True.intro
        obtain ⟨R3, g3⟩ := R'.leave hv R3s
        have hp3 := hp2
        have Rw3 : Rep G φ O (L2.wipe σ is) B3 H4 (wipeE ρ is) S3 := Rw.move (g12.trans g3) R3
        cases bw with
        | false =>
          rw [if_neg (by decide)]
          exact ⟨B3, S3, acc, vs, Rw3, g12.trans g3, hA3, hvs2.same g3.b, by omega, nA3, nM3, hp3⟩
        | true =>
          rw [if_pos rfl]
          simp only [Rs.bind, if_true] at hp3
          refine ⟨φ.sub B3 H4 S3, B3, ρ', S3, R3.enter hv, ?_⟩
          generalize Fe ρ' S3 = rf at hp3
          induction rf with
          | bad => exact hp3.elim
          | exc cc dd SS => exact fun B' H' cv od g R4 hx => hp3 B' H' cv od ((g12.trans g3).trans (R3.leave hv R4).2) (R3.leave hv R4).1 hx
          | all p0 k0 ih => exact fun x px => ih x (hp3 x px)
          | ok yd S4 =>
            intro yv B4 H5 _ R4s hyv
            have hyv : DV G φ.p B4 yv yd := hyv
            obtain ⟨hA4, nA4, nM4⟩ := R4s.keep hv npA nM3 nA3 hA3 True.intro
            obtain ⟨R4, g4⟩ := R3.leave hv R4s
            have hp4 := hp3
            have hvs4 := (hvs2.same g3.b).same g4.b
            refine ⟨vs, hA4, sz100k_lt (by rw [hvs4.len]; omega), ?_⟩
            have Rw4 : Rep G φ O (L2.wipe σ is) B4 H5 (wipeE ρ is) S4 := Rw.move ((g12.trans g3).trans g4) R4
            have gA := (g12.trans g3).trans g4
            have g5 : Go φ B1 H1 B4 (upd H5 A (.lst (vs ++ [yv]))) := ⟨gA.b, fun h => (R1.vt hv h).elim, gA.n, fun q hq => gA.d q (upd_no hq)⟩
            refine ⟨B4, S4, acc ++ [yd], vs ++ [yv], Rw4.poke nA4 n0A npA dis (fun _ => nM4), g5, upd_same, hvs4.append (.cons hyv .nil), by rw [List.length_append]; simp; omega, nA4, nM4, ?_⟩
            have e5 : ((lcGo g c Fe (wipeE ρ is) (ds.drop (i + 1)) S4).bind fun ys S => Rs.ok (D.lst (acc ++ [yd] ++ ys)) S) = ((lcGo g c Fe (wipeE ρ is) (ds.drop (i + 1)) S4).bind fun ys S3 => Rs.ok (yd :: ys) S3).bind (fun ys S => Rs.ok (D.lst (acc ++ ys)) S) := by
              rw [Rs.bind_assoc]; congr 1; funext ys S; simp [Rs.bind]
            rw [e5]; exact hp4
  · rintro H' ⟨Bi, Si, acc, vs, Ri, gi, hA, hvs, hl, nBA, nMA, hp'⟩
    rw [List.drop_length] at hp'
    have hp' : PgN G φ m O E σ ρ B1 H1 (.ok (.lst (acc ++ [])) Si) Q := hp'
    rw [List.append_nil] at hp'
    exact hp' A _ Bi H' gi (R1.move gi Ri) ⟨hA, nBA, n0A, npA, dis, DVs.same (Ri.bbs m) hvs, fun _ => nMA⟩ nA
theorem de_lcV {is js : List Nat} {FI : Exs} {g : Tgt} {c : Tst} {Fe : Ex} (hj : ∀ i, i ∈ js → i ∈ is) (h : PE X e (tLc (tI G O E FI) (tTg G O js g) (tBt G O E c) (tD G false O E Fe) is)) (hv : G.v = true := by rfl) : PE X e (tD G m O E (lcF is FI g c Fe)) := de_ofN (h.mono fun σ H Q hw => lc_impV hj σ H Q hw hv)
theorem ds_lcV {i : Nat} {is js : List Nat} {FI : Exs} {g : Tgt} {c : Tst} {Fe : Ex} (hO' : O' = offO O i) (hj : ∀ i, i ∈ js → i ∈ is) (h : PS X st (tAsg (tLc (tI G O E FI) (tTg G O js g) (tBt G O E c) (tD G false O E Fe) is) (gName i))) (hv : G.v = true := by rfl) : PS X st (tS G O O' Ol E (setS i (lcF is FI g c Fe))) :=
  ds_set hO' (h.asg_mono fun σ H Q h => lc_impV (m := false) hj σ H Q (ofN_imp h) hv)
end
end
end NL
/-! ### comprehensions with two clauses -/
namespace NL
end NL
/-! ### an own object is made in a try's body -/
namespace NL
end NL
/-! ### own objects that are shared, dicts with tuples as keys -/
namespace NL
noncomputable section
open PySem L2
def fldOF (c f : Str) (F : Ex) : Ex := fun ρ S => (F ρ S).bind fun d S1 => match d with
  | .obj c' fs => if c' = c then optF (fs.lookup f) S1 else .bad
  | _ => .bad
def isObjK (c : Str) : D → Bool
  | .obj c' _ => decide (c' = c)
  | _ => false
section
variable {X : Cx} {G : Gm} {m m' : Bool} {O O' Ol : List Nat} {E : XK} {e e2 e3 tg : Expr} {es : List Expr} {F F1 F2 F3 Fo Fv : Ex} {Fs : Exs} {pos pos' apos cpos : Pos}
variable {φ : Fr} {σ σ' : L2.St} {B H B' H' : Hp} {ρ ρ' : Env} {S S' : SrcT} {st : Stmt} {c f : Str}
theorem de_fldO {C : Addr} (hC : G.oc c = C) (hc : Cls G.K C) (hn : NoAttr G.K C f) (h : PE X e (tFld X.K (tD G m O E F) f)) (hK : X.K = G.K := by rfl) : PE X e (tD G m O E (fldOF c f F)) := by
  subst hC
  refine h.mono fun σ H Q ⟨φ, B, ρ, S, R, hp⟩ => ⟨φ, B, ρ, S, R, ?_⟩
  rw [hK]
  refine Pg.bind hp fun d S1 w B1 H1 g R1 hw h1 => ?_
  cases hw with
  | @obj a dx c' kvs fs k1 k2 k3 =>
    replace h1 : Pg G φ m O E σ ρ (DV G) B1 H1 (if c' = c then optF (fs.lookup f) S1 else .bad) Q := h1
    by_cases e : c' = c
    · rw [if_pos e] at h1
      subst e
      obtain ⟨d', hd', q⟩ := h1.opt
      obtain ⟨v, hv1, hv2⟩ := lookup_dv k2 k3 hd'
      exact ⟨a, _, dx, kvs, v, rfl, R1.bsH m _ _ k1, hc, hn, hv1, q v B1 H1 Go.refl R1 hv2⟩
    · rw [if_neg e] at h1; exact h1.elim
  | _ => exact h1.elim
theorem insObj {C : Addr} (hC : G.oc c = C) : InsK G C (isObjK c) := fun h hp => by
  subst hC
  cases h with
  | @obj a dx c' kvs fs k1 k2 k3 =>
    have e : c' = c := of_decide_eq_true hp
    subst e
    exact ⟨_, _, _, rfl, k1⟩
  | _ => cases hp
end
/-! the module's table of long groups -/
/-! plain steps -/
section
variable {ρ : Env} {S : SrcT} {F F1 F2 F3 Fo Fv Fe : Ex} {Fs FI FI1 : Exs} {g g1 : Tgt} {cc c1 : Tst} {is is1 : List Nat} {P : D → SrcT → Prop} {PS : Fl × Env → SrcT → Prop} {f : List D → SrcT → Rs D} {c fn : Str}
theorem fldOF_sat (h : (F ρ S).sat fun d S1 => ∃ fs, d = .obj c fs ∧ ∃ r, fs.lookup fn = some r ∧ P r S1) : (fldOF c fn F ρ S).sat P := by
  unfold fldOF; rw [sat_bind]
  refine h.mono fun d S1 ⟨fs, e, r, hr, hp⟩ => ?_
  subst e
  dsimp only
  rw [if_pos rfl, hr]; exact hp
theorem setMS_sat (h : (Fv ρ S).sat fun d S1 => (Fo ρ S1).sat fun o S2 => ∃ a dx fs, o = .loc a ∧ S2.m a = some (.obj c dx fs) ∧ fs.length < 900 ∧ PS (.nx, ρ) (S2.put a (.obj c dx (putFD fn d fs)))) : (setMS c fn Fo Fv ρ S).sat PS := by
  unfold setMS; rw [sat_bind]
  refine h.mono fun d S1 h1 => ?_
  rw [sat_bind]
  refine h1.mono fun o S2 ⟨a, dx, fs, e, hm, hl, hp⟩ => ?_
  subst e
  dsimp only
  rw [hm]; dsimp only
  rw [if_pos ⟨rfl, hl⟩]; exact hp
theorem keepM_sat {α : Type} {M : Addr → Option MC} {r : Rs α} {P : α → SrcT → Prop} (h : r.sat fun a S => P a { S with m := M }) : (r.keepM M).sat P := by
  induction r with
  | all p k ih => exact fun x px => ih x (h x px)
  | ok a S => exact h
  | _ => exact h.elim
theorem callK_sat (h : (Fs ρ S).sat fun ds S1 => (f ds S1).sat fun d S2 => P d { S2 with m := S1.m }) : (callK f Fs ρ S).sat P := by
  unfold callK; rw [sat_bind]
  exact h.mono fun ds S1 h1 => keepM_sat h1
theorem makeFF_sat (h : (Fs ρ S).sat fun ds S1 => ∀ x dx, dx ≠ x → (f (.loc x :: ds) { S1 with m := fun a => if a = x then some (.obj c dx []) else none }).sat fun r S2 => r = .non ∧ ∃ d, frzD 10 S2.m (.loc x) = some d ∧ P d { S2 with m := S1.m }) : (makeFF c f Fs ρ S).sat P := by
  unfold makeFF; rw [sat_bind]
  refine h.mono fun ds S1 h1 => fun x _ dx hd => ?_
  rw [sat_bind]
  refine (h1 x dx hd).mono fun r S2 ⟨e, d, hf, hp⟩ => ?_
  subst e
  dsimp only
  rw [hf]; exact hp
end
end
end NL
namespace NL
noncomputable section
open PySem L2
/-! a plain expression within a def that knows cells -/
def liftK (F : Ex) : Ex := fun ρ S => (F ρ S).keepM S.m
theorem de_lift {G : Gm} {X : Cx} {e : Expr} {m : Bool} {O : List Nat} {E : XK} {F : Ex} (hv : G.v = false) (hfx : G.fx = none) (h : PE X e (tD G false [] E F)) : PE X e (tD G.vol m O E (liftK F)) := by
  refine h.mono fun σ H Q ⟨φ, B, ρ, S, R, hp⟩ => ?_
  refine ⟨{ p := φ.p, B0 := B, H0 := H }, B, ρ, S, ⟨R.sub, fun _ _ _ _ h => h, fun _ _ h _ => .inl h, R.src, Same.refl _, R.len, fun i d _ hd => ?_, fun i hi => (nomatch hi), fun i j hi => (nomatch hi), fun _ h => h, (fun h => by rw [hv] at h; cases h), ⟨hv.symm, fun _ f hf => by rw [hfx] at hf; cases hf⟩, fun i hi => (nomatch hi)⟩, ?_⟩
  · obtain ⟨v, k1, k2⟩ := R.val i d (fun hi => R.noown rfl hi) hd
    exact ⟨v, k1, k2.unvol⟩
  · have hp : Pg G.vol φ m O E σ ρ (DV G.vol) B H ((F ρ S).keepM S.m) Q := hp
    show Pg G { p := φ.p, B0 := B, H0 := H } false [] E σ ρ (DV G) B H (F ρ S) Q
    generalize F ρ S = r at hp ⊢
    induction r with
    | bad => exact hp
    | all p k ih => exact fun x px => ih x (hp x px)
    | exc c d S' =>
      intro B' H' cv od g R' hx
      obtain ⟨g2, R2⟩ := R.afterV rfl (R.afterK R'.b0 R'.sub (fun a o h1 h2 => R'.fr a o h1 rfl h2) (fun a o h hm => R'.cl a o h hm) R'.src)
      refine hp B' H' cv od g2 R2.bare ⟨hx.1, ?_⟩
      have hx2 := hx.2
      cases d with
      | none => exact hx2
      | some d =>
        obtain ⟨dx, v, k1, k2, k3⟩ := hx2
        exact ⟨dx, v, k1, k2, k3.vol⟩
    | ok d S' =>
      intro v B' H' g R' hd
      obtain ⟨g2, R2⟩ := R.afterV rfl (R.afterK R'.b0 R'.sub (fun a o h1 h2 => R'.fr a o h1 rfl h2) (fun a o h hm => R'.cl a o h hm) R'.src)
      exact hp v B' H' g2 R2 (by rw [R2.bsv rfl]; exact hd.vol)
theorem liftK_sat {F : Ex} {ρ : NL.Env} {S : SrcT} {P : D → SrcT → Prop} (h : (F ρ S).sat fun d S1 => P d { S1 with m := S.m }) : (liftK F ρ S).sat P := keepM_sat h
end
end NL
/-! ### x in d, for a dict d with plain keys; x a text, an int or None -/
namespace NL
end NL
/-! ### dict(pairs), dict(d), sorted texts, str(text), tuples with a star -/
namespace NL
end NL
/-! ### t != u, tuples with dicts among their items; xs[::-1]; [str(k) for k in d] -/
namespace NL
noncomputable section
open PySem L2 PyProof.Rows
section
variable {X : Cx} {G : Gm} {m m' : Bool} {O O' Ol : List Nat} {E : XK} {e : Expr} {es : List Expr} {F F1 F2 : Ex} {Fs : Exs}
/-! xs[::-1] -/
theorem DVs.rev {p : Option Addr} {B : Hp} : ∀ {vs : List V} {ds : List D}, DVs G p B vs ds → DVs G p B vs.reverse ds.reverse
  | _, _, .nil => .nil
  | _, _, .cons h hs => by
    rw [List.reverse_cons, List.reverse_cons]
    exact (DVs.rev hs).append (.cons h .nil)
def revF (F : Ex) : Ex := fun ρ S => (F ρ S).bind fun d S1 => match d with
  | .lst ds => .ok (.lst ds.reverse) S1
  | _ => .bad
theorem de_revN (h : PE X e (tRevL X.K (tD G m O E F))) (hK : X.K = G.K := by rfl) : PE X e (tN G m O E (revF F)) := by
  refine h.mono fun σ H Q ⟨φ, B, ρ, S, R, hp⟩ => ⟨φ, B, ρ, S, R, ?_⟩
  unfold revF at hp
  refine PgN.bind hp fun d S1 v B1 H1 g R1 hv h1 => ?_
  split at h1
  · cases hv with | lst ha hs =>
    rw [hK]
    refine ⟨_, _, rfl, SqL.of (R1.bsH m _ _ ha), fun a na => ?_⟩
    obtain ⟨R', g', n'⟩ := R1.newO (m := m) (o := .lst _) (d := .lst _) na hs.rev
    exact h1 a _ B1 _ g' R' n' na
  · exact h1.elim
theorem revF_sat {ρ : NL.Env} {S : SrcT} {P : D → SrcT → Prop} (h : (F ρ S).sat fun d S1 => ∃ ds, d = .lst ds ∧ P (.lst ds.reverse) S1) : (revF F ρ S).sat P := by
  unfold revF; rw [sat_bind]
  refine h.mono fun d S1 ⟨ds, e, h1⟩ => ?_
  subst e; exact h1
/-! [str(k) for k in d] -/
/-! enumerate(tuple) -/
end
end
end NL
/-! ### set(xs), xs a list of keys of any kind; len(set(texts)) -/
namespace NL
open PySem PySem.Spec PyProof.Rows
section
variable {K : Type} [DecidableEq K] [BEq K] [LawfulBEq K]
/-- a key that comes -/
def metS (acc : List K) (k : K) : List K := if acc.any (· == k) = true then acc else acc ++ [k]
def metK (ks : List K) : List K := ks.foldl metS []
theorem metS_length (acc : List K) (v : K) : (metS acc v).length = if acc.any (· == v) then acc.length else acc.length + 1 := by
  unfold metS; split <;> simp
theorem metK_snoc (ks : List K) (k : K) : metK (ks ++ [k]) = metS (metK ks) k := by unfold metK; rw [List.foldl_append]; rfl
theorem metK_length (ks : List K) : (metK ks).length ≤ ks.length := by
  have : ∀ (l acc : List K), (l.foldl metS acc).length ≤ acc.length + l.length := fun l => by
    induction l with
    | nil => intro acc; simp
    | cons x l ih =>
      intro acc
      have h1 := ih (metS acc x)
      rw [metS_length] at h1
      rw [List.foldl_cons, List.length_cons]
      split at h1 <;> omega
  have h := this ks []
  rw [List.length_nil, Nat.zero_add] at h
  exact h
variable {prog : Program} {w : World} {A : Around} {R : Result → Shared → Prop} {I : Addr} {fp wr : List Addr} {Gs : Array GenState → Array GenState → Prop} {n : Nat} {P : Nat → Value → Prop} {St : Nat → Shared → Prop} {knd : KeyKind prog w K}
variable {E : Value → Shared → Prop} {s : Shared}
end
end NL
namespace NL
end NL
/-! ### own objects by a classmethod: cls(..); C.m(..) in a try's body -/
namespace NL
end NL
/-! ### x = xs.pop(k), xs of this def's own; text * 0, text * 1 -/
namespace NL
end NL
/-! ### a def called with an owned list: what it gives is a new list of texts -/
namespace NL
end NL
/-! ### lists of a def that are changed deep within: cells; plain expressions over them, what they tell is parted from them -/
namespace NL
noncomputable section
open PySem L2
mutual
def pureD : D → Bool
  | .non => true
  | .bl _ => true
  | .int _ => true
  | .str _ => true
  | .loc _ => true
  | .tup ds => pureDs ds
  | _ => false
def pureDs : List D → Bool
  | [] => true
  | d :: ds => pureD d && pureDs ds
end
def mutD : D → Bool
  | .lst _ => true
  | .dct _ => true
  | .dcT _ => true
  | _ => false
/-- all cells are lists -/
def CellL (M : Addr → Option MC) : Prop := ∀ a c, M a = some c → ∃ ds, c = .lst ds
def frzE (M : Addr → Option MC) (ρ : Env) : Env := ρ.map fun o => o.bind (frzD 10 M)
/-- an object's fields that may change are forgotten -/
def forgO (t : Addr) (fs : List (Str × D)) : List (Str × D) := fs.map fun q => if pureD q.2 = true then q else (q.1, .loc t)
def oneMut (fs : List (Str × D)) : Bool := match fs.filter (fun q => !pureD q.2) with
  | [] => true
  | [q] => mutD q.2
  | _ => false
def forget (d : D) (S : SrcT) : Rs D := match d with
  | .obj c fs => if oneMut fs = true then .all (fun _ => True) fun t => .ok (.obj c (forgO t fs)) S else .bad
  | d => if pureD d = true then .ok d S else .bad
open Classical in
def liftZ (F : Ex) : Ex := fun ρ S => if CellL S.m then ((noX (F (frzE S.m ρ) S)).bind fun d S1 => forget d S1).keepM S.m else .bad
def prn (B : Hp) (M : Addr → Option MC) : Hp := fun a => match M a with
  | none => B a
  | some _ => none
section
variable {G : Gm} {p : Option Addr} {B : Hp} {M : Addr → Option MC}
theorem prn_at {a : Addr} {o : HO} (hM : ∀ a c, M a = some c → ∃ vs, B a = some (.lst vs)) (h : B a = some o) (ho : ∀ vs, o ≠ .lst vs) : prn B M a = some o := by
  unfold prn
  cases hm : M a with
  | none => exact h
  | some c =>
    obtain ⟨vs, e⟩ := hM a c hm
    rw [h] at e; cases e; exact (ho vs rfl).elim
theorem prn_sq {K : PySem.W.Frag} {a : Addr} {xs : List V} (hM : ∀ a c, M a = some c → ∃ vs, B a = some (.lst vs)) (h : SqT K B a xs) : SqT K (prn B M) a xs := by
  rcases h with (h | ⟨o, h⟩) | h
  · exact .inl (.inl (prn_at hM h fun _ e => nomatch e))
  · exact .inl (.inr ⟨o, prn_at hM h fun _ e => nomatch e⟩)
  · exact .inr h
mutual
theorem DV.prune (hM : ∀ a c, M a = some c → ∃ vs, B a = some (.lst vs)) : ∀ {v : V} {d : D}, DV G p B v d → pureD d = true → DV G p (prn B M) v d
  | _, _, .non, _ => .non
  | _, _, .bl b, _ => .bl b
  | _, _, .int i, _ => .int i
  | _, _, .str z, _ => .str z
  | _, _, .lst _ _, h => by unfold pureD at h; cases h
  | _, _, .tup h hs, k => .tup (prn_sq hM h) (DVs.prune hM hs (by unfold pureD at k; exact k))
  | _, _, .dct _ _ _, h => by unfold pureD at h; cases h
  | _, _, .dcT _ _ _, h => by unfold pureD at h; cases h
  | _, _, .loop _, h => by unfold pureD at h; cases h
  | _, _, .run _, h => by unfold pureD at h; cases h
  | _, _, .src _, h => by unfold pureD at h; cases h
  | _, _, .set _ _ _, h => by unfold pureD at h; cases h
  | _, _, .cls, h => by unfold pureD at h; cases h
  | _, _, .obj _ _ _, h => by unfold pureD at h; cases h
  | _, _, .loc a, _ => .loc a
theorem DVs.prune (hM : ∀ a c, M a = some c → ∃ vs, B a = some (.lst vs)) : ∀ {vs : List V} {ds : List D}, DVs G p B vs ds → pureDs ds = true → DVs G p (prn B M) vs ds
  | _, _, .nil, _ => .nil
  | _, _, .cons h hs, k => by
    unfold pureDs at k
    rw [Bool.and_eq_true] at k
    exact .cons (DV.prune hM h k.1) (DVs.prune hM hs k.2)
end
theorem mut_addr {v : V} {d : D} (h : DV G p B v d) (hm : mutD d = true) : ∃ t, v = .ref t := by
  cases h with
  | lst _ _ => exact ⟨_, rfl⟩
  | dct _ _ _ => exact ⟨_, rfl⟩
  | dcT _ _ _ => exact ⟨_, rfl⟩
  | _ => cases hm
theorem forg_pure {t : Addr} : ∀ {fs : List (Str × D)}, fs.filter (fun q => !pureD q.2) = [] → forgO t fs = fs
  | [], _ => rfl
  | q :: fs, h => by
    rw [List.filter_cons] at h
    cases hq : pureD q.2 with
    | true =>
      rw [hq, Bool.not_true, if_neg Bool.false_ne_true] at h
      show (if pureD q.2 = true then q else _) :: forgO t fs = _
      rw [if_pos hq, forg_pure h]
    | false => rw [hq, Bool.not_false, if_pos rfl] at h; cases h
theorem forg_dv (hM : ∀ a c, M a = some c → ∃ vs, B a = some (.lst vs)) : ∀ {kvs : List (Str × V)} {fs : List (Str × D)}, kvs.map Prod.fst = fs.map Prod.fst → DVs G p B (kvs.map Prod.snd) (fs.map Prod.snd) → oneMut fs = true → ∃ t, kvs.map Prod.fst = (forgO t fs).map Prod.fst ∧ DVs G p (prn B M) (kvs.map Prod.snd) ((forgO t fs).map Prod.snd)
  | [], [], _, _, _ => ⟨0, rfl, .nil⟩
  | [], _ :: _, e, _, _ => by cases e
  | _ :: _, [], e, _, _ => by cases e
  | q :: kvs, q' :: fs, e, hv, h1 => by
    rw [List.map_cons, List.map_cons] at e hv
    injection e with e1 e2
    cases hv with
    | cons hd hs =>
      unfold oneMut at h1
      rw [List.filter_cons] at h1
      cases hq : pureD q'.2 with
      | true =>
        rw [hq, Bool.not_true, if_neg Bool.false_ne_true] at h1
        obtain ⟨t, k1, k2⟩ := forg_dv hM e2 hs (by unfold oneMut; exact h1)
        refine ⟨t, ?_, ?_⟩
        · show q.1 :: _ = (if pureD q'.2 = true then q' else _).1 :: _
          rw [if_pos hq, e1]; exact congrArg _ k1
        · show DVs G p _ (q.2 :: _) ((if pureD q'.2 = true then q' else _).2 :: _)
          rw [if_pos hq]
          exact .cons (DV.prune hM hd hq) k2
      | false =>
        rw [hq, Bool.not_false, if_pos rfl] at h1
        cases hf : fs.filter (fun q => !pureD q.2) with
        | cons a l => rw [hf] at h1; cases h1
        | nil =>
          rw [hf] at h1
          obtain ⟨t, ht⟩ := mut_addr hd h1
          obtain ⟨t', k1, k2⟩ := forg_dv hM e2 hs (by unfold oneMut; rw [hf])
          rw [forg_pure hf] at k1 k2
          refine ⟨t, ?_, ?_⟩
          · show q.1 :: _ = (if pureD q'.2 = true then q' else _).1 :: (forgO t fs).map _
            rw [if_neg (by rw [hq]; exact Bool.false_ne_true), forg_pure hf, e1]; exact congrArg _ k1
          · show DVs G p _ (q.2 :: _) ((if pureD q'.2 = true then q' else _).2 :: (forgO t fs).map _)
            rw [if_neg (by rw [hq]; exact Bool.false_ne_true), forg_pure hf, ht]
            exact .cons (.loc t) k2
end
section
variable {X : Cx} {G : Gm} {m m' : Bool} {O O' Ol : List Nat} {E E' : XK} {e e2 tg : Expr} {es : List Expr} {F F1 F2 : Ex} {Fs : Exs}
variable {φ : Fr} {σ : L2.St} {B H B' H' : Hp} {ρ : Env} {S S' : SrcT}
theorem frzE_get {M : Addr → Option MC} {i : Nat} {d' : D} (h : (frzE M ρ)[i]? = some (some d')) : ∃ d, ρ[i]? = some (some d) ∧ frzD 10 M d = some d' := by
  unfold frzE at h
  rw [List.getElem?_map] at h
  obtain ⟨o, h1, h2⟩ := Option.map_eq_some_iff.mp h
  cases o with
  | none => cases h2
  | some d => exact ⟨d, h1, h2⟩
theorem de_liftZ (hv : G.v = false) (hfx : G.fx = none) (h : PE X e (tD G false [] E F)) : PE X e (tD G.vol m O E (liftZ F)) := by
  refine h.mono fun σ H Q ⟨φ, B, ρ, S, R, hp⟩ => ?_
  unfold liftZ at hp
  by_cases hC : CellL S.m
  case neg => rw [if_neg hC] at hp; exact hp.elim
  rw [if_pos hC] at hp
  have hM : ∀ a c, S.m a = some c → MemAt G φ.p B H a c ∧ B a = none := fun a c hc => by
    obtain ⟨k1, k2, _, _⟩ := R.mem rfl a c hc
    obtain ⟨ds, rfl⟩ := hC a c hc
    obtain ⟨vs, q1, q2⟩ := k1
    exact ⟨⟨vs, q1, q2.unvol⟩, k2⟩
  have hsrc : ∀ q, φ.p = some q → absorb B H S.m q = none ∧ SrcAt H q S := fun q hq => by
    refine ⟨?_, (R.src q hq).2⟩
    unfold absorb
    rw [(R.src q hq).1]
    dsimp only
    cases hm : S.m q with
    | none => rfl
    | some c => exact absurd hq (R.mem rfl q c hm).2.2.1
  refine ⟨{ p := φ.p, B0 := absorb B H S.m, H0 := H }, absorb B H S.m, frzE S.m ρ, S, ⟨absorb_h R.sub, fun _ _ _ _ h => h, fun _ _ h _ => .inl h, hsrc, Same.refl _, by unfold frzE; rw [List.length_map]; exact R.len, fun i d' _ hd => ?_, fun i hi => (nomatch hi), fun i j hi => (nomatch hi), fun _ h => h, (fun h => by rw [hv] at h; cases h), ⟨hv.symm, fun _ f hf => by rw [hfx] at hf; cases hf⟩, fun i hi => (nomatch hi)⟩, ?_⟩
  · obtain ⟨d, k1, k2⟩ := frzE_get hd
    obtain ⟨v, k3, k4⟩ := R.val i d (fun hi => R.noown rfl hi) k1
    exact ⟨v, k3, frz_dv hM 10 k4.unvol k2⟩
  replace hp : Pg G.vol φ m O E σ ρ (DV G.vol) B H (((noX (F (frzE S.m ρ) S)).bind fun d S1 => forget d S1).keepM S.m) Q := hp
  show Pg G { p := φ.p, B0 := absorb B H S.m, H0 := H } false [] E σ (frzE S.m ρ) (DV G) (absorb B H S.m) H (F (frzE S.m ρ) S) Q
  generalize F (frzE S.m ρ) S = r at hp ⊢
  induction r with
  | bad => exact hp
  | all p k ih => exact fun x px => ih x (hp x px)
  | exc c d S' => exact hp.elim
  | ok d S' =>
    intro v B' H' g R' hd
    replace hp : Pg G.vol φ m O E σ ρ (DV G.vol) B H ((forget d S').keepM S.m) Q := hp
    have hd : DV G φ.p B' v d := hd
    have hT : ∀ a c, S.m a = some c → ∃ vs, B' a = some (.lst vs) := fun a c hc => by
      obtain ⟨ds, rfl⟩ := hC a c hc
      obtain ⟨⟨vs, q1, _⟩, q2⟩ := hM a _ hc
      exact ⟨vs, R'.b0 a _ (by show absorb B H S.m a = _; rw [absorb_at q2 hc]; exact q1)⟩
    have pr : ∀ {a o}, prn B' S.m a = some o → B' a = some o ∧ S.m a = none := fun {a o} h => by
      unfold prn at h
      cases hm : S.m a with
      | none => rw [hm] at h; exact ⟨h, rfl⟩
      | some c => rw [hm] at h; cases h
    have hA := R.afterK (B' := prn B' S.m) (H' := H') (S' := S') (fun a o h => by
        unfold prn
        cases hm : S.m a with
        | none => exact R'.b0 a o (absorb_b a o h)
        | some c => rw [(hM a c hm).2] at h; cases h)
      (fun a o h => R'.sub a o (pr h).1) (fun a o h1 h2 => R'.fr a o h1 rfl h2)
      (fun a o h hm => by
        obtain ⟨h1, h2⟩ := pr h
        rcases R'.cl a o h1 hm with k | k
        · refine .inl ?_
          have k : absorb B H S.m a = some o := k
          unfold absorb at k
          cases hb : B a with
          | some o' => rw [hb] at k; exact k
          | none => rw [hb] at k; dsimp only at k; rw [h2] at k; cases k
        · exact .inr k)
      (fun q hq => by
        refine ⟨?_, (R'.src q hq).2⟩
        cases hx : prn B' S.m q with
        | none => rfl
        | some o =>
          have := (pr hx).1
          rw [(R'.src q hq).1] at this; cases this)
    obtain ⟨g2, R2⟩ := R.afterV rfl hA
    unfold forget at hp
    split at hp
    · rename_i c fs
      split at hp
      · rename_i ho
        cases hd with
        | obj ha hk hs =>
          obtain ⟨t, k1, k2⟩ := forg_dv hT hk hs ho
          have hp := hp t True.intro
          refine hp _ _ H' g2 R2 ?_
          rw [R2.bsv rfl]
          exact (DV.obj (prn_at hT ha fun _ e => nomatch e) k1 k2).vol
      · exact hp.elim
    · split at hp
      · rename_i ho
        refine hp v _ H' g2 R2 ?_
        rw [R2.bsv rfl]
        exact (DV.prune hT hd ho).vol
      · exact hp.elim
/-- a plain test -/
def liftT (c : Tst) : Tst := fun ρ S => (c ρ S).keepM S.m
theorem dt_lift {c : Tst} (hv : G.v = false) (hfx : G.fx = none) (h : PT X e (tBt G [] E c)) : PT X e (tBt G.vol O E (liftT c)) := by
  refine h.mono fun σ H Q ⟨φ, B, ρ, S, R, hp⟩ => ?_
  refine ⟨{ p := φ.p, B0 := B, H0 := H }, B, ρ, S, ⟨R.sub, fun _ _ _ _ h => h, fun _ _ h _ => .inl h, R.src, Same.refl _, R.len, fun i d _ hd => ?_, fun i hi => (nomatch hi), fun i j hi => (nomatch hi), fun _ h => h, (fun h => by rw [hv] at h; cases h), ⟨hv.symm, fun _ f hf => by rw [hfx] at hf; cases hf⟩, fun i hi => (nomatch hi)⟩, ?_⟩
  · obtain ⟨v, k1, k2⟩ := R.val i d (fun hi => R.noown rfl hi) hd
    exact ⟨v, k1, k2.unvol⟩
  · have hp : Pg G.vol φ true O E σ ρ _ B H ((c ρ S).keepM S.m) Q := hp
    show Pg G { p := φ.p, B0 := B, H0 := H } true [] E σ ρ _ B H (c ρ S) Q
    generalize c ρ S = r at hp ⊢
    induction r with
    | bad => exact hp
    | all p k ih => exact fun x px => ih x (hp x px)
    | exc c d S' =>
      intro B' H' cv od g R' hx
      obtain ⟨g2, R2⟩ := R.afterV rfl (R.afterK R'.b0 R'.sub (fun a o h1 h2 => R'.fr a o h1 rfl h2) (fun a o h hm => R'.cl a o h hm) R'.src)
      refine hp B' H' cv od g2 R2.bare ⟨hx.1, ?_⟩
      have hx2 := hx.2
      cases d with
      | none => exact hx2
      | some d =>
        obtain ⟨dx, v, k1, k2, k3⟩ := hx2
        exact ⟨dx, v, k1, k2, k3.vol⟩
    | ok d S' =>
      intro v B' H' g R' hd
      obtain ⟨g2, R2⟩ := R.afterV rfl (R.afterK R'.b0 R'.sub (fun a o h1 h2 => R'.fr a o h1 rfl h2) (fun a o h hm => R'.cl a o h hm) R'.src)
      exact hp v B' H' g2 R2 hd
theorem liftT_sat {c : Tst} {P : Bool → SrcT → Prop} (h : (c ρ S).sat fun b S1 => P b { S1 with m := S.m }) : (liftT c ρ S).sat P := keepM_sat h
/-- a new list becomes a cell -/
def cellF (F : Ex) : Ex := fun ρ S => (F ρ S).bind fun d S1 => match d with
  | .lst ds => .all (fun a => S1.m a = none) fun a => .ok (.loc a) (S1.put a (.lst ds))
  | _ => .bad
theorem cell_imp (σ : L2.St) (H : Hp) (Q : VK) (h : tD G m' O E (cellF F) σ H Q) (hv : G.v = true := by rfl) : tN G m O E F σ H Q := by
  obtain ⟨φ, B, ρ, S, R, hp⟩ := h
  refine ⟨φ, B, ρ, S, R, ?_⟩
  unfold cellF at hp
  generalize F ρ S = r at hp ⊢
  induction r with
  | bad => exact hp
  | exc c d S => exact hp
  | all p k ih => exact fun x px => ih x (hp x px)
  | ok d S1 =>
    intro a o B' H' g R' n hn
    replace hp : Pg G φ m' O E σ ρ (DV G) B H (match (generalizing := false) d with
      | .lst ds => .all (fun a => S1.m a = none) fun a => .ok (.loc a) (S1.put a (.lst ds))
      | _ => .bad) Q := hp
    split at hp
    · rename_i ds
      have hp := hp a (n.nm hv)
      obtain ⟨n1, n2, n3, n4, n5, n6, n7⟩ := n
      have n6 : DO G φ.p B' o (.lst ds) := by
        have e := n6
        rw [R'.bsv hv] at e; exact e
      cases o with
      | lst vs =>
        refine hp (.ref a) B' H' g ⟨R'.sub, R'.fr, R'.cl, fun q hq => R'.src q hq, R'.b0, R'.len, R'.val, R'.own, R'.dis, R'.al, fun _ b c2 hc => ?_, R'.vv, R'.nov⟩ (.loc a)
        have hc : updM S1.m a (.lst ds) b = some c2 := hc
        by_cases e : b = a
        · subst e
          rw [updM_same] at hc
          cases hc
          exact ⟨⟨vs, n1, n6⟩, n2, n4, .inr n3⟩
        · rw [updM_ne e] at hc
          exact R'.mem hv b c2 hc
      | _ => exact n6.elim
    · exact hp.elim
theorem de_cell (h : PE X e (tN G m O E F)) (hv : G.v = true := by rfl) : PE X e (tD G m' O E (cellF F)) := h.mono fun σ H Q hw => cell_imp σ H Q hw hv
theorem de_lcVN {is js : List Nat} {FI : Exs} {g : Tgt} {c : Tst} {Fe : Ex} (hj : ∀ i, i ∈ js → i ∈ is) (h : PE X e (tLc (tI G O E FI) (tTg G O js g) (tBt G O E c) (tD G false O E Fe) is)) (hv : G.v = true := by rfl) : PE X e (tN G m O E (lcF is FI g c Fe)) := h.mono fun σ H Q hw => lc_impV hj σ H Q hw hv
/-- x[i], of a cell -/
def idxMF (F1 F2 : Ex) : Ex := fun ρ S => (F1 ρ S).bind fun d S1 => (F2 ρ S1).bind fun k S2 => match d, k with
  | .loc a, .int i => match S2.m a with
    | some (.lst ds) => optF (atI ds i) S2
    | _ => .bad
  | _, _ => .bad
theorem de_idxM (h : PE X e (tOp (rIx G.K) (tD G m O E F1) (tD G m O E F2))) (hv : G.v = true := by rfl) : PE X e (tD G m' O E (idxMF F1 F2)) := by
  refine h.mono fun σ H Q ⟨φ, B, ρ, S, R, hp⟩ => ⟨φ, B, ρ, S, R, ?_⟩
  refine Pg.bind hp fun d S1 w B1 H1 g1 R1 hw h1 => ⟨φ, B1, ρ, S1, R1, ?_⟩
  refine Pg.bind h1 fun k S2 w2 B2 H2 g2 R2 hw2 h2 => ?_
  split at h2
  · rename_i a i
    split at h2
    · rename_i ds hm
      cases hw
      cases hw2
      obtain ⟨r, hr, q⟩ := Pg.opt h2
      obtain ⟨vs, k1, k2⟩ := (R2.mem hv a _ hm).1
      obtain ⟨v, hv2, dv⟩ := dvs_at k2 hr
      exact .inl ⟨_, _, _, _, rfl, rfl, SqL.of k1, hv2, q v B2 H2 Go.refl R2 (by rw [R2.bsv hv]; exact dv)⟩
    · exact h2.elim
  · exact h2.elim
/-- x.clear() -/
def clrMF (F1 : Ex) : Ex := fun ρ S => (F1 ρ S).bind fun d S1 => match d with
  | .loc a => match S1.m a with
    | some (.lst _) => .ok .non (S1.put a (.lst []))
    | _ => .bad
  | _ => .bad
theorem de_clrM (h : PE X e (tBM0 X.K "list" rClear (tD G m O E F1))) (hv : G.v = true := by rfl) : PE X e (tD G m' O E (clrMF F1)) := by
  refine h.mono fun σ H Q ⟨φ, B, ρ, S, R, hp⟩ => ⟨φ, B, ρ, S, R, ?_⟩
  refine Pg.bind hp fun d S1 w B1 H1 g1 R1 hw h1 => ?_
  split at h1
  · rename_i a
    split at h1
    · rename_i ds hm
      cases hw
      obtain ⟨vs, k1, k2⟩ := (R1.mem hv a _ hm).1
      obtain ⟨R3, g3⟩ := R1.write hv (c' := .lst []) (o := .lst []) hm ⟨_, upd_same, .nil⟩
      exact ⟨.inl ⟨rfl, vs, SqL.of k1⟩, a, vs, rfl, rfl, k1, h1 .non B1 _ g3 R3 .non⟩
    · exact h1.elim
  · exact h1.elim
/-! plain steps -/
theorem liftZ_sat {P : D → SrcT → Prop} (hC : CellL S.m) (h : (F (frzE S.m ρ) S).sat fun d S1 => match d with
    | .obj c fs => oneMut fs = true ∧ ∀ t, P (.obj c (forgO t fs)) { S1 with m := S.m }
    | d => pureD d = true ∧ P d { S1 with m := S.m }) : (liftZ F ρ S).sat P := by
  unfold liftZ
  rw [if_pos hC]
  refine keepM_sat ?_
  rw [sat_bind]
  refine (noX_sat h).mono fun d S1 hd => ?_
  unfold forget
  cases d with
  | obj c fs =>
    dsimp only at hd ⊢
    rw [if_pos hd.1]
    exact fun t _ => hd.2 t
  | _ =>
    dsimp only at hd ⊢
    rw [if_pos hd.1]; exact hd.2
theorem cellF_sat {P : D → SrcT → Prop} (h : (F ρ S).sat fun d S1 => ∃ ds, d = .lst ds ∧ ∀ a, S1.m a = none → P (.loc a) (S1.put a (.lst ds))) : (cellF F ρ S).sat P := by
  unfold cellF; rw [sat_bind]
  refine h.mono fun d S1 ⟨ds, e, h1⟩ => ?_
  subst e
  exact h1
theorem idxMF_sat {P : D → SrcT → Prop} (h : (F1 ρ S).sat fun d S1 => (F2 ρ S1).sat fun k S2 => ∃ a i ds r, d = .loc a ∧ k = .int i ∧ S2.m a = some (.lst ds) ∧ atI ds i = some r ∧ P r S2) : (idxMF F1 F2 ρ S).sat P := by
  unfold idxMF; rw [sat_bind]
  refine h.mono fun d S1 h1 => ?_
  rw [sat_bind]
  refine h1.mono fun k S2 ⟨a, i, ds, r, e1, e2, hm, hr, hp⟩ => ?_
  subst e1; subst e2
  dsimp only
  rw [hm]; dsimp only
  rw [hr]; exact hp
theorem clrMF_sat {P : D → SrcT → Prop} (h : (F1 ρ S).sat fun d S1 => ∃ a ds, d = .loc a ∧ S1.m a = some (.lst ds) ∧ P .non (S1.put a (.lst []))) : (clrMF F1 ρ S).sat P := by
  unfold clrMF; rw [sat_bind]
  refine h.mono fun d S1 ⟨a, ds, e, hm, hp⟩ => ?_
  subst e
  dsimp only
  rw [hm]; exact hp
/-! the law itself as a def that knows cells -/
theorem law_readV {A : Sx} {Q : VK} {p : Addr} {k : Nat} {nxP : L2.St → Hp → Prop} {v0 : Option V} (hs : Src H p 0) (hQ : ∀ H', Q (.bl true) H') (hl : ∀ S : SrcT, S.c = 0 → S.m = (fun _ => none) → (A (none :: some .src :: List.replicate k none) S).sat fun r _ => ∃ ρ', r = (.ret (.bl true), ρ')) :
    tS G.vol [] O' Ol E A { nx := nxP, rt := Q } (v0 :: some (.ref p) :: List.replicate k none) H := by
  obtain ⟨g, s, h1, h2, h3, _⟩ := hs
  have he := hl { g := g, s := s, c := 0, m := fun _ => none } rfl rfl
  refine ⟨{ p := some p, B0 := fun _ => none, H0 := H, v := true, M0 := fun _ => none }, fun _ => none, none :: some .src :: List.replicate k none, { g := g, s := s, c := 0, m := fun _ => none }, ⟨fun _ _ h => (nomatch h), fun _ _ _ _ h => h, fun _ _ h => (nomatch h), fun q hq => ?_, fun _ _ h => (nomatch h), by simp, fun i d _ hd => ?_, fun i hi => (nomatch hi), fun i j hi => (nomatch hi), fun a h => h, fun _ a c hc => (nomatch hc), ⟨rfl, fun h => (nomatch h)⟩, fun i hi => (nomatch hi)⟩, ?_⟩
  · cases hq; exact ⟨rfl, h1, h2, h3, Int.le_refl _⟩
  · match i with
    | 0 => cases hd
    | 1 => cases hd; exact ⟨.ref p, rfl, .src rfl⟩
    | i + 2 =>
      have hd : (List.replicate k (none : Option D))[i]? = some (some d) := hd
      obtain ⟨_, hd2⟩ := List.getElem?_eq_some_iff.mp hd
      rw [List.getElem_replicate] at hd2; cases hd2
  · generalize A (none :: some .src :: List.replicate k none) { g := g, s := s, c := 0, m := fun _ => none } = r at he
    induction r with
    | bad => exact he.elim
    | exc _ _ _ => exact he.elim
    | all p0 f ih => exact fun x px => ih x (he x px)
    | ok q S =>
      obtain ⟨ρ', rfl⟩ := he
      intro v B' H' _ _ hv
      cases hv
      exact hQ H'
end
end
end NL
/-! ### cells that are dicts with keys of any kind; walks over cells -/
namespace NL
noncomputable section
open PySem L2
section
variable {X : Cx} {G : Gm} {m m' : Bool} {O O' Ol : List Nat} {E : XK} {e : Expr} {F F1 F2 F3 Fd Fk Fz Fv : Ex} {Fs : Exs} {pos : Pos}
variable {φ : Fr} {σ σ' : L2.St} {B H B' H' : Hp} {ρ ρ' : NL.Env} {S S' : SrcT} {st : Stmt}
/-! a cell is walked: it is out of sight meanwhile -/
/-- what was out of sight is seen again -/
theorem Rep.show {a : Addr} {c : MC} (R : Rep G φ O σ B H ρ S) (h1 : MemAt G φ.p B H a c) (h2 : B a = none) (h3 : φ.p ≠ some a) (h4 : φ.M0 a ≠ none ∨ φ.H0 a = none) : Rep G φ O σ B H ρ (S.put a c) :=
  ⟨R.sub, R.fr, R.cl, fun q hq => R.src q hq, R.b0, R.len, R.val, R.own, R.dis, R.al, fun hv b c2 hc => by
    have hc : updM S.m a c b = some c2 := hc
    by_cases e : b = a
    · subst e
      rw [updM_same] at hc
      cases hc
      exact ⟨h1, h2, h3, h4⟩
    · rw [updM_ne e] at hc
      exact R.mem hv b c2 hc, R.vv, R.nov⟩
end
end
end NL
/-! ### {k: v}, k a tuple; own objects that stay cells; their methods -/
namespace NL
noncomputable section
open PySem PySem.Spec PyProof.Rows L2
/-! methods of shared own objects; written dicts of the module -/
def isObjM (c mn : Str) : D → Bool
  | .obj c' fs => decide (c' = c) && decide (fs.lookup mn = none)
  | _ => false
theorem lookup_none {G : Gm} {p : Option Addr} {B : Hp} {mn : Str} : ∀ {l : List (Str × V)} {r : List (Str × D)}, l.map Prod.fst = r.map Prod.fst → r.lookup mn = none → l.lookup mn = none
  | [], _, _, _ => rfl
  | _ :: _, [], e, _ => by cases e
  | (p1, v) :: l, (q1, d) :: r, e, h => by
    rw [List.map_cons, List.map_cons] at e
    injection e with e1 e2
    have e1 : p1 = q1 := e1
    subst e1
    rw [List.lookup_cons] at h ⊢
    cases hb : (mn == p1) with
    | true => rw [hb] at h; cases h
    | false => rw [hb] at h; exact lookup_none (G := G) (p := p) (B := B) e2 h
theorem insObjM {G : Gm} {c mn : Str} {C : Addr} (hC : G.oc c = C) : InsM G C (isObjM c mn) mn := fun {q B v d} h hp => by
  subst hC
  cases h with
  | @obj a dx c' kvs fs k1 k2 k3 =>
    unfold isObjM at hp
    simp only [Bool.and_eq_true, decide_eq_true_eq] at hp
    obtain ⟨e, hn⟩ := hp
    subst e
    exact ⟨_, _, _, rfl, k1, lookup_none (G := G) (p := q) (B := B) k2 hn⟩
  | _ => cases hp
end
end NL
/-! ### own dicts with tuples of plain keys; reading them when they are shared -/
namespace NL
end NL
/-! ### while; a cell's pop, length and != -/
namespace NL
noncomputable section
open PySem L2
/-- while, at most n turns -/
def whGo (c : Tst) (A : Sx) : Nat → Env → SrcT → Rs (Fl × Env)
  | 0, _, _ => .bad
  | n + 1, ρ, S => (c ρ S).bind fun b S1 => if b = true then (A ρ S1).bind fun r S2 => match r with
      | (.nx, ρ2) => whGo c A n ρ2 S2
      | (.cont, ρ2) => whGo c A n ρ2 S2
      | (.brk, ρ2) => .ok (.nx, ρ2) S2
      | (.ret d, ρ2) => .ok (.ret d, ρ2) S2
    else .ok (.nx, ρ) S1
def whileS (n : Nat) (c : Tst) (A : Sx) : Sx := fun ρ S => whGo c A n ρ S
section
variable {X : Cx} {G : Gm} {m m' : Bool} {O O' Ol : List Nat} {E : XK} {e : Expr} {F F1 F2 : Ex} {Fs : Exs} {c : Tst} {A : Sx}
variable {φ : Fr} {σ : L2.St} {B H B' H' : Hp} {ρ : NL.Env} {S : SrcT} {st : Stmt}
theorem ds_while (n : Nat) (h : PS X st (tWhile (tBt G O E c) (tS G O O O E A))) : PS X st (tS G O O Ol E (whileS n c A)) := by
  refine h.mono fun D σ H ⟨φ, B, ρ, S, R, hp⟩ => ?_
  refine ⟨fun k σ H => ∃ Bi ρi Si, Rep G φ O σ Bi H ρi Si ∧ PostS G φ O Ol E D Bi (whGo c A k ρi Si), ⟨n, B, ρ, S, R, hp⟩, ?_⟩
  rintro k σ H ⟨Bi, ρi, Si, Ri, hp'⟩
  cases k with
  | zero => exact hp'.elim
  | succ k =>
    rw [whGo] at hp'
    refine ⟨φ, Bi, ρi, Si, Ri, ?_⟩
    refine PostS.bind hp' fun b S1 w B1 H1 g1 R1 hw h1 => ?_
    have hw : w = b := hw
    subst hw
    cases w with
    | true =>
      rw [if_pos rfl] at h1 ⊢
      refine ⟨fun σ' H' => ∃ Bi ρi Si, Rep G φ O σ' Bi H' ρi Si ∧ PostS G φ O Ol E D Bi (whGo c A k ρi Si), fun σ' H' h => ⟨k, Nat.lt_succ_self k, h⟩, φ, B1, ρi, S1, R1, ?_⟩
      exact PostS.seq (β := Unit) h1 (fun ρ1 S1 σ'' B'' H'' s'' R'' h => ⟨B'', ρ1, S1, R'', h⟩) (fun ρ1 S1 σ'' B'' H'' s'' R'' h => h σ'' B'' H'' (Same.refl _) R'') (fun ρ1 S1 σ'' B'' H'' s'' R'' h => ⟨B'', ρ1, S1, R'', h⟩) (fun ρ1 d S1 v B'' H'' s'' R'' hv h => h v B'' H'' (Same.refl _) R'' hv)
    | false =>
      rw [if_neg (by decide)] at h1 ⊢
      exact h1 σ B1 H1 (Same.refl _) R1
/-! plain steps -/
/-- while: what holds at each turn, with a number that falls -/
theorem wh_sat {n : Nat} {P : Fl × NL.Env → SrcT → Prop} (I : Nat → NL.Env → SrcT → Prop)
    (hs : ∀ k ρ S, k < n → I k ρ S → (c ρ S).sat fun b S1 => if b = true then (A ρ S1).sat fun r S2 => match r with
      | (.nx, ρ2) => ∃ k', k = k' + 1 ∧ I k' ρ2 S2
      | (.cont, ρ2) => ∃ k', k = k' + 1 ∧ I k' ρ2 S2
      | (.brk, ρ2) => P (.nx, ρ2) S2
      | (.ret d, ρ2) => P (.ret d, ρ2) S2
      else P (.nx, ρ) S1) {k : Nat} (hk : k < n) (h0 : I k ρ S) : (whileS n c A ρ S).sat P := by
  have key : ∀ (n' k : Nat) (ρ : NL.Env) (S : SrcT), k < n' → k < n → I k ρ S → (whGo c A n' ρ S).sat P := by
    intro n'
    induction n' with
    | zero => intro k ρ S h; omega
    | succ n' ih =>
      intro k ρ S h1 h2 h3
      rw [whGo, sat_bind]
      refine (hs k ρ S h2 h3).mono fun b S1 h4 => ?_
      split at h4
      · rename_i hb
        rw [if_pos hb, sat_bind]
        refine h4.mono fun r S2 h5 => ?_
        match r, h5 with
        | (.nx, ρ2), ⟨k', e, hi⟩ => exact ih k' ρ2 S2 (by omega) (by omega) hi
        | (.cont, ρ2), ⟨k', e, hi⟩ => exact ih k' ρ2 S2 (by omega) (by omega) hi
        | (.brk, ρ2), h5 => exact h5
        | (.ret d, ρ2), h5 => exact h5
      · rename_i hb
        rw [if_neg hb]; exact h4
  exact key n k ρ S hk hk h0
end
/-! zip of two tuples -/
end
end NL
/-! ### sets of at most one tuple of texts, sorted -/
namespace NL
open PySem PySem.Spec PyProof.Rows L2
section
variable {P : Program} {w : World} {A : Around} {E : Value → Shared → Prop} {s : Shared} {a x : Addr}
abbrev TxtVals : List Value → List Str → Prop := Paired fun v z => ∃ t, v = Value.str z t
/-- a tuple of texts, in the heap -/
def TxtTup (h : Heap) (x : Addr) (zs : List Str) : Prop := ∃ o vs n, h.get? x = some o ∧ o.cls = .type "tuple" ∧ o.data = .seq vs n ∧ TxtVals vs.toList zs
theorem txt_all {h : Heap} : ∀ {vs : List Value} {zs : List Str}, TxtVals vs zs → NestedAll h (zs.map .text) vs
  | _, _, .nil => .nil
  | _, _, .cons ⟨t, e⟩ r => by subst e; exact .cons (.text _ _) (txt_all r)
theorem TxtTup.key {h : Heap} {zs : List Str} (k : TxtTup h x zs) : NestedIs h (.tup (zs.map .text)) (.ref x) := by
  obtain ⟨o, vs, n, h1, h2, h3, h4⟩ := k
  exact .tup h1 h2 h3 (txt_all h4)
theorem txt_depth : ∀ zs : List Str, NestedKey.depthAll (zs.map .text) = 0
  | [] => rfl
  | z :: zs => by rw [List.map_cons, NestedKey.depthAll, txt_depth zs]; rfl
theorem hash_any {zs : List Str} (k : TxtTup s.heap x zs) {Q : Bool → Shared → Prop} (h : ∀ b, Q b s) : wpAny (model P w) A (hashByValue 8 (.ref x)) Q E s := by
  obtain ⟨o, vs, n, ho, hc, hd, hv⟩ := k
  have ht : s.TypeIs (.ref x) "tuple" := ⟨o, ho, hc⟩
  unfold hashByValue
  refine wpAny_bind (wpAny_specialOf ht F.slot_tuple_hash.lookup ?_)
  refine wpAny_bind (m := seqItems? (.ref x)) (wpAny_seqItems ho hd ?_)
  refine wpAny_bind ?_
  rw [← Array.forIn_toList]
  refine wpAny_forIn_list _ (fun rest r s' => s' = s ∧ ∀ v ∈ rest, ∃ z t, v = Value.str z t) _ ?_ ?_ _ _ ⟨rfl, fun v hm => ?_⟩
  · rintro v rest r s' ⟨rfl, hall⟩
    obtain ⟨z, t, rfl⟩ := hall v List.mem_cons_self
    refine wpAny_bind (m := hashByValue 7 (.str z t)) ?_
    unfold hashByValue
    refine wpAny_pure ?_
    simp only [Bool.not_false, if_true]
    exact wpAny_pure (wpAny_pure (h false))
  · rintro ⟨r1, r2⟩ s' ⟨rfl, _⟩
    cases r1 with
    | none => exact wpAny_pure (h true)
    | some b => exact wpAny_pure (h b)
  · have : ∀ {vs : List Value} {zs : List Str}, TxtVals vs zs → ∀ v ∈ vs, ∃ z t, v = Value.str z t := fun hp => by
      induction hp with
      | nil => exact fun v hm => nomatch hm
      | cons r _ ih =>
        intro v hm
        rcases List.mem_cons.mp hm with rfl | hm
        · obtain ⟨t, e⟩ := r; exact ⟨_, t, e⟩
        · exact ih v hm
    exact this hv v (by simpa using hm)
/-- the set at a holds just the value v -/
def One (w : World) (h : Heap) (a : Addr) (v : Value) : Prop := ∃ o es ep t hh, h.get? a = some o ∧ o.ExactSet ∧ o.data = .set es ep t ∧ es.toList = [(hh, v)] ∧ t.fits es.size = true ∧ Ris t.place.toList ∧ (w.params.followText "set-order" = true ∨ t.led = true)
/-! the words -/
theorem One.there {h : Heap} {A : Addr} {v : Value} (o : One w h A v) : ∃ u, h.get? A = some u := by
  obtain ⟨u, _, _, _, _, e, _⟩ := o
  exact ⟨u, e⟩
theorem txt_vals : ∀ {zs : List Str} {its : List Value}, Vals (zs.map V.str) its → TxtVals its zs
  | [], _, .nil => .nil
  | _ :: _, _, .cons ⟨t, e⟩ r => .cons ⟨t, e⟩ (txt_vals r)
theorem txt_of {X : Cx} {pins : List (Addr × Obj)} {σ : L2.St} {H : Hp} {y : Addr} {zs : List Str} (I : Inv X pins σ H s) (h : SqT X.K H y (zs.map V.str)) : TxtTup s.heap y zs := by
  obtain ⟨its, r, pl, _⟩ := I.tuple h
  obtain ⟨o, h1, h2, n, h3⟩ := pl
  exact ⟨o, _, _, h1, h2, h3, txt_vals r⟩
end
end NL
/-! ### the data layer: sorted({e for x in xs}), at most one x, e a tuple of texts -/
namespace NL
noncomputable section
open PySem PySem.Spec PyProof.Rows L2
def textsD : List D → Option (List Str)
  | [] => some []
  | .str z :: ds => (textsD ds).map (z :: ·)
  | _ :: _ => none
theorem textsD_map : ∀ {ds : List D} {zs : List Str}, textsD ds = some zs → ds = zs.map D.str
  | [], zs, h => by cases h; rfl
  | .str z :: ds, zs, h => by
    unfold textsD at h
    cases e : textsD ds with
    | none => rw [e] at h; cases h
    | some ts => rw [e] at h; cases h; rw [textsD_map e]; rfl
  | .non :: _, _, h => nomatch h
  | .bl _ :: _, _, h => nomatch h
  | .int _ :: _, _, h => nomatch h
  | .lst _ :: _, _, h => nomatch h
  | .tup _ :: _, _, h => nomatch h
  | .dct _ :: _, _, h => nomatch h
  | .dcT _ :: _, _, h => nomatch h
  | .loop _ _ :: _, _, h => nomatch h
  | .run _ _ :: _, _, h => nomatch h
  | .src :: _, _, h => nomatch h
  | .set _ :: _, _, h => nomatch h
  | .cls :: _, _, h => nomatch h
  | .obj _ _ :: _, _, h => nomatch h
  | .loc _ :: _, _, h => nomatch h
theorem textsD_strs : ∀ zs : List Str, textsD (zs.map D.str) = some zs
  | [] => rfl
  | z :: zs => by show (textsD (zs.map D.str)).map (z :: ·) = _; rw [textsD_strs zs]; rfl
section
variable {X : Cx} {G : Gm} {m m' : Bool} {O O' Ol : List Nat} {E : XK} {e tg : Expr} {F F1 F2 : Ex} {Fs : Exs}
theorem dvs_str_inv {p : Option Addr} {B : Hp} : ∀ {zs : List Str} {vs : List V}, DVs G p B vs (zs.map D.str) → vs = zs.map V.str
  | [], _, .nil => rfl
  | _ :: _, _, .cons h r => by cases h; rw [dvs_str_inv r]; rfl
end
end
end NL
/-! ### sorted(xs), xs data of any kind -/
namespace NL
noncomputable section
open PySem L2 PySem.W
def encD (d : D) : PyData := (toP d).getD .none
def rSortX (K : PySem.W.Frag) : List V → Hp → VK → Prop := fun vs H Q => ∃ (a : Addr) (xs : List V) (bs : List D) (R : V → D → Prop), vs = [.ref a] ∧ SqL K H a xs ∧ EachIs R xs bs ∧ DpAll K H xs (bs.map encD) ∧ AllAlike (bs.map encD) ∧ Sortable (bs.map encD) ∧ bs.length ≤ 100000 ∧ (∀ b ∈ bs, (encD b).depth ≤ 40) ∧
  ∀ ys p, EachIs R ys (bs.mergeSort (dataLe false encD)) → ys.length = bs.length → H p = none → Q (.ref p) (upd H p (.lst ys))
theorem each_vals {R : V → D → Prop} : ∀ {out : List Value} {bs : List D}, EachIs (fun v b => ∃ x, RelV x v ∧ R x b) out bs → ∃ ys, Vals ys out ∧ EachIs R ys bs
  | [], [], .nil => ⟨[], .nil, .nil⟩
  | _ :: _, _ :: _, .cons ⟨x, h1, h2⟩ t => by
    obtain ⟨ys, h3, h4⟩ := each_vals t
    exact ⟨x :: ys, .cons h1 h3, .cons h2 h4⟩
theorem vals_each {R : V → D → Prop} : ∀ {xs : List V} {its : List Value} {bs : List D}, Vals xs its → EachIs R xs bs → EachIs (fun v b => ∃ x, RelV x v ∧ R x b) its bs
  | _, _, _, .nil, .nil => .nil
  | _, _, _, .cons h hs, .cons r rs => .cons ⟨_, h, r⟩ (vals_each hs rs)
section
variable {X : Cx}
theorem dp_each {pins : List (Addr × Obj)} {σ : L2.St} {H : Hp} {s : Shared} (I : Inv X pins σ H s) : ∀ {xs : List V} {its : List Value} {bs : List D}, Vals xs its → DpAll X.K H xs (bs.map encD) → EachIs (fun v b => ∃ as, Reads s.heap v (encD b) as) its bs
  | _, _, [], .nil, _ => .nil
  | _, _, b :: bs, .cons h hs, hd => by
    cases hd with
    | cons d ds => exact .cons (Dp.reads I _ _ _ d h) (dp_each I hs ds)
  | _, _, [], .cons _ _, hd => nomatch hd
  | _, _, _ :: _, .nil, hd => nomatch hd
theorem cr_sortX (hu : X.A.units + 65 < cLine) : CallR X (.builtin "sorted") (rSortX X.K) := by
  intro pins s σ H vs us Q I r h
  obtain ⟨a, xs, bs, R, rfl, hs, he, hd, hal, hk, hl, hdep, q⟩ := h
  obtain ⟨its, rv, hL, hz⟩ := I.list hs
  rw [Vals.ref1 r]
  refine sorted_data (R := fun v b => ∃ x, RelV x v ∧ R x b) (bs := bs) (enc := encD) hL.isList (vals_each rv he) (dp_each I rv hd) hal hk (sz100k hl) (fun b hb => by have := hdep b hb; omega) fun out hlen ho => ?_
  obtain ⟨ys, hv, hys⟩ := each_vals ho
  obtain ⟨ep, he'⟩ := PyProof.Rows.sortedAll_at s.heap its out.toArray
  have hlen2 : ys.length ≤ sizeLine := by rw [hv.length, hlen]; exact sz100k hl
  exact ⟨.ref _, upd H (s.heap.objs.size + 1) (.lst ys), I.laid (t' := s.toks) (fun _ _ => PyProof.Rows.sortedAll_old) (Nat.le_succ _) ⟨hlen2, out, ep, hv, he'⟩, rfl, q _ _ hys (by rw [hv.length, hlen]) (I.hok.fresh (Nat.le_succ _))⟩
end
/-- the order of data -/
def leDD (a b : D) : Bool := dataLe false encD a b
def alikeL (ds : List D) : Bool := ds.all fun a => ds.all fun b => alike (encD a) (encD b)
def hasP (d : D) : Bool := (toP d).isSome && decide ((encD d).depth ≤ 40)
def tupP (d : D) : Bool := match encD d with
  | .tuple (_ :: _) => true
  | _ => false
def srtX : List D → Option D
  | [.lst ds] => if ds.length ≤ 100000 ∧ ds.all hasP = true ∧ alikeL ds = true ∧ ds.all tupP = true then some (.lst (ds.mergeSort leDD)) else none
  | _ => none
section
variable {G : Gm} {m m' : Bool} {X : Cx}
theorem call_sortX (hu : X.A.units + 65 < cLine) (hK : X.K = G.K := by rfl) : CallR X (.builtin "sorted") (rSortX G.K) := by rw [← hK]; exact cr_sortX hu
theorem dvs_each {p : Option Addr} {B : Hp} : ∀ {xs : List V} {ds : List D}, DVs G p B xs ds → EachIs (DV G p B) xs ds
  | _, _, .nil => .nil
  | _, _, .cons h hs => .cons h (dvs_each hs)
theorem each_dvs {p : Option Addr} {B : Hp} : ∀ {xs : List V} {ds : List D}, EachIs (DV G p B) xs ds → DVs G p B xs ds
  | _, _, .nil => .nil
  | _, _, .cons h hs => .cons h (each_dvs hs)
theorem dvs_dp {p : Option Addr} {B : Hp} : ∀ {xs : List V} {ds : List D}, DVs G p B xs ds → ds.all hasP = true → DpAll G.K B xs (ds.map encD)
  | _, _, .nil, _ => .nil
  | _, _, .cons h hs, e => by
    rw [List.all_cons, Bool.and_eq_true] at e
    obtain ⟨q, hq⟩ := Option.isSome_iff_exists.mp (by have := e.1; unfold hasP at this; rw [Bool.and_eq_true] at this; exact this.1)
    exact .cons (by unfold encD; rw [hq]; exact h.dp hq) (dvs_dp hs e.2)
theorem arg_sortX : ArgNN G m m (rSortX G.K) srtX := by
  intro φ O σ B H ρ S vs ds d Q R hv e q
  unfold srtX at e
  split at e
  · split at e
    · rename_i ds hc
      obtain ⟨hl, hp, hal, ht⟩ := hc
      cases hv with | cons h1 h2 =>
      cases h2; cases h1 with | lst ha hs =>
      cases e
      refine ⟨_, _, ds, DV G φ.p (bs m φ B H), rfl, SqL.of (R.bsH m _ _ ha), dvs_each hs, ?_, ?_, ?_, hl, ?_, fun ys a hys hyl na => ?_⟩
      · exact dvs_dp (hs.same (R.bsH m)) hp
      · intro x hx y hy
        obtain ⟨x', hx', rfl⟩ := List.mem_map.mp hx
        obtain ⟨y', hy', rfl⟩ := List.mem_map.mp hy
        exact List.all_eq_true.mp (List.all_eq_true.mp hal x' hx') y' hy'
      · refine .inl fun x hx => ?_
        obtain ⟨x', hx', rfl⟩ := List.mem_map.mp hx
        have := List.all_eq_true.mp ht x' hx'
        unfold tupP at this
        split at this
        · rename_i h; exact ⟨_, _, h⟩
        · cases this
      · intro b hb
        have := List.all_eq_true.mp hp b hb
        unfold hasP at this
        rw [Bool.and_eq_true] at this
        exact of_decide_eq_true this.2
      · have hd : DVs G φ.p (bs m φ B H) ys (ds.mergeSort leDD) := each_dvs hys
        obtain ⟨R', g', n'⟩ := R.newO (m := m) (o := .lst ys) (d := .lst (ds.mergeSort leDD)) na hd
        exact q a _ B _ g' R' n' na
    · cases e
  · cases e
end
end
end NL
/-! ### sets of tuples of texts (fewer than 64): what adding leaves -/
namespace NL
open PySem PySem.Spec PyProof.Rows L2
section
variable {P : Program} {w : World} {A : Around} {E : Value → Shared → Prop} {s : Shared} {a x : Addr}
def txtHash (w : World) (zs : List Str) : Int := (NestedKey.tup (zs.map .text)).hash w
theorem txtKey_eq (zs ys : List Str) : NestedKey.beq (.tup (zs.map .text)) (.tup (ys.map .text)) = decide (zs = ys) := by
  rw [← NestedKey.decide_eq]
  refine decide_eq_decide.mpr ⟨fun e => ?_, fun e => by rw [e]⟩
  injection e with e
  exact (List.map_inj_right fun x y h => by injection h).mp e
theorem eqB_txt (hu : A.units + 2 < cLine) {b : Addr} {zs ys : List Str} (k1 : TxtTup s.heap x zs) (k2 : TxtTup s.heap b ys) {Q : Bool → Shared → Prop} (h : Q (decide (zs = ys)) s) : wpAny (model P w) A (eqBool (.ref x) (.ref b)) Q E s :=
  eqAt_key _ _ A s _ _ k1.key k2.key (by rw [NestedKey.depth, NestedKey.depth, txt_depth, txt_depth]; omega) _ _ _ _ (by rw [txtKey_eq]; exact h)
theorem quiet_txt {zs : List Str} (k : TxtTup s.heap x zs) {Q : Bool → Shared → Prop} (h : Q true s) : wpAny (model P w) A (eqIsQuiet 8 (.ref x)) Q E s :=
  quiet_key _ _ 8 s k.key (by rw [NestedKey.depth, txt_depth]; omega) A E Q h
theorem noClass_str (n : Nat) (z : Str) (t : Tok) : ofAClassStatement n (.str z t) = pure false := by
  cases n <;> rfl
theorem noClass_txt {zs : List Str} (k : TxtTup s.heap x zs) {Q : Bool → Shared → Prop} (h : Q false s) : wpAny (model P w) A (ofAClassStatement 8 (.ref x)) Q E s := by
  obtain ⟨o, vs, n, ho, hc, hd, hv⟩ := k
  have ht : s.TypeIs (.ref x) "tuple" := ⟨o, ho, hc⟩
  unfold ofAClassStatement
  refine wpAny_bind (wpAny_typeOf ht ?_)
  dsimp only
  have e : (("tuple" : String) == "tuple") = true := by decide
  simp only [e, if_true, Bool.not_true, Bool.false_eq_true, if_false]
  try refine wpAny_bind (wpAny_pure ?_)
  try simp only [Bool.not_true, Bool.false_eq_true, if_false]
  refine wpAny_bind (m := seqItems? (.ref x)) (wpAny_seqItems ho hd ?_)
  dsimp only
  refine wpAny_bind ?_
  rw [← Array.forIn_toList]
  refine wpAny_forIn_list _ (fun rest r s' => r.1 = none ∧ s' = s ∧ ∀ v ∈ rest, ∃ z t, v = Value.str z t) _ ?_ ?_ _ _ ⟨rfl, rfl, ?_⟩
  · rintro v rest r s' ⟨hr, rfl, hall⟩
    obtain ⟨z, t, rfl⟩ := hall v List.mem_cons_self
    rw [noClass_str]
    refine wpAny_bind (wpAny_pure ?_)
    simp only [Bool.false_eq_true, if_false]
    exact wpAny_pure ⟨rfl, rfl, fun u hu' => hall u (List.mem_cons_of_mem _ hu')⟩
  · rintro ⟨r1, r2⟩ s' ⟨hr, rfl, _⟩
    simp only at hr
    subst hr
    exact wpAny_pure h
  · have : ∀ {vs : List Value} {zs : List Str}, TxtVals vs zs → ∀ v ∈ vs, ∃ z t, v = Value.str z t := fun hp => by
      induction hp with
      | nil => exact fun v hm => nomatch hm
      | cons r _ ih =>
        intro v hm
        rcases List.mem_cons.mp hm with rfl | hm
        · obtain ⟨t, e⟩ := r; exact ⟨_, t, e⟩
        · exact ih v hm
    exact this hv
/-- a search among them tells nothing -/
theorem unseen_txt {zs : List Str} (k : TxtTup s.heap x zs) {ys : List Value} (hy : ∀ y ∈ ys, ∃ zs' c, y = Value.ref c ∧ TxtTup s.heap c zs') {Q : Bool → Shared → Prop} (h : Q false s) : wpAny (model P w) A (searchCouldBeSeen (.ref x) ys) Q E s := by
  unfold searchCouldBeSeen
  refine wpAny_bind ?_
  refine wpAny_forIn_list _ (fun rest r s' => r.1 = none ∧ s' = s ∧ ∀ y ∈ rest, ∃ zs' c, y = Value.ref c ∧ TxtTup s.heap c zs') _ ?_ ?_ _ _ ⟨rfl, rfl, hy⟩
  · rintro v rest r s' ⟨hr, rfl, hall⟩
    obtain ⟨zs', c, rfl, hc⟩ := hall v List.mem_cons_self
    have rest' : ∀ y ∈ rest, ∃ zs' c, y = Value.ref c ∧ TxtTup s'.heap c zs' := fun u hu' => hall u (List.mem_cons_of_mem _ hu')
    dsimp only
    by_cases hv : (x == c || (carriedByValue (.ref x) && carriedByValue (.ref c))) = true
    · exact wp_if_pos hv (wpAny_pure ⟨rfl, rfl, rest'⟩)
    · refine wp_if_neg hv (wpAny_bind (quiet_txt k ?_))
      simp only [Bool.not_true, Bool.false_eq_true, if_false]
      refine wpAny_bind (quiet_txt hc ?_)
      simp only [Bool.not_true, Bool.false_eq_true, if_false]
      refine wpAny_bind (noClass_txt k ?_)
      simp only [Bool.false_eq_true, if_false]
      refine wpAny_bind (noClass_txt hc ?_)
      simp only [Bool.false_eq_true, if_false]
      exact wpAny_pure ⟨rfl, rfl, rest'⟩
  · rintro ⟨r1, r2⟩ s' ⟨hr, rfl, _⟩
    simp only at hr
    subst hr
    exact wpAny_pure h
/-- what the set's table holds: the tuples' places and texts -/
def rowsX (w : World) (L : List (Addr × List Str)) : List (Int × Value) := L.map fun p => (txtHash w p.2, Value.ref p.1)
structure SetX (w : World) (h : Heap) (a : Addr) (L : List (Addr × List Str)) (es : Array (Int × Value)) (ep : Nat) (t : SetTable) : Prop where
  ob : ∃ o, h.get? a = some o ∧ o.ExactSet ∧ o.data = .set es ep t
  rows : es.toList = rowsX w L
  tab : TabOk t (L.map fun p => txtHash w p.2)
  nd : (L.map (·.2)).Nodup
  led : w.params.followText "set-order" = true ∨ t.led = true
  room : L.length * 5 < t.mask * 3
  few : L.length < 64
variable {L : List (Addr × List Str)} {es : Array (Int × Value)} {ep : Nat} {t : SetTable}
theorem rowsX_size (h : es.toList = rowsX w L) : es.size = L.length := by
  have h := congrArg List.length h
  unfold rowsX at h
  rwa [Array.length_toList, List.length_map] at h
theorem rowsX_at (hr : es.toList = rowsX w L) {i : Nat} {p : Addr × List Str} (h : L[i]? = some p) : es[i]? = some (txtHash w p.2, Value.ref p.1) := by
  rw [← Array.getElem?_toList, hr]
  unfold rowsX
  rw [List.getElem?_map, h] <;> rfl
theorem SetX.fits {h : Heap} (R : SetX w h a L es ep t) : t.fits es.size = true := by
  have h1 := R.tab.sz
  rw [List.length_map] at h1
  have h2 := rowsX_size R.rows
  have h3 := R.room
  unfold SetTable.fits SetTable.fill
  rw [R.tab.dm, Bool.and_eq_true, beq_iff_eq, decide_eq_true_eq]
  show t.place.size = es.size ∧ t.place.size + 0 ≤ t.mask
  omega
theorem SetX.stays {h h' : Heap} (R : SetX w h a L es ep t) (k : ∀ o, h.get? a = some o → h'.get? a = some o) : SetX w h' a L es ep t := by
  obtain ⟨o, ho, r⟩ := R.ob
  exact ⟨⟨o, k o ho, r⟩, R.rows, R.tab, R.nd, R.led, R.room, R.few⟩
theorem setX_fresh {h : Heap} (ho : h.get? a = some (emptySetObj w)) : SetX w h a [] #[] 0 (.fresh 0 0 (!w.params.followText "set-order")) := by
  have R := setTR_fresh (P := default) (w := w) ho
  exact ⟨R.ob, rfl, R.tab, List.nodup_nil, R.led, R.room, R.few⟩
abbrev TupsX (h : Heap) (L : List (Addr × List Str)) : Prop := ∀ p ∈ L, TxtTup h p.1 p.2
/-- the search, from the c-th step of the way on -/
theorem searchX_from (R : SetX w s.heap a L es ep t) (T : TupsX s.heap L) {k : List Str} (hx : TxtTup s.heap x k) (hu : A.units + 2 < cLine) {hh : Int} (ehh : hh = txtHash w k) {K : Nat} (hKf : K < 10 * SetTable.turns t.mask)
    (hK : way t.mask hh K ∉ t.place.toList) (hKb : ∀ c, c < K → way t.mask hh c ∈ t.place.toList) {Q : SetFound → Shared → Prop}
    (hin : k ∈ L.map (·.2) → Q (.there none) s) (hout : k ∉ L.map (·.2) → Q (.free (way t.mask hh K) false) s) :
    ∀ (f c : Nat) (stand : Option SetTable.Probe), stand.getD (t.probeStart hh) = nth t.mask (runAt t.mask (SetTable.bits hh % (t.mask + 1)) (SetTable.bits hh)) c → c ≤ K → K - c < f →
      (∀ (i : Nat) p, L[i]? = some p → p.2 = k → ∃ c', c ≤ c' ∧ c' < K ∧ t.place.toList[i]? = some (way t.mask hh c')) →
      wpAny (model P w) A (setSearchFrom a (.ref x) hh true f stand) Q E s
  | 0, c, stand, _, _, hf, _ => absurd hf (Nat.not_lt_zero _)
  | f + 1, c, stand, hst, hc, hf, hre => by
    obtain ⟨o, ho, hex, hd⟩ := R.ob
    rw [setSearchFrom_succ]
    refine wpAny_bind (wpAny_setState_of ho hd R.fits ?_)
    dsimp only
    refine wp_if_neg (by unfold SetTable.gaveWay; rw [mask_odd R.tab.mok]; decide) ?_
    try refine wpAny_bind (wpAny_pure ?_)
    generalize eN : runAt t.mask (SetTable.bits hh % (t.mask + 1)) (SetTable.bits hh) = pr at *
    have hw : ∀ q, way t.mask hh q = (nth t.mask pr q).j := fun q => by show (nth t.mask (runAt _ _ _) q).j = _; rw [eN]
    have hnd : (nth t.mask pr c).dummy = none := by
      have key : ∀ (n : Nat) (p : SetTable.Probe), p.dummy = none → (nth t.mask p n).dummy = none := by
        intro n
        induction n with
        | zero => intro p h; exact h
        | succ n ih =>
          intro p h
          refine ih (adv t.mask p) ?_
          unfold adv
          split <;> exact h
      exact key c _ (by rw [← eN]; rfl)
    have sh : ∀ q, nth t.mask (nth t.mask pr c) q = nth t.mask pr (c + q) := fun q => (nth_add t.mask c _ q).symm
    have e1 : ∀ q, (nth t.mask (nth t.mask pr c) q).j = way t.mask hh (c + q) := fun q => (congrArg SetTable.Probe.j (sh q)).trans (hw _).symm
    have hashAt : ∀ (i : Nat) p, L[i]? = some p → (es[i]?.map (·.1)).getD 0 = txtHash w p.2 := fun i p hp => by
      rw [rowsX_at R.rows hp] <;> rfl
    rcases go_spec t R.tab.ris R.tab.dm (fun i => (es[i]?.map (·.1)).getD 0) hh (10 * SetTable.turns t.mask) (K - c) _ hnd (by omega)
      (fun q hq => by rw [e1]; exact hKb (c + q) (by omega)) (by rw [e1, show c + (K - c) = K by omega]; exact hK) with ⟨q, i, hq, hi, hhi, hno, hpr⟩ | ⟨hno, hpr⟩
    · have hpr' : t.probe (fun i => (es[i]?.map (·.1)).getD 0) hh (stand.getD (t.probeStart hh)) = some (.candidate (way t.mask hh (c + q)) i (nth t.mask pr (c + (q + 1)))) := by
        rw [hst, ← e1, ← sh]
        exact hpr
      rw [hpr']
      dsimp only
      rw [e1] at hi
      have hil : i < L.length := by
        have h1 : i < t.place.toList.length := (List.getElem?_eq_some_iff.mp hi).1
        have h2 := R.tab.sz
        rw [List.length_map] at h2
        rw [Array.length_toList] at h1
        omega
      have hp : L[i]? = some L[i] := List.getElem?_eq_getElem hil
      generalize hpe : L[i] = p at hp
      have hmem : p ∈ L := List.mem_of_getElem? hp
      have rest : wpAny (model P w) A (searchRest a (.ref x) hh true f es t (way t.mask hh (c + q)) i (nth t.mask pr (c + (q + 1)))) Q E s := by
        unfold searchRest
        rw [rowsX_at R.rows hp]
        dsimp only
        refine wpAny_bind (wpAny_holding (eqB_txt hu (T p hmem) hx ?_))
        refine wpAny_bind (wpAny_setState_of ho hd R.fits ?_)
        dsimp only
        by_cases hkk : p.2 = k
        · refine wp_if_pos (by simp [hkk]) (wpAny_pure (hin ?_))
          exact List.mem_map.mpr ⟨p, hmem, hkk⟩
        · refine wp_if_neg (by simp [hkk]) ?_
          try refine wpAny_bind (wpAny_pure ?_)
          rw [sameMem]
          dsimp only
          have hsl : t.slot (way t.mask hh (c + q)) = .live i := slot_live R.tab.ris hi
          simp only [if_true, hsl, rowsX_at R.rows hp]
          refine wpAny_bind (wpAny_isSame_ref_self (wpAny_bind (wpAny_pure ?_)))
          simp only [if_true]
          refine wp_if_neg (by simp [hkk]) ?_
          refine searchX_from R T hx hu ehh hKf hK hKb hin hout f (c + (q + 1)) (some (nth t.mask pr (c + (q + 1)))) (by rw [eN]; rfl) (by omega) (by omega) fun i0 p0 h0 hk0 => ?_
          obtain ⟨c', a1, a2, a3⟩ := hre i0 p0 h0 hk0
          refine ⟨c', ?_, a2, a3⟩
          rcases Nat.lt_or_ge c' (c + q) with z | z
          · refine absurd ?_ (hno (c' - c) i0 (by omega) (by rw [e1, show c + (c' - c) = c' by omega]; exact a3))
            show (es[i0]?.map (·.1)).getD 0 = hh
            rw [hashAt i0 p0 h0, hk0, ehh]
          · rcases Nat.lt_or_ge (c + q) c' with y | y
            · omega
            · exfalso
              have ec : c' = c + q := Nat.le_antisymm y z
              rw [ec] at a3
              have s0 := slot_live R.tab.ris a3
              rw [hsl] at s0
              injection s0 with s0
              rw [← s0, hp] at h0
              exact hkk ((congrArg Prod.snd (Option.some.inj h0)).trans hk0)
      by_cases hl : t.led = true
      · refine wp_if_neg (by simp [hl]) ?_
        try refine wpAny_bind (wpAny_pure ?_)
        exact rest
      · refine wp_if_pos (by simp [hl]) ?_
        refine wpAny_bind (unseen_txt hx (fun y hy => ?_) ?_)
        · obtain ⟨e, he, ee⟩ := List.mem_map.mp hy
          have he1 : e ∈ es ∧ e.1 = hh := by simpa using he
          have he2 : e ∈ es.toList := by simpa using he1.1
          rw [R.rows] at he2
          obtain ⟨p2, hp2, e2⟩ := List.mem_map.mp he2
          exact ⟨p2.2, p2.1, by rw [← ee, ← e2], T p2 hp2⟩
        · refine wp_if_neg (by decide) ?_
          try refine wpAny_bind (wpAny_pure ?_)
          exact rest
    · have hpr' : t.probe (fun i => (es[i]?.map (·.1)).getD 0) hh (stand.getD (t.probeStart hh)) = some (.empty (way t.mask hh K) none) := by
        have e2 : way t.mask hh K = (nth t.mask (nth t.mask pr c) (K - c)).j := by
          rw [e1, show c + (K - c) = K by omega]
        rw [hst, e2]
        exact hpr
      rw [hpr']
      dsimp only
      refine wpAny_pure (hout fun hm => ?_)
      obtain ⟨p0, h0, hk0⟩ := List.mem_map.mp hm
      obtain ⟨i0, hi0, e0⟩ := List.getElem_of_mem h0
      have h00 : L[i0]? = some p0 := by rw [List.getElem?_eq_getElem hi0, e0]
      obtain ⟨c', a1, a2, a3⟩ := hre i0 p0 h00 hk0
      refine absurd ?_ (hno (c' - c) i0 (by omega) (by rw [e1, show c + (c' - c) = c' by omega]; exact a3))
      show (es[i0]?.map (·.1)).getD 0 = hh
      rw [hashAt i0 p0 h00, hk0, ehh]
theorem searchX_at (R : SetX w s.heap a L es ep t) (T : TupsX s.heap L) {k : List Str} (hx : TxtTup s.heap x k) (hu : A.units + 2 < cLine) {Q : SetFound → Shared → Prop}
    (hin : k ∈ L.map (·.2) → Q (.there none) s)
    (hout : ∀ K, k ∉ L.map (·.2) → way t.mask (txtHash w k) K ∉ t.place.toList → (∀ c, c < K → way t.mask (txtHash w k) c ∈ t.place.toList) → Q (.free (way t.mask (txtHash w k) K) false) s) :
    wpAny (model P w) A (setSearch a (.ref x) (txtHash w k) true) Q E s := by
  have hroom := R.room
  obtain ⟨K, hKf, hK, hKb⟩ := R.tab.first (by rw [List.length_map]; omega) (txtHash w k)
  have hbig : K < 100000 := by
    have : 10 * SetTable.turns t.mask ≤ 1420 := by
      unfold SetTable.turns
      rcases R.tab.mok with e | e | e <;> omega
    omega
  unfold setSearch
  refine searchX_from R T hx hu rfl hKf hK hKb hin (fun hn => hout K hn hK hKb) 100000 0 none rfl (Nat.zero_le _) (by omega) fun i p hp hk => ?_
  have hi : (L.map fun p => txtHash w p.2)[i]? = some (txtHash w k) := by rw [List.getElem?_map, hp, ← hk] <;> rfl
  have hil : i < t.place.toList.length := by
    have h1 : i < L.length := (List.getElem?_eq_some_iff.mp hp).1
    have h2 := R.tab.sz
    rw [List.length_map] at h2
    rw [Array.length_toList]
    omega
  have hj := List.getElem?_eq_getElem hil
  obtain ⟨c, hc, e⟩ := R.tab.before hK hi hj
  exact ⟨c, Nat.zero_le _, hc, by rw [hj, e]⟩
end
end NL
/-! ### sets of tuples of texts: adding, and sorted of such a set -/
namespace NL
open PySem PySem.Spec PyProof.Rows L2
section
variable {P : Program} {w : World} {A : Around} {E : Value → Shared → Prop} {s : Shared} {a x : Addr}
variable {L : List (Addr × List Str)} {es : Array (Int × Value)} {ep : Nat} {t : SetTable}
theorem rowsX_put (L : List (Addr × List Str)) (p : Nat) (x : Addr) (k : List Str) : rowsX w (L.take p ++ (x, k) :: L.drop p) = (rowsX w L).take p ++ (txtHash w k, Value.ref x) :: (rowsX w L).drop p := by
  unfold rowsX
  rw [List.map_append, List.map_cons, List.map_take, List.map_drop]
theorem pick_all {α : Type} (L : List α) : ∀ n, n ≤ L.length → (List.range n).filterMap (fun i => L[i]?) = L.take n
  | 0, _ => rfl
  | n + 1, hn => by
    have hlt : n < L.length := hn
    rw [List.range_succ, List.filterMap_append, pick_all L n (Nat.le_of_lt hlt), List.take_succ, List.getElem?_eq_getElem hlt]
    rw [List.filterMap_cons_some (List.getElem?_eq_getElem hlt)] <;> rfl
theorem rowsX_order (hr : es.toList = rowsX w L) (order : Array Nat) (hp : order.toList.Perm (List.range L.length)) :
    ∃ L2, (order.filterMap (es[·]?)).toList = rowsX w L2 ∧ L2.Perm L ∧ (L2.map fun p => txtHash w p.2) = order.toList.map fun i => (es.map (·.1)).getD i 0 := by
  have hsz := rowsX_size hr
  have key : ∀ l : List Nat, (∀ i ∈ l, i < L.length) → ∃ L2 : List (Addr × List Str), l.filterMap (fun i => es[i]?) = rowsX w L2 ∧ L2 = l.filterMap (fun i => L[i]?) ∧ (L2.map fun p => txtHash w p.2) = l.map fun i => (es.map (·.1)).getD i 0 := by
    intro l
    induction l with
    | nil => intro _; exact ⟨[], rfl, rfl, rfl⟩
    | cons i l ih =>
      intro hl
      have hi := hl i List.mem_cons_self
      obtain ⟨L2, e1, e2, e3⟩ := ih fun j hj => hl j (List.mem_cons_of_mem _ hj)
      have ent := rowsX_at hr (List.getElem?_eq_getElem hi)
      refine ⟨L[i] :: L2, ?_, ?_, ?_⟩
      · rw [List.filterMap_cons_some ent, e1] <;> rfl
      · rw [List.filterMap_cons_some (List.getElem?_eq_getElem hi), e2]
      · have e5 : (es.map (·.1))[i]? = some (txtHash w (L[i]).2) := by rw [Array.getElem?_map, ent] <;> rfl
        rw [List.map_cons, List.map_cons, e3]
        simp [Array.getD_eq_getD_getElem?, e5]
  obtain ⟨L2, e1, e2, e3⟩ := key order.toList fun i hi => List.mem_range.mp (hp.mem_iff.mp hi)
  refine ⟨L2, by first | (rw [Array.toList_filterMap]; exact e1) | simpa using e1, ?_, e3⟩
  have h1 : L2.Perm ((List.range L.length).filterMap fun i => L[i]?) := by
    rw [e2]
    exact hp.filterMap _
  rw [pick_all L _ (Nat.le_refl _), List.take_length] at h1
  exact h1
/-- the table laid anew -/
theorem relayX {o : Obj} (ho : s.heap.get? a = some o) (hex : o.ExactSet) (hd : o.data = .set es ep t) (hrows : es.toList = rowsX w L) (hsz : t.place.size = es.size) (hdm : t.dummies = #[]) (hfl : es.size ≤ t.mask)
    (nd : (L.map (·.2)).Nodup) (ld : w.params.followText "set-order" = true ∨ t.led = true) (few : L.length < 64) {wanted M : Nat}
    (hw : SetTable.sizeAbove wanted - 1 = M) (hM : MaskOk M) (hw2 : SetTable.sizeAbove wanted ≤ 128) (hn : L.length * 5 < M * 3) {Q : Unit → Shared → Prop}
    (hQ : ∀ h' L' es' ep' t', Heap.SameBut a s.heap h' → SetX w h' a L' es' ep' t' → L'.Perm L → Q () { s with heap := h' }) : wpAny (model P w) A (setRelay a wanted) Q E s := by
  have hsl := rowsX_size hrows
  have hfits : t.fits es.size = true := by
    unfold SetTable.fits SetTable.fill
    rw [hdm, Bool.and_eq_true, beq_iff_eq, decide_eq_true_eq]
    show t.place.size = es.size ∧ t.place.size + 0 ≤ t.mask
    omega
  obtain ⟨t', order, e, hp, T, em, el, _, ed⟩ := relaid_ok t (hs := es.map (·.1)) (wanted := wanted) hw hM (by rw [Array.size_map, hsl]; omega)
  rw [Array.size_map, hsl] at hp
  obtain ⟨L2, r1, r2, r3⟩ := rowsX_order hrows order hp
  rw [← r3] at T
  have hs2 : (order.filterMap (es[·]?)).size = es.size := by rw [rowsX_size r1, r2.length_eq, hsl]
  rw [setRelay_eq]
  refine wpAny_bind (wpAny_setState_of ho hd hfits ?_)
  dsimp only
  refine wp_if_neg (by rw [sizeLine_eq]; omega) ?_
  try refine wpAny_bind (wpAny_pure ?_)
  rw [e]
  dsimp only
  refine wpAny_bind ?_
  refine wp_if_neg (by rw [hs2]; simp) ?_
  try refine wpAny_bind (wpAny_pure ?_)
  refine wpAny_pure ?_
  dsimp only
  refine wpAny_storeSet_of ho hd ?_ (by rw [hs2, hsl, sizeLine_eq]; omega)
  have sb : Heap.SameBut a s.heap (s.heap.update a (Obj.putSet (order.filterMap (es[·]?)) t')) := Heap.SameBut.update ..
  refine hQ _ L2 (order.filterMap (es[·]?)) (ep + 1) t' sb ⟨⟨_, store_at ho hd, ⟨hex.1, hex.2.1, hex.2.2⟩, rfl⟩, r1, T, ?_, by rw [el]; exact ld, ?_, by rw [r2.length_eq]; exact few⟩ r2
  · exact (r2.map (·.2)).nodup_iff.mpr nd
  · rw [r2.length_eq, em]
    exact hn
/-- adding -/
theorem addX_at (R : SetX w s.heap a L es ep t) (T : TupsX s.heap L) {k : List Str} (hx : TxtTup s.heap x k) (hu : A.units + 2 < cLine) (hfew : L.length + 1 < 64) {Q : Bool → Shared → Prop}
    (hQ : ∀ b h' L' es' ep' t', Heap.SameBut a s.heap h' → SetX w h' a L' es' ep' t' → (k ∈ L.map (·.2) → L' = L) → (k ∉ L.map (·.2) → L'.Perm ((x, k) :: L)) → Q b { s with heap := h' }) :
    wpAny (model P w) A (setAddHashed a (.ref x) (txtHash w k)) Q E s := by
  obtain ⟨o, ho, hex, hd⟩ := R.ob
  have hsl := rowsX_size R.rows
  have hroom := R.room
  unfold setAddHashed
  refine wpAny_holding ?_
  rw [show (100000 : Nat) = 99999 + 1 from rfl, setAddHashedIn_succ]
  refine wpAny_bind (wpAny_setState_of ho hd R.fits ?_)
  dsimp only
  refine wp_if_neg (by simp [byScan, Value.scannable]) ?_
  try refine wpAny_bind (wpAny_pure ?_)
  refine wpAny_bind (searchX_at R T hx hu (fun hm => ?_) fun K hm hK hb => ?_)
  · dsimp only
    exact wpAny_pure (hQ false s.heap L es ep t (Heap.SameBut.refl a s.heap) R (fun _ => rfl) fun z => absurd hm z)
  · dsimp only
    refine wpAny_bind (wpAny_setState_of ho hd R.fits ?_)
    dsimp only
    obtain ⟨q1, q2, q3, q4, q5, q6, q7, q8, q9⟩ := R.tab.put hK hb
    generalize hpt : t.put (way t.mask (txtHash w k) K) = pt at q1 q3 q4 q5 q6 q7 q8 q9 ⊢
    obtain ⟨t1, p⟩ := pt
    dsimp only at q1 q3 q4 q5 q6 q7 q8 q9 ⊢
    subst q1
    have hin : (SetTable.insertAt es (SetTable.below t.place (way t.mask (txtHash w k) K)) (txtHash w k, Value.ref x)).toList = rowsX w (L.take (SetTable.below t.place (way t.mask (txtHash w k) K)) ++ (x, k) :: L.drop (SetTable.below t.place (way t.mask (txtHash w k) K))) := by
      rw [SetTable.toList_insertAt, rowsX_put, R.rows]
    generalize hpp : SetTable.below t.place (way t.mask (txtHash w k) K) = p at q2 q3 hin ⊢
    have pm := put_perm L p (x, k)
    have hlen : (L.take p ++ (x, k) :: L.drop p).length = L.length + 1 := pm.length_eq
    have hhs : (L.take p ++ (x, k) :: L.drop p).map (fun p => txtHash w p.2) = (L.map fun p => txtHash w p.2).take p ++ txtHash w k :: (L.map fun p => txtHash w p.2).drop p := by
      rw [List.map_append, List.map_cons, List.map_take, List.map_drop]
    rw [← hhs] at q3
    have nd1 : ((L.take p ++ (x, k) :: L.drop p).map (·.2)).Nodup := by
      refine (pm.map (·.2)).nodup_iff.mpr ?_
      rw [List.map_cons]
      exact List.nodup_cons.mpr ⟨hm, R.nd⟩
    have hes := rowsX_size hin
    rw [hlen] at hes
    generalize SetTable.insertAt es p (txtHash w k, Value.ref x) = es1 at hin hes ⊢
    generalize L.take p ++ (x, k) :: L.drop p = L1 at pm hlen q3 nd1 hin
    have led1 : w.params.followText "set-order" = true ∨ t1.led = true := by rw [q5]; exact R.led
    have sz1 := q3.sz
    rw [List.length_map, hlen] at sz1
    rw [List.length_map] at q9
    -- what is stored, whatever the hash hangs on
    have fin : ∀ t2 : SetTable, t2.place = t1.place → t2.dummies = t1.dummies → t2.mask = t1.mask → t2.led = t1.led → t2.fill = t1.fill → wpAny (model P w) A (do
        storeSet a es1 t2
        if (!false && t2.tooFull) = true then do
          setRelay a (SetTable.grown (es.size + 1))
          pure true
        else pure true) Q E s := fun t2 e1 e2 e3 e4 e5 => by
      have q3 : TabOk t2 (L1.map fun p => txtHash w p.2) := ⟨by rw [e1]; exact q3.ris, by rw [e2]; exact q3.dm, by rw [e1]; exact q3.sz, by rw [e3]; exact q3.mok, by rw [e1, e3]; exact q3.bd, by rw [e1, e3]; exact q3.reach⟩
      rw [← e4] at led1
      rw [← e5] at q9
      rw [← e3] at q4
      rw [← e1] at sz1
      refine wpAny_bind (wpAny_storeSet_of ho hd ?_ (by rw [hes, sizeLine_eq]; omega))
      have sb : Heap.SameBut a s.heap (s.heap.update a (Obj.putSet es1 t2)) := Heap.SameBut.update ..
      have ho1 := store_at (es' := es1) (t' := t2) ho hd
      generalize s.heap.update a (Obj.putSet es1 t2) = h1 at sb ho1 ⊢
      by_cases hf : t2.tooFull = true
      · refine wp_if_pos (by simp [hf]) ?_
        refine wpAny_bind ?_
        have hfull : (L.length + 1) * 5 ≥ t2.mask * 3 := by
          have h := hf
          unfold SetTable.tooFull at h
          rw [decide_eq_true_eq, q9] at h
          exact h
        rw [hsl]
        have cases2 : (t.mask = 7 ∧ L.length = 4) ∨ (t.mask = 31 ∧ L.length = 18) := by
          rcases R.tab.mok with e | e | e
          · left; rw [q4, e] at hfull; rw [e] at hroom; exact ⟨e, by omega⟩
          · right; rw [q4, e] at hfull; rw [e] at hroom; exact ⟨e, by omega⟩
          · exfalso; rw [q4, e] at hfull; omega
        have go : ∀ M, SetTable.sizeAbove (SetTable.grown (L.length + 1)) - 1 = M → MaskOk M → SetTable.sizeAbove (SetTable.grown (L.length + 1)) ≤ 128 → (L.length + 1) * 5 < M * 3 →
            wpAny (model P w) A (setRelay a (SetTable.grown (L.length + 1))) (fun _ s' => wpAny (model P w) A (pure true) Q E s') E { s with heap := h1 } := fun M h1' h2' h3' h4' => by
          refine relayX (s := { s with heap := h1 }) ho1 ⟨hex.1, hex.2.1, hex.2.2⟩ rfl hin (by rw [sz1, hes]) q3.dm (by rw [hes, q4]; rcases cases2 with ⟨e, e2⟩ | ⟨e, e2⟩ <;> omega) nd1 led1 (by rw [hlen]; exact hfew) h1' h2' h3' (by rw [hlen]; exact h4') ?_
          intro h2 L2 es2 ep2 t2 sb2 R2 pm2
          exact wpAny_pure (hQ true h2 L2 es2 ep2 t2 (sb.trans sb2) R2 (fun z => absurd z hm) fun _ => pm2.trans pm)
        rcases cases2 with ⟨_, e2⟩ | ⟨_, e2⟩
        · exact go 31 (by rw [e2, size_20]) (.inr (.inl rfl)) (by rw [e2, size_20]; decide) (by omega)
        · exact go 127 (by rw [e2, size_76]) (.inr (.inr rfl)) (by rw [e2, size_76]; decide) (by omega)
      · refine wp_if_neg (by simp [hf]) ?_
        refine wpAny_pure (hQ true h1 L1 es1 (ep + 1) t2 sb ⟨⟨_, ho1, ⟨hex.1, hex.2.1, hex.2.2⟩, rfl⟩, hin, q3, nd1, led1, ?_, by rw [hlen]; exact hfew⟩ (fun z => absurd z hm) fun _ => pm)
        have h := hf
        unfold SetTable.tooFull at h
        rw [decide_eq_true_eq, q9] at h
        rw [hlen]
        omega
    by_cases hp1 : t1.plain = true
    · refine wp_if_pos hp1 (wpAny_bind (hash_any hx fun b => ?_))
      cases b with
      | true => exact fin t1 rfl rfl rfl rfl rfl
      | false => exact fin { t1 with plain := false } rfl rfl rfl rfl rfl
    · refine wp_if_neg hp1 (wpAny_bind (wpAny_pure ?_))
      exact fin t1 rfl rfl rfl rfl rfl
theorem call_addX (hu : A.units + 8 < cLine) (R : SetX w s.heap a L es ep t) (T : TupsX s.heap L) {zs : List Str} (k : TxtTup s.heap x zs) (hfew : L.length + 1 < 64)
    {Q : Value → Shared → Prop} (hQ : ∀ h' tk L' es' ep' t', Heap.SameBut a s.heap h' → SetX w h' a L' es' ep' t' → (zs ∈ L.map (·.2) → L' = L) → (zs ∉ L.map (·.2) → L'.Perm ((x, zs) :: L)) → Q .none { s with heap := h', toks := tk }) : wpAny (model P w) A (call (.builtin "set.add") [.ref a, .ref x]) Q E s := by
  obtain ⟨o, ho, hex, hd⟩ := R.ob
  have ht : s.TypeIs (.ref a) "set" := ⟨_, ho, hex.1⟩
  refine wpAny_call_entry F.slot_set_add ht F.entry_set_add ?_ (F.args_set_add_2 _ _)
  unfold Builtin.«set.add» Builtin.Frozenset.oneOther
  simp only [List.isEmpty_nil, bind_assoc]
  unfold Builtin.Frozenset.addrOf setAdd
  refine wpAny_bind (wpAny_pure ?_)
  try dsimp only
  refine wpAny_bind (wpAny_pure ?_)
  try dsimp only
  refine wpAny_bind (wpAny_holding ?_)
  refine wpAny_bind (pyHash_key _ _ _ _ _ k.key (by rw [NestedKey.depth, txt_depth, Around.in1_units]; omega) ?_)
  refine addX_at (s := { s with toks := s.toks + (NestedKey.tup (zs.map NestedKey.text)).draws }) R T k (by rw [Around.in1_units]; omega) hfew fun b h' L' es' ep' t' sb R' h1 h2 => ?_
  exact wpAny_pure ⟨_, rfl, hQ h' _ L' es' ep' t' sb R' h1 h2⟩
end
end NL
/-! ### sorted(set of tuples of texts), and the words of such sets -/
namespace NL
open PySem PySem.Spec PyProof.Rows L2 PySem.W
/-! the order -/
def txD (zs : List Str) : PyData := .tuple (zs.map .str)
def leT : List Str → List Str → Bool := dataLe false txD
theorem toks_txt : ∀ {zs ys : List Str}, keyToksAll (zs.map .str) = keyToksAll (ys.map .str) → zs = ys
  | [], [], _ => rfl
  | [], _ :: _, h => by rw [List.map_nil, List.map_cons, keyToksAll, keyToksAll] at h; cases h
  | _ :: _, [], h => by rw [List.map_nil, List.map_cons, keyToksAll, keyToksAll] at h; cases h
  | z :: zs, y :: ys, h => by
    rw [List.map_cons, List.map_cons, keyToksAll, keyToksAll, keyToks, keyToks] at h
    have h := (List.cons.inj h).2
    rw [List.cons_append, List.cons_append, List.nil_append, List.nil_append] at h
    obtain ⟨h1, h2⟩ := List.cons.inj h
    rw [str_of_cps (Sum.inr.inj h1), toks_txt h2]
theorem leT_antisymm {zs ys : List Str} (h1 : leT zs ys = true) (h2 : leT ys zs = true) : zs = ys := by
  have h1 : (!(listOrd itemOrd).blt (keyToks (txD ys)) (keyToks (txD zs))) = true := h1
  have h2 : (!(listOrd itemOrd).blt (keyToks (txD zs)) (keyToks (txD ys))) = true := h2
  have := (listOrd itemOrd).total _ _ (by simpa using h2) (by simpa using h1)
  exact toks_txt this
theorem leT_total : TotalLe leT := sortLe_total (listOrd itemOrd) false fun b => keyToks (txD b)
theorem sortTx_perm {l m : List (List Str)} (h : l.Perm m) : l.mergeSort leT = m.mergeSort leT :=
  List.Perm.eq_of_pairwise (le := fun a b => leT a b = true) (fun _ _ _ _ => leT_antisymm) (sort_pairwise leT_total l) (sort_pairwise leT_total m) ((List.mergeSort_perm l leT).trans (h.trans (List.mergeSort_perm m leT).symm))
theorem alike_txt : ∀ zs ys : List Str, alikeAll (zs.map .str) (ys.map .str) = true
  | [], _ => by rw [List.map_nil, alikeAll]
  | _ :: _, [] => by rw [List.map_nil, List.map_cons, alikeAll]
  | z :: zs, y :: ys => by rw [List.map_cons, List.map_cons, alikeAll, alike, alike_txt zs ys]; rfl
theorem depth_txt : ∀ zs : List Str, PyData.depthAll (zs.map .str) = 0
  | [] => by rw [List.map_nil, PyData.depthAll]
  | z :: zs => by rw [List.map_cons, PyData.depthAll, depth_txt zs, PyData.depth]; rfl
theorem perm_map_inv {α β : Type} {f : α → β} {l l' : List β} (h : l.Perm l') : ∀ L : List α, l' = L.map f → ∃ L' : List α, L'.Perm L ∧ l = L'.map f := by
  induction h with
  | nil => intro L e; exact ⟨[], by rw [List.map_eq_nil_iff.mp e.symm], rfl⟩
  | @cons x l1 l2 p ih =>
    intro L e
    cases L with
    | nil => cases e
    | cons y L =>
      rw [List.map_cons] at e
      obtain ⟨e1, e2⟩ := List.cons.inj e
      obtain ⟨L', p', e'⟩ := ih L e2
      exact ⟨y :: L', p'.cons y, by rw [List.map_cons, e1, e']⟩
  | swap x y l =>
    intro L e
    match L, e with
    | a :: b :: L, e =>
      rw [List.map_cons, List.map_cons] at e
      obtain ⟨e1, e2⟩ := List.cons.inj e
      obtain ⟨e2, e3⟩ := List.cons.inj e2
      exact ⟨b :: a :: L, List.Perm.swap .., by rw [List.map_cons, List.map_cons, e1, e2, e3]⟩
  | trans _ _ ih1 ih2 =>
    intro L e
    obtain ⟨L1, p1, e1⟩ := ih2 L e
    obtain ⟨L2, p2, e2⟩ := ih1 L1 e1
    exact ⟨L2, p2.trans p1, e2⟩
section
variable {P : Program} {w : World} {A : Around} {E : Value → Shared → Prop} {s : Shared} {a x : Addr}
variable {L : List (Addr × List Str)} {es : Array (Int × Value)} {ep : Nat} {t : SetTable}
theorem txt_reads {h : Heap} {zs : List Str} (k : TxtTup h x zs) : ∃ as, Reads h (.ref x) (txD zs) as := by
  obtain ⟨o, vs, n, h1, h2, h3, h4⟩ := k
  have all : ∀ {vs : List Value} {zs : List Str}, TxtVals vs zs → ∃ as, ReadsAll h vs (zs.map .str) as := fun hp => by
    induction hp with
    | nil => exact ⟨_, .nil⟩
    | cons r _ ih => obtain ⟨t, e⟩ := r; subst e; obtain ⟨as, q⟩ := ih; exact ⟨_, .cons (.str _ _) q⟩
  obtain ⟨as, q⟩ := all h4
  exact ⟨_, by unfold txD; exact .tuple h1 h2 h3 q⟩
theorem txt_keep {h h' : Heap} {zs : List Str} (k : TxtTup h x zs) (keep : ∀ b o, h.get? b = some o → h'.get? b = some o) : TxtTup h' x zs := by
  obtain ⟨o, vs, n, h1, r⟩ := k
  exact ⟨o, vs, n, keep _ _ h1, r⟩
/-- sorted(set) -/
theorem sorted_setX (hh : A.handled = none) (hu : A.units + 8 < cLine) (R : SetX w s.heap a L es ep t) (T : TupsX s.heap L) (hz : ∀ p ∈ L, p.2 ≠ [])
    {Q : Value → Shared → Prop} (hQ : ∀ s' p c out, (∀ b o, s.heap.get? b = some o → s'.heap.get? b = some o) → s'.gens = s.gens → s'.os = s.os → s.heap.objs.size ≤ p → s'.heap.get? p = some (seqObj "list" (List.toArray out) c) → EachIs (fun v k => ∃ y, v = Value.ref y ∧ (y, k) ∈ L) out ((L.map (·.2)).mergeSort leT) → Q (.ref p) s') :
    wpAny (model P w) A (call (.builtin "sorted") [.ref a]) Q E s := by
  obtain ⟨o, ho, hex, hd⟩ := R.ob
  have hsz := rowsX_size R.rows
  have hfew := R.few
  refine Calls.call_function_entry kind_sorted plain_sorted entry_sorted (args_sorted1 _) ?_
  unfold Builtin.«sorted»
  refine wpAny_bind (m := checkCount "sorted" 1 1 _) (wpAny_pure ?_)
  refine wpAny_bind (collect_set (A := A.in1) hh ⟨o, ho, hex.1, hd⟩ R.fits (by unfold scanBound; omega) R.tab.ris R.led ?_)
  intro s1 vs keep grow gens os pm
  have e0 : es.toList.map (·.2) = L.map (fun p => Value.ref p.1) := by rw [R.rows]; unfold rowsX; rw [List.map_map]; rfl
  rw [e0] at pm
  obtain ⟨L', pL, rfl⟩ := perm_map_inv pm L rfl
  have hln : L'.length = L.length := pL.length_eq
  refine wpAny_bind (wpAny_newList ?_ (by rw [List.length_map, sizeLine_eq]; omega))
  generalize evs : L'.map (fun p => Value.ref p.1) = vs
  have hvl : vs.length = L.length := by rw [← evs, List.length_map, hln]
  have hoL : (s1.heap.push (seqObj "list" vs.toArray 0)).get? s1.heap.objs.size = some (seqObj "list" vs.toArray 0) := Heap.get?_push_size _ rfl
  have keep2 : ∀ b o, s.heap.get? b = some o → (sortingHeap (s1.heap.push (seqObj "list" vs.toArray 0)) s1.heap.objs.size vs).get? b = some o := fun b o e => by
    have q := keep b o e
    exact sortingHeap_old (Nat.ne_of_lt (Heap.lt_size q)) (Heap.get?_push_of_some _ q)
  have mem : ∀ p ∈ L', p ∈ L := fun p hp => pL.mem_iff.mp hp
  have e1 : EachIs (fun v k => ∃ y, v = Value.ref y ∧ (y, k) ∈ L) vs (L'.map (·.2)) := by
    rw [← evs]
    have : ∀ l : List (Addr × List Str), (∀ p ∈ l, p ∈ L) → EachIs (fun v k => ∃ y, v = Value.ref y ∧ (y, k) ∈ L) (l.map fun p => Value.ref p.1) (l.map (·.2)) := fun l => by
      induction l with
      | nil => exact fun _ => .nil
      | cons p l ih => exact fun h => .cons ⟨p.1, rfl, h p List.mem_cons_self⟩ (ih fun q hq => h q (List.mem_cons_of_mem _ hq))
    exact this L' mem
  have er : EachIs (fun v k => ∃ as, Reads (sortingHeap (s1.heap.push (seqObj "list" vs.toArray 0)) s1.heap.objs.size vs) v (txD k) as) vs (L'.map (·.2)) := e1.mono fun v k ⟨y, ev, hm⟩ => by
    subst ev
    exact txt_reads (txt_keep (T _ hm) keep2)
  have hal : AllAlike ((L'.map (·.2)).map txD) := fun d hd d' hd' => by
    obtain ⟨k, _, rfl⟩ := List.mem_map.mp hd
    obtain ⟨k', _, rfl⟩ := List.mem_map.mp hd'
    unfold txD
    rw [alike]
    exact alike_txt _ _
  have hk : Sortable ((L'.map (·.2)).map txD) := .inl fun d hd => by
    obtain ⟨k, hk, rfl⟩ := List.mem_map.mp hd
    obtain ⟨p, hp, rfl⟩ := List.mem_map.mp hk
    have := hz p (mem p hp)
    unfold txD
    cases e : p.2 with
    | nil => exact absurd e this
    | cons z zs => exact ⟨_, _, rfl⟩
  refine wpAny_bind (wpAny_holding ?_)
  refine wpAny_call_entry slot_list_sort ⟨_, hoL, rfl⟩ entry_list_sort (list_sort_vals (s := { s1 with heap := s1.heap.push (seqObj "list" vs.toArray 0) }) (κ := dataKind (sortingHeap (s1.heap.push (seqObj "list" vs.toArray 0)) s1.heap.objs.size vs) ((L'.map (·.2)).map txD)) hoL
    (SortsAt.data (s := { s1 with heap := sortingHeap (s1.heap.push (seqObj "list" vs.toArray 0)) s1.heap.objs.size vs }) (each_map (R := fun v d => ∃ as, Reads (sortingHeap (s1.heap.push (seqObj "list" vs.toArray 0)) s1.heap.objs.size vs) v d as) txD er) hal hk (fun d hd => ?_)) (by rw [hvl, sizeLine_eq]; omega) ⟨_, rfl, ?_⟩) (args_list_sort _)
  · obtain ⟨k, _, rfl⟩ := List.mem_map.mp hd
    unfold txD
    rw [PyData.depth, depth_txt]
    simp only [Around.in1_units]
    omega
  have es := sortVals_data false e1 er hal
  generalize sortVals _ false vs vs = out at es
  obtain ⟨c, hc⟩ := sortedHeap_at (vs := vs) (out := out.toArray) hoL
  refine wpAny_pure ⟨_, rfl, hQ _ s1.heap.objs.size c out (fun b u e => ?_) gens os grow hc ?_⟩
  · have q := keep b u e
    have hlt := Heap.lt_size q
    show (sortedHeap (s1.heap.push (seqObj "list" vs.toArray 0)) s1.heap.objs.size vs out.toArray).get? b = some u
    rw [sortedHeap_old (Nat.ne_of_lt hlt) (by rw [size_push']; exact Nat.lt_succ_of_lt hlt)]
    exact Heap.get?_push_of_some _ q
  · have : (L'.map (·.2)).mergeSort (dataLe false txD) = (L.map (·.2)).mergeSort leT := sortTx_perm (pL.map (·.2))
    rw [this] at es
    exact es
/-! the words -/
def SXO (w : World) (A : Addr) (L : List (Addr × List Str)) : HO := .ext fun h => ∃ es ep t, SetX w h A L es ep t
theorem sx_ok {H : Hp} {h : Heap} {A : Addr} (e : ∃ es ep t, SetX w h A L es ep t) : ObjOk P w H h A (SXO w A L) := by
  refine ⟨e, ?_, fun _ _ ⟨es, ep, t, R⟩ k => ⟨es, ep, t, R.stays fun o ho => k _ ho⟩⟩
  obtain ⟨es, ep, t, R⟩ := e
  obtain ⟨o, ho, _⟩ := R.ob
  exact ⟨o, ho⟩
def addXW (w : World) (K : PySem.W.Frag) : AddW := fun A v H N => ∃ (y : Addr) (zs : List Str) (L : List (Addr × List Str)), v = .ref y ∧ H A = some (SXO w A L) ∧ (∀ p ∈ L, SqT K H p.1 (p.2.map V.str)) ∧ SqT K H y (zs.map V.str) ∧ L.length + 1 < 64 ∧
  ∀ L', (zs ∈ L.map (·.2) → L' = L) → (zs ∉ L.map (·.2) → L'.Perm ((y, zs) :: L)) → N (upd H A (SXO w A L'))
theorem setWordsX (P : Program) (w : World) (K : PySem.W.Frag) : SetWords P w K (fun A => SXO w A []) (addXW w K) := by
  refine ⟨fun H h => sx_ok ⟨_, _, _, setX_fresh (Heap.get?_push_size _ rfl)⟩, fun X eP ew eK hu pins σ H s A v z N Q E I rv hadd fin => ?_⟩
  subst eP; subst ew; subst eK
  obtain ⟨y, zs, L, rfl, hA, hL, hy, hfew, hN⟩ := hadd
  obtain rfl : z = .ref y := rv
  obtain ⟨es, ep, t, R⟩ := (I.hok A _ hA).1
  refine call_addX (by omega) R (fun p hp => txt_of I (hL p hp)) (txt_of I hy) hfew fun h' tk L' es' ep' t' sb R' h1 h2 => ?_
  refine fin _ _ (I.write (e := A) (t' := tk) (by rw [hA]; trivial) (.inl rfl) (fun b u hb hu => (sb.2 b hb).trans hu) ?_ (sx_ok ⟨es', ep', t', R'⟩)) (hN L' h1 h2)
  obtain ⟨o, ho, _⟩ := R'.ob
  exact ⟨o, ho⟩
/-- sorted(set) -/
def rSortN (w : World) (K : PySem.W.Frag) : List V → Hp → VK → Prop := fun vs H Q => ∃ (a : Addr) (L : List (Addr × List Str)), vs = [V.ref a] ∧ H a = some (SXO w a L) ∧ (∀ p ∈ L, SqT K H p.1 (p.2.map V.str)) ∧ (∀ p ∈ L, p.2 ≠ []) ∧
  ∀ p ys, H p = none → EachIs (fun v k => ∃ y, v = V.ref y ∧ (y, k) ∈ L) ys ((L.map (·.2)).mergeSort leT) → Q (.ref p) (upd H p (.lst ys))
theorem cr_sortN {X : Cx} (hc : X.calm = true) (hu : X.A.units + 65 < cLine) : CallR X (.builtin "sorted") (rSortN X.w X.K) := by
  intro pins s σ H vs us Q I r h
  obtain ⟨a, L, rfl, hA, hL, hz, q⟩ := h
  rw [Vals.ref1 r]
  obtain ⟨es, ep, t, R⟩ := (I.hok a _ hA).1
  refine sorted_setX (I.ok.hd hc) (by omega) R (fun p hp => txt_of I (hL p hp)) hz fun s' p c out keep g os hp hg he => ?_
  have hn : H p = none := I.hok.fresh hp
  have each : ∀ {out : List Value} {ks : List (List Str)}, EachIs (fun v k => ∃ y, v = Value.ref y ∧ (y, k) ∈ L) out ks → ∃ ys, Vals ys out ∧ EachIs (fun v k => ∃ y, v = V.ref y ∧ (y, k) ∈ L) ys ks := fun he => by
    induction he with
    | nil => exact ⟨[], .nil, .nil⟩
    | cons h _ ih =>
      obtain ⟨y, e, hm⟩ := h
      obtain ⟨ys, r1, r2⟩ := ih
      subst e
      exact ⟨.ref y :: ys, .cons rfl r1, .cons ⟨y, rfl, hm⟩ r2⟩
  obtain ⟨ys, rv, hys⟩ := each he
  have hlen : ys.length ≤ sizeLine := by
    have h1 := hys.length
    rw [List.length_mergeSort, List.length_map] at h1
    have := R.few
    rw [sizeLine_eq]; omega
  have J := I.call (g' := s'.gens) (t' := s'.toks) (d' := s'.drawn) (h' := s'.heap) (ch := []) (Un.laid keep hp hn) (I.hok.laid (o := .lst ys) keep hp ⟨hlen, out, c, rv, hg⟩) (by rw [g]; exact I.bare) (fun _ z => nomatch z)
  have e : s' = { s with heap := s'.heap, gens := s'.gens, drawn := s'.drawn, toks := s'.toks } := by
    cases s'; cases s; cases os; rfl
  rw [e]
  exact ⟨.ref p, _, J, rfl, q p ys hn hys⟩
end
end NL
/-! ### the data layer: sorted({e for x in xs}), e tuples of texts -/
namespace NL
noncomputable section
open PySem PySem.Spec PyProof.Rows L2 PySem.W
def tTx (zs : List Str) : D := .tup (zs.map D.str)
/-- a tuple of texts that isn't empty -/
def txOf : D → Option (List Str)
  | .tup ds => match textsD ds with
    | some (z :: zs) => some (z :: zs)
    | _ => none
  | _ => none
def chkTx (d : D) (S : SrcT) : Rs D := match txOf d with
  | some _ => .ok d S
  | none => .bad
/-- each once, in ascending order -/
def sortK (ks : List (List Str)) : List (List Str) := (metK ks).mergeSort leT
def txsOf : List D → Option (List (List Str))
  | [] => some []
  | d :: ds => match txOf d, txsOf ds with
    | some k, some ks => some (k :: ks)
    | _, _ => none
def sortR (ys : List D) (S : SrcT) : Rs D := match txsOf ys with
  | some ks => .ok (.lst ((sortK ks).map tTx)) S
  | none => .bad
def srtNF (is : List Nat) (FI : Exs) (g : Tgt) (c : Tst) (Fe : Ex) : Ex := fun ρ S => (FI ρ S).bind fun ds S1 => if ds.length < 64 then (lcGo g c (fun ρ S => (Fe ρ S).bind chkTx) (wipeE ρ is) ds S1).bind sortR else .bad
theorem txOf_some {d : D} {ks : List Str} (h : txOf d = some ks) : d = tTx ks ∧ ks ≠ [] := by
  unfold txOf at h
  split at h
  · split at h
    · rename_i e
      cases h
      exact ⟨by rw [textsD_map e]; rfl, by simp⟩
    · cases h
  · cases h
theorem txOf_tx (z : Str) (zs : List Str) : txOf (tTx (z :: zs)) = some (z :: zs) := by
  unfold txOf tTx
  dsimp only
  rw [textsD_strs]
theorem txsOf_snoc {d : D} {k : List Str} (h : txOf d = some k) : ∀ {ds : List D} {ks : List (List Str)}, txsOf ds = some ks → txsOf (ds ++ [d]) = some (ks ++ [k])
  | [], _, e => by cases e; show (match txOf d, txsOf [] with | some k, some ks => some (k :: ks) | _, _ => none) = _; rw [h]; rfl
  | x :: ds, ks, e => by
    rw [List.cons_append]
    unfold txsOf at e ⊢
    cases hx : txOf x with
    | none => rw [hx] at e; cases e
    | some kx =>
      cases hd : txsOf ds with
      | none => rw [hx, hd] at e; cases e
      | some kd =>
        rw [hx, hd] at e
        cases e
        rw [txsOf_snoc h hd]; rfl
theorem txsOf_map : ∀ {ks : List (List Str)}, (∀ k ∈ ks, k ≠ []) → txsOf (ks.map tTx) = some ks
  | [], _ => rfl
  | [] :: _, h => absurd rfl (h _ List.mem_cons_self)
  | (z :: zs) :: ks, h => by
    rw [List.map_cons]
    unfold txsOf
    rw [txOf_tx, txsOf_map fun k hk => h k (List.mem_cons_of_mem _ hk)]
theorem metK_mem {ks : List (List Str)} {k : List Str} : k ∈ metK ks ↔ k ∈ ks := by
  have : ∀ (l acc : List (List Str)), k ∈ l.foldl metS acc ↔ k ∈ acc ∨ k ∈ l := fun l => by
    induction l with
    | nil => intro acc; simp
    | cons x l ih =>
      intro acc
      rw [List.foldl_cons, ih]
      unfold metS
      split
      · rename_i h
        obtain ⟨y, hy, e⟩ := List.any_eq_true.mp h
        rw [beq_iff_eq] at e
        subst e
        constructor
        · rintro (q | q)
          · exact .inl q
          · exact .inr (List.mem_cons_of_mem _ q)
        · rintro (q | q)
          · exact .inl q
          · rcases List.mem_cons.mp q with rfl | q
            · exact .inl hy
            · exact .inr q
      · rw [List.mem_append, List.mem_singleton, List.mem_cons, or_assoc]
  unfold metK
  rw [this]
  simp
section
variable {X : Cx} {G : Gm} {m m' : Bool} {O O' Ol : List Nat} {E : XK} {e tg : Expr} {F F1 F2 : Ex} {Fs : Exs}
theorem dvs_tx {p : Option Addr} {B : Hp} {L : List (Addr × List Str)} (hL : ∀ q ∈ L, SqT G.K B q.1 (q.2.map V.str)) : ∀ {ys : List V} {ks : List (List Str)}, EachIs (fun v k => ∃ y, v = V.ref y ∧ (y, k) ∈ L) ys ks → DVs G p B ys (ks.map tTx)
  | _, _, .nil => .nil
  | _, _, .cons ⟨y, e, hm⟩ r => by
    subst e
    exact .cons (.tup (hL _ hm) (dvs_strs _)) (dvs_tx hL r)
theorem de_srtN {is js : List Nat} {FI : Exs} {g : Tgt} {c : Tst} {Fe : Ex} (hO : ∀ i, i ∈ is → i ∉ O) (hj : ∀ i, i ∈ js → i ∈ is) (h : PE X e (tCB (rSortN X.w X.K) (tCons (tScG (fun A => SXO X.w A []) (addXW X.w X.K) (tI G O E FI) (tTg G O js g) (tBt G O E c) (tD G false O E Fe) is) tNil))) (hw : X.w = G.w := by rfl) (hK : X.K = G.K := by rfl) (hv0 : G.v = false := by rfl) : PE X e (tN G m O E (srtNF is FI g c Fe)) := by
  refine h.mono fun σ H Q ⟨φ, B, ρ, S, R, hp⟩ => ?_
  show tScG (fun A => SXO X.w A []) (addXW X.w X.K) (tI G O E FI) (tTg G O js g) (tBt G O E c) (tD G false O E Fe) is σ H fun x H1 => rSortN X.w X.K [x] H1 Q
  refine ⟨φ, B, ρ, S, R, ?_⟩
  rw [hw, hK]
  refine PgN.bind hp fun ds S1 J B1 H1 g1 R1 hJ h1 => fun A nA => ?_
  split at h1
  case isFalse => exact h1.elim
  rename_i hdl
  have hJ : DWalk G φ.p B1 J ds := hJ
  obtain ⟨Gd, hGd, W⟩ := hJ
  have npA : φ.p ≠ some A := fun e => by have := (R1.src A e).2.1; rw [nA] at this; cases this
  have n0A : φ.H0 A = none := R1.al A nA
  have hv1 : φ.v = false := R1.vv.1.trans hv0
  have Rw := R1.wipe (vs := is) hO
  have disW : ∀ i, i ∈ O → (L2.wipe σ is)[i]? ≠ some (some (.ref A)) := fun i hi hk => by
    obtain ⟨b, o', d', k1, k2, k3, _⟩ := Rw.own i hi
    rw [k2] at hk
    have e : b = A := by injection hk with hk; injection hk with hk; injection hk
    rw [e, nA] at k3; cases k3
  have keepA : ∀ {Bx Hx By Hy : Hp} {Sy : SrcT} {Oy : List Nat} {σy : L2.St} {ρy : Env}, Go φ Bx Hx By Hy → Rep G φ Oy σy By Hy ρy Sy → ∀ {z : Heap → Prop}, Hx A = some (.ext z) → Bx A = none → Hy A = some (.ext z) ∧ By A = none := fun {Bx Hx By Hy Sy Oy σy ρy} gx Ry {z} hx nx => by
    have h1 := gx.at hv1 npA hx
    refine ⟨h1, ?_⟩
    cases k : By A with
    | none => rfl
    | some u =>
      have hz := Ry.sub A u k
      rw [h1] at hz
      cases hz
      rcases gx.n A _ k True.intro with q | q
      · rw [nx] at q; cases q
      · rw [hx] at q; cases q
  refine sc_it (fresh := fun A => SXO G.w A []) (add := addXW G.w G.K) (g := tTg G O js g) (tt := tBt G O E c) (te := tD G false O E Fe) (vs := is) (σ := σ) (A := A) (Qd := fun H => rSortN G.w G.K [.ref A] H Q) W (fun i H' => ∃ Bi Si acc ks L, Rep G φ O (L2.wipe σ is) Bi H' (wipeE ρ is) Si ∧ Go φ B1 H1 Bi H' ∧ Bi A = none ∧ txsOf acc = some ks ∧ ks.length ≤ i ∧ (∀ k ∈ ks, k ≠ []) ∧
      H' A = some (SXO G.w A L) ∧ (∀ p ∈ L, SqT G.K Bi p.1 (p.2.map V.str)) ∧ (L.map (·.2)).Perm (metK ks) ∧
      PgN G φ m O E σ ρ B1 H1 ((lcGo g c (fun ρ S => (Fe ρ S).bind chkTx) (wipeE ρ is) (ds.drop i) Si).bind fun ys S => sortR (acc ++ ys) S) Q) ?_ ?_ ?_ ?_
  · obtain ⟨Rn, gn, nB, _, _⟩ := Rw.newN (o := SXO G.w A []) nA
    exact ⟨B1, S1, [], [], [], Rn, gn, nB, rfl, Nat.zero_le _, (fun _ z => nomatch z), upd_same, (fun _ z => nomatch z), List.Perm.refl _, h1⟩
  · rintro i H' hi ⟨Bi, Si, acc, ks, L, Ri, gi, _⟩
    exact hGd H' (gi.b.trans Ri.sub)
  · rintro i x H2 H3 hi ⟨Bi, Si, acc, ks, L, Ri, gi, nBA, hks, hl, hne, hA, hL, hpm, hp'⟩ y
    obtain ⟨d, B2, hd, R2, g2, dv⟩ := yield_rep Ri gi.b y
    have hdrop : ds.drop i = d :: ds.drop (i + 1) := by
      obtain ⟨hlt, e⟩ := List.getElem?_eq_some_iff.mp hd
      rw [List.drop_eq_getElem_cons hlt, e]
    rw [hdrop] at hp'
    rw [lcGo] at hp'
    have hp2 := hp'
    cases hg : g d (wipeE ρ is) with
    | none => rw [hg] at hp2; exact hp2.elim
    | some ρ' =>
      rw [hg] at hp2
      refine ⟨φ, B2, wipeE ρ is, Si, d, ρ', R2, dv, hg, fun σ' R' fr => ⟨fr.wipe hj, φ, B2, ρ', Si, R', ?_⟩⟩
      dsimp only at hp2
      rw [Rs.bind_assoc] at hp2
      obtain ⟨hA2, nA2⟩ := keepA g2 R2 hA nBA
      have g12 := gi.trans g2
      generalize c ρ' Si = rc at hp2
      induction rc with
      | bad => exact hp2.elim
      | exc cc dd SS => exact XP.go g12 hp2
      | all p0 k0 ih => exact fun x px => ih x (hp2 x px)
      | ok b S3 =>
        intro bw B3 H4 g3 R3 hbw
        have hbw : bw = b := hbw
        subst hbw
        obtain ⟨hA3, nA3⟩ := keepA g3 R3 hA2 nA2
        have hp3 := hp2
        have g13 := g12.trans g3
        have Rw3 : Rep G φ O (L2.wipe σ is) B3 H4 (wipeE ρ is) S3 := Rw.move g13 R3
        have hL3 : ∀ p ∈ L, SqT G.K B3 p.1 (p.2.map V.str) := fun p hp => SqT_same (g2.b.trans g3.b) (hL p hp)
        cases bw with
        | false =>
          rw [if_neg (by decide)]
          simp only [Rs.bind, Bool.false_eq_true, if_false] at hp3
          exact ⟨B3, S3, acc, ks, L, Rw3, g13, nA3, hks, Nat.le_succ_of_le hl, hne, hA3, hL3, hpm, hp3⟩
        | true =>
          rw [if_pos rfl]
          simp only [Rs.bind, if_true] at hp3
          refine ⟨φ, B3, ρ', S3, R3, ?_⟩
          have hp3 : PgN G φ m O E σ ρ B1 H1 ((((Fe ρ' S3).bind chkTx).bind fun y S2 => (lcGo g c (fun ρ S => (Fe ρ S).bind chkTx) (wipeE ρ is) (ds.drop (i + 1)) S2).bind fun ys S3 => .ok (y :: ys) S3).bind fun ys S => sortR (acc ++ ys) S) Q := hp3
          rw [Rs.bind_assoc, Rs.bind_assoc] at hp3
          generalize Fe ρ' S3 = rf at hp3
          induction rf with
          | bad => exact hp3.elim
          | exc cc dd SS => exact XP.go g13 hp3
          | all p0 k0 ih => exact fun x px => ih x (hp3 x px)
          | ok yd S4 =>
            intro yv B4 H5 g4 R4 hyv
            have hyv : DV G φ.p B4 yv yd := hyv
            obtain ⟨hA4, nA4⟩ := keepA g4 R4 hA3 nA3
            have hp4 : PgN G φ m O E σ ρ B1 H1 ((chkTx yd S4).bind fun y S2 => ((lcGo g c (fun ρ S => (Fe ρ S).bind chkTx) (wipeE ρ is) (ds.drop (i + 1)) S2).bind fun ys S3 => .ok (y :: ys) S3).bind fun ys S => sortR (acc ++ ys) S) Q := hp3
            unfold chkTx at hp4
            cases ht : txOf yd with
            | none => rw [ht] at hp4; exact hp4.elim
            | some zs =>
              rw [ht] at hp4
              obtain ⟨rfl, hzs⟩ := txOf_some ht
              have hp4 : PgN G φ m O E σ ρ B1 H1 (((lcGo g c (fun ρ S => (Fe ρ S).bind chkTx) (wipeE ρ is) (ds.drop (i + 1)) S4).bind fun ys S3 => .ok (tTx zs :: ys) S3).bind fun ys S => sortR (acc ++ ys) S) Q := hp4
              rw [Rs.bind_assoc] at hp4
              cases hyv with
              | @tup yy xs _ hq hs =>
              obtain rfl := dvs_str_inv hs
              have Rw4 : Rep G φ O (L2.wipe σ is) B4 H5 (wipeE ρ is) S4 := Rw.move (g13.trans g4) R4
              have gA := g13.trans g4
              have hL4 : ∀ p ∈ L, SqT G.K B4 p.1 (p.2.map V.str) := fun p hp => SqT_same g4.b (hL3 p hp)
              have hlen : L.length ≤ i := by
                have h1 := hpm.length_eq
                rw [List.length_map] at h1
                have h2 := metK_length ks
                omega
              refine ⟨yy, zs, L, rfl, hA4, fun p hp => SqT_same R4.sub (hL4 p hp), SqT_same R4.sub hq, by omega, fun L' e1 e2 => ?_⟩
              have g5 : Go φ B1 H1 B4 (upd H5 A (SXO G.w A L')) := by
                refine ⟨gA.b, fun hv q z hz => ?_, gA.n, fun q hq => gA.d q (upd_no hq)⟩
                have hz2 := gA.h hv q z hz
                have e : q ≠ A := fun e => by rw [e, hideP_at npA, nA] at hz; cases hz
                unfold hideP at hz2 ⊢
                rw [upd_ne e]; exact hz2
              have hmem : zs ∈ L.map (·.2) ↔ zs ∈ metK ks := hpm.mem_iff
              refine ⟨B4, S4, acc ++ [tTx zs], ks ++ [zs], L', Rw4.poke nA4 n0A npA disW (fun hv => by rw [hv0] at hv; cases hv), g5, nA4, txsOf_snoc ht hks, by rw [List.length_append]; simp; omega, fun k hk => ?_, upd_same, ?_, ?_, ?_⟩
              · rcases List.mem_append.mp hk with q | q
                · exact hne k q
                · rw [List.mem_singleton.mp q]; exact hzs
              · by_cases hm : zs ∈ L.map (·.2)
                · rw [e1 hm]; exact hL4
                · intro p hp
                  rcases List.mem_cons.mp ((e2 hm).mem_iff.mp hp) with rfl | q
                  · exact hq
                  · exact hL4 p q
              · rw [metK_snoc]
                unfold metS
                by_cases hm : zs ∈ L.map (·.2)
                · rw [if_pos (List.any_eq_true.mpr ⟨zs, hmem.mp hm, by simp⟩), e1 hm]; exact hpm
                · rw [if_neg (fun h => by
                    obtain ⟨y, hy, e⟩ := List.any_eq_true.mp h
                    rw [beq_iff_eq] at e
                    subst e
                    exact hm (hmem.mpr hy))]
                  have h1 := (e2 hm).map (·.2)
                  rw [List.map_cons] at h1
                  exact h1.trans ((hpm.cons zs).trans (List.perm_append_singleton zs _).symm)
              · have : (fun (ys : List D) (S : SrcT) => sortR (acc ++ [tTx zs] ++ ys) S) = fun ys S => (Rs.ok (tTx zs :: ys) S).bind fun ys S => sortR (acc ++ ys) S := by
                  funext ys S
                  show sortR (acc ++ [tTx zs] ++ ys) S = sortR (acc ++ (tTx zs :: ys)) S
                  rw [List.append_assoc]; rfl
                rw [this]; exact hp4
  · rintro H' ⟨Bi, Si, acc, ks, L, Ri, gi, nBA, hks, hl, hne, hA, hL, hpm, hp'⟩
    rw [List.drop_length] at hp'
    have hp' : PgN G φ m O E σ ρ B1 H1 (sortR (acc ++ []) Si) Q := hp'
    rw [List.append_nil] at hp'
    unfold sortR at hp'
    rw [hks] at hp'
    have Rm := R1.move gi Ri
    refine ⟨A, L, rfl, hA, fun p hp => SqT_same Ri.sub (hL p hp), fun p hp => hne _ (metK_mem.mp (hpm.mem_iff.mp (List.mem_map.mpr ⟨p, hp, rfl⟩))), fun p ys hn hys => ?_⟩
    have eq : (L.map (·.2)).mergeSort leT = sortK ks := sortTx_perm hpm
    rw [eq] at hys
    obtain ⟨R', g', n'⟩ := Rm.newO (m := m) (o := .lst ys) (d := .lst ((sortK ks).map tTx)) hn (dvs_tx (fun q hq => SqT_same (Ri.bbs m) (hL q hq)) hys)
    exact hp' p _ _ _ (gi.trans g') R' n' (gi.d p hn)
end
section
variable {is : List Nat} {FI : Exs} {g : Tgt} {c : Tst} {Fe : Ex} {ρ : Env} {S : SrcT} {P : D → SrcT → Prop}
theorem srtNF_sat (h : (FI ρ S).sat fun ds S1 => ds.length < 64 ∧ (lcGo g c (fun ρ S => (Fe ρ S).bind chkTx) (wipeE ρ is) ds S1).sat fun ys S2 => ∃ ks, txsOf ys = some ks ∧ P (.lst ((sortK ks).map tTx)) S2) : (srtNF is FI g c Fe ρ S).sat P := by
  unfold srtNF; rw [sat_bind]
  refine h.mono fun ds S1 ⟨h1, h2⟩ => ?_
  rw [if_pos h1, sat_bind]
  refine h2.mono fun ys S2 ⟨ks, e, h3⟩ => ?_
  unfold sortR; rw [e]; exact h3
theorem chkTx_sat (h : (Fe ρ S).sat fun d S1 => ∃ z zs, d = tTx (z :: zs) ∧ P d S1) : ((Fe ρ S).bind chkTx).sat P := by
  rw [sat_bind]
  refine h.mono fun d S1 ⟨z, zs, e, h⟩ => ?_
  subst e
  unfold chkTx; rw [txOf_tx]; exact h
end
end
end NL
/-! ### x in y by an own __contains__; list(range(a, b)) -/
namespace NL
noncomputable section
open PySem PySem.Spec PyProof.Rows L2
section
variable {X : Cx} {CX : CXT} {n : Nat} {f C : Addr} {fd : FuncData} {ps : List Str} {sp : Sp} {E : XK}
def rInO (neg : Bool) (C : Addr) (sp : Sp) (E : XK) : R2 := fun x y H Q => ∃ a dx fs, y = .ref a ∧ H a = some (.ins C dx fs) ∧ sp [.ref a, x] H (fun v H' => ∃ i : Bool, v = .bl i ∧ Q (.bl (if neg then !i else i)) H') E
theorem op_inO (F : FnOk X.prog X.w X.K X.mg X.base CX n f fd ps sp) (hroom : Room n X.A) (M : Meth X.K C "__contains__" f) (hb : Binds X.K fd ps []) (hx : Passes CX X E) : OpR X (compareOp .In) (rInO false C sp E) := by
  intro pins s σ H x y v u Q I rx ry hq
  obtain ⟨a, dx, fs, rfl, ha, h⟩ := hq
  cases ry
  obtain ⟨mA, J, _⟩ := ins_get I.hok ha
  obtain ⟨od, J, _⟩ := J.look
  obtain ⟨m, hF⟩ := I.fr
  have r2 : Vals [V.ref a, x] [Value.ref a, v] := .cons rfl (.cons rx .nil)
  refine PySem.W.in_K hF I.ok.mod.kin J M.at_ M.fn (wpAny_mono (run_own F hroom rfl hb hx I r2 h) (fun v s' q => ?_) fun _ _ e => e)
  obtain ⟨z, H', I', rz, i, rfl, q⟩ := q
  cases rz
  exact wpAny_truthy_bool ⟨.bl i, H', I', rfl, q⟩
end
def inOF (neg : Bool) (p : D → Bool) (f : List D → SrcT → Rs D) (F1 F2 : Ex) : Ex := fun ρ S => (F1 ρ S).bind fun d1 S1 => (F2 ρ S1).bind fun d2 S2 => if p d2 = true then (noX (f [d2, d1] S2)).bind fun r S3 => match r with
    | .bl b => .ok (.bl (if neg then !b else b)) S3
    | _ => .bad
  else .bad
section
variable {X : Cx} {G : Gm} {m : Bool} {O : List Nat} {E E' : XK} {e : Expr} {es : List Expr} {F F1 F2 : Ex} {Fs : Exs} {C : Addr} {p : D → Bool}
theorem de_inO {neg : Bool} {f : List D → SrcT → Rs D} (hp : InsK G C p) (h : PE X e (tOp (rInO neg C (spD G f) E') (tD G true O E F1) (tD G true O E F2))) (hv0 : G.v = false := by rfl) : PE X e (tD G m O E (inOF neg p f F1 F2)) := by
  refine h.mono fun σ H Q ⟨φ, B, ρ, S, R, hq⟩ => ⟨φ, B, ρ, S, R, ?_⟩
  refine Pg.bind hq fun d1 S1 v1 B1 H1 g R1 hw h1 => ⟨φ, B1, ρ, S1, R1, ?_⟩
  refine Pg.bind h1 fun d2 S2 v2 B2 H2 g2 R2 hw2 h2 => ?_
  split at h2
  · rename_i hk
    have hw1 := hw.same (g2.bs true)
    obtain ⟨a, dx, fs, rfl, ha⟩ := hp (dv_H R2 hw2) hk
    refine ⟨a, dx, fs, rfl, ha, sp_callN (E := E) R2 (.cons hw2 (.cons hw1 .nil)) ?_ hv0⟩
    refine Pg.bind h2 fun r S3 v B3 H3 g3 R3 hw3 h3 => ?_
    split at h3
    · cases hw3; exact ⟨_, rfl, Pg.ok h3 R3 (.bl _)⟩
    · exact h3.elim
  · exact h2.elim
/-! list(range(a, b)) -/
def lstRg2F (F1 F2 : Ex) : Ex := fun ρ S => (F1 ρ S).bind fun d S1 => (F2 ρ S1).bind fun d2 S2 => match d, d2 with
  | .int i, .int j => if (okR i && okR j && decide ((j - i).toNat ≤ 100000)) = true then .ok (.lst (rngD i (j - i).toNat)) S2 else .bad
  | _, _ => .bad
theorem de_lstRg2 (h : PE X e (tLstRg (tRg2 (tD G true O E F1) (tD G true O E F2)))) : PE X e (tN G m O E (lstRg2F F1 F2)) := by
  refine h.mono fun σ H Q ⟨φ, B, ρ, S, R, hp⟩ => ⟨φ, B, ρ, S, R, ?_⟩
  refine PgN.bind hp fun d S1 w B1 H1 g R1 hw h1 => ⟨φ, B1, ρ, S1, R1, ?_⟩
  refine PgN.bind h1 fun d2 S2 w2 B2 H2 g2 R2 hw2 h2 => ?_
  split at h2
  · split at h2
    · rename_i i j hn
      simp only [Bool.and_eq_true, decide_eq_true_eq] at hn
      obtain ⟨⟨k1, k2⟩, k3⟩ := hn
      unfold okR at k1 k2
      simp only [Bool.and_eq_true, decide_eq_true_eq] at k1 k2
      cases hw
      cases hw2
      refine ⟨_, _, rfl, rfl, ⟨by omega, by omega, by omega, by omega, by omega⟩, fun a na => ?_⟩
      have hd : DVs G φ.p (bs m φ B2 H2) (rgV i j) (rngD i (j - i).toNat) := by
        unfold rngD rgV
        have : ∀ l : List Nat, DVs G φ.p (bs m φ B2 H2) (l.map fun k => V.int (i + (k : Nat))) (l.map fun k => D.int (i + (k : Nat))) := by
          intro l
          induction l with
          | nil => exact .nil
          | cons x l ih => exact .cons (.int _) ih
        exact this _
      obtain ⟨R', g', n'⟩ := R2.newO (m := m) (o := .lst _) (d := .lst _) na hd
      exact h2 a _ B2 _ g' R' n' na
    · exact h2.elim
  · exact h2.elim
end
section
variable {F F1 F2 : Ex} {ρ : Env} {S : SrcT} {P : D → SrcT → Prop}
/-- x in y by an own __contains__ -/
theorem inOF_sat {neg : Bool} {p : D → Bool} {f : List D → SrcT → Rs D} (h : (F1 ρ S).sat fun d1 S1 => (F2 ρ S1).sat fun d2 S2 => p d2 = true ∧ (f [d2, d1] S2).sat fun r S3 => ∃ b, r = .bl b ∧ P (.bl (if neg then !b else b)) S3) : (inOF neg p f F1 F2 ρ S).sat P := by
  unfold inOF; rw [sat_bind]
  refine Rs.sat.mono h fun d1 S1 h => ?_
  rw [sat_bind]
  refine Rs.sat.mono h fun d2 S2 h => ?_
  obtain ⟨h0, h⟩ := h
  rw [if_pos h0]
  generalize f [d2, d1] S2 = r at h ⊢
  induction r with
  | ok a S => obtain ⟨b, rfl, hP⟩ := h; exact hP
  | bad => exact h
  | exc _ _ _ => exact h
  | all p f ih => exact fun x px => ih x (h x px)
theorem lstRg2F_sat (h : (F1 ρ S).sat fun d S1 => (F2 ρ S1).sat fun d2 S2 => ∃ i j : Int, d = .int i ∧ d2 = .int j ∧ okR i = true ∧ okR j = true ∧ (j - i).toNat ≤ 100000 ∧ P (.lst (rngD i (j - i).toNat)) S2) : (lstRg2F F1 F2 ρ S).sat P := by
  unfold lstRg2F; rw [sat_bind]
  refine h.mono fun d S1 h => ?_
  rw [sat_bind]
  refine h.mono fun d2 S2 ⟨i, j, e1, e2, h1, h2, h3, hp⟩ => ?_
  subst e1 e2
  dsimp only
  rw [if_pos (by rw [h1, h2, decide_eq_true h3]; rfl)]; exact hp
end
end
end NL
/-! ### ranks of a list of ints -/
namespace Law
open PySem L2 NL
/-- the different ones in order -/
def sd (l : List Int) : List Int := sortI (ddI l)
/-! all lists of a length, of the ints below a bound -/
/-! ranks and order -/
/-- two lists in the same order -/
def SameOrd (l r : List Int) : Prop := l.length = r.length ∧ ∀ (i j : Nat) (x y a b : Int), l[i]? = some x → l[j]? = some y → r[i]? = some a → r[j]? = some b → (x < y ↔ a < b)
theorem SameOrd.symm {l r : List Int} (h : SameOrd l r) : SameOrd r l := ⟨h.1.symm, fun i j x y a b h1 h2 h3 h4 => (h.2 i j a b x y h3 h4 h1 h2).symm⟩
theorem SameOrd.trans {l r t : List Int} (h : SameOrd l r) (h2 : SameOrd r t) : SameOrd l t := ⟨h.1.trans h2.1, fun i j x y a b k1 k2 k3 k4 => by
  have li : i < r.length := by rw [← h.1]; exact (List.getElem?_eq_some_iff.mp k1).1
  have lj : j < r.length := by rw [← h.1]; exact (List.getElem?_eq_some_iff.mp k2).1
  exact (h.2 i j x y _ _ k1 k2 (List.getElem?_eq_getElem li) (List.getElem?_eq_getElem lj)).trans (h2.2 i j _ _ a b (List.getElem?_eq_getElem li) (List.getElem?_eq_getElem lj) k3 k4)⟩
end Law
namespace NL
open PySem L2
/-! ### how a run goes on -/
/-! ### a run, cut -/
end NL
local macro_rules | `(tactic| walk_at "hp") => `(tactic| first | assumption | exact L2.upd_same | (refine NL.upd_keep ?_ (by assumption); walk_at "hp") | (refine NL.upd_skip (by assumption) ?_; walk_at "hp") | (refine NL.But.at (by assumption) (by assumption) ?_; walk_at "hp"))
local macro_rules | `(tactic| walk_at "sq") => `(tactic| first | assumption | exact L2.SqL.of (by walk_at "hp") | exact L2.SqT.of (by walk_at "hp"))
local macro_rules | `(tactic| walk_at "at") => `(tactic| first | rfl | assumption)
local macro_rules | `(tactic| walk_at "ixN") => `(tactic| first | rfl | assumption)
local macro_rules | `(tactic| walk_at "pos") => `(tactic| first | assumption | (show (_ : Int) < _; omega) | decide)
local macro_rules | `(tactic| walk_at "len") => `(tactic| first | exact NL.sz1000 (by decide) | exact NL.sz100k (by decide) | exact NL.sz100k (by omega) | exact NL.sz100k (by simp))
local macro_rules | `(tactic| walk_at "mul") => `(tactic| first | (refine Or.inl ⟨?_, ?_⟩ <;> omega) | (refine Or.inr ⟨?_, ?_⟩ <;> omega))
local macro_rules | `(tactic| walk_at "pow") => `(tactic| first | exact ⟨by decide, by decide, by decide⟩ | exact ⟨by decide, by decide, by omega⟩)
local macro_rules | `(tactic| walk_at "div") => `(tactic| first | assumption | exact L2.wide_div (b := 100) (by omega) (by omega) (by decide) (by decide))
local macro_rules | `(tactic| walk_at "arith") => `(tactic| first | decide | omega)
local macro_rules | `(tactic| walk_at "tyx") => `(tactic| first | exact L2.TyX.base (L2.TyOf.int _) | exact L2.TyX.base (L2.TyOf.str _) | exact L2.TyX.base (L2.TyOf.bl _) | exact L2.TyX.base L2.TyOf.non | exact L2.TyX.base (L2.TyOf.lst (by walk_at "hp")) | exact L2.TyX.base (L2.TyOf.tup (by walk_at "hp")))
local macro_rules | `(tactic| walk_at "dlen") => `(tactic| (apply Nat.lt_of_le_of_lt; (repeat (first | exact NL.dl0 _ (by simp) | apply NL.dl1)); decide))
local macro_rules | `(tactic| walk_at "dval") => `(tactic| (simp only [L2.mergeK, List.foldl_cons, List.foldl_nil, L2.valV_put]; repeat (first | rw [if_pos True.intro] | rw [if_pos rfl] | rw [if_neg (by decide +kernel)])))
local macro_rules | `(tactic| walk_at "s1") => `(tactic| first | (with_reducible refine NL.seqS_sat ?_) | ((with_reducible apply NL.vF_sat); · rfl) | (with_reducible refine NL.nilS_sat ?_) | (with_reducible refine NL.setS_sat ?_) | ((with_reducible refine NL.setN_sat ?_ ?_); · simp) | ((with_reducible refine NL.mulS_sat ?_ ?_); · rfl) | (with_reducible refine NL.freS_sat (by simp) (by simp) ?_) | (with_reducible refine NL.retS_sat ?_) | (with_reducible refine NL.exprS_sat ?_) | (with_reducible refine NL.iteS_sat ?_) | (with_reducible refine NL.forS_sat ?_) | (with_reducible refine NL.cF_sat ?_) | (with_reducible refine NL.nilF_sat ?_) | (with_reducible refine NL.consF_sat ?_) | (with_reducible refine NL.binF_sat ?_) | (with_reducible refine NL.unF_sat ?_) | (with_reducible refine NL.argF_sat ?_) | (with_reducible refine NL.lstF_sat ?_) | (with_reducible refine NL.tupF_sat ?_) | (with_reducible refine NL.callF_sat ?_) | (with_reducible refine NL.callN_sat ?_) | (with_reducible refine NL.iteF_sat ?_) | (with_reducible refine NL.tstF_sat ?_) | (with_reducible refine NL.blT_sat ?_) | (with_reducible refine NL.andT_sat ?_) | (with_reducible refine NL.orT_sat ?_) | (with_reducible refine NL.notT_sat ?_) | (with_reducible refine NL.yesT_sat ?_) | (with_reducible refine NL.chF_sat ?_) | (with_reducible refine NL.noF_sat ?_) | (with_reducible refine NL.someF_sat ?_) | (with_reducible refine NL.slF_sat ?_) | (with_reducible refine NL.lcF_sat ?_) | (with_reducible refine NL.seqF_sat ?_) | (with_reducible refine NL.rng1F_sat ?_) | (with_reducible refine NL.rng2F_sat ?_) | (with_reducible refine NL.strF_sat ?_) | (with_reducible refine NL.zipF_sat ?_) | (with_reducible refine NL.zipMF_sat ?_) | (with_reducible refine NL.splitF_sat ?_) | (with_reducible refine NL.partF_sat ?_) | (with_reducible refine NL.callC_sat ?_) | (with_reducible refine NL.joinF_sat ?_) | (with_reducible refine NL.jn_cons ?_) | (with_reducible refine NL.jn_nil ?_) | (with_reducible refine NL.starF_sat ?_) | (with_reducible refine NL.lstSF_sat ?_) | (with_reducible refine NL.propF_sat ?_) | (with_reducible refine NL.methF_sat ?_) | (with_reducible refine NL.callL_sat ?_) | (with_reducible refine NL.enumKF_sat ?_) | (with_reducible refine NL.eqOF_sat ?_) | (with_reducible refine NL.lenOF_sat ?_) | (with_reducible refine NL.enumF_sat ?_) | (with_reducible refine NL.get2F_sat ?_) | (with_reducible refine NL.setCF_sat ?_) | (with_reducible refine NL.popS_sat ?_) | (with_reducible refine NL.dctCF_sat ?_) | (with_reducible refine NL.dgetF_sat ?_) | (with_reducible refine NL.idxOfF_sat ?_) | (with_reducible refine NL.lstRgF_sat ?_) | ((with_reducible apply NL.extS_sat); · rfl) | (with_reducible refine NL.asgS_sat ?_) | (with_reducible refine NL.parS_sat ?_) | (with_reducible refine NL.scF_sat ?_) | (with_reducible refine NL.andF_sat ?_) | (with_reducible refine NL.orF_sat ?_) | (with_reducible refine NL.brkS_sat ?_) | (with_reducible refine NL.contS_sat ?_) | ((with_reducible apply NL.idxOF_sat); · rfl) | ((with_reducible apply NL.appS_sat); · rfl) | ((with_reducible apply NL.insS_sat); · rfl) | ((with_reducible apply NL.putS_sat); · rfl) | (with_reducible refine NL.tabGF_sat ?_) | (with_reducible refine NL.mkRunF_sat ?_) | (with_reducible refine NL.callW_sat ?_) | (with_reducible refine NL.tup2F_sat ?_) | (with_reducible refine NL.noXS_sat ?_) | (with_reducible refine NL.dispF_sat ?_) | (with_reducible refine NL.dgo_cons ?_) | (with_reducible refine NL.dgo_nil ?_) | ((with_reducible apply NL.updS_sat); · rfl) | refine ⟨_, rfl, ?_⟩ | refine ⟨_, _, rfl, ?_⟩)
local macro_rules | `(tactic| walk_at "st") => `(tactic| (walk_at "s1"; repeat (walk_at "s1")))
local macro_rules | `(tactic| walk_at "s2") => `(tactic| first | (with_reducible refine NL.if_nt ?_) | (with_reducible refine NL.if_f ?_) | (with_reducible refine NL.if_nf ?_) | (with_reducible refine NL.if_t ?_) | walk_at "s1")
local macro_rules | `(tactic| walk_at "sx") => `(tactic| (walk_at "s2"; repeat (walk_at "s2")))
local macro_rules | `(tactic| walk_at "s3") => `(tactic| first | walk_at "s2" | (refine NL.ifT rfl ?_) | (refine NL.ifF rfl ?_))
local macro_rules | `(tactic| walk_at "sd") => `(tactic| (walk_at "s3"; repeat (walk_at "s3")))
local macro_rules | `(tactic| walk_at "e0") => `(tactic| dsimp only [List.map_cons, List.map_nil, List.cons_append, List.nil_append, Nat.reduceSub, List.replicate_succ, List.replicate_zero])
local macro_rules | `(tactic| walk_at "e1") => `(tactic| dsimp only [List.map, List.cons_append, List.nil_append, Nat.reduceSub, List.replicate])
namespace Law
open PySem L2 NL
noncomputable section
def c_SIGNS : D := .tup ((["<", "=", ">"] : List Str).map D.str)
def c_GAP_WORDS : D := .tup ((["none", "first", "second"] : List Str).map D.str)
def b_is_name : Sx := (seqS (iteS (orT (notT (tstF (unF isStr (vF 0)))) (orT (blT (binF ltD (argF lenD (consF (vF 0) nilF)) (cF (.int 1)))) (blT (binF gtD (argF lenD (consF (vF 0) nilF)) (cF (.int 8))))))
  (retS (cF (.bl false)))
  nilS)
  (retS (argF allD (consF (lcF [1] (strF (vF 0)) (gN 1) yesT (binF (inSD false) (vF 1) (cF (.str "abcdefghijklmnopqrstuvwxyz")))) nilF))))
def f_is_name : List D → SrcT → Rs D := fnF 1 2 b_is_name
def b_is_triple : Sx := (seqS (iteS (orT (notT (tstF (unF isSq (vF 0)))) (orT (blT (binF (eqD true) (argF lenD (consF (vF 0) nilF)) (cF (.int 3)))) (notT (tstF (unF isStr (binF idxD (vF 0) (cF (.int 2))))))))
  (retS (cF (.bl false)))
  nilS)
  (retS (andF (callF f_is_name (consF (binF idxD (vF 0) (cF (.int 0))) nilF)) (andF (callF f_is_name (consF (binF idxD (vF 0) (cF (.int 1))) nilF)) (binF (inD false) (binF idxD (vF 0) (cF (.int 2))) (vF 1))))))
def f_is_triple : List D → SrcT → Rs D := fnF 2 2 b_is_triple
def b_are_triples : Sx := (retS (andF (unF isSq (vF 0)) (argF allD (consF (lcF [2] (seqF (vF 0)) (gN 2) yesT (callF f_is_triple (consF (vF 2) (consF (vF 1) nilF)))) nilF))))
def f_are_triples : List D → SrcT → Rs D := fnF 2 3 b_are_triples
def b_is_period : Sx := (retS (andF (unF isInt (vF 0)) (andF (unF notD (unF isBool (vF 0))) (chF leD leD (cF (.int 1)) (vF 0) (vF 1)))))
def f_is_period : List D → SrcT → Rs D := fnF 2 2 b_is_period
def b_ordered : Sx := (retS (argF tupleD (consF (srtNF [1] (seqF (vF 0)) (gN 1) yesT (argF tupleD (consF (vF 1) nilF))) nilF)))
def f_ordered : List D → SrcT → Rs D := fnF 1 2 b_ordered
def b_Table___init__ : Sx := (seqS (iteS (orT (notT (tstF (callK f_are_triples (consF (vF 1) (consF (cF c_GAP_WORDS) nilF))))) (orT (notT (tstF (unF isSq (vF 2)))) (blT (binF ltD (argF lenD (consF (vF 2) nilF)) (cF (.int 3))))))
  badS
  nilS)
  (seqS (setS 5 (binF fdivD (argF lenD (consF (vF 2) nilF)) (cF (.int 2))))
  (seqS (iteS (orT (blT (binF (eqD false) (binF modD (argF lenD (consF (vF 2) nilF)) (cF (.int 2))) (cF (.int 0)))) (notT (tstF (argF allD (consF (lcF [6] (seqF (vF 2)) (gN 6) yesT (callK f_are_triples (consF (vF 6) (consF (cF c_SIGNS) nilF)))) nilF)))))
  badS
  nilS)
  (seqS (iteS (orT (notT (tstF (callK f_is_period (consF (vF 3) (consF (vF 5) nilF))))) (notT (tstF (callK f_is_period (consF (vF 4) (consF (vF 5) nilF))))))
  badS
  nilS)
  (seqS (setMS "Table" "own_alone" (vF 0) (callK f_ordered (consF (vF 1) nilF)))
  (seqS (setMS "Table" "own_levels" (vF 0) (argF tupleD (consF (lcF [6] (seqF (vF 2)) (gN 6) yesT (callK f_ordered (consF (vF 6) nilF))) nilF)))
  (setMS "Table" "own_periods" (vF 0) (tupF (consF (vF 3) (consF (vF 4) nilF))))))))))
def f_Table___init__ : List D → SrcT → Rs D := fnF 5 7 b_Table___init__
def b_Table_alone : Sx := (retS (fldOF "Table" "own_alone" (vF 0)))
def f_Table_alone : List D → SrcT → Rs D := fnF 1 1 b_Table_alone
def b_Table_levels : Sx := (retS (fldOF "Table" "own_levels" (vF 0)))
def f_Table_levels : List D → SrcT → Rs D := fnF 1 1 b_Table_levels
def b_Table_below : Sx := (retS (binF idxD (fldOF "Table" "own_periods" (vF 0)) (cF (.int 0))))
def f_Table_below : List D → SrcT → Rs D := fnF 1 1 b_Table_below
def b_Table_above : Sx := (retS (binF idxD (fldOF "Table" "own_periods" (vF 0)) (cF (.int 1))))
def f_Table_above : List D → SrcT → Rs D := fnF 1 1 b_Table_above
def b_Table_most : Sx := (retS (binF fdivD (argF lenD (consF (fldOF "Table" "own_levels" (vF 0)) nilF)) (cF (.int 2))))
def f_Table_most : List D → SrcT → Rs D := fnF 1 1 b_Table_most
def b_Table_level : Sx := (seqS (setS 2 (propF f_Table_most (isObjM "Table" "most") (vF 0)))
  (seqS (iteS (blT (binF gtD (vF 1) (vF 2)))
  (retS (binF idxD (fldOF "Table" "own_levels" (vF 0)) (binF addD (binF addD (binF subD (binF mulD (cF (.int 2)) (vF 2)) (propF f_Table_above (isObjK "Table") (vF 0))) (cF (.int 1))) (binF modD (binF subD (binF subD (vF 1) (vF 2)) (cF (.int 1))) (propF f_Table_above (isObjK "Table") (vF 0))))))
  nilS)
  (seqS (iteS (blT (binF ltD (vF 1) (binF subD (cF (.int 0)) (vF 2))))
  (retS (binF idxD (fldOF "Table" "own_levels" (vF 0)) (binF subD (binF subD (propF f_Table_below (isObjK "Table") (vF 0)) (cF (.int 1))) (binF modD (binF subD (binF subD (binF subD (cF (.int 0)) (vF 2)) (cF (.int 1))) (vF 1)) (propF f_Table_below (isObjK "Table") (vF 0))))))
  nilS)
  (retS (binF idxD (fldOF "Table" "own_levels" (vF 0)) (binF addD (vF 1) (vF 2)))))))
def f_Table_level : List D → SrcT → Rs D := fnF 2 3 b_Table_level
def b_Table___contains__ : Sx := (seqS (iteS (orT (notT (tstF (unF isSq (vF 1)))) (blT (binF (eqD true) (argF lenD (consF (vF 1) nilF)) (cF (.int 3)))))
  (retS (cF (.bl false)))
  nilS)
  (seqS (iteS (tstF (unF isStr (binF idxD (vF 1) (cF (.int 2)))))
  (retS (andF (callF f_is_triple (consF (vF 1) (consF (cF c_GAP_WORDS) nilF))) (binF (inXD false) (argF tupleD (consF (vF 1) nilF)) (fldOF "Table" "own_alone" (vF 0)))))
  nilS)
  (seqS (iteS (orT (notT (tstF (unF isSq (binF idxD (vF 1) (cF (.int 2)))))) (blT (binF (eqD true) (argF lenD (consF (binF idxD (vF 1) (cF (.int 2))) nilF)) (cF (.int 2)))))
  (retS (cF (.bl false)))
  nilS)
  (seqS (asgS (binF idxD (vF 1) (cF (.int 2))) (gT 2 (gsCons (gN 2) (gsCons (gN 3) gsNil))))
  (seqS (setS 4 (tupF (consF (binF idxD (vF 1) (cF (.int 0))) (consF (binF idxD (vF 1) (cF (.int 1))) (consF (vF 3) nilF)))))
  (retS (andF (unF isInt (vF 2)) (andF (unF notD (unF isBool (vF 2))) (andF (callF f_is_triple (consF (vF 4) (consF (cF c_SIGNS) nilF))) (binF (inXD false) (vF 4) (methF f_Table_level (isObjM "Table" "level") (vF 0) (consF (vF 2) nilF))))))))))))
def f_Table___contains__ : List D → SrcT → Rs D := fnF 2 5 b_Table___contains__
def b_Table___eq__ : Sx := (retS (andF (unF (isOwnD (isObjK "Table")) (vF 1)) (andF (binF (eqD false) (propF f_Table_alone (isObjK "Table") (vF 0)) (propF f_Table_alone (isObjK "Table") (vF 1))) (andF (binF (eqD false) (propF f_Table_levels (isObjK "Table") (vF 0)) (propF f_Table_levels (isObjK "Table") (vF 1))) (binF (eqD false) (fldOF "Table" "own_periods" (vF 0)) (fldOF "Table" "own_periods" (vF 1)))))))
def f_Table___eq__ : List D → SrcT → Rs D := fnF 2 2 b_Table___eq__
def b__law_pick : Sx := (retS (binF idxD (vF 1) (callF f__law_draw (consF (vF 0) (consF (argF lenD (consF (vF 1) nilF)) nilF)))))
def f__law_pick : List D → SrcT → Rs D := fnF 2 2 b__law_pick
def b__law_level : Sx := (seqS (setS 2 (binF fdivD (argF lenD (consF (propF f_Table_levels (isObjK "Table") (vF 0)) nilF)) (cF (.int 2))))
  (seqS (iteS (blT (binF gtD (vF 1) (vF 2)))
  (setS 1 (binF addD (binF subD (vF 1) (binF mulD (binF fdivD (argF intD (consF (binF subD (vF 1) (vF 2)) nilF)) (propF f_Table_above (isObjK "Table") (vF 0))) (propF f_Table_above (isObjK "Table") (vF 0)))) (propF f_Table_above (isObjK "Table") (vF 0))))
  nilS)
  (seqS (iteS (blT (binF ltD (vF 1) (binF subD (cF (.int 0)) (vF 2))))
  (setS 1 (binF subD (binF addD (vF 1) (binF mulD (binF fdivD (argF intD (consF (binF subD (binF subD (cF (.int 0)) (vF 2)) (vF 1)) nilF)) (propF f_Table_below (isObjK "Table") (vF 0))) (propF f_Table_below (isObjK "Table") (vF 0)))) (propF f_Table_below (isObjK "Table") (vF 0))))
  nilS)
  (seqS (whileS 10 (blT (binF gtD (vF 1) (vF 2)))
  (setS 1 (binF subD (vF 1) (propF f_Table_above (isObjK "Table") (vF 0)))))
  (seqS (whileS 10 (blT (binF ltD (vF 1) (binF subD (cF (.int 0)) (vF 2))))
  (setS 1 (binF addD (vF 1) (propF f_Table_below (isObjK "Table") (vF 0)))))
  (retS (binF idxD (propF f_Table_levels (isObjK "Table") (vF 0)) (binF addD (vF 1) (vF 2)))))))))
def f__law_level : List D → SrcT → Rs D := fnF 2 3 b__law_level
def b__law_triples : Sx := (seqS (setN 3 (lstF nilF))
  (seqS (forS (rng1F (consF (callF f__law_draw (consF (vF 0) (consF (binF addD (vF 2) (cF (.int 1))) nilF))) nilF)) (gN 4)
  (seqS (parS 5 6 (consF (callF f__law_pick (consF (vF 0) (consF (lstF (consF (cF (.str "a")) (consF (cF (.str "b")) (consF (cF (.str "read")) nilF)))) nilF))) (consF (callF f__law_pick (consF (vF 0) (consF (lstF (consF (cF (.str "a")) (consF (cF (.str "d")) nilF))) nilF))) nilF)))
  (appS 3 (tupF (consF (vF 5) (consF (vF 6) (consF (callF f__law_pick (consF (vF 0) (consF (vF 1) nilF))) nilF)))))))
  (retS (vF 3))))
def f__law_triples : List D → SrcT → Rs D := fnF 3 7 b__law_triples
def b__law_ascending : Sx := (retS (argF tupleD (consF (argF srtX (consF (lcF [1, 2] (enumF (consF (vF 0) nilF)) (gT 2 (gsCons (gN 1) (gsCons (gN 2) gsNil))) (blT (binF (inXD true) (vF 2) (slF (vF 0) noF (someF (vF 1))))) (vF 2)) nilF)) nilF)))
def f__law_ascending : List D → SrcT → Rs D := fnF 1 3 b__law_ascending
def b__law_near : Sx := (seqS (iteS (blT (binF ltD (argF absD (consF (vF 0) nilF)) (binF powD (cF (.int 10)) (cF (.int 9)))))
  (retS (vF 0))
  nilS)
  (seqS (iteS (blT (binF gtD (vF 0) (cF (.int 0))))
  (retS (binF addD (binF modD (vF 0) (binF mulD (cF (.int 60)) (vF 2))) (binF mulD (cF (.int 60)) (vF 2))))
  nilS)
  (retS (binF subD (binF subD (cF (.int 0)) (binF modD (binF subD (cF (.int 0)) (vF 0)) (binF mulD (cF (.int 60)) (vF 1)))) (binF mulD (cF (.int 60)) (vF 1))))))
def f__law_near : List D → SrcT → Rs D := fnF 3 3 b__law_near
def b__law_holds_rightly : Sx := (seqS (setS 3 (methF f_Table_level (isObjM "Table" "level") (vF 1) (consF (vF 2) nilF)))
  (seqS (forS (seqF (callF f__law_triples (consF (vF 0) (consF (lstF (consF (cF (.str "<")) (consF (cF (.str "=")) (consF (cF (.str ">")) nilF)))) (consF (cF (.int 3)) nilF))))) (gN 4)
  (seqS (setS 5 (binF (inXD false) (vF 4) (vF 3)))
  (seqS (iteS (blT (binF (eqD true) (inOF false (isObjK "Table") f_Table___contains__ (tupF (consF (binF idxD (vF 4) (cF (.int 0))) (consF (binF idxD (vF 4) (cF (.int 1))) (consF (tupF (consF (vF 2) (consF (binF idxD (vF 4) (cF (.int 2))) nilF))) nilF)))) (vF 1)) (vF 5)))
  (retS (cF (.bl false)))
  nilS)
  (iteS (blT (binF (eqD true) (inOF false (isObjK "Table") f_Table___contains__ (lstF (consF (binF idxD (vF 4) (cF (.int 0))) (consF (binF idxD (vF 4) (cF (.int 1))) (consF (lstF (consF (vF 2) (consF (binF idxD (vF 4) (cF (.int 2))) nilF))) nilF)))) (vF 1)) (vF 5)))
  (retS (cF (.bl false)))
  nilS))))
  (retS (cF (.bl true)))))
def f__law_holds_rightly : List D → SrcT → Rs D := fnF 3 6 b__law_holds_rightly
def b_law : Sx := (seqS (setS 2 (liftK (callF f__law_triples (consF (vF 1) (consF (lstF (consF (cF (.str "none")) (consF (cF (.str "first")) (consF (cF (.str "second")) nilF)))) (consF (cF (.int 3)) nilF))))))
  (seqS (setS 3 (liftK (binF addD (cF (.int 1)) (callF f__law_draw (consF (vF 1) (consF (cF (.int 3)) nilF))))))
  (seqS (setS 4 (lcF [5] (rng1F (consF (liftK (binF addD (binF mulD (cF (.int 2)) (vF 3)) (cF (.int 1)))) nilF)) (gN 5) yesT (callK f__law_triples (consF (vF 1) (consF (lstF (consF (cF (.str "<")) (consF (cF (.str "=")) (consF (cF (.str ">")) nilF)))) (consF (cF (.int 4)) nilF))))))
  (seqS (parS 6 7 (consF (liftK (binF addD (cF (.int 1)) (callF f__law_draw (consF (vF 1) (consF (vF 3) nilF))))) (consF (liftK (binF addD (cF (.int 1)) (callF f__law_draw (consF (vF 1) (consF (vF 3) nilF))))) nilF)))
  (seqS (parS 8 9 (consF (cellF (lcF [10] (seqF (vF 2)) (gN 10) yesT (cellF (argF listD (consF (vF 10) nilF))))) (consF (cellF (lcF [11] (seqF (vF 4)) (gN 11) yesT (cellF (argF listD (consF (vF 11) nilF))))) nilF)))
  (seqS (setS 12 (liftZ (makeFF "Table" f_Table___init__ (consF (vF 8) (consF (vF 9) (consF (vF 6) (consF (vF 7) nilF)))))))
  (seqS (exprS (clrMF (vF 8)))
  (seqS (exprS (clrMF (idxMF (vF 9) (cF (.int 0)))))
  (seqS (exprS (clrMF (vF 9)))
  (seqS (iteS (orT (liftT (blT (binF (eqD true) (propF f_Table_alone (isObjK "Table") (vF 12)) (callF f__law_ascending (consF (vF 2) nilF))))) (liftT (blT (binF (eqD true) (lstF (consF (propF f_Table_below (isObjK "Table") (vF 12)) (consF (propF f_Table_above (isObjK "Table") (vF 12)) nilF))) (lstF (consF (vF 6) (consF (vF 7) nilF)))))))
  (retS (cF (.bl false)))
  nilS)
  (seqS (iteS (liftT (blT (binF (eqD true) (propF f_Table_levels (isObjK "Table") (vF 12)) (argF tupleD (consF (lcF [11] (seqF (vF 4)) (gN 11) yesT (callF f__law_ascending (consF (vF 11) nilF))) nilF)))))
  (retS (cF (.bl false)))
  nilS)
  (seqS (setS 13 (liftK (lstF (consF (binF addD (binF powD (cF (.int 10)) (cF (.int 20))) (vF 6)) (consF (binF subD (binF subD (cF (.int 0)) (binF powD (cF (.int 10)) (cF (.int 20)))) (vF 7)) (consF (binF powD (cF (.int 10)) (cF (.int 40))) nilF))))))
  (seqS (forS (seqF (liftK (binF addD (lstRg2F (binF subD (binF subD (cF (.int 0)) (vF 3)) (cF (.int 9))) (binF addD (vF 3) (cF (.int 10)))) (vF 13)))) (gN 14)
  (seqS (setS 15 (liftK (methF f_Table_level (isObjM "Table" "level") (vF 12) (consF (vF 14) nilF))))
  (seqS (iteS (orT (notT (liftT (tstF (unF isTup (vF 15))))) (liftT (blT (binF (eqD true) (vF 15) (callF f__law_level (consF (vF 12) (consF (callF f__law_near (consF (vF 14) (consF (vF 6) (consF (vF 7) nilF)))) nilF)))))))
  (retS (cF (.bl false)))
  nilS)
  (iteS (notT (liftT (tstF (callF f__law_holds_rightly (consF (vF 1) (consF (vF 12) (consF (vF 14) nilF)))))))
  (retS (cF (.bl false)))
  nilS))))
  (seqS (forS (seqF (liftK (callF f__law_triples (consF (vF 1) (consF (lstF (consF (cF (.str "none")) (consF (cF (.str "first")) (consF (cF (.str "second")) nilF)))) (consF (cF (.int 3)) nilF)))))) (gN 10)
  (iteS (liftT (blT (binF (eqD true) (inOF false (isObjK "Table") f_Table___contains__ (vF 10) (vF 12)) (binF (inXD false) (vF 10) (vF 2)))))
  (retS (cF (.bl false)))
  nilS))
  (seqS (setS 16 (liftK (lstF (consF (cF .non) (consF (tupF nilF) (consF (cF (.str "none")) (consF (tupF (consF (cF (.str "a")) (consF (cF (.str "a")) nilF))) (consF (tupF (consF (cF (.str "a")) (consF (cF (.str "a")) (consF (cF .non) nilF)))) (consF (tupF (consF (cF (.str "a")) (consF (cF (.str "A")) (consF (cF (.str "none")) nilF)))) (consF (tupF (consF (cF (.str "a")) (consF (cF (.str "a")) (consF (tupF (consF (cF (.int 0)) (consF (cF (.str "x")) nilF))) nilF)))) (consF (cF (.int 5)) nilF)))))))))))
  (seqS (setS 16 (liftK (binF addD (vF 16) (lstF (consF (tupF (consF (cF (.str "a")) (consF (cF (.str "a")) (consF (tupF (consF (cF (.bl true)) (consF (cF (.str "=")) nilF))) nilF)))) (consF (tupF (consF (cF (.str "a")) (consF (cF (.str "a")) (consF (tupF (consF (cF (.int 0)) (consF (cF (.str "=")) (consF (cF (.int 1)) nilF)))) nilF)))) (consF (tupF (consF (cF (.str "a")) (consF (cF (.str "a")) (consF (cF (.str "none")) (consF (cF (.str "none")) nilF))))) nilF)))))))
  (seqS (iteS (orT (liftT (tstF (argF anyD (consF (lcF [17] (seqF (vF 16)) (gN 17) yesT (inOF false (isObjK "Table") f_Table___contains__ (vF 17) (vF 12))) nilF)))) (liftT (blT (eqOF false (isObjK "Table") f_Table___eq__ (vF 12) (tupF (consF (vF 2) (consF (vF 4) (consF (vF 6) (consF (vF 7) nilF)))))))))
  (retS (cF (.bl false)))
  nilS)
  (seqS (setS 18 (liftK (makeFF "Table" f_Table___init__ (consF (revF (vF 2)) (consF (lcF [11] (seqF (vF 4)) (gN 11) yesT (revF (vF 11))) (consF (vF 6) (consF (vF 7) nilF)))))))
  (seqS (setS 19 (liftK (makeFF "Table" f_Table___init__ (consF (vF 2) (consF (vF 4) (consF (vF 6) (consF (binF addD (cF (.int 1)) (binF modD (vF 7) (vF 3))) nilF)))))))
  (retS (liftK (andF (eqOF false (isObjK "Table") f_Table___eq__ (vF 12) (vF 18)) (andF (unF notD (eqOF true (isObjK "Table") f_Table___eq__ (vF 12) (vF 18))) (binF (eqD false) (eqOF false (isObjK "Table") f_Table___eq__ (vF 12) (vF 19)) (binF (eqD false) (vF 7) (binF addD (cF (.int 1)) (binF modD (vF 7) (vF 3))))))))))))))))))))))))))))
end
theorem pick_sat {P : D → SrcT → Prop} {S : SrcT} {ds : List D} (h0 : 0 < ds.length) (h1 : ds.length < 100000) (hc : S.c ≤ 990000) (h : ∀ d S', d ∈ ds → S'.c = S.c + 1 → P d S') : (f__law_pick [.src, .lst ds] S).sat P := by
  refine fnF_sat rfl ?_
  unfold b__law_pick
  walk_at "st"
  refine draw_sat (by omega) (by omega) hc fun r S' r0 r1 c1 => ?_
  obtain ⟨v, hv, hm⟩ := atI_ex r0 r1
  exact ⟨v, hv, h v S' hm c1⟩
/-! equal data of texts; watches compared -/
mutual
def txtD : D → Bool
  | .str z => PyData.strOk z
  | .lst ds => txtDs ds
  | .tup ds => txtDs ds
  | _ => false
def txtDs : List D → Bool
  | [] => true
  | d :: ds => txtD d && txtDs ds
end
mutual
theorem eqv_txt : ∀ (d1 d2 : D) {p1 p2 : PyData}, txtD d1 = true → txtD d2 = true → toP d1 = some p1 → toP d2 = some p2 → (PyData.eqv p1 p2 = true ↔ d1 = d2)
  | .str a, d2, p1, p2, h1, h2, e1, e2 => by
    rw [toP] at e1; cases e1
    cases d2 with
    | str b =>
      rw [toP] at e2; cases e2
      rw [eqv_strs]; simp
    | lst l => rw [toP] at e2; obtain ⟨ps, _, rfl⟩ := Option.map_eq_some_iff.mp e2; simp [PyData.eqv]
    | tup l => rw [toP] at e2; obtain ⟨ps, _, rfl⟩ := Option.map_eq_some_iff.mp e2; simp [PyData.eqv]
    | _ => exact nomatch h2
  | .lst l1, d2, p1, p2, h1, h2, e1, e2 => by
    rw [toP] at e1
    obtain ⟨ps, k1, rfl⟩ := Option.map_eq_some_iff.mp e1
    cases d2 with
    | str b => rw [toP] at e2; cases e2; simp [PyData.eqv]
    | lst l =>
      rw [toP] at e2
      obtain ⟨qs, k2, rfl⟩ := Option.map_eq_some_iff.mp e2
      have := eqvs_txt l1 l (by rw [txtD] at h1; exact h1) (by rw [txtD] at h2; exact h2) k1 k2
      rw [PyData.eqv, this]
      exact ⟨fun h => by rw [h], fun h => by injection h⟩
    | tup l => rw [toP] at e2; obtain ⟨qs, _, rfl⟩ := Option.map_eq_some_iff.mp e2; simp [PyData.eqv]
    | _ => exact nomatch h2
  | .tup l1, d2, p1, p2, h1, h2, e1, e2 => by
    rw [toP] at e1
    obtain ⟨ps, k1, rfl⟩ := Option.map_eq_some_iff.mp e1
    cases d2 with
    | str b => rw [toP] at e2; cases e2; simp [PyData.eqv]
    | tup l =>
      rw [toP] at e2
      obtain ⟨qs, k2, rfl⟩ := Option.map_eq_some_iff.mp e2
      have := eqvs_txt l1 l (by rw [txtD] at h1; exact h1) (by rw [txtD] at h2; exact h2) k1 k2
      rw [PyData.eqv, this]
      exact ⟨fun h => by rw [h], fun h => by injection h⟩
    | lst l => rw [toP] at e2; obtain ⟨qs, _, rfl⟩ := Option.map_eq_some_iff.mp e2; simp [PyData.eqv]
    | _ => exact nomatch h2
  | .non, _, _, _, h, _, _, _ => nomatch h
  | .bl _, _, _, _, h, _, _, _ => nomatch h
  | .int _, _, _, _, h, _, _, _ => nomatch h
  | .dct _, _, _, _, h, _, _, _ => nomatch h
  | .dcT _, _, _, _, h, _, _, _ => nomatch h
  | .loop _ _, _, _, _, h, _, _, _ => nomatch h
  | .run _ _, _, _, _, h, _, _, _ => nomatch h
  | .src, _, _, _, h, _, _, _ => nomatch h
  | .set _, _, _, _, h, _, _, _ => nomatch h
  | .cls, _, _, _, h, _, _, _ => nomatch h
  | .obj _ _, _, _, _, h, _, _, _ => nomatch h
  | .loc _, _, _, _, h, _, _, _ => nomatch h
theorem eqvs_txt : ∀ (l1 l2 : List D) {ps qs : List PyData}, txtDs l1 = true → txtDs l2 = true → toPs l1 = some ps → toPs l2 = some qs → (PyData.eqvAll ps qs = true ↔ l1 = l2)
  | [], [], ps, qs, _, _, e1, e2 => by rw [toPs] at e1 e2; cases e1; cases e2; simp [PyData.eqvAll]
  | [], d :: l, ps, qs, _, _, e1, e2 => by
    rw [toPs] at e1
    cases e1
    unfold toPs at e2
    split at e2
    · cases e2; simp [PyData.eqvAll]
    · cases e2
  | d :: l, [], ps, qs, _, _, e1, e2 => by
    rw [toPs] at e2
    cases e2
    unfold toPs at e1
    split at e1
    · cases e1; simp [PyData.eqvAll]
    · cases e1
  | d1 :: l1, d2 :: l2, ps, qs, h1, h2, e1, e2 => by
    unfold toPs at e1 e2
    rw [txtDs, Bool.and_eq_true] at h1 h2
    split at e1
    · rename_i p1 ps1 k1 k2
      cases e1
      split at e2
      · rename_i p2 ps2 k3 k4
        cases e2
        rw [PyData.eqvAll, Bool.and_eq_true, eqv_txt d1 d2 h1.1 h2.1 k1 k3, eqvs_txt l1 l2 h1.2 h2.2 k2 k4]
        simp
      · cases e2
    · cases e1
end
theorem eqD_txt {d1 d2 : D} (t1 : txtD d1 = true) (t2 : txtD d2 = true) (f1 : fineN 60 d1) (f2 : fineN 60 d2) : ∃ b, (∀ neg, eqD neg d1 d2 = some (.bl (if neg then !b else b))) ∧ (b = true ↔ d1 = d2) := by
  obtain ⟨p1, k1, k2, k3⟩ := f1
  obtain ⟨p2, k4, k5, k6⟩ := f2
  refine ⟨PyData.eqv p1 p2, fun neg => ?_, eqv_txt d1 d2 t1 t2 k1 k4⟩
  unfold eqD
  rw [k1, k4]
  dsimp only
  rw [if_pos (by rw [shaped_of k2 (by omega), shaped_of k5 (by omega)]; rfl)]
theorem eqD_bls (neg a b : Bool) : eqD neg (.bl a) (.bl b) = some (.bl (if neg then !(a == b) else (a == b))) := by
  cases neg <;> cases a <;> cases b <;> rfl
theorem txt_all {ds : List D} (h : ∀ d ∈ ds, txtD d = true) : txtDs ds = true := by
  induction ds with
  | nil => rfl
  | cons d ds ih => rw [txtDs, h d List.mem_cons_self, ih fun x hx => h x (List.mem_cons_of_mem _ hx)]; rfl
theorem txt_strs {zs : List Str} (h : ∀ z ∈ zs, PyData.strOk z = true) : txtDs (zs.map .str) = true := txt_all fun d hd => by
  obtain ⟨z, hz, rfl⟩ := List.mem_map.mp hd
  rw [txtD]; exact h z hz
theorem strs_inj {a b : List Str} (h : a.map D.str = b.map D.str) : a = b := by
  induction a generalizing b with
  | nil => cases b with
    | nil => rfl
    | cons y b => cases h
  | cons x a ih => cases b with
    | nil => cases h
    | cons y b =>
      rw [List.map_cons, List.map_cons] at h
      injection h with h1 h2
      injection h1 with h1
      rw [h1, ih h2]
/-! equal data that is flat, or tuples of it -/
def flt : D → Bool
  | .non => true
  | .int _ => true
  | .str z => PyData.strOk z
  | _ => false
def flt1 : D → Bool
  | .tup ds => ds.all flt
  | d => flt d
theorem flt_fine {d : D} {n : Nat} (h : flt d = true) : fineN n d := by
  cases d with
  | non => exact fineO
  | int i => exact fineI i
  | str z => exact fineS h
  | _ => cases h
theorem flt1_fine {d : D} (h : flt1 d = true) : fineN 60 d := by
  cases d with
  | tup ds => exact (fineT (n := 0) fun x hx => flt_fine (List.all_eq_true.mp h x hx)).mono (by omega)
  | non => exact fineO
  | int i => exact fineI i
  | str z => exact fineS h
  | _ => cases h
theorem eqv_flt {d1 d2 : D} {p q : PyData} (h1 : flt d1 = true) (h2 : flt d2 = true) (e1 : toP d1 = some p) (e2 : toP d2 = some q) : PyData.eqv p q = true ↔ d1 = d2 := by
  cases d1 with
  | non =>
    rw [toP] at e1; cases e1
    cases d2 with
    | non => rw [toP] at e2; cases e2; simp [PyData.eqv]
    | int j => rw [toP] at e2; cases e2; simp [PyData.eqv]
    | str j => rw [toP] at e2; cases e2; simp [PyData.eqv]
    | _ => cases h2
  | int i =>
    rw [toP] at e1; cases e1
    cases d2 with
    | non => rw [toP] at e2; cases e2; simp [PyData.eqv]
    | int j => rw [toP] at e2; cases e2; rw [eqv_ints]; simp
    | str j => rw [toP] at e2; cases e2; simp [PyData.eqv]
    | _ => cases h2
  | str i =>
    rw [toP] at e1; cases e1
    cases d2 with
    | non => rw [toP] at e2; cases e2; simp [PyData.eqv]
    | int j => rw [toP] at e2; cases e2; simp [PyData.eqv]
    | str j => rw [toP] at e2; cases e2; rw [eqv_strs]; simp
    | _ => cases h2
  | _ => cases h1
theorem eqvs_flt : ∀ {l1 l2 : List D} {ps qs : List PyData}, l1.all flt = true → l2.all flt = true → toPs l1 = some ps → toPs l2 = some qs → (PyData.eqvAll ps qs = true ↔ l1 = l2)
  | [], [], ps, qs, _, _, e1, e2 => by rw [toPs] at e1 e2; cases e1; cases e2; simp [PyData.eqvAll]
  | [], d :: l, ps, qs, _, _, e1, e2 => by
    rw [toPs] at e1
    cases e1
    unfold toPs at e2
    split at e2
    · cases e2; simp [PyData.eqvAll]
    · cases e2
  | d :: l, [], ps, qs, _, _, e1, e2 => by
    rw [toPs] at e2
    cases e2
    unfold toPs at e1
    split at e1
    · cases e1; simp [PyData.eqvAll]
    · cases e1
  | d1 :: l1, d2 :: l2, ps, qs, h1, h2, e1, e2 => by
    unfold toPs at e1 e2
    rw [List.all_cons, Bool.and_eq_true] at h1 h2
    split at e1
    · rename_i p1 ps1 k1 k2
      cases e1
      split at e2
      · rename_i p2 ps2 k3 k4
        cases e2
        rw [PyData.eqvAll, Bool.and_eq_true, eqv_flt h1.1 h2.1 k1 k3, eqvs_flt h1.2 h2.2 k2 k4]
        simp
      · cases e2
    · cases e1
theorem eqv_flt1 {d1 d2 : D} {p q : PyData} (h1 : flt1 d1 = true) (h2 : flt1 d2 = true) (e1 : toP d1 = some p) (e2 : toP d2 = some q) : PyData.eqv p q = true ↔ d1 = d2 := by
  have nt : ∀ {d : D} {p : PyData}, flt1 d = true → toP d = some p → (∃ l ps, d = .tup l ∧ l.all flt = true ∧ toPs l = some ps ∧ p = .tuple ps) ∨ (flt d = true ∧ (p = .none ∨ (∃ i, p = .int i) ∨ ∃ z, p = .str z) ∧ ∀ l, d ≠ .tup l) := fun {d p} h e => by
    cases d with
    | tup l =>
      rw [toP] at e
      obtain ⟨ps, k, e⟩ := Option.map_eq_some_iff.mp e
      exact .inl ⟨l, ps, rfl, h, k, e.symm⟩
    | non => rw [toP] at e; cases e; exact .inr ⟨h, .inl rfl, fun _ => by simp⟩
    | int i => rw [toP] at e; cases e; exact .inr ⟨h, .inr (.inl ⟨i, rfl⟩), fun _ => by simp⟩
    | str i => rw [toP] at e; cases e; exact .inr ⟨h, .inr (.inr ⟨i, rfl⟩), fun _ => by simp⟩
    | _ => cases h
  rcases nt h1 e1 with ⟨l, ps, rfl, f1, k1, rfl⟩ | ⟨f1, c1, n1⟩
  · rcases nt h2 e2 with ⟨l', ps', rfl, f2, k2, rfl⟩ | ⟨f2, c2, n2⟩
    · rw [PyData.eqv, eqvs_flt f1 f2 k1 k2]
      exact ⟨fun h => by rw [h], fun h => by injection h⟩
    · refine ⟨fun h => ?_, fun h => absurd h.symm (n2 l)⟩
      rcases c2 with rfl | ⟨i, rfl⟩ | ⟨z, rfl⟩ <;> simp [PyData.eqv] at h
  · rcases nt h2 e2 with ⟨l', ps', rfl, f2, k2, rfl⟩ | ⟨f2, c2, n2⟩
    · refine ⟨fun h => ?_, fun h => absurd h (n1 l')⟩
      rcases c1 with rfl | ⟨i, rfl⟩ | ⟨z, rfl⟩ <;> simp [PyData.eqv] at h
    · exact eqv_flt f1 f2 e1 e2
theorem eqD_flt {d1 d2 : D} (t1 : flt1 d1 = true) (t2 : flt1 d2 = true) : ∃ b, (∀ neg, eqD neg d1 d2 = some (.bl (if neg then !b else b))) ∧ (b = true ↔ d1 = d2) := by
  obtain ⟨p1, k1, k2, k3⟩ := flt1_fine t1
  obtain ⟨p2, k4, k5, k6⟩ := flt1_fine t2
  refine ⟨PyData.eqv p1 p2, fun neg => ?_, eqv_flt1 t1 t2 k1 k4⟩
  unfold eqD
  rw [k1, k4]
  dsimp only
  rw [if_pos (by rw [shaped_of k2 (by omega), shaped_of k5 (by omega)]; rfl)]
/-! what a table's parts look like, of any data -/
def plainD : D → Bool
  | .non => true
  | .bl _ => true
  | .int _ => true
  | .str z => decide (z.length ≤ 1000)
  | .lst _ => true
  | .tup _ => true
  | .dct _ => true
  | _ => false
def nameD : D → Bool
  | .str z => isNameB z
  | _ => false
def strB : D → Bool
  | .str _ => true
  | _ => false
theorem all_bools (bs : List Bool) : allD [.lst (bs.map .bl)] = some (.bl (bs.all id)) := by
  unfold allD
  dsimp only
  rw [boolsD_map]; rfl
theorem inD_strsU (neg : Bool) (y : Str) (ts : List Str) : inD neg (.str y) (.tup (ts.map .str)) = some (.bl (if neg then !decide (y ∈ ts) else decide (y ∈ ts))) := by
  have e1 : (ts.map D.str).map vOf = ts.map V.str := by rw [List.map_map]; rfl
  show (if _ then some (D.bl (if neg then !inV (.str y) ((ts.map D.str).map vOf) else inV (.str y) ((ts.map D.str).map vOf))) else none) = _
  rw [e1, inV_strs, if_pos]
  simp [isSc]
theorem lenD_seq {d : D} {ds : List D} (h : seqD d = some ds) : lenD [d] = some (.int ds.length) := by
  cases d <;> first | (cases h; rfl) | cases h
theorem isname_sat {P : D → SrcT → Prop} {S : SrcT} {d : D} (h : plainD d = true) (hp : P (.bl (nameD d)) S) : (f_is_name [d] S).sat P := by
  cases d with
  | str z =>
    have hz : z.length ≤ 1000 := of_decide_eq_true h
    have hlen : lenD [.str z] = some (.int z.length) := by show (if _ then _ else _) = _; rw [if_pos (by omega)]
    have hp : P (.bl (isNameB z)) S := hp
    unfold isNameB at hp
    refine fnF_sat rfl ?_
    unfold b_is_name
    refine seqS_sat (iteS_sat (orT_sat (notT_sat (tstF_sat (unF_sat (vF_sat (d := .str z) rfl ⟨.bl true, rfl, true, rfl, NL.ifF rfl ?_⟩))))))
    refine orT_sat (blT_sat (binF_sat (argF_sat (consF_sat (vF_sat (d := .str z) rfl (nilF_sat ⟨_, hlen, cF_sat ⟨.bl (decide ((z.length : Int) < 1)), rfl, _, rfl, ?_⟩⟩))))))
    by_cases h1 : 1 ≤ z.length
    · refine NL.ifF (decide_eq_false (by omega)) ?_
      refine blT_sat (binF_sat (argF_sat (consF_sat (vF_sat (d := .str z) rfl (nilF_sat ⟨_, hlen, cF_sat ⟨.bl (decide ((8 : Int) < z.length)), rfl, _, rfl, ?_⟩⟩)))))
      by_cases h8 : z.length ≤ 8
      · refine NL.ifF (decide_eq_false (by omega)) (nilS_sat ?_)
        dsimp only
        rw [decide_eq_true h1, decide_eq_true h8] at hp
        refine retS_sat (argF_sat (consF_sat (lcF_sat (strF_sat (vF_sat (d := .str z) rfl ⟨z, rfl, ?_, ?_⟩)))))
        · unfold signsD; rw [List.length_map]; show z.length ≤ _; omega
        refine lc_mapM (φ := fun c => D.str ⟨#[c]⟩) (xs := z.cps.toList) (fun c => .bl (decide (c ∈ ALPHA))) ?_ ?_
        · intro c _
          exact ⟨_, rfl, yesT_sat ⟨rfl, rfl⟩, binF_sat (vF_sat (d := .str ⟨#[c]⟩) rfl (cF_sat ⟨.bl (decide (c ∈ ALPHA)), rfl, rfl, rfl⟩))⟩
        refine nilF_sat ⟨.bl (z.cps.toList.all fun c => decide (c ∈ ALPHA)), ?_, hp⟩
        rw [show (z.cps.toList.map fun c => D.bl (decide (c ∈ ALPHA))) = (z.cps.toList.map fun c => decide (c ∈ ALPHA)).map D.bl by rw [List.map_map]; rfl, all_bools, List.all_map]; rfl
      · refine NL.ifT (decide_eq_true (by omega)) (retS_sat (cF_sat ?_))
        rw [decide_eq_false h8, Bool.and_false, Bool.false_and] at hp
        exact hp
    · refine NL.ifT (decide_eq_true (by omega)) (NL.ifT rfl (retS_sat (cF_sat ?_)))
      rw [decide_eq_false h1, Bool.false_and, Bool.false_and] at hp
      exact hp
  | non => exact hp
  | bl b => exact hp
  | int i => exact hp
  | lst ds => exact hp
  | tup ds => exact hp
  | dct es => exact hp
  | _ => cases h
theorem isStr_eq {d : D} (h : plainD d = true) : isStr d = some (.bl (strB d)) := by
  cases d <;> first | rfl | cases h
def triD (ls : List Str) (d : D) : Bool := match seqD d with
  | some [a, b, .str z] => nameD a && nameD b && decide (z ∈ ls)
  | _ => false
def okT (d : D) : Bool := plainD d && match seqD d with
  | some ds => ds.all plainD
  | none => true
theorem tri_seq {P : D → SrcT → Prop} {S : SrcT} {ls : List Str} {d : D} {ds : List D} (hs : seqD d = some ds) (hq : isSq d = some (.bl true)) (hx : ∀ i, idxD d (.int i) = atI ds i) (h : ds.all plainD = true) (hP : P (.bl (triD ls d)) S) : (f_is_triple [d, .tup (ls.map .str)] S).sat P := by
  unfold triD at hP
  rw [hs] at hP
  refine fnF_sat rfl ?_
  unfold b_is_triple
  refine seqS_sat (iteS_sat (orT_sat (notT_sat (tstF_sat (unF_sat (vF_sat rfl ⟨.bl true, hq, true, rfl, NL.ifF rfl ?_⟩))))))
  refine orT_sat (blT_sat (binF_sat (argF_sat (consF_sat (vF_sat rfl (nilF_sat ⟨_, lenD_seq hs, cF_sat ⟨_, eqD_int, _, rfl, ?_⟩⟩))))))
  by_cases h3 : ds.length = 3
  · refine NL.ifF (by simp [h3]) ?_
    match ds, h3 with
    | [a, b, c], _ =>
    simp only [List.all_cons, List.all_nil, Bool.and_true, Bool.and_eq_true] at h
    obtain ⟨ha, hb, hc⟩ := h
    refine notT_sat (tstF_sat (unF_sat (binF_sat (vF_sat rfl (cF_sat ⟨c, hx 2, .bl (strB c), isStr_eq hc, strB c, rfl, ?_⟩)))))
    cases c with
    | str z =>
      refine NL.ifF rfl (nilS_sat ?_)
      refine retS_sat (andF_sat (callF_sat (consF_sat (binF_sat (vF_sat rfl (cF_sat ⟨a, hx 0, nilF_sat (isname_sat ha ⟨_, rfl, ?_⟩)⟩))))))
      dsimp only at hP
      revert hP
      cases nameD a with
      | false => exact fun hP => NL.ifF rfl hP
      | true =>
        intro hP
        refine NL.ifT rfl (andF_sat (callF_sat (consF_sat (binF_sat (vF_sat rfl (cF_sat ⟨b, hx 1, nilF_sat (isname_sat hb ⟨_, rfl, ?_⟩)⟩))))))
        revert hP
        cases nameD b with
        | false => exact fun hP => NL.ifF rfl hP
        | true => exact fun hP => NL.ifT rfl (binF_sat (binF_sat (vF_sat rfl (cF_sat ⟨.str z, hx 2, vF_sat rfl ⟨_, inD_strsU false z ls, hP⟩⟩))))
    | _ => exact NL.ifT rfl (retS_sat (cF_sat hP))
  · refine NL.ifT (by simpa using fun e : (ds.length : Int) = 3 => h3 (by omega)) (NL.ifT rfl (retS_sat (cF_sat ?_)))
    match ds, h3 with
    | [], _ => exact hP
    | [_], _ => exact hP
    | [_, _], _ => exact hP
    | [_, _, _], h => exact absurd rfl h
    | _ :: _ :: c :: _ :: _, _ => cases c <;> exact hP
theorem tri_sat {P : D → SrcT → Prop} {S : SrcT} {ls : List Str} {d : D} (h : okT d = true) (hP : P (.bl (triD ls d)) S) : (f_is_triple [d, .tup (ls.map .str)] S).sat P := by
  have no : isSq d = some (.bl false) → P (.bl false) S → (f_is_triple [d, .tup (ls.map .str)] S).sat P := fun hq hp => by
    refine fnF_sat rfl ?_
    unfold b_is_triple
    exact seqS_sat (iteS_sat (orT_sat (notT_sat (tstF_sat (unF_sat (vF_sat rfl ⟨.bl false, hq, false, rfl, NL.ifT rfl (NL.ifT rfl (retS_sat (cF_sat hp)))⟩))))))
  cases d with
  | lst ds => exact tri_seq rfl rfl (fun _ => rfl) (by simpa [okT, plainD, seqD] using h) hP
  | tup ds => exact tri_seq rfl rfl (fun _ => rfl) (by simpa [okT, plainD, seqD] using h) hP
  | non => exact no rfl hP
  | bl b => exact no rfl hP
  | int i => exact no rfl hP
  | str z => exact no rfl hP
  | dct es => exact no rfl hP
  | _ => cases h
def trisD (ls : List Str) (d : D) : Bool := match seqD d with
  | some ds => ds.all (triD ls)
  | none => false
def okTs (d : D) : Bool := plainD d && match seqD d with
  | some ds => ds.all okT && decide (ds.length ≤ 1000)
  | none => true
theorem isSq_seq {d : D} (h : plainD d = true) : isSq d = some (.bl (seqD d).isSome) := by
  cases d <;> first | rfl | cases h
theorem tris_sat {P : D → SrcT → Prop} {S : SrcT} {ls : List Str} {d : D} (h : okTs d = true) (hP : P (.bl (trisD ls d)) S) : (f_are_triples [d, .tup (ls.map .str)] S).sat P := by
  unfold okTs at h
  rw [Bool.and_eq_true] at h
  obtain ⟨hp, hi⟩ := h
  unfold trisD at hP
  refine fnF_sat rfl ?_
  unfold b_are_triples
  refine retS_sat (andF_sat (unF_sat (vF_sat rfl ⟨_, isSq_seq hp, _, rfl, ?_⟩)))
  cases e : seqD d with
  | none =>
    rw [e] at hP
    exact NL.ifF rfl hP
  | some ds =>
    rw [e] at hP hi
    dsimp only at hi hP
    rw [Bool.and_eq_true, List.all_eq_true] at hi
    refine NL.ifT rfl (argF_sat (consF_sat (lcF_sat (seqF_sat (vF_sat rfl ⟨ds, e, ⟨by have := of_decide_eq_true hi.2; omega, ?_⟩⟩)))))
    have em : ds = ds.map id := by simp
    rw [em]
    refine lc_mapM (φ := id) (xs := ds) (fun x => .bl (triD ls x)) (fun x hx => ⟨_, rfl, yesT_sat ⟨rfl, rfl⟩, ?_⟩) ?_
    · exact callF_sat (consF_sat (vF_sat rfl (consF_sat (vF_sat rfl (nilF_sat (tri_sat (hi.1 x hx) ⟨rfl, rfl⟩))))))
    · rw [show (ds.map fun x => D.bl (triD ls x)) = (ds.map (triD ls)).map .bl by rw [List.map_map]; rfl]
      refine nilF_sat ⟨_, all_bools _, ?_⟩
      rw [List.all_map]
      exact hP
def perD (most : Int) : D → Bool
  | .int i => decide (1 ≤ i) && decide (i ≤ most)
  | _ => false
theorem per_sat {P : D → SrcT → Prop} {S : SrcT} {most : Int} {d : D} (h : plainD d = true) (hP : P (.bl (perD most d)) S) : (f_is_period [d, .int most] S).sat P := by
  refine fnF_sat rfl ?_
  unfold b_is_period
  cases d with
  | int i =>
    refine retS_sat (andF_sat (unF_sat (vF_sat rfl ⟨.bl true, rfl, true, rfl, NL.ifT rfl ?_⟩)))
    refine andF_sat (unF_sat (unF_sat (vF_sat rfl ⟨.bl false, rfl, .bl true, rfl, true, rfl, NL.ifT rfl ?_⟩)))
    refine chF_sat (cF_sat (vF_sat rfl ⟨decide (1 ≤ i), rfl, ?_⟩))
    have hP : P (.bl (decide (1 ≤ i) && decide (i ≤ most))) S := hP
    by_cases h1 : 1 ≤ i
    · rw [decide_eq_true h1] at hP
      exact NL.ifT (decide_eq_true h1) (vF_sat rfl ⟨.bl (decide (i ≤ most)), rfl, hP⟩)
    · rw [decide_eq_false h1] at hP
      exact NL.ifF (decide_eq_false h1) hP
  | bl b =>
    refine retS_sat (andF_sat (unF_sat (vF_sat rfl ⟨.bl true, rfl, true, rfl, NL.ifT rfl ?_⟩)))
    exact andF_sat (unF_sat (unF_sat (vF_sat rfl ⟨.bl true, rfl, .bl false, rfl, false, rfl, NL.ifF rfl hP⟩)))
  | non => exact retS_sat (andF_sat (unF_sat (vF_sat rfl ⟨.bl false, rfl, false, rfl, NL.ifF rfl hP⟩)))
  | str z => exact retS_sat (andF_sat (unF_sat (vF_sat rfl ⟨.bl false, rfl, false, rfl, NL.ifF rfl hP⟩)))
  | lst z => exact retS_sat (andF_sat (unF_sat (vF_sat rfl ⟨.bl false, rfl, false, rfl, NL.ifF rfl hP⟩)))
  | tup z => exact retS_sat (andF_sat (unF_sat (vF_sat rfl ⟨.bl false, rfl, false, rfl, NL.ifF rfl hP⟩)))
  | dct z => exact retS_sat (andF_sat (unF_sat (vF_sat rfl ⟨.bl false, rfl, false, rfl, NL.ifF rfl hP⟩)))
  | _ => cases h
/-! the law's triples -/
def W0 : List Str := ["a", "b", "read"]
def W1 : List Str := ["a", "d"]
def Tri (ls : List Str) (t : List Str) : Prop := ∃ s a z, t = [s, a, z] ∧ s ∈ W0 ∧ a ∈ W1 ∧ z ∈ ls
theorem pick1_sat {P : D → SrcT → Prop} {S : SrcT} {zs : List Str} (h0 : 0 < zs.length) (h1 : zs.length < 100000) (hc : S.c ≤ 990000) (h : ∀ z S', z ∈ zs → S'.c = S.c + 1 → P (.str z) S') : (f__law_pick [.src, .lst (zs.map .str)] S).sat P :=
  pick_sat (by rw [List.length_map]; exact h0) (by rw [List.length_map]; exact h1) hc fun d S' hd c => by
    obtain ⟨z, hz, rfl⟩ := List.mem_map.mp hd
    exact h z S' hz c
theorem triples_sat {P : D → SrcT → Prop} {S : SrcT} {ls : List Str} {most : Int} (h0 : 0 < ls.length) (h1 : ls.length ≤ 10) (hm : 0 ≤ most) (hm2 : most ≤ 10) (hc : S.c ≤ 980000)
    (h : ∀ (ts : List (List Str)) S', (∀ t ∈ ts, Tri ls t) → (ts.length : Int) ≤ most → S'.c ≤ S.c + 31 → P (.lst (ts.map tTx)) S') : (f__law_triples [.src, .lst (ls.map .str), .int most] S).sat P := by
  refine fnF_sat rfl ?_
  unfold b__law_triples
  refine seqS_sat (setN_sat (by show (3 : Nat) < 7; decide) (lstF_sat (nilF_sat ?_)))
  refine seqS_sat (forS_sat (rng1F_sat (consF_sat (callF_sat (consF_sat (vF_sat (d := .src) rfl (consF_sat (binF_sat (vF_sat (d := .int most) rfl (cF_sat ⟨.int (most + 1), rfl, nilF_sat ?_⟩))))))))))
  refine draw_sat (by omega) (by omega) (by omega) fun r S1 r0 r1 c1 => nilF_sat ⟨r, rfl, okR_of (by omega) (by omega), ?_⟩
  refine for_sat (fun i ρ S' => ∃ (ts : List (List Str)) (v4 v5 v6 : Option D), ρ = [some .src, some (.lst (ls.map .str)), some (.int most), some (.lst (ts.map tTx)), v4, v5, v6] ∧ (∀ t ∈ ts, Tri ls t) ∧ ts.length = i ∧ S'.c = S1.c + 3 * i) ?_ ?_ ⟨[], none, none, none, rfl, (fun _ z => nomatch z), rfl, by omega⟩
  · rintro i d ρ S2 hd ⟨ts, v4, v5, v6, rfl, hts, hl, c2⟩
    obtain ⟨hi, rfl⟩ := rngD_at hd
    refine ⟨_, rfl, ?_⟩
    refine seqS_sat (parS_sat (consF_sat (callF_sat (consF_sat (vF_sat (d := .src) rfl (consF_sat (lstF_sat (consF_sat (cF_sat (consF_sat (cF_sat (consF_sat (cF_sat (nilF_sat (nilF_sat ?_)))))))))))))))
    refine pick1_sat (zs := W0) (by decide) (by decide) (by omega) fun s S3 hs c3 => ?_
    refine consF_sat (callF_sat (consF_sat (vF_sat (d := .src) rfl (consF_sat (lstF_sat (consF_sat (cF_sat (consF_sat (cF_sat (nilF_sat (nilF_sat ?_)))))))))))
    refine pick1_sat (zs := W1) (by decide) (by decide) (by omega) fun a S4 ha c4 => nilF_sat ⟨_, _, rfl, ?_⟩
    refine appS_sat (ds := ts.map tTx) rfl (by rw [List.length_map]; omega) (tupF_sat (consF_sat (vF_sat (d := .str s) rfl (consF_sat (vF_sat (d := .str a) rfl (consF_sat (callF_sat (consF_sat (vF_sat (d := .src) rfl (consF_sat (vF_sat (d := .lst (ls.map .str)) rfl (nilF_sat ?_)))))))))))) 
    refine pick1_sat (zs := ls) h0 (by omega) (by omega) fun z S5 hz c5 => nilF_sat ?_
    refine ⟨ts ++ [[s, a, z]], _, _, _, by rw [List.map_append]; rfl, fun t ht => ?_, by rw [List.length_append, hl]; rfl, by omega⟩
    rcases List.mem_append.mp ht with q | q
    · exact hts t q
    · rw [List.mem_singleton.mp q]; exact ⟨s, a, z, rfl, hs, ha, hz⟩
  · rintro ρ S2 ⟨ts, v4, v5, v6, rfl, hts, hl, c2⟩
    rw [rngD_len] at hl c2
    exact retS_sat (vF_sat (d := .lst (ts.map tTx)) rfl (h ts S2 hts (by omega) (by omega)))
/-! texts of triples -/
def okTx (t : List Str) : Prop := ∀ z ∈ t, PyData.strOk z = true
theorem txt_tx {t : List Str} (h : okTx t) : txtD (tTx t) = true := by unfold tTx; rw [txtD]; exact txt_strs h
theorem fine_tx {t : List Str} (h : okTx t) : fineN 1 (tTx t) := fineTS h
theorem txt_txs {ts : List (List Str)} (h : ∀ t ∈ ts, okTx t) : txtDs (ts.map tTx) = true := txt_all fun d hd => by
  obtain ⟨t, ht, rfl⟩ := List.mem_map.mp hd; exact txt_tx (h t ht)
theorem fineT_txs {ts : List (List Str)} (h : ∀ t ∈ ts, okTx t) : fineN 2 (.tup (ts.map tTx)) := fineT (n := 1) fun d hd => by
  obtain ⟨t, ht, rfl⟩ := List.mem_map.mp hd; exact fine_tx (h t ht)
theorem tTx_inj {a b : List Str} (h : tTx a = tTx b) : a = b := strs_inj (D.tup.inj h)
theorem map_inj0 {α β : Type} {f : α → β} (hf : ∀ a b, f a = f b → a = b) : ∀ {l m : List α}, l.map f = m.map f → l = m
  | [], [], _ => rfl
  | [], _ :: _, h => by cases h
  | _ :: _, [], h => by cases h
  | a :: l, b :: m, h => by
    rw [List.map_cons, List.map_cons] at h
    injection h with h1 h2
    rw [hf _ _ h1, map_inj0 hf h2]
theorem toP_tx (t : List Str) : toP (tTx t) = some (txD t) := by unfold tTx txD; rw [toP, toPs_strs]; rfl
theorem toPs_txs : ∀ ts : List (List Str), toPs (ts.map tTx) = some (ts.map txD)
  | [] => rfl
  | t :: ts => by rw [List.map_cons, toPs, toP_tx, toPs_txs ts]; rfl
theorem eqv_tx {a b : List Str} (ha : okTx a) (hb : okTx b) : PyData.eqv (txD a) (txD b) = decide (a = b) := by
  have := eqv_txt (tTx a) (tTx b) (txt_tx ha) (txt_tx hb) (toP_tx a) (toP_tx b)
  by_cases e : a = b
  · rw [decide_eq_true e, this, e]
  · rw [decide_eq_false e, Bool.eq_false_iff]
    exact fun h => e (tTx_inj (this.mp h))
theorem in_tx {neg : Bool} {k : List Str} {c : D} {ks : List (List Str)} (hc : seqD c = some (ks.map tTx)) (hk : okTx k) (h : ∀ t ∈ ks, okTx t) : inXD neg (tTx k) c = some (.bl (if neg then !decide (k ∈ ks) else decide (k ∈ ks))) := by
  obtain ⟨p, f1, f2, f3⟩ := fine_tx hk
  rw [toP_tx] at f1
  cases f1
  obtain ⟨ps, g1, g2, g3⟩ := fine_all (n := 1) (ds := ks.map tTx) fun d hd => by
    obtain ⟨t, ht, rfl⟩ := List.mem_map.mp hd; exact fine_tx (h t ht)
  rw [toPs_txs] at g1
  cases g1
  rw [inX_scalar (toP_tx k) hc (toPs_txs ks) (shaped_of f2 (by omega)) g2]
  have e : ((ks.map txD).any fun z => PyData.eqv z (txD k)) = decide (k ∈ ks) := by
    rw [List.any_map, Bool.eq_iff_iff, List.any_eq_true, decide_eq_true_eq]
    constructor
    · rintro ⟨x, hx, e⟩
      have e : PyData.eqv (txD x) (txD k) = true := e
      rw [eqv_tx (h x hx) hk, decide_eq_true_eq] at e
      rw [← e]; exact hx
    · intro hm
      refine ⟨k, hm, ?_⟩
      show PyData.eqv (txD k) (txD k) = true
      rw [eqv_tx hk hk, decide_eq_true rfl]
  rw [e]
theorem tri_ok {ls : List Str} (hls : ∀ z ∈ ls, PyData.strOk z = true) {t : List Str} (h : Tri ls t) : okTx t := by
  obtain ⟨s, a, z, rfl, hs, ha, hz⟩ := h
  have h0 : ∀ z ∈ W0, PyData.strOk z = true := by decide +kernel
  have h1 : ∀ z ∈ W1, PyData.strOk z = true := by decide +kernel
  intro y hy
  simp only [List.mem_cons, List.not_mem_nil, or_false] at hy
  rcases hy with rfl | rfl | rfl
  · exact h0 _ hs
  · exact h1 _ ha
  · exact hls _ hz
/-! each once, ascending -/
theorem enumD_ex {ds : List D} {i : Nat} {d : D} (h : (enumD ds)[i]? = some d) : ∃ x, ds[i]? = some x ∧ d = .tup [.int (i : Int), x] := by
  have hi : i < ds.length := by have := (List.getElem?_eq_some_iff.mp h).1; rwa [enumD_len] at this
  have e := enumD_get (List.getElem?_eq_getElem hi)
  rw [e] at h
  exact ⟨_, List.getElem?_eq_getElem hi, (Option.some.inj h).symm⟩
theorem metK_take {ts : List (List Str)} {i : Nat} {t : List Str} (h : ts[i]? = some t) : metK (ts.take (i + 1)) = if t ∈ ts.take i then metK (ts.take i) else metK (ts.take i) ++ [t] := by
  rw [take_snoc h, metK_snoc]
  unfold metS
  have : ((metK (ts.take i)).any (· == t)) = decide (t ∈ ts.take i) := by
    rw [Bool.eq_iff_iff, List.any_eq_true, decide_eq_true_eq]
    constructor
    · rintro ⟨x, hx, e⟩
      rw [beq_iff_eq] at e
      subst e
      exact metK_mem.mp hx
    · exact fun hm => ⟨t, metK_mem.mpr hm, by simp⟩
  rw [this]
  by_cases e : t ∈ ts.take i
  · rw [if_pos (decide_eq_true e), if_pos e]
  · rw [if_neg (by rw [decide_eq_false e]; decide), if_neg e]
theorem encD_tx (t : List Str) : encD (tTx t) = txD t := by unfold encD; rw [toP_tx]; rfl
theorem srt_tx {ks : List (List Str)} (hl : ks.length ≤ 100000) (hne : ∀ t ∈ ks, t ≠ []) : srtX [.lst (ks.map tTx)] = some (.lst ((ks.mergeSort leT).map tTx)) := by
  unfold srtX
  dsimp only
  refine (if_pos ⟨by rw [List.length_map]; exact hl, ?_, ?_, ?_⟩).trans ?_
  · have : (ks.map tTx).mergeSort leDD = (ks.mergeSort leT).map tTx := by
      refine (List.map_mergeSort (fun a _ b _ => ?_)).symm
      unfold leT leDD PySem.W.dataLe PySem.W.sortLe
      dsimp only
      rw [encD_tx, encD_tx]
    rw [this]
  · rw [List.all_eq_true]
    intro d hd
    obtain ⟨t, ht, rfl⟩ := List.mem_map.mp hd
    unfold hasP
    rw [encD_tx, toP_tx]
    unfold txD
    rw [PyData.depth, depth_txt]; rfl
  · unfold alikeL
    rw [List.all_eq_true]
    intro d hd
    rw [List.all_eq_true]
    intro d' hd'
    obtain ⟨t, ht, rfl⟩ := List.mem_map.mp hd
    obtain ⟨t', ht', rfl⟩ := List.mem_map.mp hd'
    rw [encD_tx, encD_tx]
    unfold txD
    rw [PySem.W.alike]; exact alike_txt _ _
  · rw [List.all_eq_true]
    intro d hd
    obtain ⟨t, ht, rfl⟩ := List.mem_map.mp hd
    unfold tupP
    rw [encD_tx]
    unfold txD
    cases t with
    | nil => exact absurd rfl (hne _ ht)
    | cons z zs => rfl
theorem ascending_sat {P : D → SrcT → Prop} {S : SrcT} {ts : List (List Str)} (hl : ts.length ≤ 1000) (hne : ∀ t ∈ ts, t ≠ []) (hok : ∀ t ∈ ts, okTx t) (h : P (.tup ((sortK ts).map tTx)) S) : (f__law_ascending [.lst (ts.map tTx)] S).sat P := by
  refine fnF_sat rfl ?_
  unfold b__law_ascending
  refine retS_sat (argF_sat (consF_sat (argF_sat (consF_sat (lcF_sat (enumF_sat (consF_sat (vF_sat (d := .lst (ts.map tTx)) rfl (nilF_sat ⟨_, rfl, ?_⟩)))))))))
  refine ⟨by rw [enumD_len, List.length_map]; omega, ?_⟩
  refine lc_sat (fun i acc S' => acc = (metK (ts.take i)).map tTx ∧ S' = S) ?_ ?_ ⟨rfl, rfl⟩
  · rintro i d acc S1 hd ⟨rfl, rfl⟩
    obtain ⟨x, hx, rfl⟩ := enumD_ex hd
    rw [List.getElem?_map] at hx
    obtain ⟨t, ht, rfl⟩ := Option.map_eq_some_iff.mp hx
    have hm := List.mem_of_getElem? ht
    refine ⟨_, rfl, blT_sat (binF_sat (vF_sat (d := tTx t) rfl (slF_sat (vF_sat (d := .lst (ts.map tTx)) rfl (noF_sat (someF_sat (vF_sat (d := .int (i : Nat)) rfl ⟨(i : Int), rfl, .lst ((ts.take i).map tTx), ?_, ?_⟩)))))))⟩
    · show some (D.lst (cutD (ts.map tTx) none (some (i : Nat)))) = _
      rw [cutD_to, List.map_take]
    · refine ⟨_, in_tx rfl (hok t hm) (fun u hu => hok u (List.mem_of_mem_take hu)), _, rfl, ?_⟩
      rw [metK_take ht]
      by_cases e : t ∈ ts.take i
      · rw [if_pos e, decide_eq_true e]
        exact NL.ifF rfl ⟨rfl, rfl⟩
      · rw [if_neg e, decide_eq_false e]
        refine NL.ifT rfl (vF_sat (d := tTx t) rfl ⟨?_, rfl⟩)
        rw [List.map_append]; rfl
  · rintro acc S1 ⟨rfl, rfl⟩
    rw [enumD_len, List.length_map, List.take_length]
    have hl2 := metK_length ts
    exact nilF_sat ⟨_, srt_tx (by omega) (fun t ht => hne t (metK_mem.mp ht)), nilF_sat ⟨_, rfl, h⟩⟩
theorem ordered_sat {P : D → SrcT → Prop} {S : SrcT} {d : D} {ts : List (List Str)} {f : List Str → D} (hd : seqD d = some (ts.map f)) (hf : ∀ t, seqD (f t) = some (t.map .str)) (hl : ts.length < 64) (hne : ∀ t ∈ ts, t ≠ []) (h : P (.tup ((sortK ts).map tTx)) S) : (f_ordered [d] S).sat P := by
  refine fnF_sat rfl ?_
  unfold b_ordered
  refine retS_sat (argF_sat (consF_sat (srtNF_sat (seqF_sat (vF_sat (d := d) rfl ⟨_, hd, by rw [List.length_map]; exact hl, ?_⟩)))))
  refine lc_mapM (φ := f) (xs := ts) tTx (fun t ht => ⟨_, rfl, yesT_sat ⟨rfl, rfl⟩, ?_⟩) ?_
  · refine chkTx_sat (argF_sat (consF_sat (vF_sat (d := f t) rfl (nilF_sat ⟨tTx t, ?_, ?_⟩))))
    · have := hf t
      unfold tupleD tTx
      cases e : f t <;> rw [e] at this <;> first | (cases this; rfl) | cases this
    · cases t with
      | nil => exact absurd rfl (hne _ ht)
      | cons z zs => exact ⟨z, zs, rfl, rfl, rfl⟩
  · exact ⟨ts, txsOf_map hne, nilF_sat ⟨_, rfl, h⟩⟩
/-! tables -/
def GW : List Str := ["none", "first", "second"]
def SG : List Str := ["<", "=", ">"]
theorem fdiv2 (a : Int) : fdivD (.int a) (.int 2) = some (.int (a / 2)) := by
  show (if (0 : Int) < 2 ∧ okI 2 = true then some (D.int (a / 2)) else none) = _
  exact if_pos (by decide)
theorem mod2 (a : Int) : modD (.int a) (.int 2) = some (.int (a % 2)) := by
  show (if (0 : Int) < 2 then some (D.int (a % 2)) else none) = _
  exact if_pos (by decide)
theorem modP {a b : Int} (h : 0 < b) : modD (.int a) (.int b) = some (.int (a % b)) := if_pos h
theorem divP {a b : Int} (h : 0 < b) (h2 : b ≤ 1000) : fdivD (.int a) (.int b) = some (.int (a / b)) := if_pos ⟨h, okI_of (by omega) (by omega)⟩
theorem mulP {a b : Int} (h1 : -10000000000000000000000000000000000000000000000000 ≤ a) (h2 : a ≤ 10000000000000000000000000000000000000000000000000) (h3 : -1000 ≤ b) (h4 : b ≤ 1000) : mulD (.int a) (.int b) = some (.int (a * b)) := if_pos (by rw [okI_of (k := a) (by omega) (by omega), okI_of (k := b) (by omega) (by omega)]; rfl)
def lTx (t : List Str) : D := .lst (t.map D.str)
def lvD (l : List (List Str)) : D := .lst (l.map tTx)
def tT (l : List (List Str)) : D := .tup (l.map tTx)
def TOb (al : List (List Str)) (lv : List (List (List Str))) (b a : Int) : D := .obj "Table" [("own_alone", tT al), ("own_levels", .tup (lv.map tT)), ("own_periods", .tup [.int b, .int a])]
theorem words_ok : ∀ z ∈ W0 ++ W1 ++ GW ++ SG, plainD (.str z) = true ∧ PyData.strOk z = true := by decide +kernel
theorem words_name : ∀ z ∈ W0 ++ W1, nameD (.str z) = true := by decide +kernel
theorem form_tri {ls : List Str} (hls : ∀ z ∈ ls, z ∈ GW ++ SG) {t : List Str} (h : Tri ls t) {f : List Str → D} (hf : f = lTx ∨ f = tTx) : okT (f t) = true ∧ triD ls (f t) = true := by
  obtain ⟨s, a, z, rfl, hs, ha, hz⟩ := h
  have h1 := (words_ok s (by simp [hs])).1
  have h2 := (words_ok a (by simp [ha])).1
  have h3 := (words_ok z (by have := hls z hz; rw [List.mem_append] at this; rcases this with q | q <;> simp [q])).1
  have n1 := words_name s (by simp [hs])
  have n2 := words_name a (by simp [ha])
  have k1 : ([D.str s, .str a, .str z].all plainD) = true := by simp only [List.all_cons, List.all_nil, h1, h2, h3, Bool.and_self]
  have k2 : (nameD (.str s) && nameD (.str a) && decide (z ∈ ls)) = true := by rw [n1, n2, decide_eq_true hz]; rfl
  rcases hf with rfl | rfl
  · exact ⟨k1, k2⟩
  · exact ⟨k1, k2⟩
theorem form_tris {ls : List Str} (hls : ∀ z ∈ ls, z ∈ GW ++ SG) {ts : List (List Str)} (h : ∀ t ∈ ts, Tri ls t) (hl : ts.length ≤ 1000) {f : List Str → D} (hf : f = lTx ∨ f = tTx) : okTs (.lst (ts.map f)) = true ∧ trisD ls (.lst (ts.map f)) = true := by
  have h1 : (ts.map f).all okT = true := by
    rw [List.all_map, List.all_eq_true]; exact fun t ht => (form_tri hls (h t ht) hf).1
  have h2 : (ts.map f).all (triD ls) = true := by
    rw [List.all_map, List.all_eq_true]; exact fun t ht => (form_tri hls (h t ht) hf).2
  refine ⟨?_, h2⟩
  show (true && ((ts.map f).all okT && decide ((ts.map f).length ≤ 1000))) = true
  rw [h1, decide_eq_true (by rw [List.length_map]; exact hl)]; rfl
theorem seq_form {f : List Str → D} (hf : f = lTx ∨ f = tTx) (t : List Str) : seqD (f t) = some (t.map .str) := by
  rcases hf with rfl | rfl <;> rfl
theorem tri_ne {ls : List Str} {t : List Str} (h : Tri ls t) : t ≠ [] := by
  obtain ⟨s, a, z, rfl, _⟩ := h
  exact fun e => nomatch e
structure LvOk (al : List (List Str)) (lv : List (List (List Str))) (b c : Int) : Prop where
  ka : ∀ t ∈ al, Tri GW t
  kal : al.length ≤ 10
  kv : ∀ l ∈ lv, ∀ t ∈ l, Tri SG t
  kvl : ∀ l ∈ lv, l.length ≤ 10
  km : ∃ m : Int, (lv.length : Int) = 2 * m + 1 ∧ 1 ≤ m ∧ m ≤ 3 ∧ 1 ≤ b ∧ b ≤ m ∧ 1 ≤ c ∧ c ≤ m
theorem mkT_sat {P : D → SrcT → Prop} {ρ : NL.Env} {S : SrcT} {Fs : Exs} {al : List (List Str)} {lv : List (List (List Str))} {b c : Int} (K : LvOk al lv b c)
    (h : (Fs ρ S).sat fun ds S1 => ∃ f, ds = [.lst (al.map f), .lst (lv.map lvD), .int b, .int c] ∧ (f = lTx ∨ f = tTx) ∧ P (TOb (sortK al) (lv.map sortK) b c) S1) : (makeFF "Table" f_Table___init__ Fs ρ S).sat P := by
  obtain ⟨m, em, m1, m3, b1, bm, c1, cm⟩ := K.km
  have gw : ∀ z ∈ GW, z ∈ GW ++ SG := fun z hz => List.mem_append_left _ hz
  have sg : ∀ z ∈ SG, z ∈ GW ++ SG := fun z hz => List.mem_append_right _ hz
  refine makeFF_sat (h.mono fun ds S1 ⟨f, e, hf, hP⟩ => ?_)
  subst e
  intro x dx _
  obtain ⟨ha1, ha2⟩ := form_tris gw K.ka (by have := K.kal; omega) hf
  have hll : (lv.map lvD).length = lv.length := List.length_map ..
  have hdiv : ((lv.map lvD).length : Int) / 2 = m := by rw [hll]; omega
  refine fnF_sat rfl ?_
  unfold b_Table___init__
  refine seqS_sat (iteS_sat (orT_sat (notT_sat (tstF_sat (callK_sat (consF_sat (vF_sat (d := .lst (al.map f)) rfl (consF_sat (cF_sat (nilF_sat (tris_sat (ls := GW) ha1 ⟨_, rfl, ?_⟩)))))))))))
  rw [ha2]
  refine NL.ifF rfl (orT_sat (notT_sat (tstF_sat (unF_sat (vF_sat (d := .lst (lv.map lvD)) rfl ⟨.bl true, rfl, true, rfl, NL.ifF rfl ?_⟩)))))
  refine blT_sat (binF_sat (argF_sat (consF_sat (vF_sat (d := .lst (lv.map lvD)) rfl (nilF_sat ⟨_, rfl, cF_sat ⟨.bl (decide (((lv.map lvD).length : Int) < 3)), rfl, _, rfl, NL.ifF (decide_eq_false (by omega)) (nilS_sat ?_)⟩⟩)))))
  refine seqS_sat (setS_sat (binF_sat (argF_sat (consF_sat (vF_sat (d := .lst (lv.map lvD)) rfl (nilF_sat ⟨_, rfl, cF_sat ⟨_, fdiv2 _, ?_⟩⟩))))))
  rw [hdiv]
  refine seqS_sat (iteS_sat (orT_sat (blT_sat (binF_sat (binF_sat (argF_sat (consF_sat (vF_sat (d := .lst (lv.map lvD)) rfl (nilF_sat ⟨_, rfl, cF_sat ⟨_, mod2 _, cF_sat ⟨_, eqD_int, _, rfl, NL.ifF ?_ ?_⟩⟩⟩)))))))))
  · rw [if_neg Bool.false_ne_true]; exact decide_eq_false (by omega)
  have hlt : ∀ l ∈ lv, okTs (lvD l) = true ∧ trisD SG (lvD l) = true := fun l hl => form_tris sg (K.kv l hl) (by have := K.kvl l hl; omega) (.inr rfl)
  refine notT_sat (tstF_sat (argF_sat (consF_sat (lcF_sat (seqF_sat (vF_sat (d := .lst (lv.map lvD)) rfl ⟨_, rfl, by omega, ?_⟩))))))
  refine lc_mapM (φ := lvD) (xs := lv) (fun _ => .bl true) (fun l hl => ⟨_, rfl, yesT_sat ⟨rfl, rfl⟩, ?_⟩) ?_
  · refine callK_sat (consF_sat (vF_sat (d := lvD l) rfl (consF_sat (cF_sat (nilF_sat (tris_sat (ls := SG) (hlt l hl).1 ?_))))))
    rw [(hlt l hl).2]; exact ⟨rfl, rfl⟩
  refine nilF_sat ⟨.bl true, ?_, true, rfl, NL.ifF rfl (nilS_sat ?_)⟩
  · rw [show (lv.map fun _ => D.bl true) = (lv.map fun _ => true).map .bl by rw [List.map_map]; rfl, all_bools, List.all_map]
    simp
  have pb : perD m (.int b) = true := by show (decide (1 ≤ b) && decide (b ≤ m)) = true; rw [decide_eq_true b1, decide_eq_true bm]; rfl
  have pc : perD m (.int c) = true := by show (decide (1 ≤ c) && decide (c ≤ m)) = true; rw [decide_eq_true c1, decide_eq_true cm]; rfl
  refine seqS_sat (iteS_sat (orT_sat (notT_sat (tstF_sat (callK_sat (consF_sat (vF_sat (d := .int b) rfl (consF_sat (vF_sat (d := .int m) rfl (nilF_sat (per_sat rfl ⟨_, rfl, ?_⟩)))))))))))
  rw [pb]
  refine NL.ifF rfl (notT_sat (tstF_sat (callK_sat (consF_sat (vF_sat (d := .int c) rfl (consF_sat (vF_sat (d := .int m) rfl (nilF_sat (per_sat rfl ⟨_, rfl, ?_⟩)))))))))
  rw [pc]
  refine NL.ifF rfl (nilS_sat ?_)
  refine seqS_sat (setMS_sat (callK_sat (consF_sat (vF_sat (d := .lst (al.map f)) rfl (nilF_sat (ordered_sat (f := f) rfl (seq_form hf) (by have := K.kal; omega) (fun t ht => tri_ne (K.ka t ht)) (vF_sat (d := .loc x) rfl ⟨x, dx, [], rfl, if_pos rfl, by decide, ?_⟩)))))))
  refine seqS_sat (setMS_sat (argF_sat (consF_sat (lcF_sat (seqF_sat (vF_sat (d := .lst (lv.map lvD)) rfl ⟨_, rfl, by omega, ?_⟩))))))
  refine lc_mapM (φ := lvD) (xs := lv) (fun l => tT (sortK l)) (fun l hl => ⟨_, rfl, yesT_sat ⟨rfl, rfl⟩, ?_⟩) ?_
  · exact callK_sat (consF_sat (vF_sat (d := lvD l) rfl (nilF_sat (ordered_sat (f := tTx) rfl (fun _ => rfl) (by have := K.kvl l hl; omega) (fun t ht => tri_ne (K.kv l hl t ht)) ⟨rfl, rfl⟩))))
  refine nilF_sat ⟨.tup (lv.map fun l => tT (sortK l)), rfl, vF_sat (d := .loc x) rfl ⟨x, dx, _, rfl, updM_same, by show (1 : Nat) < 900; decide, ?_⟩⟩
  refine setMS_sat (tupF_sat (consF_sat (vF_sat (d := .int b) rfl (consF_sat (vF_sat (d := .int c) rfl (nilF_sat (vF_sat (d := .loc x) rfl ⟨x, dx, _, rfl, updM_same, by show (2 : Nat) < 900; decide, ?_⟩)))))))
  refine ⟨rfl, TOb (sortK al) (lv.map sortK) b c, ?_, hP⟩
  unfold TOb
  rw [List.map_map]
  unfold frzD
  dsimp only [SrcT.put]
  rw [updM_same]
  rfl
section
variable {P : D → SrcT → Prop} {S : SrcT} {al : List (List Str)} {lv : List (List (List Str))} {b a : Int}
theorem alone1_sat (h : P (tT al) S) : (f_Table_alone [TOb al lv b a] S).sat P := by
  refine fnF_sat rfl ?_
  unfold b_Table_alone
  exact retS_sat (fldOF_sat (vF_sat (d := TOb al lv b a) rfl ⟨_, rfl, _, rfl, h⟩))
theorem levels1_sat (h : P (.tup (lv.map tT)) S) : (f_Table_levels [TOb al lv b a] S).sat P := by
  refine fnF_sat rfl ?_
  unfold b_Table_levels
  exact retS_sat (fldOF_sat (vF_sat (d := TOb al lv b a) rfl ⟨_, rfl, _, rfl, h⟩))
theorem below1_sat (h : P (.int b) S) : (f_Table_below [TOb al lv b a] S).sat P := by
  refine fnF_sat rfl ?_
  unfold b_Table_below
  exact retS_sat (binF_sat (fldOF_sat (vF_sat (d := TOb al lv b a) rfl ⟨_, rfl, .tup [.int b, .int a], rfl, cF_sat ⟨.int b, atI_nat (j := 0) rfl, h⟩⟩)))
theorem above1_sat (h : P (.int a) S) : (f_Table_above [TOb al lv b a] S).sat P := by
  refine fnF_sat rfl ?_
  unfold b_Table_above
  exact retS_sat (binF_sat (fldOF_sat (vF_sat (d := TOb al lv b a) rfl ⟨_, rfl, .tup [.int b, .int a], rfl, cF_sat ⟨.int a, atI_nat (j := 1) rfl, h⟩⟩)))
theorem most1_sat {m : Int} (hm : (lv.length : Int) / 2 = m) (h : P (.int m) S) : (f_Table_most [TOb al lv b a] S).sat P := by
  refine fnF_sat rfl ?_
  unfold b_Table_most
  refine retS_sat (binF_sat (argF_sat (consF_sat (fldOF_sat (vF_sat (d := TOb al lv b a) rfl ⟨_, rfl, .tup (lv.map tT), rfl, nilF_sat ⟨_, rfl, cF_sat ⟨_, fdiv2 _, ?_⟩⟩⟩)))))
  rw [List.length_map, hm]; exact h
end
/-- which level a difference has -/
def levIdx (m b a d : Int) : Int := if m < d then 2 * m - a + 1 + (d - m - 1) % a else if d < 0 - m then b - 1 - (0 - m - 1 - d) % b else d + m
theorem levIdx_in {m b a d : Int} (b1 : 1 ≤ b) (bm : b ≤ m) (a1 : 1 ≤ a) (am : a ≤ m) : 0 ≤ levIdx m b a d ∧ levIdx m b a d < 2 * m + 1 := by
  unfold levIdx
  have h1 := Int.emod_nonneg (d - m - 1) (by omega : a ≠ 0)
  have h2 := Int.emod_lt_of_pos (d - m - 1) (by omega : 0 < a)
  have h3 := Int.emod_nonneg (0 - m - 1 - d) (by omega : b ≠ 0)
  have h4 := Int.emod_lt_of_pos (0 - m - 1 - d) (by omega : 0 < b)
  split
  · omega
  · split <;> omega
/-- the level of a difference -/
def levOf (lv : List (List (List Str))) (m b a d : Int) : List (List Str) := lv.getD (levIdx m b a d).toNat []
theorem at_lev {lv : List (List (List Str))} {i : Int} (h0 : 0 ≤ i) (h1 : i < lv.length) : idxD (.tup (lv.map tT)) (.int i) = some (tT (lv.getD i.toNat [])) := by
  obtain ⟨n, rfl⟩ := Int.eq_ofNat_of_zero_le h0
  have hn : n < lv.length := by omega
  refine atI_nat ?_
  rw [List.getElem?_map, List.getElem?_eq_getElem hn, Int.toNat_natCast, List.getD_eq_getElem?_getD, List.getElem?_eq_getElem hn]; rfl
structure TOk (lv : List (List (List Str))) (m b a : Int) : Prop where
  len : (lv.length : Int) = 2 * m + 1
  m1 : 1 ≤ m
  m3 : m ≤ 3
  b1 : 1 ≤ b
  bm : b ≤ m
  a1 : 1 ≤ a
  am : a ≤ m
theorem level_sat {P : D → SrcT → Prop} {S : SrcT} {al : List (List Str)} {lv : List (List (List Str))} {m b a d : Int} (K : TOk lv m b a) (h : P (tT (levOf lv m b a d)) S) : (f_Table_level [TOb al lv b a, .int d] S).sat P := by
  obtain ⟨len, m1, m3, b1, bm, a1, am⟩ := K
  obtain ⟨i0, i1⟩ := levIdx_in (d := d) b1 bm a1 am
  have hidx := at_lev (lv := lv) i0 (by omega)
  unfold levOf at h
  refine fnF_sat rfl ?_
  unfold b_Table_level
  refine seqS_sat (setS_sat (propF_sat (vF_sat (d := TOb al lv b a) rfl ⟨rfl, most1_sat (m := m) (by omega) ?_⟩)))
  refine seqS_sat (iteS_sat (blT_sat (binF_sat (vF_sat (d := .int d) rfl (vF_sat (d := .int m) rfl ⟨.bl (decide (m < d)), rfl, _, rfl, ?_⟩)))))
  by_cases h1 : m < d
  · rw [show levIdx m b a d = 2 * m - a + 1 + (d - m - 1) % a from if_pos h1] at h hidx
    refine NL.ifT (decide_eq_true h1) (retS_sat (binF_sat (fldOF_sat (vF_sat (d := TOb al lv b a) rfl ⟨_, rfl, .tup (lv.map tT), rfl, ?_⟩))))
    refine binF_sat (binF_sat (binF_sat (binF_sat (cF_sat (vF_sat (d := .int m) rfl ⟨.int (2 * m), mulP (by omega) (by omega) (by omega) (by omega), propF_sat (vF_sat (d := TOb al lv b a) rfl ⟨rfl, above1_sat ⟨.int (2 * m - a), rfl, cF_sat ⟨.int (2 * m - a + 1), rfl, ?_⟩⟩⟩)⟩)))))
    exact binF_sat (binF_sat (binF_sat (vF_sat (d := .int d) rfl (vF_sat (d := .int m) rfl ⟨.int (d - m), rfl, cF_sat ⟨.int (d - m - 1), rfl, propF_sat (vF_sat (d := TOb al lv b a) rfl ⟨rfl, above1_sat ⟨_, modP (by omega), .int (2 * m - a + 1 + (d - m - 1) % a), rfl, _, hidx, h⟩⟩)⟩⟩))))
  · refine NL.ifF (decide_eq_false h1) (nilS_sat ?_)
    refine seqS_sat (iteS_sat (blT_sat (binF_sat (vF_sat (d := .int d) rfl (binF_sat (cF_sat (vF_sat (d := .int m) rfl ⟨.int (0 - m), rfl, .bl (decide (d < 0 - m)), rfl, _, rfl, ?_⟩)))))))
    by_cases h2 : d < 0 - m
    · rw [show levIdx m b a d = b - 1 - (0 - m - 1 - d) % b from (if_neg h1).trans (if_pos h2)] at h hidx
      refine NL.ifT (decide_eq_true h2) (retS_sat (binF_sat (fldOF_sat (vF_sat (d := TOb al lv b a) rfl ⟨_, rfl, .tup (lv.map tT), rfl, ?_⟩))))
      refine binF_sat (binF_sat (propF_sat (vF_sat (d := TOb al lv b a) rfl ⟨rfl, below1_sat (cF_sat ⟨.int (b - 1), rfl, ?_⟩)⟩)))
      exact binF_sat (binF_sat (binF_sat (binF_sat (cF_sat (vF_sat (d := .int m) rfl ⟨.int (0 - m), rfl, cF_sat ⟨.int (0 - m - 1), rfl, vF_sat (d := .int d) rfl ⟨.int (0 - m - 1 - d), rfl, propF_sat (vF_sat (d := TOb al lv b a) rfl ⟨rfl, below1_sat ⟨_, modP (by omega), .int (b - 1 - (0 - m - 1 - d) % b), rfl, _, hidx, h⟩⟩)⟩⟩⟩)))))
    · rw [show levIdx m b a d = d + m from (if_neg h1).trans (if_neg h2)] at h hidx
      refine NL.ifF (decide_eq_false h2) (nilS_sat (retS_sat (binF_sat (fldOF_sat (vF_sat (d := TOb al lv b a) rfl ⟨_, rfl, .tup (lv.map tT), rfl, ?_⟩)))))
      exact binF_sat (vF_sat (d := .int d) rfl (vF_sat (d := .int m) rfl ⟨.int (d + m), rfl, _, hidx, h⟩))
/-! the law's own steps of a period -/
theorem three {a : Int} (h1 : 1 ≤ a) (h3 : a ≤ 3) : a = 1 ∨ a = 2 ∨ a = 3 := by omega
def nearI (b a d : Int) : Int := if (if d < 0 then -d else d) < 1000000000 then d else if 0 < d then d % (60 * a) + 60 * a else 0 - (0 - d) % (60 * b) - 60 * b
theorem lev_near {lv : List (List (List Str))} {m b a d : Int} (K : TOk lv m b a) : levIdx m b a (nearI b a d) = levIdx m b a d ∧ -1000000000 ≤ nearI b a d ∧ nearI b a d ≤ 1000000000 := by
  obtain ⟨len, m1, m3, b1, bm, a1, am⟩ := K
  unfold nearI levIdx
  rcases three a1 (by omega) with rfl | rfl | rfl <;> rcases three b1 (by omega) with rfl | rfl | rfl <;> (split <;> (try split) <;> (repeat' split) <;> omega)
theorem near_sat {P : D → SrcT → Prop} {S : SrcT} {b a d : Int} (b1 : 1 ≤ b) (b3 : b ≤ 3) (a1 : 1 ≤ a) (a3 : a ≤ 3) (h : P (.int (nearI b a d)) S) : (f__law_near [.int d, .int b, .int a] S).sat P := by
  unfold nearI at h
  refine fnF_sat rfl ?_
  unfold b__law_near
  refine seqS_sat (iteS_sat (blT_sat (binF_sat (argF_sat (consF_sat (vF_sat (d := .int d) rfl (nilF_sat ⟨.int (if d < 0 then -d else d), rfl, binF_sat (cF_sat (cF_sat ⟨.int 1000000000, rfl, .bl (decide ((if d < 0 then -d else d) < 1000000000)), rfl, _, rfl, ?_⟩))⟩)))))))
  by_cases h1 : (if d < 0 then -d else d) < 1000000000
  · rw [if_pos h1] at h
    exact NL.ifT (decide_eq_true h1) (retS_sat (vF_sat (d := .int d) rfl h))
  rw [if_neg h1] at h
  refine NL.ifF (decide_eq_false h1) (nilS_sat ?_)
  refine seqS_sat (iteS_sat (blT_sat (binF_sat (vF_sat (d := .int d) rfl (cF_sat ⟨.bl (decide (0 < d)), rfl, _, rfl, ?_⟩)))))
  by_cases h2 : 0 < d
  · rw [if_pos h2] at h
    refine NL.ifT (decide_eq_true h2) (retS_sat (binF_sat (binF_sat (vF_sat (d := .int d) rfl (binF_sat (cF_sat (vF_sat (d := .int a) rfl ⟨.int (60 * a), mulP (by omega) (by omega) (by omega) (by omega), .int (d % (60 * a)), modP (by omega), ?_⟩)))))))
    exact binF_sat (cF_sat (vF_sat (d := .int a) rfl ⟨.int (60 * a), mulP (by omega) (by omega) (by omega) (by omega), .int _, rfl, h⟩))
  · rw [if_neg h2] at h
    refine NL.ifF (decide_eq_false h2) (nilS_sat (retS_sat (binF_sat (binF_sat (cF_sat (binF_sat (binF_sat (cF_sat (vF_sat (d := .int d) rfl ⟨.int (0 - d), rfl, ?_⟩)))))))))
    refine binF_sat (cF_sat (vF_sat (d := .int b) rfl ⟨.int (60 * b), mulP (by omega) (by omega) (by omega) (by omega), .int ((0 - d) % (60 * b)), modP (by omega), .int (0 - (0 - d) % (60 * b)), rfl, ?_⟩))
    exact binF_sat (cF_sat (vF_sat (d := .int b) rfl ⟨.int (60 * b), mulP (by omega) (by omega) (by omega) (by omega), .int _, rfl, h⟩))
section
variable {P : D → SrcT → Prop} {S : SrcT} {al : List (List Str)} {lv : List (List (List Str))} {m b a : Int}
theorem down_sat {Q : Fl × NL.Env → SrcT → Prop} {x : Int} (a1 : 1 ≤ a) (a3 : a ≤ 3) (hx : x ≤ m + a * 2) (h : ∀ y j : Int, y = x - a * j → y ≤ m → (y = x ∨ (m < x ∧ m < y + a)) → Q (.nx, [some (TOb al lv b a), some (.int y), some (.int m)]) S) :
    (whileS 10 (blT (binF gtD (vF 1) (vF 2))) (setS 1 (binF subD (vF 1) (propF f_Table_above (isObjK "Table") (vF 0)))) [some (TOb al lv b a), some (.int x), some (.int m)] S).sat Q := by
  refine wh_sat (fun k ρ S' => S' = S ∧ ∃ y j : Int, ρ = [some (TOb al lv b a), some (.int y), some (.int m)] ∧ y = x - a * j ∧ (y = x ∨ (m < x ∧ m < y + a)) ∧ y ≤ m + a * (k : Nat)) ?_ (k := 2) (by decide) ⟨rfl, x, 0, rfl, by simp, .inl rfl, hx⟩
  rintro k ρ S' hk ⟨rfl, y, j, rfl, hy, ho, hb⟩
  refine blT_sat (binF_sat (vF_sat (d := .int y) rfl (vF_sat (d := .int m) rfl ⟨.bl (decide (m < y)), rfl, _, rfl, ?_⟩)))
  by_cases h1 : m < y
  · refine NL.ifT (decide_eq_true h1) (setS_sat (binF_sat (vF_sat (d := .int y) rfl (propF_sat (vF_sat (d := TOb al lv b a) rfl ⟨rfl, above1_sat ⟨.int (y - a), rfl, ?_⟩⟩)))))
    cases k with
    | zero => simp at hb; omega
    | succ k =>
      refine ⟨k, rfl, rfl, y - a, j + 1, rfl, by rw [hy, Int.mul_add]; omega, .inr (by omega), ?_⟩
      rw [Int.natCast_add, Int.mul_add] at hb
      simp only [Int.natCast_one, Int.mul_one] at hb
      omega
  · exact NL.ifF (decide_eq_false h1) (h y j hy (by omega) ho)
theorem up_sat {Q : Fl × NL.Env → SrcT → Prop} {x : Int} (b1 : 1 ≤ b) (b3 : b ≤ 3) (hx : 0 - m - b * 2 ≤ x) (h : ∀ y j : Int, y = x + b * j → 0 - m ≤ y → (y = x ∨ (x < 0 - m ∧ y - b < 0 - m)) → Q (.nx, [some (TOb al lv b a), some (.int y), some (.int m)]) S) :
    (whileS 10 (blT (binF ltD (vF 1) (binF subD (cF (.int 0)) (vF 2)))) (setS 1 (binF addD (vF 1) (propF f_Table_below (isObjK "Table") (vF 0)))) [some (TOb al lv b a), some (.int x), some (.int m)] S).sat Q := by
  refine wh_sat (fun k ρ S' => S' = S ∧ ∃ y j : Int, ρ = [some (TOb al lv b a), some (.int y), some (.int m)] ∧ y = x + b * j ∧ (y = x ∨ (x < 0 - m ∧ y - b < 0 - m)) ∧ 0 - m - b * (k : Nat) ≤ y) ?_ (k := 2) (by decide) ⟨rfl, x, 0, rfl, by simp, .inl rfl, hx⟩
  rintro k ρ S' hk ⟨rfl, y, j, rfl, hy, ho, hb⟩
  refine blT_sat (binF_sat (vF_sat (d := .int y) rfl (binF_sat (cF_sat (vF_sat (d := .int m) rfl ⟨.int (0 - m), rfl, .bl (decide (y < 0 - m)), rfl, _, rfl, ?_⟩)))))
  by_cases h1 : y < 0 - m
  · refine NL.ifT (decide_eq_true h1) (setS_sat (binF_sat (vF_sat (d := .int y) rfl (propF_sat (vF_sat (d := TOb al lv b a) rfl ⟨rfl, below1_sat ⟨.int (y + b), rfl, ?_⟩⟩)))))
    cases k with
    | zero => simp at hb; omega
    | succ k =>
      refine ⟨k, rfl, rfl, y + b, j + 1, rfl, by rw [hy, Int.mul_add]; omega, .inr (by omega), ?_⟩
      rw [Int.natCast_add, Int.mul_add] at hb
      simp only [Int.natCast_one, Int.mul_one] at hb
      omega
  · exact NL.ifF (decide_eq_false h1) (h y j hy (by omega) ho)
theorem law_level_sat {d : Int} (K : TOk lv m b a) (d0 : -1000000000 ≤ d) (d1 : d ≤ 1000000000) (h : P (tT (levOf lv m b a d)) S) : (f__law_level [TOb al lv b a, .int d] S).sat P := by
  have K' := K
  obtain ⟨len, m1, m3, b1, bm, a1, am⟩ := K
  obtain ⟨i0, i1⟩ := levIdx_in (d := d) b1 bm a1 am
  have hidx := at_lev (lv := lv) i0 (by omega)
  unfold levOf at h
  -- the end, once the difference is near
  have fin : ∀ x : Int, x ≤ m + a * 2 → 0 - m - b * 2 ≤ x → (∀ y j i : Int, y = x - a * j + b * i → 0 - m ≤ y → y ≤ m → (x ≤ m → 0 - m ≤ x → y = x) → (m < x → m < y + a ∧ y = x - a * j) → (x < 0 - m → y - b < 0 - m ∧ y = x + b * i) → levIdx m b a d = y + m) →
      ((seqS (whileS 10 (blT (binF gtD (vF 1) (vF 2))) (setS 1 (binF subD (vF 1) (propF f_Table_above (isObjK "Table") (vF 0))))) (seqS (whileS 10 (blT (binF ltD (vF 1) (binF subD (cF (.int 0)) (vF 2)))) (setS 1 (binF addD (vF 1) (propF f_Table_below (isObjK "Table") (vF 0))))) (retS (binF idxD (propF f_Table_levels (isObjK "Table") (vF 0)) (binF addD (vF 1) (vF 2)))))) [some (TOb al lv b a), some (.int x), some (.int m)] S).sat fun r S' => match r with
        | (.ret d, _) => P d S'
        | (.nx, _) => P .non S'
        | _ => False := fun x hx hx2 he => by
    refine seqS_sat (down_sat a1 (by omega) hx fun y j hy hym ho => ?_)
    dsimp only
    have hay : 0 - m ≤ y ∨ y = x := by
      rcases ho with e | e
      · exact .inr e
      · left; omega
    have hy2 : 0 - m - b * 2 ≤ y := by
      rcases hay with e | e
      · rcases three b1 (by omega) with rfl | rfl | rfl <;> omega
      · rw [e]; exact hx2
    refine seqS_sat (up_sat (x := y) b1 (by omega) hy2 fun z i hz hzm ho2 => ?_)
    dsimp only
    have hzz : z ≤ m := by rcases ho2 with e | e <;> omega
    have e := he z j i (by rw [hz, hy]) hzm hzz (fun q1 q2 => by rcases ho with e | e <;> rcases ho2 with e2 | e2 <;> omega) (fun q => by
      rcases ho with e | e
      · omega
      · rcases ho2 with e2 | e2
        · exact ⟨by omega, by rw [e2, hy]⟩
        · omega) (fun q => by
      have ey : y = x := by
        rcases ho with e | e
        · exact e
        · rcases three a1 (by omega) with rfl | rfl | rfl <;> omega
      rcases ho2 with e2 | e2
      · omega
      · exact ⟨e2.2, by rw [hz, ey]⟩)
    rw [e] at h hidx
    exact retS_sat (binF_sat (propF_sat (vF_sat (d := TOb al lv b a) rfl ⟨rfl, levels1_sat (binF_sat (vF_sat (d := .int z) rfl (vF_sat (d := .int m) rfl ⟨.int (z + m), rfl, _, hidx, h⟩)))⟩)))
  refine fnF_sat rfl ?_
  unfold b__law_level
  refine seqS_sat (setS_sat (binF_sat (argF_sat (consF_sat (propF_sat (vF_sat (d := TOb al lv b a) rfl ⟨rfl, levels1_sat (nilF_sat ⟨_, rfl, cF_sat ⟨.int m, ?_, ?_⟩⟩)⟩))))))
  · rw [fdiv2, List.length_map, show (lv.length : Int) / 2 = m by omega]
  refine seqS_sat (iteS_sat (blT_sat (binF_sat (vF_sat (d := .int d) rfl (vF_sat (d := .int m) rfl ⟨.bl (decide (m < d)), rfl, _, rfl, ?_⟩)))))
  by_cases h1 : m < d
  · have ex := Int.emod_add_mul_ediv (d - m) a
    have ex1 := Int.emod_nonneg (d - m) (by omega : a ≠ 0)
    have ex2 := Int.emod_lt_of_pos (d - m) (by omega : 0 < a)
    have q0 : 0 ≤ (d - m) / a := Int.ediv_nonneg (by omega) (by omega)
    have q1 : (d - m) / a ≤ d - m := Int.ediv_le_self _ (by omega)
    refine NL.ifT (decide_eq_true h1) (setS_sat (binF_sat (binF_sat (vF_sat (d := .int d) rfl (binF_sat (binF_sat (argF_sat (consF_sat (binF_sat (vF_sat (d := .int d) rfl (vF_sat (d := .int m) rfl ⟨.int (d - m), rfl, nilF_sat ⟨.int (d - m), rfl, ?_⟩⟩))))))))))) 
    refine propF_sat (vF_sat (d := TOb al lv b a) rfl ⟨rfl, above1_sat ⟨.int ((d - m) / a), divP (by omega) (by omega), ?_⟩⟩)
    refine propF_sat (vF_sat (d := TOb al lv b a) rfl ⟨rfl, above1_sat ⟨.int ((d - m) / a * a), mulP (by omega) (by omega) (by omega) (by omega), .int (d - (d - m) / a * a), rfl, ?_⟩⟩)
    refine propF_sat (vF_sat (d := TOb al lv b a) rfl ⟨rfl, above1_sat ⟨.int (d - (d - m) / a * a + a), rfl, ?_⟩⟩)
    have em : (d - m) / a * a = a * ((d - m) / a) := Int.mul_comm _ _
    generalize (d - m) / a * a = ea at em ⊢
    refine seqS_sat (iteS_sat (blT_sat (binF_sat (vF_sat (d := .int (d - ea + a)) rfl (binF_sat (cF_sat (vF_sat (d := .int m) rfl ⟨.int (0 - m), rfl, .bl (decide (d - ea + a < 0 - m)), rfl, _, rfl, NL.ifF (decide_eq_false (by omega)) (nilS_sat ?_)⟩)))))))
    refine fin (d - ea + a) (by omega) (by rcases three b1 (by omega) with rfl | rfl | rfl <;> omega) fun y j i hy y0 y1 c1 c2 c3 => ?_
    obtain ⟨k1, k2⟩ := c2 (by omega)
    rw [show levIdx m b a d = 2 * m - a + 1 + (d - m - 1) % a from if_pos h1]
    rcases three a1 (by omega) with rfl | rfl | rfl <;> omega
  · refine NL.ifF (decide_eq_false h1) (nilS_sat ?_)
    refine seqS_sat (iteS_sat (blT_sat (binF_sat (vF_sat (d := .int d) rfl (binF_sat (cF_sat (vF_sat (d := .int m) rfl ⟨.int (0 - m), rfl, .bl (decide (d < 0 - m)), rfl, _, rfl, ?_⟩)))))))
    by_cases h2 : d < 0 - m
    · have ex := Int.emod_add_mul_ediv (0 - m - d) b
      have ex1 := Int.emod_nonneg (0 - m - d) (by omega : b ≠ 0)
      have ex2 := Int.emod_lt_of_pos (0 - m - d) (by omega : 0 < b)
      have q0 : 0 ≤ (0 - m - d) / b := Int.ediv_nonneg (by omega) (by omega)
      have q1 : (0 - m - d) / b ≤ 0 - m - d := Int.ediv_le_self _ (by omega)
      refine NL.ifT (decide_eq_true h2) (setS_sat (binF_sat (binF_sat (vF_sat (d := .int d) rfl (binF_sat (binF_sat (argF_sat (consF_sat (binF_sat (binF_sat (cF_sat (vF_sat (d := .int m) rfl ⟨.int (0 - m), rfl, vF_sat (d := .int d) rfl ⟨.int (0 - m - d), rfl, nilF_sat ⟨.int (0 - m - d), rfl, ?_⟩⟩⟩))))))))))))
      refine propF_sat (vF_sat (d := TOb al lv b a) rfl ⟨rfl, below1_sat ⟨.int ((0 - m - d) / b), divP (by omega) (by omega), ?_⟩⟩)
      refine propF_sat (vF_sat (d := TOb al lv b a) rfl ⟨rfl, below1_sat ⟨.int ((0 - m - d) / b * b), mulP (by omega) (by omega) (by omega) (by omega), .int (d + (0 - m - d) / b * b), rfl, ?_⟩⟩)
      refine propF_sat (vF_sat (d := TOb al lv b a) rfl ⟨rfl, below1_sat ⟨.int (d + (0 - m - d) / b * b - b), rfl, ?_⟩⟩)
      have em : (0 - m - d) / b * b = b * ((0 - m - d) / b) := Int.mul_comm _ _
      generalize (0 - m - d) / b * b = eb at em ⊢
      refine fin (d + eb - b) (by rcases three a1 (by omega) with rfl | rfl | rfl <;> omega) (by omega) fun y j i hy y0 y1 c1 c2 c3 => ?_
      obtain ⟨k1, k2⟩ := c3 (by omega)
      rw [show levIdx m b a d = b - 1 - (0 - m - 1 - d) % b from (if_neg h1).trans (if_pos h2)]
      rcases three b1 (by omega) with rfl | rfl | rfl <;> omega
    · refine NL.ifF (decide_eq_false h2) (nilS_sat ?_)
      refine fin d (by rcases three a1 (by omega) with rfl | rfl | rfl <;> omega) (by rcases three b1 (by omega) with rfl | rfl | rfl <;> omega) fun y j i hy y0 y1 c1 c2 c3 => ?_
      have e := c1 (by omega) (by omega)
      rw [show levIdx m b a d = d + m from (if_neg h1).trans (if_neg h2), e]
end
/-! x in a table, x == a table -/
structure TxtOk (al : List (List Str)) (lv : List (List (List Str))) : Prop where
  a : ∀ t ∈ al, okTx t
  l : ∀ l ∈ lv, ∀ t ∈ l, okTx t
theorem lev_ok {al : List (List Str)} {lv : List (List (List Str))} {m b a d : Int} (T : TxtOk al lv) : ∀ t ∈ levOf lv m b a d, okTx t := fun t ht => by
  unfold levOf at ht
  rw [List.getD_eq_getElem?_getD] at ht
  cases e : lv[(levIdx m b a d).toNat]? with
  | none => rw [e] at ht; cases ht
  | some l => rw [e] at ht; exact T.l l (List.mem_of_getElem? e) t ht
section
variable {P : D → SrcT → Prop} {S : SrcT} {al : List (List Str)} {lv : List (List (List Str))} {m b a : Int}
/-- a joint state with two kept numbers -/
theorem in_gap {st gp : D} {x y z : Str} {d : Int} (K : TOk lv m b a) (T : TxtOk al lv) (h : Tri SG [x, y, z]) (hs : st = .tup [.str x, .str y, gp] ∨ st = .lst [.str x, .str y, gp]) (hg : gp = .tup [.int d, .str z] ∨ gp = .lst [.int d, .str z]) (hP : P (.bl (decide ([x, y, z] ∈ levOf lv m b a d))) S) : (f_Table___contains__ [TOb al lv b a, st] S).sat P := by
  have q0 : isSq st = some (.bl true) := by rcases hs with rfl | rfl <;> rfl
  have q1 : lenD [st] = some (.int (3 : Nat)) := by rcases hs with rfl | rfl <;> rfl
  have q2 : ∀ i v, atI [.str x, .str y, gp] i = some v → idxD st (.int i) = some v := fun i v e => by rcases hs with rfl | rfl <;> exact e
  have g0 : isSq gp = some (.bl true) := by rcases hg with rfl | rfl <;> rfl
  have g1 : lenD [gp] = some (.int (2 : Nat)) := by rcases hg with rfl | rfl <;> rfl
  have g2 : isStr gp = some (.bl false) := by rcases hg with rfl | rfl <;> rfl
  have i2 := q2 2 gp (atI_nat (j := 2) rfl)
  refine fnF_sat rfl ?_
  unfold b_Table___contains__
  refine seqS_sat (iteS_sat (orT_sat (notT_sat (tstF_sat (unF_sat (vF_sat (d := st) rfl ⟨_, q0, true, rfl, NL.ifF rfl ?_⟩))))))
  refine blT_sat (binF_sat (argF_sat (consF_sat (vF_sat (d := st) rfl (nilF_sat ⟨_, q1, cF_sat ⟨_, eqD_int, _, rfl, NL.ifF (by decide) (nilS_sat ?_)⟩⟩)))))
  refine seqS_sat (iteS_sat (tstF_sat (unF_sat (binF_sat (vF_sat (d := st) rfl (cF_sat ⟨gp, i2, _, g2, false, rfl, NL.ifF rfl (nilS_sat ?_)⟩))))))
  refine seqS_sat (iteS_sat (orT_sat (notT_sat (tstF_sat (unF_sat (binF_sat (vF_sat (d := st) rfl (cF_sat ⟨gp, i2, _, g0, true, rfl, NL.ifF rfl ?_⟩))))))))
  refine blT_sat (binF_sat (argF_sat (consF_sat (binF_sat (vF_sat (d := st) rfl (cF_sat ⟨gp, i2, nilF_sat ⟨_, g1, cF_sat ⟨_, eqD_int, _, rfl, NL.ifF (by decide) (nilS_sat ?_)⟩⟩⟩))))))
  refine seqS_sat (asgS_sat (binF_sat (vF_sat (d := st) rfl (cF_sat ⟨gp, i2, [some (TOb al lv b a), some st, some (.int d), some (.str z), none], by rcases hg with rfl | rfl <;> rfl, ?_⟩))))
  refine seqS_sat (setS_sat (tupF_sat (consF_sat (binF_sat (vF_sat (d := st) rfl (cF_sat ⟨.str x, q2 0 _ (atI_nat (j := 0) rfl), ?_⟩))))))
  refine consF_sat (binF_sat (vF_sat (d := st) rfl (cF_sat ⟨.str y, q2 1 _ (atI_nat (j := 1) rfl), consF_sat (vF_sat (d := .str z) rfl (nilF_sat ?_))⟩)))
  refine retS_sat (andF_sat (unF_sat (vF_sat (d := .int d) rfl ⟨.bl true, rfl, true, rfl, NL.ifT rfl ?_⟩)))
  refine andF_sat (unF_sat (unF_sat (vF_sat (d := .int d) rfl ⟨.bl false, rfl, .bl true, rfl, true, rfl, NL.ifT rfl ?_⟩)))
  obtain ⟨f1, f2⟩ := form_tri (fun z hz => List.mem_append_right _ hz) h (f := tTx) (.inr rfl)
  refine andF_sat (callF_sat (consF_sat (vF_sat (d := tTx [x, y, z]) rfl (consF_sat (cF_sat (nilF_sat (tri_sat (ls := SG) f1 ⟨_, rfl, NL.ifT f2 ?_⟩)))))))
  refine binF_sat (vF_sat (d := tTx [x, y, z]) rfl (methF_sat (vF_sat (d := TOb al lv b a) rfl ⟨rfl, consF_sat (vF_sat (d := .int d) rfl (nilF_sat (level_sat K ?_)))⟩)))
  refine ⟨_, in_tx (ks := levOf lv m b a d) rfl (tri_ok (fun z hz => (words_ok z (by simp only [List.mem_append]; exact .inr hz)).2) h) (lev_ok T), ?_⟩
  exact hP
/-- a joint state without -/
theorem in_alone {t : List Str} (T : TxtOk al lv) (h : Tri GW t) (hP : P (.bl (decide (t ∈ al))) S) : (f_Table___contains__ [TOb al lv b a, tTx t] S).sat P := by
  have h' := h
  obtain ⟨x, y, z, rfl, _⟩ := h
  refine fnF_sat rfl ?_
  unfold b_Table___contains__
  refine seqS_sat (iteS_sat (orT_sat (notT_sat (tstF_sat (unF_sat (vF_sat (d := tTx [x, y, z]) rfl ⟨.bl true, rfl, true, rfl, NL.ifF rfl ?_⟩))))))
  refine blT_sat (binF_sat (argF_sat (consF_sat (vF_sat (d := tTx [x, y, z]) rfl (nilF_sat ⟨.int (3 : Nat), rfl, cF_sat ⟨_, eqD_int, _, rfl, NL.ifF (by decide) (nilS_sat ?_)⟩⟩)))))
  refine seqS_sat (iteS_sat (tstF_sat (unF_sat (binF_sat (vF_sat (d := tTx [x, y, z]) rfl (cF_sat ⟨.str z, atI_nat (j := 2) rfl, .bl true, rfl, true, rfl, NL.ifT rfl ?_⟩))))))
  obtain ⟨f1, f2⟩ := form_tri (fun z hz => List.mem_append_left _ hz) h' (f := tTx) (.inr rfl)
  refine retS_sat (andF_sat (callF_sat (consF_sat (vF_sat (d := tTx [x, y, z]) rfl (consF_sat (cF_sat (nilF_sat (tri_sat (ls := GW) f1 ⟨_, rfl, NL.ifT f2 ?_⟩))))))))
  refine binF_sat (argF_sat (consF_sat (vF_sat (d := tTx [x, y, z]) rfl (nilF_sat ⟨tTx [x, y, z], rfl, fldOF_sat (vF_sat (d := TOb al lv b a) rfl ⟨_, rfl, tT al, rfl, _, in_tx (ks := al) rfl (tri_ok (fun z hz => (words_ok z (by simp only [List.mem_append]; exact .inl (.inr hz))).2) h') T.a, hP⟩)⟩))))
/-! what is in no table -/
theorem no_seq {d : D} (h : isSq d = some (.bl false)) (hP : P (.bl false) S) : (f_Table___contains__ [TOb al lv b a, d] S).sat P := by
  refine fnF_sat rfl ?_
  unfold b_Table___contains__
  exact seqS_sat (iteS_sat (orT_sat (notT_sat (tstF_sat (unF_sat (vF_sat (d := d) rfl ⟨_, h, false, rfl, NL.ifT rfl (NL.ifT rfl (retS_sat (cF_sat hP)))⟩))))))
theorem no_len {ds : List D} (h : ds.length ≠ 3) (hP : P (.bl false) S) : (f_Table___contains__ [TOb al lv b a, .tup ds] S).sat P := by
  refine fnF_sat rfl ?_
  unfold b_Table___contains__
  refine seqS_sat (iteS_sat (orT_sat (notT_sat (tstF_sat (unF_sat (vF_sat (d := .tup ds) rfl ⟨.bl true, rfl, true, rfl, NL.ifF rfl ?_⟩))))))
  refine blT_sat (binF_sat (argF_sat (consF_sat (vF_sat (d := .tup ds) rfl (nilF_sat ⟨_, rfl, cF_sat ⟨_, eqD_int, _, rfl, NL.ifT ?_ (retS_sat (cF_sat hP))⟩⟩)))))
  rw [if_pos rfl, decide_eq_false (by omega)]; rfl
/-- three things, the third no text -/
theorem no_third {x y gp : D} (g2 : isStr gp = some (.bl false)) (hg : (isSq gp = some (.bl false)) ∨ (isSq gp = some (.bl true) ∧ ∃ n : Nat, lenD [gp] = some (.int n) ∧ n ≠ 2)) (hP : P (.bl false) S) : (f_Table___contains__ [TOb al lv b a, .tup [x, y, gp]] S).sat P := by
  refine fnF_sat rfl ?_
  unfold b_Table___contains__
  refine seqS_sat (iteS_sat (orT_sat (notT_sat (tstF_sat (unF_sat (vF_sat (d := .tup [x, y, gp]) rfl ⟨.bl true, rfl, true, rfl, NL.ifF rfl ?_⟩))))))
  refine blT_sat (binF_sat (argF_sat (consF_sat (vF_sat (d := .tup [x, y, gp]) rfl (nilF_sat ⟨.int (3 : Nat), rfl, cF_sat ⟨_, eqD_int, _, rfl, NL.ifF (by decide) (nilS_sat ?_)⟩⟩)))))
  refine seqS_sat (iteS_sat (tstF_sat (unF_sat (binF_sat (vF_sat (d := .tup [x, y, gp]) rfl (cF_sat ⟨gp, atI_nat (j := 2) rfl, _, g2, false, rfl, NL.ifF rfl (nilS_sat ?_)⟩))))))
  rcases hg with g0 | ⟨g0, n, g1, hn⟩
  · exact seqS_sat (iteS_sat (orT_sat (notT_sat (tstF_sat (unF_sat (binF_sat (vF_sat (d := .tup [x, y, gp]) rfl (cF_sat ⟨gp, atI_nat (j := 2) rfl, _, g0, false, rfl, NL.ifT rfl (NL.ifT rfl (retS_sat (cF_sat hP)))⟩))))))))
  · refine seqS_sat (iteS_sat (orT_sat (notT_sat (tstF_sat (unF_sat (binF_sat (vF_sat (d := .tup [x, y, gp]) rfl (cF_sat ⟨gp, atI_nat (j := 2) rfl, _, g0, true, rfl, NL.ifF rfl ?_⟩))))))))
    refine blT_sat (binF_sat (argF_sat (consF_sat (binF_sat (vF_sat (d := .tup [x, y, gp]) rfl (cF_sat ⟨gp, atI_nat (j := 2) rfl, nilF_sat ⟨_, g1, cF_sat ⟨_, eqD_int, _, rfl, NL.ifT ?_ (retS_sat (cF_sat hP))⟩⟩⟩))))))
    rw [if_pos rfl, decide_eq_false (by omega)]; rfl
theorem no_word {x y : D} {z : Str} (h1 : okT (.tup [x, y, .str z]) = true) (h2 : triD GW (.tup [x, y, .str z]) = false) (hP : P (.bl false) S) : (f_Table___contains__ [TOb al lv b a, .tup [x, y, .str z]] S).sat P := by
  refine fnF_sat rfl ?_
  unfold b_Table___contains__
  refine seqS_sat (iteS_sat (orT_sat (notT_sat (tstF_sat (unF_sat (vF_sat (d := .tup [x, y, .str z]) rfl ⟨.bl true, rfl, true, rfl, NL.ifF rfl ?_⟩))))))
  refine blT_sat (binF_sat (argF_sat (consF_sat (vF_sat (d := .tup [x, y, .str z]) rfl (nilF_sat ⟨.int (3 : Nat), rfl, cF_sat ⟨_, eqD_int, _, rfl, NL.ifF (by decide) (nilS_sat ?_)⟩⟩)))))
  refine seqS_sat (iteS_sat (tstF_sat (unF_sat (binF_sat (vF_sat (d := .tup [x, y, .str z]) rfl (cF_sat ⟨.str z, atI_nat (j := 2) rfl, .bl true, rfl, true, rfl, NL.ifT rfl ?_⟩))))))
  exact retS_sat (andF_sat (callF_sat (consF_sat (vF_sat (d := .tup [x, y, .str z]) rfl (consF_sat (cF_sat (nilF_sat (tri_sat (ls := GW) h1 ⟨_, rfl, NL.ifF h2 hP⟩))))))))
theorem no_pair {x y d w : D} (h : isInt d = some (.bl true)) (hb : isBool d = some (.bl true) ∨ isBool d = some (.bl false) ∧ okT (.tup [x, y, w]) = true ∧ triD SG (.tup [x, y, w]) = false) (hP : P (.bl false) S) : (f_Table___contains__ [TOb al lv b a, .tup [x, y, .tup [d, w]]] S).sat P := by
  refine fnF_sat rfl ?_
  unfold b_Table___contains__
  refine seqS_sat (iteS_sat (orT_sat (notT_sat (tstF_sat (unF_sat (vF_sat (d := .tup [x, y, .tup [d, w]]) rfl ⟨.bl true, rfl, true, rfl, NL.ifF rfl ?_⟩))))))
  refine blT_sat (binF_sat (argF_sat (consF_sat (vF_sat (d := .tup [x, y, .tup [d, w]]) rfl (nilF_sat ⟨.int (3 : Nat), rfl, cF_sat ⟨_, eqD_int, _, rfl, NL.ifF (by decide) (nilS_sat ?_)⟩⟩)))))
  refine seqS_sat (iteS_sat (tstF_sat (unF_sat (binF_sat (vF_sat (d := .tup [x, y, .tup [d, w]]) rfl (cF_sat ⟨.tup [d, w], atI_nat (j := 2) rfl, .bl false, rfl, false, rfl, NL.ifF rfl (nilS_sat ?_)⟩))))))
  refine seqS_sat (iteS_sat (orT_sat (notT_sat (tstF_sat (unF_sat (binF_sat (vF_sat (d := .tup [x, y, .tup [d, w]]) rfl (cF_sat ⟨.tup [d, w], atI_nat (j := 2) rfl, .bl true, rfl, true, rfl, NL.ifF rfl ?_⟩))))))))
  refine blT_sat (binF_sat (argF_sat (consF_sat (binF_sat (vF_sat (d := .tup [x, y, .tup [d, w]]) rfl (cF_sat ⟨.tup [d, w], atI_nat (j := 2) rfl, nilF_sat ⟨.int (2 : Nat), rfl, cF_sat ⟨_, eqD_int, _, rfl, NL.ifF (by decide) (nilS_sat ?_)⟩⟩⟩))))))
  refine seqS_sat (asgS_sat (binF_sat (vF_sat (d := .tup [x, y, .tup [d, w]]) rfl (cF_sat ⟨.tup [d, w], atI_nat (j := 2) rfl, [some (TOb al lv b a), some (.tup [x, y, .tup [d, w]]), some d, some w, none], rfl, ?_⟩))))
  refine seqS_sat (setS_sat (tupF_sat (consF_sat (binF_sat (vF_sat (d := .tup [x, y, .tup [d, w]]) rfl (cF_sat ⟨x, atI_nat (j := 0) rfl, ?_⟩))))))
  refine consF_sat (binF_sat (vF_sat (d := .tup [x, y, .tup [d, w]]) rfl (cF_sat ⟨y, atI_nat (j := 1) rfl, consF_sat (vF_sat (d := w) rfl (nilF_sat ?_))⟩)))
  refine retS_sat (andF_sat (unF_sat (vF_sat (d := d) rfl ⟨_, h, true, rfl, NL.ifT rfl ?_⟩)))
  rcases hb with hb | ⟨hb, h1, h2⟩
  · exact andF_sat (unF_sat (unF_sat (vF_sat (d := d) rfl ⟨_, hb, .bl false, rfl, false, rfl, NL.ifF rfl hP⟩)))
  · refine andF_sat (unF_sat (unF_sat (vF_sat (d := d) rfl ⟨_, hb, .bl true, rfl, true, rfl, NL.ifT rfl ?_⟩)))
    exact andF_sat (callF_sat (consF_sat (vF_sat (d := .tup [x, y, w]) rfl (consF_sat (cF_sat (nilF_sat (tri_sat (ls := SG) h1 ⟨_, rfl, NL.ifF h2 hP⟩)))))))
end
/-! equal tables -/
theorem fineTs {ts : List (List Str)} (h : ∀ t ∈ ts, okTx t) : txtD (tT ts) = true ∧ fineN 2 (tT ts) := ⟨by unfold tT; rw [txtD]; exact txt_txs h, fineT_txs h⟩
theorem fineLv {lv : List (List (List Str))} (h : ∀ l ∈ lv, ∀ t ∈ l, okTx t) : txtD (.tup (lv.map tT)) = true ∧ fineN 3 (.tup (lv.map tT)) := by
  refine ⟨?_, fineT (n := 2) fun d hd => ?_⟩
  · rw [txtD]
    refine txt_all fun d hd => ?_
    obtain ⟨l, hl, rfl⟩ := List.mem_map.mp hd
    exact (fineTs (h l hl)).1
  · obtain ⟨l, hl, rfl⟩ := List.mem_map.mp hd
    exact (fineTs (h l hl)).2
theorem tT_inj {a b : List (List Str)} (h : tT a = tT b) : a = b := map_inj0 (fun _ _ => tTx_inj) (D.tup.inj h)
theorem teq_sat {P : Bool → SrcT → Prop} {S : SrcT} {al al' : List (List Str)} {lv lv' : List (List (List Str))} {b a b' a' : Int} (T : TxtOk al lv) (T' : TxtOk al' lv') (h : ∀ r, (r = true ↔ al = al' ∧ lv = lv' ∧ b = b' ∧ a = a') → P r S) : OkEq (isObjK "Table") f_Table___eq__ (TOb al lv b a) (TOb al' lv' b' a') S P := by
  refine OkEq.mk rfl ?_
  refine fnF_sat rfl ?_
  unfold b_Table___eq__
  refine retS_sat (andF_sat (unF_sat (vF_sat (d := TOb al' lv' b' a') rfl ⟨.bl true, rfl, true, rfl, NL.ifT rfl ?_⟩)))
  obtain ⟨r1, e1, i1⟩ := eqD_txt (fineTs T.a).1 (fineTs T'.a).1 ((fineTs T.a).2.mono (by decide)) ((fineTs T'.a).2.mono (by decide))
  obtain ⟨r2, e2, i2⟩ := eqD_txt (fineLv T.l).1 (fineLv T'.l).1 ((fineLv T.l).2.mono (by decide)) ((fineLv T'.l).2.mono (by decide))
  obtain ⟨r3, e3, i3⟩ := eqD_flt (d1 := .tup [.int b, .int a]) (d2 := .tup [.int b', .int a']) rfl rfl
  have j1 : r1 = true ↔ al = al' := i1.trans ⟨tT_inj, fun h => by rw [h]⟩
  have j2 : r2 = true ↔ lv = lv' := i2.trans ⟨fun h => map_inj0 (fun _ _ => tT_inj) (D.tup.inj h), fun h => by rw [h]⟩
  have j3 : r3 = true ↔ b = b' ∧ a = a' := i3.trans ⟨fun h => by injection h with h; injection h with h1 h2; injection h2 with h2 _; injection h1 with h1; injection h2 with h2; exact ⟨h1, h2⟩, fun h => by rw [h.1, h.2]⟩
  refine andF_sat (binF_sat (propF_sat (vF_sat (d := TOb al lv b a) rfl ⟨rfl, alone1_sat (propF_sat (vF_sat (d := TOb al' lv' b' a') rfl ⟨rfl, alone1_sat ⟨_, e1 false, _, rfl, ?_⟩⟩))⟩)))
  rw [if_neg Bool.false_ne_true]
  cases r1 with
  | false => exact NL.ifF rfl ⟨false, rfl, h false ⟨fun e => (nomatch e), fun e => absurd (j1.mpr e.1) Bool.false_ne_true⟩⟩
  | true =>
  refine NL.ifT rfl (andF_sat (binF_sat (propF_sat (vF_sat (d := TOb al lv b a) rfl ⟨rfl, levels1_sat (propF_sat (vF_sat (d := TOb al' lv' b' a') rfl ⟨rfl, levels1_sat ⟨_, e2 false, _, rfl, ?_⟩⟩))⟩))))
  rw [if_neg Bool.false_ne_true]
  cases r2 with
  | false => exact NL.ifF rfl ⟨false, rfl, h false ⟨fun e => (nomatch e), fun e => absurd (j2.mpr e.2.1) Bool.false_ne_true⟩⟩
  | true =>
  refine NL.ifT rfl (binF_sat (fldOF_sat (vF_sat (d := TOb al lv b a) rfl ⟨_, rfl, .tup [.int b, .int a], rfl, fldOF_sat (vF_sat (d := TOb al' lv' b' a') rfl ⟨_, rfl, .tup [.int b', .int a'], rfl, _, e3 false, ?_⟩)⟩)))
  rw [if_neg Bool.false_ne_true]
  exact ⟨r3, rfl, h r3 ⟨fun e => ⟨j1.mp rfl, j2.mp rfl, j3.mp e⟩, fun e => j3.mpr e.2.2⟩⟩
theorem tne_other {P : Bool → SrcT → Prop} {S : SrcT} {al : List (List Str)} {lv : List (List (List Str))} {b a : Int} {ds : List D} (h : P false S) : OkEq (isObjK "Table") f_Table___eq__ (TOb al lv b a) (.tup ds) S P := by
  refine OkEq.mk rfl ?_
  refine fnF_sat rfl ?_
  unfold b_Table___eq__
  exact retS_sat (andF_sat (unF_sat (vF_sat (d := .tup ds) rfl ⟨.bl false, rfl, false, rfl, NL.ifF rfl ⟨false, rfl, h⟩⟩)))
/-! the law's parts -/
theorem metK_nd (ks : List (List Str)) : (metK ks).Nodup := by
  have : ∀ (l acc : List (List Str)), acc.Nodup → (l.foldl metS acc).Nodup := fun l => by
    induction l with
    | nil => exact fun _ h => h
    | cons x l ih =>
      intro acc h
      rw [List.foldl_cons]
      refine ih _ ?_
      unfold metS
      split
      · exact h
      · rename_i hn
        refine List.nodup_append.mpr ⟨h, by simp, fun a ha b hb e => hn (List.any_eq_true.mpr ⟨a, ha, ?_⟩)⟩
        rw [e, List.mem_singleton.mp hb]; simp
  exact this ks [] List.nodup_nil
theorem sortK_mem {ks : List (List Str)} {k : List Str} : k ∈ sortK ks ↔ k ∈ ks := by unfold sortK; rw [List.mem_mergeSort, metK_mem]
theorem sortK_ext {ks ls : List (List Str)} (h : ∀ k, k ∈ ks ↔ k ∈ ls) : sortK ks = sortK ls :=
  sortTx_perm ((List.perm_ext_iff_of_nodup (metK_nd ks) (metK_nd ls)).mpr fun k => by rw [metK_mem, metK_mem, h k])
theorem sortK_rev (ks : List (List Str)) : sortK ks.reverse = sortK ks := sortK_ext fun k => List.mem_reverse
theorem holds_sat {P : D → SrcT → Prop} {S : SrcT} {al : List (List Str)} {lv : List (List (List Str))} {m b a d : Int} (K : TOk lv m b a) (T : TxtOk al lv) (hc : S.c ≤ 900000) (h : ∀ S', S'.c ≤ S.c + 31 → P (.bl true) S') : (f__law_holds_rightly [.src, TOb al lv b a, .int d] S).sat P := by
  refine fnF_sat rfl ?_
  unfold b__law_holds_rightly
  refine seqS_sat (setS_sat (methF_sat (vF_sat (d := TOb al lv b a) rfl ⟨rfl, consF_sat (vF_sat (d := .int d) rfl (nilF_sat (level_sat K ?_)))⟩)))
  refine seqS_sat (forS_sat (seqF_sat (callF_sat (consF_sat (vF_sat (d := .src) rfl (consF_sat (lstF_sat (consF_sat (cF_sat (consF_sat (cF_sat (consF_sat (cF_sat (nilF_sat (consF_sat (cF_sat (nilF_sat ?_)))))))))))))))))
  refine triples_sat (ls := SG) (by decide) (by decide) (by decide) (by decide) (by omega) fun ts S1 hts hl hc1 => ⟨_, rfl, ?_⟩
  refine for_sat (fun i ρ S' => S' = S1 ∧ ∃ v4 v5 : Option D, ρ = [some .src, some (TOb al lv b a), some (.int d), some (tT (levOf lv m b a d)), v4, v5]) ?_ ?_ ⟨rfl, none, none, rfl⟩
  · rintro i x ρ S2 hd ⟨rfl, v4, v5, rfl⟩
    rw [List.getElem?_map] at hd
    obtain ⟨t, ht, rfl⟩ := Option.map_eq_some_iff.mp hd
    have htri := hts t (List.mem_of_getElem? ht)
    have htri' := htri
    obtain ⟨y1, y2, y3, rfl, _⟩ := htri
    have hok := tri_ok (fun z hz => (words_ok z (by simp only [List.mem_append]; exact .inr hz)).2) htri'
    refine ⟨_, rfl, seqS_sat (setS_sat (binF_sat (vF_sat (d := tTx [y1, y2, y3]) rfl (vF_sat (d := tT (levOf lv m b a d)) rfl ⟨_, in_tx (ks := levOf lv m b a d) rfl hok (lev_ok T), ?_⟩))))⟩
    rw [if_neg Bool.false_ne_true]
    have e3 : ∀ {j : Nat} {z : Str}, [D.str y1, .str y2, .str y3][j]? = some (.str z) → idxD (tTx [y1, y2, y3]) (.int (j : Nat)) = some (.str z) := fun h => atI_nat h
    refine seqS_sat (iteS_sat (blT_sat (binF_sat (inOF_sat (tupF_sat (consF_sat (binF_sat (vF_sat (d := tTx [y1, y2, y3]) rfl (cF_sat ⟨.str y1, e3 (j := 0) rfl, ?_⟩)))))))))
    refine consF_sat (binF_sat (vF_sat (d := tTx [y1, y2, y3]) rfl (cF_sat ⟨.str y2, e3 (j := 1) rfl, ?_⟩)))
    refine consF_sat (tupF_sat (consF_sat (vF_sat (d := .int d) rfl (consF_sat (binF_sat (vF_sat (d := tTx [y1, y2, y3]) rfl (cF_sat ⟨.str y3, e3 (j := 2) rfl, nilF_sat (nilF_sat ?_)⟩)))))))
    refine vF_sat (d := TOb al lv b a) rfl ⟨rfl, in_gap K T htri' (.inl rfl) (.inl rfl) ⟨_, rfl, ?_⟩⟩
    refine vF_sat (d := .bl (decide ([y1, y2, y3] ∈ levOf lv m b a d))) rfl ⟨_, eqD_bls true _ _, _, rfl, NL.ifF (by simp) (nilS_sat ?_)⟩
    refine iteS_sat (blT_sat (binF_sat (inOF_sat (lstF_sat (consF_sat (binF_sat (vF_sat (d := tTx [y1, y2, y3]) rfl (cF_sat ⟨.str y1, e3 (j := 0) rfl, ?_⟩))))))))
    refine consF_sat (binF_sat (vF_sat (d := tTx [y1, y2, y3]) rfl (cF_sat ⟨.str y2, e3 (j := 1) rfl, ?_⟩)))
    refine consF_sat (lstF_sat (consF_sat (vF_sat (d := .int d) rfl (consF_sat (binF_sat (vF_sat (d := tTx [y1, y2, y3]) rfl (cF_sat ⟨.str y3, e3 (j := 2) rfl, nilF_sat (nilF_sat ?_)⟩)))))))
    refine vF_sat (d := TOb al lv b a) rfl ⟨rfl, in_gap K T htri' (.inr rfl) (.inr rfl) ⟨_, rfl, ?_⟩⟩
    exact vF_sat (d := .bl (decide ([y1, y2, y3] ∈ levOf lv m b a d))) rfl ⟨_, eqD_bls true _ _, _, rfl, NL.ifF (by simp) (nilS_sat ⟨rfl, _, _, rfl⟩)⟩
  · rintro ρ S2 ⟨rfl, v4, v5, rfl⟩
    exact retS_sat (cF_sat (h _ hc1))
/-! cells -/
def ExtM (M M' : Addr → Option MC) : Prop := ∀ a c, M a = some c → M' a = some c
theorem extM_put {M : Addr → Option MC} {a : Addr} {c : MC} (h : M a = none) : ExtM M (updM M a c) := fun b c' hb => by
  have e : b ≠ a := fun e => by rw [e, h] at hb; cases hb
  rw [updM_ne e]; exact hb
theorem cellLP {M : Addr → Option MC} {a : Addr} {ds : List D} (h : CellL M) : CellL (updM M a (.lst ds)) := fun b c hb => by
  by_cases e : b = a
  · subst e; rw [updM_same] at hb; cases hb; exact ⟨_, rfl⟩
  · rw [updM_ne e] at hb; exact h b c hb
theorem getLL {M : Addr → Option MC} {a b : Addr} {xs ys : List D} (h : M a = some (.lst xs)) : ∃ zs, updM M b (.lst ys) a = some (.lst zs) := by
  by_cases e : a = b
  · subst e; exact ⟨_, updM_same⟩
  · rw [updM_ne e]; exact ⟨_, h⟩
/-- [list(x) for x in xs], each a list of its own -/
theorem cells_sat {α : Type} {φ : α → D} {ct : α → List D} {xs : List α} {j k : Nat} {ρ : NL.Env} {S : SrcT} {P : D → SrcT → Prop} (hj : ρ[j]? = some (some (.lst (xs.map φ)))) (hk : k < ρ.length) (hl : xs.length ≤ 1000) (hct : ∀ x, listD [φ x] = some (.lst (ct x))) (hC : CellL S.m)
    (h : ∀ (a0 : Addr) (L : List (α × Addr)) S', L.map Prod.fst = xs → ExtM S.m S'.m → CellL S'.m → (∀ q ∈ L, S'.m q.2 = some (.lst (ct q.1))) → S'.m a0 = some (.lst (L.map fun q => D.loc q.2)) → S.m a0 = none → S'.c = S.c → P (.loc a0) S') :
    (cellF (lcF [k] (seqF (vF j)) (gN k) yesT (cellF (argF listD (consF (vF k) nilF)))) ρ S).sat P := by
  refine cellF_sat (lcF_sat (seqF_sat (vF_sat hj ⟨_, rfl, by rw [List.length_map]; omega, ?_⟩)))
  refine lc_sat (fun i acc S' => ∃ L : List (α × Addr), L.map Prod.fst = xs.take i ∧ acc = L.map (fun q => D.loc q.2) ∧ ExtM S.m S'.m ∧ CellL S'.m ∧ (∀ q ∈ L, S'.m q.2 = some (.lst (ct q.1))) ∧ S'.c = S.c) ?_ ?_ ⟨[], rfl, rfl, fun _ _ h => h, hC, (fun _ z => nomatch z), rfl⟩
  · rintro i d acc S3 hd ⟨L, hL, rfl, hE, hC3, hR, hc3⟩
    rw [List.getElem?_map] at hd
    obtain ⟨x, hx, rfl⟩ := Option.map_eq_some_iff.mp hd
    have hget : ((wipeE ρ [k]).set k (some (φ x)))[k]? = some (some (φ x)) := by
      rw [List.getElem?_set_self (by simpa [wipeE] using hk)]
    refine ⟨_, rfl, yesT_sat (NL.ifT rfl ?_)⟩
    refine cellF_sat (argF_sat (consF_sat (vF_sat hget (nilF_sat ⟨_, hct x, _, rfl, fun g hg => ?_⟩))))
    have x1 := extM_put (c := .lst (ct x)) hg
    refine ⟨L ++ [(x, g)], by rw [List.map_append, hL, take_snoc hx]; rfl, by rw [List.map_append]; rfl, fun a c h => x1 _ _ (hE a c h), cellLP hC3, fun q hq => ?_, hc3⟩
    rcases List.mem_append.mp hq with hq | hq
    · exact x1 _ _ (hR q hq)
    · rw [List.mem_singleton.mp hq]; exact updM_same
  · rintro acc S3 ⟨L, hL, rfl, hE, hC3, hR, hc3⟩
    rw [List.length_map, List.take_length] at hL
    refine ⟨_, rfl, fun a0 ha0 => ?_⟩
    have x1 := extM_put (c := .lst (L.map fun q => D.loc q.2)) ha0
    refine h a0 L _ hL (fun a c h => x1 _ _ (hE a c h)) (cellLP hC3) (fun q hq => x1 _ _ (hR q hq)) updM_same ?_ hc3
    cases e : S.m a0 with
    | none => rfl
    | some c => rw [hE a0 c e] at ha0; cases ha0
theorem frzLst {n : Nat} {M : Addr → Option MC} {a : Addr} {ds es : List D} (h : M a = some (.lst ds)) (h2 : ds.mapM (frzD n M) = some es) : frzD (n + 1) M (.loc a) = some (.lst es) := by
  unfold frzD
  rw [h]; dsimp only; rw [h2]; rfl
theorem frzStrs {n : Nat} {M : Addr → Option MC} : ∀ zs : List Str, (zs.map D.str).mapM (frzD (n + 1) M) = some (zs.map .str)
  | [] => rfl
  | z :: zs => by rw [List.map_cons, List.mapM_cons, frzStrs zs]; rfl
theorem frzTxs {n : Nat} {M : Addr → Option MC} : ∀ ts : List (List Str), (ts.map tTx).mapM (frzD (n + 1) M) = some (ts.map tTx)
  | [] => rfl
  | t :: ts => by rw [List.map_cons, List.mapM_cons, frzTxs ts]; rfl
theorem frzLocs {α : Type} {n : Nat} {M : Addr → Option MC} {ct : α → List D} : ∀ {L : List (α × Addr)}, (∀ q ∈ L, frzD n M (.loc q.2) = some (.lst (ct q.1))) → (L.map fun q => D.loc q.2).mapM (frzD n M) = some ((L.map Prod.fst).map fun x => .lst (ct x))
  | [], _ => rfl
  | q :: L, h => by
    rw [List.map_cons, List.mapM_cons, h q List.mem_cons_self, frzLocs fun x hx => h x (List.mem_cons_of_mem _ hx)]; rfl
theorem pureStrs (zs : List Str) : pureDs (zs.map .str) = true := by
  induction zs with
  | nil => rfl
  | cons z zs ih => rw [List.map_cons, pureDs, ih]; rfl
theorem pureTxs (ts : List (List Str)) : pureDs (ts.map tTx) = true := by
  induction ts with
  | nil => rfl
  | cons t ts ih =>
    rw [List.map_cons, pureDs, ih, Bool.and_true]
    unfold tTx
    rw [pureD]; exact pureStrs t
theorem pureTs (lv : List (List (List Str))) : pureDs (lv.map tT) = true := by
  induction lv with
  | nil => rfl
  | cons t ts ih =>
    rw [List.map_cons, pureDs, ih, Bool.and_true]
    unfold tT
    rw [pureD]; exact pureTxs t
def TFs (al : List (List Str)) (lv : List (List (List Str))) (b a : Int) : List (Str × D) := [("own_alone", tT al), ("own_levels", .tup (lv.map tT)), ("own_periods", .tup [.int b, .int a])]
theorem tob_pure {al : List (List Str)} {lv : List (List (List Str))} {b a : Int} : oneMut (TFs al lv b a) = true ∧ ∀ t, forgO t (TFs al lv b a) = TFs al lv b a := by
  have h1 : pureD (tT al) = true := by unfold tT; rw [pureD]; exact pureTxs al
  have h2 : pureD (.tup (lv.map tT)) = true := by rw [pureD]; exact pureTs lv
  have h3 : pureD (.tup [.int b, .int a]) = true := by simp [pureD, pureDs]
  refine ⟨?_, fun t => ?_⟩
  · unfold oneMut TFs
    simp only [List.filter_cons, List.filter_nil, h1, h2, h3, Bool.not_true, Bool.false_eq_true, if_false]
  · unfold forgO TFs
    simp only [List.map_cons, List.map_nil, h1, h2, h3, if_true]
/-! the law -/
theorem mkTZ_sat {P : D → SrcT → Prop} {ρ : NL.Env} {S : SrcT} {al : List (List Str)} {lv : List (List (List Str))} {b c : Int} (hC : CellL S.m) (K : LvOk al lv b c) (h8 : (frzE S.m ρ)[8]? = some (some (.lst (al.map lTx)))) (h9 : (frzE S.m ρ)[9]? = some (some (.lst (lv.map lvD)))) (h6 : (frzE S.m ρ)[6]? = some (some (.int b))) (h7 : (frzE S.m ρ)[7]? = some (some (.int c))) (hP : P (TOb (sortK al) (lv.map sortK) b c) S) :
    (liftZ (makeFF "Table" f_Table___init__ (consF (vF 8) (consF (vF 9) (consF (vF 6) (consF (vF 7) nilF))))) ρ S).sat P := by
  refine liftZ_sat hC (mkT_sat K (consF_sat (vF_sat h8 (consF_sat (vF_sat h9 (consF_sat (vF_sat h6 (consF_sat (vF_sat h7 (nilF_sat ⟨lTx, rfl, .inl rfl, ?_⟩))))))))))
  refine ⟨tob_pure.1, fun t => ?_⟩
  have e := (tob_pure (al := sortK al) (lv := lv.map sortK) (b := b) (a := c)).2 t
  unfold TFs at e
  rw [e]
  exact hP
def oddsL : List D := [.non, .tup [], .str "none", .tup [.str "a", .str "a"], .tup [.str "a", .str "a", .non], .tup [.str "a", .str "A", .str "none"], .tup [.str "a", .str "a", .tup [.int 0, .str "x"]], .int 5] ++ [.tup [.str "a", .str "a", .tup [.bl true, .str "="]], .tup [.str "a", .str "a", .tup [.int 0, .str "=", .int 1]], .tup [.str "a", .str "a", .str "none", .str "none"]]
theorem odd_no {P : D → SrcT → Prop} {S : SrcT} {al : List (List Str)} {lv : List (List (List Str))} {b a : Int} {d : D} (hd : d ∈ oddsL) (h : P (.bl false) S) : (f_Table___contains__ [TOb al lv b a, d] S).sat P := by
  simp only [oddsL, List.mem_append, List.mem_cons, List.not_mem_nil, or_false] at hd
  rcases hd with (rfl | rfl | rfl | rfl | rfl | rfl | rfl | rfl) | rfl | rfl | rfl
  · exact no_seq rfl h
  · exact no_len (by decide) h
  · exact no_seq rfl h
  · exact no_len (by decide) h
  · exact no_third rfl (.inl rfl) h
  · exact no_word (by decide +kernel) (by decide +kernel) h
  · exact no_pair rfl (.inr ⟨rfl, by decide +kernel, by decide +kernel⟩) h
  · exact no_seq rfl h
  · exact no_pair rfl (.inl rfl) h
  · exact no_third rfl (.inr ⟨rfl, 3, rfl, by decide⟩) h
  · exact no_len (by decide) h
theorem law_pure : ∀ S : SrcT, S.c = 0 → S.m = (fun _ => none) → (b_law (none :: some .src :: List.replicate 18 none) S).sat fun r _ => ∃ ρ', r = (.ret (.bl true), ρ') := by
  intro S hS hM
  unfold b_law
  rw [show (List.replicate 18 (none : Option D)) = [none, none, none, none, none, none, none, none, none, none, none, none, none, none, none, none, none, none] from rfl]
  with_reducible refine seqS_sat ?_
  refine setS_sat (liftK_sat (callF_sat (consF_sat (vF_sat (d := .src) rfl (consF_sat (lstF_sat (consF_sat (cF_sat (consF_sat (cF_sat (consF_sat (cF_sat (nilF_sat (consF_sat (cF_sat (nilF_sat ?_))))))))))))))))
  refine triples_sat (ls := GW) (by decide) (by decide) (by decide) (by decide) (by omega) fun al S1 hal hall c1 => ?_
  have m1 : ({ S1 with m := S.m } : SrcT).m = fun _ => none := hM
  have d1 : ({ S1 with m := S.m } : SrcT).c ≤ 31 := by show S1.c ≤ 31; omega
  generalize ({ S1 with m := S.m } : SrcT) = T1 at m1 d1 ⊢
  dsimp only [List.set_cons_succ, List.set_cons_zero]
  with_reducible refine seqS_sat ?_
  refine setS_sat (liftK_sat (binF_sat (cF_sat (callF_sat (consF_sat (vF_sat (d := .src) rfl (consF_sat (cF_sat (nilF_sat (draw_sat (by decide) (by decide) (by omega) fun r S2 r0 r1 c2 => ⟨.int (1 + r), rfl, ?_⟩))))))))))
  have m2 : ({ S2 with m := T1.m } : SrcT).m = fun _ => none := m1
  have d2 : ({ S2 with m := T1.m } : SrcT).c ≤ 32 := by show S2.c ≤ 32; omega
  generalize ({ S2 with m := T1.m } : SrcT) = T2 at m2 d2 ⊢
  obtain ⟨m, hm⟩ : ∃ m, m = 1 + r := ⟨_, rfl⟩
  rw [← hm]
  have hm1 : 1 ≤ m := by omega
  have hm3 : m ≤ 3 := by omega
  dsimp only [List.set_cons_succ, List.set_cons_zero]
  with_reducible refine seqS_sat ?_
  -- the levels
  refine setS_sat (lcF_sat (rng1F_sat (consF_sat (liftK_sat (binF_sat (binF_sat (cF_sat (vF_sat (d := .int m) rfl ⟨.int (2 * m), mulP (by omega) (by omega) (by omega) (by omega), cF_sat ⟨.int (2 * m + 1), rfl, nilF_sat ⟨2 * m + 1, rfl, okR_of (by omega) (by omega), by rw [rngD_len]; omega, ?_⟩⟩⟩))))))))
  refine lc_sat (fun i acc S' => ∃ lv : List (List (List Str)), acc = lv.map lvD ∧ lv.length = i ∧ (∀ l ∈ lv, ∀ t ∈ l, Tri SG t) ∧ (∀ l ∈ lv, l.length ≤ 4) ∧ S'.c ≤ T2.c + 31 * i ∧ S'.m = fun _ => none) ?_ ?_ ⟨[], rfl, rfl, (fun _ z => nomatch z), (fun _ z => nomatch z), by show T2.c ≤ _; omega, m2⟩
  · rintro i d acc S3 hd ⟨lv, rfl, hl, h1, h2, c3, m3⟩
    obtain ⟨hi, rfl⟩ := rngD_at hd
    refine ⟨_, rfl, yesT_sat (NL.ifT rfl ?_)⟩
    refine callK_sat (consF_sat (vF_sat (d := .src) rfl (consF_sat (lstF_sat (consF_sat (cF_sat (consF_sat (cF_sat (consF_sat (cF_sat (nilF_sat (consF_sat (cF_sat (nilF_sat ?_))))))))))))))
    refine triples_sat (ls := SG) (by decide) (by decide) (by decide) (by decide) (by omega) fun ts S4 hts htl c4 => ?_
    refine ⟨lv ++ [ts], by rw [List.map_append]; rfl, by rw [List.length_append, hl]; rfl, fun l hl => ?_, fun l hl => ?_, by show S4.c ≤ _; omega, m3⟩
    · rcases List.mem_append.mp hl with q | q
      · exact h1 l q
      · rw [List.mem_singleton.mp q]; exact hts
    · rcases List.mem_append.mp hl with q | q
      · exact h2 l q
      · rw [List.mem_singleton.mp q]; omega
  rintro acc S3 ⟨lv, rfl, hl, hlv, hlv4, c3, m3⟩
  rw [rngD_len] at hl c3
  have d3 : S3.c ≤ 300 := by omega
  have hlm : (lv.length : Int) = 2 * m + 1 := by omega
  dsimp only [List.set_cons_succ, List.set_cons_zero]
  with_reducible refine seqS_sat ?_
  -- the periods
  refine parS_sat (consF_sat (liftK_sat (binF_sat (cF_sat (callF_sat (consF_sat (vF_sat (d := .src) rfl (consF_sat (vF_sat (d := .int m) rfl (nilF_sat (draw_sat (by omega) (by omega) (by omega) fun rb S4 rb0 rb1 c4 => ⟨.int (1 + rb), rfl, ?_⟩)))))))))))
  have m4 : ({ S4 with m := S3.m } : SrcT).m = fun _ => none := m3
  have d4 : ({ S4 with m := S3.m } : SrcT).c ≤ 301 := by show S4.c ≤ 301; omega
  generalize ({ S4 with m := S3.m } : SrcT) = T4 at m4 d4 ⊢
  refine consF_sat (liftK_sat (binF_sat (cF_sat (callF_sat (consF_sat (vF_sat (d := .src) rfl (consF_sat (vF_sat (d := .int m) rfl (nilF_sat (draw_sat (by omega) (by omega) (by omega) fun ra S5 ra0 ra1 c5 => ⟨.int (1 + ra), rfl, nilF_sat ⟨_, _, rfl, ?_⟩⟩))))))))))
  have m5 : ({ S5 with m := T4.m } : SrcT).m = fun _ => none := m4
  have d5 : ({ S5 with m := T4.m } : SrcT).c ≤ 302 := by show S5.c ≤ 302; omega
  generalize ({ S5 with m := T4.m } : SrcT) = T5 at m5 d5 ⊢
  obtain ⟨b, hb⟩ : ∃ b, b = 1 + rb := ⟨_, rfl⟩
  obtain ⟨a, ha⟩ : ∃ a, a = 1 + ra := ⟨_, rfl⟩
  rw [← hb, ← ha]
  have hb1 : 1 ≤ b := by omega
  have hbm : b ≤ m := by omega
  have ha1 : 1 ≤ a := by omega
  have ham : a ≤ m := by omega
  clear hb ha
  dsimp only [List.set_cons_succ, List.set_cons_zero]
  with_reducible refine seqS_sat ?_
  -- what is passed
  have hC5 : CellL T5.m := fun a c h => by rw [m5] at h; cases h
  refine parS_sat (consF_sat (cells_sat (φ := tTx) (ct := fun t => t.map D.str) (xs := al) rfl (by show (10 : Nat) < 20; decide) (by omega) (fun _ => rfl) hC5 fun a0 La S6 hLa hE6 hC6 hR6 hA6 hn6 c6 => ?_))
  refine consF_sat (cells_sat (φ := lvD) (ct := fun l => l.map tTx) (xs := lv) rfl (by show (11 : Nat) < 20; decide) (by omega) (fun _ => rfl) hC6 fun b0 Lb S7 hLb hE7 hC7 hR7 hB7 hn7 c7 => nilF_sat ⟨_, _, rfl, ?_⟩)
  have hab : b0 ≠ a0 := fun e => by rw [e, hA6] at hn7; cases hn7
  have hA7 := hE7 _ _ hA6
  have hfa : frzD 10 S7.m (.loc a0) = some (.lst (al.map lTx)) := frzLst hA7 (by
    rw [frzLocs (n := 9) (ct := fun t => t.map D.str) (fun q hq => frzLst (n := 8) (hE7 _ _ (hR6 q hq)) (frzStrs (n := 7) _)), hLa]; rfl)
  have hfb : frzD 10 S7.m (.loc b0) = some (.lst (lv.map lvD)) := frzLst hB7 (by
    rw [frzLocs (n := 9) (ct := fun l => l.map tTx) (fun q hq => frzLst (n := 8) (hR7 q hq) (frzTxs (n := 7) _)), hLb]; rfl)
  have hLv : LvOk al lv b a := ⟨hal, by omega, hlv, fun l hl => by have := hlv4 l hl; omega, m, hlm, hm1, hm3, hb1, hbm, ha1, ham⟩
  have d7 : S7.c ≤ 302 := by omega
  dsimp only [List.set_cons_succ, List.set_cons_zero]
  with_reducible refine seqS_sat ?_
  refine setS_sat (mkTZ_sat hC7 hLv ?_ ?_ rfl rfl ?_)
  · show some (frzD 10 S7.m (.loc a0)) = _
    rw [hfa]
  · show some (frzD 10 S7.m (.loc b0)) = _
    rw [hfb]
  dsimp only [List.set_cons_succ, List.set_cons_zero]
  -- later changes of what was passed
  with_reducible refine seqS_sat ?_
  refine exprS_sat (clrMF_sat (vF_sat (d := .loc a0) rfl ⟨a0, _, rfl, hA7, ?_⟩))
  have hB8 : (S7.put a0 (.lst [])).m b0 = some (.lst (Lb.map fun q => D.loc q.2)) := (updM_ne hab).trans hB7
  obtain ⟨q0, L', hq0⟩ : ∃ q0 L', Lb = q0 :: L' := by
    cases Lb with
    | nil => rw [List.map_nil] at hLb; rw [← hLb] at hlm; simp at hlm; omega
    | cons q l => exact ⟨q, l, rfl⟩
  subst hq0
  have hq8 : ∃ zs, (S7.put a0 (.lst [])).m q0.2 = some (.lst zs) := getLL (hR7 q0 List.mem_cons_self)
  have d8 : (S7.put a0 (.lst [])).c ≤ 302 := d7
  generalize S7.put a0 (.lst []) = T8 at hB8 hq8 d8 ⊢
  obtain ⟨zs8, hq8⟩ := hq8
  dsimp only
  with_reducible refine seqS_sat ?_
  refine exprS_sat (clrMF_sat (idxMF_sat (vF_sat (d := .loc b0) rfl (cF_sat ⟨b0, 0, _, .loc q0.2, rfl, rfl, hB8, atI_nat (j := 0) rfl, q0.2, _, rfl, hq8, ?_⟩))))
  have hB9 : ∃ zs, (T8.put q0.2 (.lst [])).m b0 = some (.lst zs) := getLL hB8
  have d9 : (T8.put q0.2 (.lst [])).c ≤ 302 := d8
  generalize T8.put q0.2 (.lst []) = T9 at hB9 d9 ⊢
  obtain ⟨zs9, hB9⟩ := hB9
  dsimp only
  with_reducible refine seqS_sat ?_
  refine exprS_sat (clrMF_sat (vF_sat (d := .loc b0) rfl ⟨b0, _, rfl, hB9, ?_⟩))
  have d10 : (T9.put b0 (.lst [])).c ≤ 302 := d9
  generalize T9.put b0 (.lst []) = T10 at d10 ⊢
  dsimp only
  -- what the table tells
  have okg : ∀ z ∈ GW, PyData.strOk z = true := fun z hz => (words_ok z (by simp only [List.mem_append]; exact .inl (.inr hz))).2
  have oks : ∀ z ∈ SG, PyData.strOk z = true := fun z hz => (words_ok z (by simp only [List.mem_append]; exact .inr hz)).2
  have hal2 : ∀ t ∈ al, okTx t := fun t ht => tri_ok okg (hal t ht)
  have hlv2 : ∀ l ∈ lv, ∀ t ∈ l, okTx t := fun l hl t ht => tri_ok oks (hlv l hl t ht)
  have hT : TxtOk (sortK al) (lv.map sortK) := ⟨fun t ht => hal2 t (sortK_mem.mp ht), fun l hl t ht => by
    obtain ⟨l', hl', rfl⟩ := List.mem_map.mp hl
    exact hlv2 l' hl' t (sortK_mem.mp ht)⟩
  have hK : TOk (lv.map sortK) m b a := ⟨by rw [List.length_map]; exact hlm, hm1, hm3, hb1, hbm, ha1, ham⟩
  with_reducible refine seqS_sat ?_
  refine iteS_sat (orT_sat (liftT_sat (blT_sat (binF_sat (propF_sat (vF_sat (d := TOb (sortK al) (lv.map sortK) b a) rfl ⟨rfl, alone1_sat (callF_sat (consF_sat (vF_sat (d := .lst (al.map tTx)) rfl (nilF_sat (ascending_sat (by omega) (fun t ht => tri_ne (hal t ht)) hal2 ⟨_, eqD_same rfl ((fineTs hT.a).2.mono (by decide)), _, rfl, NL.ifF rfl ?_⟩)))))⟩))))))
  refine liftT_sat (blT_sat (binF_sat (lstF_sat (consF_sat (propF_sat (vF_sat (d := TOb (sortK al) (lv.map sortK) b a) rfl ⟨rfl, below1_sat (consF_sat (propF_sat (vF_sat (d := TOb (sortK al) (lv.map sortK) b a) rfl ⟨rfl, above1_sat (nilF_sat ?_)⟩)))⟩)))))) 
  refine lstF_sat (consF_sat (vF_sat (d := .int b) rfl (consF_sat (vF_sat (d := .int a) rfl (nilF_sat ⟨_, eqD_same rfl ((fineLI [b, a]).mono (by decide)), _, rfl, NL.ifF rfl (nilS_sat ?_)⟩)))))
  dsimp only
  with_reducible refine seqS_sat ?_
  refine iteS_sat (liftT_sat (blT_sat (binF_sat (propF_sat (vF_sat (d := TOb (sortK al) (lv.map sortK) b a) rfl ⟨rfl, levels1_sat (argF_sat (consF_sat (lcF_sat (seqF_sat (vF_sat (d := .lst (lv.map lvD)) rfl ⟨_, rfl, by rw [List.length_map]; omega, ?_⟩)))))⟩)))))
  refine lc_mapM (φ := lvD) (xs := lv) (fun l => tT (sortK l)) (fun l hl => ⟨_, rfl, yesT_sat ⟨rfl, rfl⟩, ?_⟩) ?_
  · exact callF_sat (consF_sat (vF_sat (d := lvD l) rfl (nilF_sat (ascending_sat (by have := hlv4 l hl; omega) (fun t ht => tri_ne (hlv l hl t ht)) (hlv2 l hl) ⟨rfl, rfl⟩))))
  refine nilF_sat ⟨.tup (lv.map fun l => tT (sortK l)), rfl, _, eqD_same (by rw [List.map_map]; rfl) ((fineLv hT.l).2.mono (by decide)), _, rfl, NL.ifF rfl (nilS_sat ?_)⟩
  dsimp only
  with_reducible refine seqS_sat ?_
  -- far away
  refine setS_sat (liftK_sat (lstF_sat (consF_sat (binF_sat (binF_sat (cF_sat (cF_sat ⟨.int 100000000000000000000, rfl, vF_sat (d := .int b) rfl ⟨.int (100000000000000000000 + b), rfl, ?_⟩⟩)))))))
  refine consF_sat (binF_sat (binF_sat (cF_sat (binF_sat (cF_sat (cF_sat ⟨.int 100000000000000000000, rfl, .int (0 - 100000000000000000000), rfl, vF_sat (d := .int a) rfl ⟨.int (0 - 100000000000000000000 - a), rfl, ?_⟩⟩))))))
  refine consF_sat (binF_sat (cF_sat (cF_sat ⟨.int 10000000000000000000000000000000000000000, rfl, nilF_sat ?_⟩)))
  dsimp only [List.set_cons_succ, List.set_cons_zero]
  generalize hf1 : (100000000000000000000 + b : Int) = f1
  generalize hf2 : (0 - 100000000000000000000 - a : Int) = f2
  generalize hf3 : (10000000000000000000000000000000000000000 : Int) = f3
  clear hf1 hf2 hf3
  have d11 : ({ T10 with m := T10.m } : SrcT).c ≤ 302 := d10
  generalize ({ T10 with m := T10.m } : SrcT) = T11 at d11 ⊢
  with_reducible refine seqS_sat ?_
  refine forS_sat (seqF_sat (liftK_sat (binF_sat (lstRg2F_sat (binF_sat (binF_sat (cF_sat (vF_sat (d := .int m) rfl ⟨.int (0 - m), rfl, cF_sat ⟨.int (0 - m - 9), rfl, ?_⟩⟩))))))))
  refine binF_sat (vF_sat (d := .int m) rfl (cF_sat ⟨.int (m + 10), rfl, 0 - m - 9, m + 10, rfl, rfl, okR_of (by omega) (by omega), okR_of (by omega) (by omega), by omega, ?_⟩))
  refine vF_sat (d := .lst [.int f1, .int f2, .int f3]) rfl ⟨.lst (rngD (0 - m - 9) (m + 10 - (0 - m - 9)).toNat ++ [.int f1, .int f2, .int f3]), ?_, _, rfl, ?_⟩
  · show (if _ then _ else _) = _
    rw [if_pos (by rw [rngD_len]; show _ + 3 ≤ _; omega)]
  have hll : (rngD (0 - m - 9) (m + 10 - (0 - m - 9)).toNat ++ [D.int f1, .int f2, .int f3]).length ≤ 28 := by rw [List.length_append, rngD_len]; show _ + 3 ≤ _; omega
  have hli : ∀ d ∈ rngD (0 - m - 9) (m + 10 - (0 - m - 9)).toNat ++ [D.int f1, .int f2, .int f3], ∃ e, d = .int e := fun d hd => by
    rcases List.mem_append.mp hd with q | q
    · unfold rngD at q
      obtain ⟨k, _, rfl⟩ := List.mem_map.mp q
      exact ⟨_, rfl⟩
    · simp only [List.mem_cons, List.not_mem_nil, or_false] at q
      rcases q with rfl | rfl | rfl <;> exact ⟨_, rfl⟩
  generalize rngD (0 - m - 9) (m + 10 - (0 - m - 9)).toNat ++ [D.int f1, .int f2, .int f3] = xs at hll hli ⊢
  refine for_sat (fun i ρ S' => S'.c ≤ 302 + 31 * i ∧ ∃ v14 v15 : Option D, ρ = [none, some .src, some (.lst (al.map tTx)), some (.int m), some (.lst (lv.map lvD)), none, some (.int b), some (.int a), some (.loc a0), some (.loc b0), none, none, some (TOb (sortK al) (lv.map sortK) b a), some (.lst [.int f1, .int f2, .int f3]), v14, v15, none, none, none, none]) ?_ ?_ ⟨d11, none, none, rfl⟩
  · rintro i d ρ S' hd ⟨ci, v14, v15, rfl⟩
    have hil : i < xs.length := (List.getElem?_eq_some_iff.mp hd).1
    obtain ⟨e, rfl⟩ := hli d (List.mem_of_getElem? hd)
    refine ⟨_, rfl, ?_⟩
    dsimp only [List.set_cons_succ, List.set_cons_zero]
    with_reducible refine seqS_sat ?_
    refine setS_sat (liftK_sat (methF_sat (vF_sat (d := TOb (sortK al) (lv.map sortK) b a) rfl ⟨rfl, consF_sat (vF_sat (d := .int e) rfl (nilF_sat (level_sat hK ?_)))⟩)))
    dsimp only [List.set_cons_succ, List.set_cons_zero]
    obtain ⟨n1, n2, n3⟩ := lev_near (d := e) hK
    have nl : levOf (lv.map sortK) m b a (nearI b a e) = levOf (lv.map sortK) m b a e := by unfold levOf; rw [n1]
    with_reducible refine seqS_sat ?_
    refine iteS_sat (orT_sat (notT_sat (liftT_sat (tstF_sat (unF_sat (vF_sat (d := tT (levOf (lv.map sortK) m b a e)) rfl ⟨.bl true, rfl, true, rfl, NL.ifF rfl ?_⟩))))))
    refine liftT_sat (blT_sat (binF_sat (vF_sat (d := tT (levOf (lv.map sortK) m b a e)) rfl (callF_sat (consF_sat (vF_sat (d := TOb (sortK al) (lv.map sortK) b a) rfl (consF_sat (callF_sat (consF_sat (vF_sat (d := .int e) rfl (consF_sat (vF_sat (d := .int b) rfl (consF_sat (vF_sat (d := .int a) rfl (nilF_sat ?_)))))))))))))))
    refine near_sat hb1 (by omega) ha1 (by omega) (nilF_sat (law_level_sat hK n2 n3 ?_))
    rw [nl]
    refine ⟨_, eqD_same rfl ((fineTs (lev_ok hT)).2.mono (by decide)), _, rfl, NL.ifF rfl (nilS_sat ?_)⟩
    dsimp only
    refine iteS_sat (notT_sat (liftT_sat (tstF_sat (callF_sat (consF_sat (vF_sat (d := .src) rfl (consF_sat (vF_sat (d := TOb (sortK al) (lv.map sortK) b a) rfl (consF_sat (vF_sat (d := .int e) rfl (nilF_sat ?_)))))))))))
    refine holds_sat hK hT (by show S'.c ≤ _; omega) fun S9 c9 => ⟨true, rfl, NL.ifF rfl (nilS_sat ?_)⟩
    exact ⟨by have c9 : S9.c ≤ S'.c + 31 := c9; show S9.c ≤ _; omega, _, _, rfl⟩
  rintro ρ S12 ⟨d12, v14, v15, rfl⟩
  have d12 : S12.c ≤ 2000 := by omega
  dsimp only
  -- joint states without two kept numbers
  with_reducible refine seqS_sat ?_
  refine forS_sat (seqF_sat (liftK_sat (callF_sat (consF_sat (vF_sat (d := .src) rfl (consF_sat (lstF_sat (consF_sat (cF_sat (consF_sat (cF_sat (consF_sat (cF_sat (nilF_sat (consF_sat (cF_sat (nilF_sat ?_)))))))))))))))))
  refine triples_sat (ls := GW) (by decide) (by decide) (by decide) (by decide) (by omega) fun ts S13 hts htl c13 => ⟨_, rfl, ?_⟩
  refine for_sat (fun i ρ S' => ∃ v10 : Option D, ρ = [none, some .src, some (.lst (al.map tTx)), some (.int m), some (.lst (lv.map lvD)), none, some (.int b), some (.int a), some (.loc a0), some (.loc b0), v10, none, some (TOb (sortK al) (lv.map sortK) b a), some (.lst [.int f1, .int f2, .int f3]), v14, v15, none, none, none, none]) ?_ ?_ ⟨none, rfl⟩
  · rintro i d ρ S' hd ⟨v10, rfl⟩
    rw [List.getElem?_map] at hd
    obtain ⟨t, ht, rfl⟩ := Option.map_eq_some_iff.mp hd
    have htt := hts t (List.mem_of_getElem? ht)
    refine ⟨_, rfl, ?_⟩
    dsimp only [List.set_cons_succ, List.set_cons_zero]
    refine iteS_sat (liftT_sat (blT_sat (binF_sat (inOF_sat (vF_sat (d := tTx t) rfl (vF_sat (d := TOb (sortK al) (lv.map sortK) b a) rfl ⟨rfl, in_alone hT htt ⟨_, rfl, ?_⟩⟩))))))
    refine binF_sat (vF_sat (d := tTx t) rfl (vF_sat (d := .lst (al.map tTx)) rfl ⟨_, in_tx (ks := al) rfl (tri_ok okg htt) hal2, _, eqD_bls true _ _, _, rfl, NL.ifF ?_ (nilS_sat ⟨_, rfl⟩)⟩))
    rw [if_neg Bool.false_ne_true, if_neg Bool.false_ne_true, if_pos rfl, show decide (t ∈ sortK al) = decide (t ∈ al) from decide_eq_decide.mpr sortK_mem]
    simp
  rintro ρ S14 ⟨v10, rfl⟩
  dsimp only
  -- what is in no table
  with_reducible refine seqS_sat ?_
  refine setS_sat (liftK_sat (lstF_sat (consF_sat (cF_sat (consF_sat (tupF_sat (nilF_sat (consF_sat (cF_sat ?_)))))))))
  refine consF_sat (tupF_sat (consF_sat (cF_sat (consF_sat (cF_sat (nilF_sat ?_))))))
  refine consF_sat (tupF_sat (consF_sat (cF_sat (consF_sat (cF_sat (consF_sat (cF_sat (nilF_sat ?_))))))))
  refine consF_sat (tupF_sat (consF_sat (cF_sat (consF_sat (cF_sat (consF_sat (cF_sat (nilF_sat ?_))))))))
  refine consF_sat (tupF_sat (consF_sat (cF_sat (consF_sat (cF_sat (consF_sat (tupF_sat (consF_sat (cF_sat (consF_sat (cF_sat (nilF_sat (nilF_sat ?_)))))))))))))
  refine consF_sat (cF_sat (nilF_sat ?_))
  dsimp only [List.set_cons_succ, List.set_cons_zero]
  with_reducible refine seqS_sat ?_
  refine setS_sat (liftK_sat (binF_sat (vF_sat rfl (lstF_sat (consF_sat (tupF_sat (consF_sat (cF_sat (consF_sat (cF_sat (consF_sat (tupF_sat (consF_sat (cF_sat (consF_sat (cF_sat (nilF_sat (nilF_sat ?_))))))))))))))))))
  refine consF_sat (tupF_sat (consF_sat (cF_sat (consF_sat (cF_sat (consF_sat (tupF_sat (consF_sat (cF_sat (consF_sat (cF_sat (consF_sat (cF_sat (nilF_sat (nilF_sat ?_)))))))))))))))
  refine consF_sat (tupF_sat (consF_sat (cF_sat (consF_sat (cF_sat (consF_sat (cF_sat (consF_sat (cF_sat (nilF_sat (nilF_sat ⟨.lst oddsL, rfl, ?_⟩)))))))))))
  dsimp only [List.set_cons_succ, List.set_cons_zero]
  with_reducible refine seqS_sat ?_
  refine iteS_sat (orT_sat (liftT_sat (tstF_sat (argF_sat (consF_sat (lcF_sat (seqF_sat (vF_sat (d := .lst oddsL) rfl ⟨_, rfl, by decide, ?_⟩))))))))
  rw [show oddsL = oddsL.map id by simp]
  refine lc_mapM (φ := id) (xs := oddsL) (fun _ => .bl false) (fun d hd => ⟨_, rfl, yesT_sat ⟨rfl, rfl⟩, ?_⟩) ?_
  · exact inOF_sat (vF_sat (d := d) rfl (vF_sat (d := TOb (sortK al) (lv.map sortK) b a) rfl ⟨rfl, odd_no hd ⟨false, rfl, rfl, rfl⟩⟩))
  refine nilF_sat ⟨.bl false, rfl, false, rfl, NL.ifF rfl ?_⟩
  refine liftT_sat (blT_sat (eqOF_sat (vF_sat (d := TOb (sortK al) (lv.map sortK) b a) rfl (tupF_sat (consF_sat (vF_sat (d := .lst (al.map tTx)) rfl (consF_sat (vF_sat (d := .lst (lv.map lvD)) rfl (consF_sat (vF_sat (d := .int b) rfl (consF_sat (vF_sat (d := .int a) rfl (nilF_sat (tne_other ⟨_, rfl, NL.ifF rfl (nilS_sat ?_)⟩))))))))))))))
  rw [show oddsL.map id = oddsL by simp]
  dsimp only
  -- the twin and the last
  with_reducible refine seqS_sat ?_
  have hlr : LvOk al.reverse (lv.map List.reverse) b a := ⟨fun t ht => hal t (List.mem_reverse.mp ht), by rw [List.length_reverse]; omega, fun l hl t ht => by
    obtain ⟨l', hl', rfl⟩ := List.mem_map.mp hl
    exact hlv l' hl' t (List.mem_reverse.mp ht), fun l hl => by
    obtain ⟨l', hl', rfl⟩ := List.mem_map.mp hl
    rw [List.length_reverse]; have := hlv4 l' hl'; omega, m, by rw [List.length_map]; exact hlm, hm1, hm3, hb1, hbm, ha1, ham⟩
  refine setS_sat (liftK_sat (mkT_sat hlr (consF_sat (revF_sat (vF_sat (d := .lst (al.map tTx)) rfl ⟨_, rfl, consF_sat (lcF_sat (seqF_sat (vF_sat (d := .lst (lv.map lvD)) rfl ⟨_, rfl, by rw [List.length_map]; omega, ?_⟩)))⟩)))))
  refine lc_mapM (φ := lvD) (xs := lv) (fun l => lvD l.reverse) (fun l hl => ⟨_, rfl, yesT_sat ⟨rfl, rfl⟩, ?_⟩) ?_
  · exact revF_sat (vF_sat (d := lvD l) rfl ⟨_, rfl, by unfold lvD; rw [List.map_reverse], rfl⟩)
  refine consF_sat (vF_sat (d := .int b) rfl (consF_sat (vF_sat (d := .int a) rfl (nilF_sat ⟨tTx, by rw [List.map_reverse, List.map_map]; rfl, .inr rfl, ?_⟩))))
  rw [sortK_rev, List.map_map, show (sortK ∘ List.reverse) = sortK from funext sortK_rev]
  dsimp only [List.set_cons_succ, List.set_cons_zero]
  with_reducible refine seqS_sat ?_
  have hm0 := Int.emod_nonneg a (by omega : m ≠ 0)
  have hmm := Int.emod_lt_of_pos a (by omega : 0 < m)
  have hll : LvOk al lv b (1 + a % m) := ⟨hal, by omega, hlv, fun l hl => by have := hlv4 l hl; omega, m, hlm, hm1, hm3, hb1, hbm, by omega, by omega⟩
  refine setS_sat (liftK_sat (mkT_sat hll (consF_sat (vF_sat (d := .lst (al.map tTx)) rfl (consF_sat (vF_sat (d := .lst (lv.map lvD)) rfl (consF_sat (vF_sat (d := .int b) rfl (consF_sat (binF_sat (cF_sat (binF_sat (vF_sat (d := .int a) rfl (vF_sat (d := .int m) rfl ⟨.int (a % m), modP (by omega), .int (1 + a % m), rfl, nilF_sat ⟨tTx, rfl, .inr rfl, ?_⟩⟩))))))))))))))
  dsimp only [List.set_cons_succ, List.set_cons_zero]
  refine retS_sat (liftK_sat (andF_sat (eqOF_sat (vF_sat (d := TOb (sortK al) (lv.map sortK) b a) rfl (vF_sat (d := TOb (sortK al) (lv.map sortK) b a) rfl (teq_sat hT hT fun r hr => ?_))))))
  have hrt : r = true := hr.mpr ⟨rfl, rfl, rfl, rfl⟩
  subst hrt
  refine ⟨true, rfl, NL.ifT rfl (andF_sat (unF_sat (eqOF_sat (vF_sat (d := TOb (sortK al) (lv.map sortK) b a) rfl (vF_sat (d := TOb (sortK al) (lv.map sortK) b a) rfl (teq_sat hT hT fun r hr => ?_))))))⟩
  have hrt : r = true := hr.mpr ⟨rfl, rfl, rfl, rfl⟩
  subst hrt
  refine ⟨.bl true, rfl, true, rfl, NL.ifT rfl ?_⟩
  refine binF_sat (eqOF_sat (vF_sat (d := TOb (sortK al) (lv.map sortK) b a) rfl (vF_sat (d := TOb (sortK al) (lv.map sortK) b (1 + a % m)) rfl (teq_sat hT hT fun r hr => ?_))))
  refine binF_sat (vF_sat (d := .int a) rfl (binF_sat (cF_sat (binF_sat (vF_sat (d := .int a) rfl (vF_sat (d := .int m) rfl ⟨.int (a % m), modP (by omega), .int (1 + a % m), rfl, _, eqD_int, .bl true, ?_, _, rfl⟩))))))
  have e : r = decide (a = 1 + a % m) := by
    rw [Bool.eq_iff_iff, hr, decide_eq_true_eq]
    exact ⟨fun h => h.2.2.2, fun h => ⟨rfl, rfl, rfl, h⟩⟩
  rw [if_neg Bool.false_ne_true, if_neg Bool.false_ne_true, eqD_bls, if_neg Bool.false_ne_true, e]
  simp
def topS (i : Nat) : Stmt := PySem.Challenge.pw_nearloops_k50_tables.main.body.getD i (.Pass ⟨0, 0, 0, 0⟩)
abbrev s_is_name : Stmt := topS 5
abbrev N_is_name : List Str := ["value", "sign"]
theorem sc_is_name : FnScope N_is_name ["value"] (defScope s_is_name) := ⟨rfl, rfl, rfl, by decide +kernel, rfl, by decide +kernel, by decide +kernel⟩
abbrev s_is_triple : Stmt := topS 9
abbrev N_is_triple : List Str := ["value", "lasts"]
theorem sc_is_triple : FnScope N_is_triple ["value", "lasts"] (defScope s_is_triple) := ⟨rfl, rfl, rfl, by decide +kernel, rfl, by decide +kernel, by decide +kernel⟩
abbrev s_are_triples : Stmt := topS 10
abbrev N_are_triples : List Str := ["value", "lasts", "one"]
theorem sc_are_triples : FnScope N_are_triples ["value", "lasts"] (defScope s_are_triples) := ⟨rfl, rfl, rfl, by decide +kernel, rfl, by decide +kernel, by decide +kernel⟩
abbrev s_is_period : Stmt := topS 11
abbrev N_is_period : List Str := ["value", "most"]
theorem sc_is_period : FnScope N_is_period ["value", "most"] (defScope s_is_period) := ⟨rfl, rfl, rfl, by decide +kernel, rfl, by decide +kernel, by decide +kernel⟩
abbrev s_ordered : Stmt := topS 12
abbrev N_ordered : List Str := ["triples", "one"]
theorem sc_ordered : FnScope N_ordered ["triples"] (defScope s_ordered) := ⟨rfl, rfl, rfl, by decide +kernel, rfl, by decide +kernel, by decide +kernel⟩
abbrev s_Table___init__ : Stmt := inClass (topS 13) 0
abbrev N_Table___init__ : List Str := ["self", "alone", "levels", "below", "above", "most", "level"]
theorem sc_Table___init__ : FnScope N_Table___init__ ["self", "alone", "levels", "below", "above"] (defScope s_Table___init__) := ⟨rfl, rfl, rfl, by decide +kernel, rfl, by decide +kernel, by decide +kernel⟩
abbrev s_Table_alone : Stmt := inClass (topS 13) 1
abbrev N_Table_alone : List Str := ["self"]
theorem sc_Table_alone : FnScope N_Table_alone ["self"] (defScope s_Table_alone) := ⟨rfl, rfl, rfl, by decide +kernel, rfl, by decide +kernel, by decide +kernel⟩
abbrev s_Table_levels : Stmt := inClass (topS 13) 2
abbrev N_Table_levels : List Str := ["self"]
theorem sc_Table_levels : FnScope N_Table_levels ["self"] (defScope s_Table_levels) := ⟨rfl, rfl, rfl, by decide +kernel, rfl, by decide +kernel, by decide +kernel⟩
abbrev s_Table_below : Stmt := inClass (topS 13) 3
abbrev N_Table_below : List Str := ["self"]
theorem sc_Table_below : FnScope N_Table_below ["self"] (defScope s_Table_below) := ⟨rfl, rfl, rfl, by decide +kernel, rfl, by decide +kernel, by decide +kernel⟩
abbrev s_Table_above : Stmt := inClass (topS 13) 4
abbrev N_Table_above : List Str := ["self"]
theorem sc_Table_above : FnScope N_Table_above ["self"] (defScope s_Table_above) := ⟨rfl, rfl, rfl, by decide +kernel, rfl, by decide +kernel, by decide +kernel⟩
abbrev s_Table_most : Stmt := inClass (topS 13) 5
abbrev N_Table_most : List Str := ["self"]
theorem sc_Table_most : FnScope N_Table_most ["self"] (defScope s_Table_most) := ⟨rfl, rfl, rfl, by decide +kernel, rfl, by decide +kernel, by decide +kernel⟩
abbrev s_Table_level : Stmt := inClass (topS 13) 6
abbrev N_Table_level : List Str := ["self", "d", "most"]
theorem sc_Table_level : FnScope N_Table_level ["self", "d"] (defScope s_Table_level) := ⟨rfl, rfl, rfl, by decide +kernel, rfl, by decide +kernel, by decide +kernel⟩
abbrev s_Table___contains__ : Stmt := inClass (topS 13) 7
abbrev N_Table___contains__ : List Str := ["self", "state", "d", "sign", "side"]
theorem sc_Table___contains__ : FnScope N_Table___contains__ ["self", "state"] (defScope s_Table___contains__) := ⟨rfl, rfl, rfl, by decide +kernel, rfl, by decide +kernel, by decide +kernel⟩
abbrev s_Table___eq__ : Stmt := inClass (topS 13) 8
abbrev N_Table___eq__ : List Str := ["self", "other"]
theorem sc_Table___eq__ : FnScope N_Table___eq__ ["self", "other"] (defScope s_Table___eq__) := ⟨rfl, rfl, rfl, by decide +kernel, rfl, by decide +kernel, by decide +kernel⟩
abbrev s__law_source : Stmt := topS 15
abbrev N__law_source : List Str := ["_law_script", "_law_great", "_law_seed", "_law_cell"]
theorem sc__law_source : FnScope N__law_source ["_law_script"] (defScope s__law_source) := ⟨rfl, rfl, rfl, by decide +kernel, rfl, by decide +kernel, by decide +kernel⟩
abbrev s__law_draw : Stmt := topS 16
abbrev N__law_draw : List Str := ["_law_source_here", "_law_many", "_law_digit", "_law_mixed"]
theorem sc__law_draw : FnScope N__law_draw ["_law_source_here", "_law_many"] (defScope s__law_draw) := ⟨rfl, rfl, rfl, by decide +kernel, rfl, by decide +kernel, by decide +kernel⟩
abbrev s__law_pick : Stmt := topS 17
abbrev N__law_pick : List Str := ["_law_source_here", "_law_things"]
theorem sc__law_pick : FnScope N__law_pick ["_law_source_here", "_law_things"] (defScope s__law_pick) := ⟨rfl, rfl, rfl, by decide +kernel, rfl, by decide +kernel, by decide +kernel⟩
abbrev s__law_level : Stmt := topS 18
abbrev N__law_level : List Str := ["_law_table", "_law_d", "_law_most"]
theorem sc__law_level : FnScope N__law_level ["_law_table", "_law_d"] (defScope s__law_level) := ⟨rfl, rfl, rfl, by decide +kernel, rfl, by decide +kernel, by decide +kernel⟩
abbrev s__law_triples : Stmt := topS 19
abbrev N__law_triples : List Str := ["_law_source_here", "_law_lasts", "_law_most", "_law_found", "_law_k", "_law_state", "_law_after"]
theorem sc__law_triples : FnScope N__law_triples ["_law_source_here", "_law_lasts", "_law_most"] (defScope s__law_triples) := ⟨rfl, rfl, rfl, by decide +kernel, rfl, by decide +kernel, by decide +kernel⟩
abbrev s__law_ascending : Stmt := topS 20
abbrev N__law_ascending : List Str := ["_law_triples_here", "_law_k", "_law_one"]
theorem sc__law_ascending : FnScope N__law_ascending ["_law_triples_here"] (defScope s__law_ascending) := ⟨rfl, rfl, rfl, by decide +kernel, rfl, by decide +kernel, by decide +kernel⟩
abbrev s__law_near : Stmt := topS 21
abbrev N__law_near : List Str := ["_law_d", "_law_below", "_law_above"]
theorem sc__law_near : FnScope N__law_near ["_law_d", "_law_below", "_law_above"] (defScope s__law_near) := ⟨rfl, rfl, rfl, by decide +kernel, rfl, by decide +kernel, by decide +kernel⟩
abbrev s__law_holds_rightly : Stmt := topS 22
abbrev N__law_holds_rightly : List Str := ["_law_source_here", "_law_table", "_law_d", "_law_told", "_law_one", "_law_due"]
theorem sc__law_holds_rightly : FnScope N__law_holds_rightly ["_law_source_here", "_law_table", "_law_d"] (defScope s__law_holds_rightly) := ⟨rfl, rfl, rfl, by decide +kernel, rfl, by decide +kernel, by decide +kernel⟩
abbrev s_law : Stmt := topS 23
abbrev N_law : List Str := ["_law_script", "_law_source_here", "_law_alone", "_law_most", "_law_levels", "_law_k", "_law_below", "_law_above", "_law_passed", "_law_given", "_law_one", "_law_level_here", "_law_table", "_law_far", "_law_d", "_law_told", "_law_odd", "_law_thing", "_law_twin", "_law_last"]
theorem sc_law : FnScope N_law ["_law_script"] (defScope s_law) := ⟨rfl, rfl, rfl, by decide +kernel, rfl, by decide +kernel, by decide +kernel⟩
/-- what the top has written: where each def stands, the names that are still built-in, the constants -/
structure Tx (w : World) (K : PySem.W.Frag) (mg : Str → Option Value) where
  a_Table : Addr
  g_Table : mg "Table" = some (.ref a_Table)
  cl_Table : Cls K a_Table
  no_Table_own_alone : NoAttr K a_Table "own_alone"
  no_Table_own_levels : NoAttr K a_Table "own_levels"
  no_Table_own_periods : NoAttr K a_Table "own_periods"
  oc_Table : NL.OwnC K a_Table
  a_is_name : Addr
  fd_is_name : FuncData
  F_is_name : Fun K "is_name" "is_name" s_is_name a_is_name fd_is_name
  b_is_name : Binds K fd_is_name ["value"] []
  g_is_name : mg "is_name" = some (.ref a_is_name)
  a_is_triple : Addr
  fd_is_triple : FuncData
  F_is_triple : Fun K "is_triple" "is_triple" s_is_triple a_is_triple fd_is_triple
  b_is_triple : Binds K fd_is_triple ["value", "lasts"] []
  g_is_triple : mg "is_triple" = some (.ref a_is_triple)
  a_are_triples : Addr
  fd_are_triples : FuncData
  F_are_triples : Fun K "are_triples" "are_triples" s_are_triples a_are_triples fd_are_triples
  b_are_triples : Binds K fd_are_triples ["value", "lasts"] []
  g_are_triples : mg "are_triples" = some (.ref a_are_triples)
  a_is_period : Addr
  fd_is_period : FuncData
  F_is_period : Fun K "is_period" "is_period" s_is_period a_is_period fd_is_period
  b_is_period : Binds K fd_is_period ["value", "most"] []
  g_is_period : mg "is_period" = some (.ref a_is_period)
  a_ordered : Addr
  fd_ordered : FuncData
  F_ordered : Fun K "ordered" "ordered" s_ordered a_ordered fd_ordered
  b_ordered : Binds K fd_ordered ["triples"] []
  g_ordered : mg "ordered" = some (.ref a_ordered)
  a_Table___init__ : Addr
  fd_Table___init__ : FuncData
  F_Table___init__ : Fun K "__init__" "Table.__init__" s_Table___init__ a_Table___init__ fd_Table___init__
  b_Table___init__ : Binds K fd_Table___init__ ["self", "alone", "levels", "below", "above"] []
  mk_Table : Mk K a_Table a_Table___init__
  a_Table_alone : Addr
  fd_Table_alone : FuncData
  F_Table_alone : Fun K "alone" "Table.alone" s_Table_alone a_Table_alone fd_Table_alone
  b_Table_alone : Binds K fd_Table_alone ["self"] []
  pp_Table_alone : Addr
  pr_Table_alone : PropOf K a_Table "alone" pp_Table_alone a_Table_alone
  a_Table_levels : Addr
  fd_Table_levels : FuncData
  F_Table_levels : Fun K "levels" "Table.levels" s_Table_levels a_Table_levels fd_Table_levels
  b_Table_levels : Binds K fd_Table_levels ["self"] []
  pp_Table_levels : Addr
  pr_Table_levels : PropOf K a_Table "levels" pp_Table_levels a_Table_levels
  a_Table_below : Addr
  fd_Table_below : FuncData
  F_Table_below : Fun K "below" "Table.below" s_Table_below a_Table_below fd_Table_below
  b_Table_below : Binds K fd_Table_below ["self"] []
  pp_Table_below : Addr
  pr_Table_below : PropOf K a_Table "below" pp_Table_below a_Table_below
  a_Table_above : Addr
  fd_Table_above : FuncData
  F_Table_above : Fun K "above" "Table.above" s_Table_above a_Table_above fd_Table_above
  b_Table_above : Binds K fd_Table_above ["self"] []
  pp_Table_above : Addr
  pr_Table_above : PropOf K a_Table "above" pp_Table_above a_Table_above
  a_Table_most : Addr
  fd_Table_most : FuncData
  F_Table_most : Fun K "most" "Table.most" s_Table_most a_Table_most fd_Table_most
  b_Table_most : Binds K fd_Table_most ["self"] []
  me_Table_most : Meth K a_Table "most" a_Table_most
  a_Table_level : Addr
  fd_Table_level : FuncData
  F_Table_level : Fun K "level" "Table.level" s_Table_level a_Table_level fd_Table_level
  b_Table_level : Binds K fd_Table_level ["self", "d"] []
  me_Table_level : Meth K a_Table "level" a_Table_level
  a_Table___contains__ : Addr
  fd_Table___contains__ : FuncData
  F_Table___contains__ : Fun K "__contains__" "Table.__contains__" s_Table___contains__ a_Table___contains__ fd_Table___contains__
  b_Table___contains__ : Binds K fd_Table___contains__ ["self", "state"] []
  me_Table___contains__ : Meth K a_Table "__contains__" a_Table___contains__
  a_Table___eq__ : Addr
  fd_Table___eq__ : FuncData
  F_Table___eq__ : Fun K "__eq__" "Table.__eq__" s_Table___eq__ a_Table___eq__ fd_Table___eq__
  b_Table___eq__ : Binds K fd_Table___eq__ ["self", "other"] []
  me_Table___eq__ : Meth K a_Table "__eq__" a_Table___eq__
  a__law_source : Addr
  fd__law_source : FuncData
  F__law_source : Fun K "_law_source" "_law_source" s__law_source a__law_source fd__law_source
  b__law_source : Binds K fd__law_source ["_law_script"] []
  g__law_source : mg "_law_source" = some (.ref a__law_source)
  a__law_draw : Addr
  fd__law_draw : FuncData
  F__law_draw : Fun K "_law_draw" "_law_draw" s__law_draw a__law_draw fd__law_draw
  b__law_draw : Binds K fd__law_draw ["_law_source_here", "_law_many"] []
  g__law_draw : mg "_law_draw" = some (.ref a__law_draw)
  a__law_pick : Addr
  fd__law_pick : FuncData
  F__law_pick : Fun K "_law_pick" "_law_pick" s__law_pick a__law_pick fd__law_pick
  b__law_pick : Binds K fd__law_pick ["_law_source_here", "_law_things"] []
  g__law_pick : mg "_law_pick" = some (.ref a__law_pick)
  a__law_level : Addr
  fd__law_level : FuncData
  F__law_level : Fun K "_law_level" "_law_level" s__law_level a__law_level fd__law_level
  b__law_level : Binds K fd__law_level ["_law_table", "_law_d"] []
  g__law_level : mg "_law_level" = some (.ref a__law_level)
  a__law_triples : Addr
  fd__law_triples : FuncData
  F__law_triples : Fun K "_law_triples" "_law_triples" s__law_triples a__law_triples fd__law_triples
  b__law_triples : Binds K fd__law_triples ["_law_source_here", "_law_lasts", "_law_most"] []
  g__law_triples : mg "_law_triples" = some (.ref a__law_triples)
  a__law_ascending : Addr
  fd__law_ascending : FuncData
  F__law_ascending : Fun K "_law_ascending" "_law_ascending" s__law_ascending a__law_ascending fd__law_ascending
  b__law_ascending : Binds K fd__law_ascending ["_law_triples_here"] []
  g__law_ascending : mg "_law_ascending" = some (.ref a__law_ascending)
  a__law_near : Addr
  fd__law_near : FuncData
  F__law_near : Fun K "_law_near" "_law_near" s__law_near a__law_near fd__law_near
  b__law_near : Binds K fd__law_near ["_law_d", "_law_below", "_law_above"] []
  g__law_near : mg "_law_near" = some (.ref a__law_near)
  a__law_holds_rightly : Addr
  fd__law_holds_rightly : FuncData
  F__law_holds_rightly : Fun K "_law_holds_rightly" "_law_holds_rightly" s__law_holds_rightly a__law_holds_rightly fd__law_holds_rightly
  b__law_holds_rightly : Binds K fd__law_holds_rightly ["_law_source_here", "_law_table", "_law_d"] []
  g__law_holds_rightly : mg "_law_holds_rightly" = some (.ref a__law_holds_rightly)
  a_law : Addr
  fd_law : FuncData
  F_law : Fun K "law" "law" s_law a_law fd_law
  b_law : Binds K fd_law ["_law_script"] []
  g_law : mg "law" = some (.ref a_law)
  m_len : mg "len" = none
  m_int : mg "int" = none
  m_bool : mg "bool" = none
  m_str : mg "str" = none
  m_list : mg "list" = none
  m_tuple : mg "tuple" = none
  m_range : mg "range" = none
  m_enumerate : mg "enumerate" = none
  m_isinstance : mg "isinstance" = none
  m_abs : mg "abs" = none
  m_any : mg "any" = none
  m_all : mg "all" = none
  m_sorted : mg "sorted" = none
  m_super : mg "super" = none
  m_ValueError : mg "ValueError" = none
  t_MOST_LETTERS : Tok
  g_MOST_LETTERS : mg "MOST_LETTERS" = some (.int 8 t_MOST_LETTERS)
  a_SIGNS : Addr
  g_SIGNS : mg "SIGNS" = some (.ref a_SIGNS)
  k_SIGNS : ∃ o, K.lookup a_SIGNS = some o ∧ o.cls = .type "tuple" ∧ o.dict = none
  p_SIGNS : ∀ H : Hp, SqT K H a_SIGNS [.str "<", .str "=", .str ">"]
  a_GAP_WORDS : Addr
  g_GAP_WORDS : mg "GAP_WORDS" = some (.ref a_GAP_WORDS)
  k_GAP_WORDS : ∃ o, K.lookup a_GAP_WORDS = some o ∧ o.cls = .type "tuple" ∧ o.dict = none
  p_GAP_WORDS : ∀ H : Hp, SqT K H a_GAP_WORDS [.str "none", .str "first", .str "second"]
abbrev GG {w : World} {K : PySem.W.Frag} {mg : Str → Option Value} (T : Tx w K mg) : Gm := ⟨K, 0, 0, fun _ => 0, fun _ => "", w, fun c => (([("Table", T.a_Table)] : List (Str × Addr)).lookup c).getD 0, false, none⟩
section
variable {P : Program} {w : World} {K : PySem.W.Frag} {mg : Str → Option Value} {base : Heap}
theorem ok_is_name (T : Tx w K mg) : FnOk P w K mg base CX0 1 T.a_is_name T.fd_is_name ["value"] (spD (GG T) f_is_name) := by
  refine T.F_is_name.ok sc_is_name (fun vs H Q E h => fn_len h) (fun cdv A outer s H vs Q E hr h => ?_)
  have hu := hu_of hr
  refine ⟨tS (GG T) [] [] [] E b_is_name, (ds_cons (ds_if (PW.pt (dw_or (dt_not (dt_val (de_isStr (pe_callB call_isi (by rfl) T.m_isinstance (by decide +kernel) (pa_cons (de_var (pv 0) (by decide)) (pa_cons (pe_bltn (v := .ty "str") (by rfl) T.m_str (by decide +kernel) rfl) pa_nil)))))) (dw_or (dt_cmp bin_cmp (pt_cmpR op_ltA (de_arg (m := true) arg_len (pe_callB (call_lenG (G := (GG T))) (by rfl) T.m_len (by decide +kernel) (DA.pa (da_cons (de_var (pv 0) (by decide)) da_nil)))) de_int (nomark _))) (pw_or1 (dt_cmp bin_cmp (pt_cmpR op_gtA (de_arg (m := true) arg_len (pe_callB (call_lenG (G := (GG T))) (by rfl) T.m_len (by decide +kernel) (DA.pa (da_cons (de_var (pv 0) (by decide)) da_nil)))) (de_const (pe_glob (v := .int 8) rfl T.g_MOST_LETTERS ⟨_, rfl⟩) fun _ _ => .int _) (nomark _))))))) (ds_one (ds_ret de_bl)) ds_nil)
      (ds_one (ds_ret (de_arg (m := true) arg_all (pe_callB (call_allG (G := (GG T)) rfl) (by rfl) T.m_all (by decide +kernel) (DA.pa (da_cons (de_ofN (de_lcN (by decide) (by decide) (pe_lc (own := [("sign", 1)]) (by rfl) sc_is_name.nd (di_str (de_var (pv 0) (by decide))) (blkOk_by (own := [("sign", 1)]) (N := N_is_name) (sc := defScope s_is_name) (by decide +kernel)) (fun _ _ _ _ _ => (dg_name (pg_name (i := 1) sc_is_name.nd rfl (by first | exact Or.inl rfl | exact Or.inr rfl)) (by decide))) (fun _ _ _ _ _ => dts_nil) (fun _ _ _ _ _ => (de_bin (m := true) bin_inS (pe_cmpR op_in_sign (de_var (pv 1) (by decide)) de_str (by rfl))))))) da_nil))))))), fn_read h⟩
theorem ok_is_triple (T : Tx w K mg) : FnOk P w K mg base CX0 2 T.a_is_triple T.fd_is_triple ["value", "lasts"] (spD (GG T) f_is_triple) := by
  refine T.F_is_triple.ok sc_is_triple (fun vs H Q E h => fn_len h) (fun cdv A outer s H vs Q E hr h => ?_)
  have hu := hu_of hr
  refine ⟨tS (GG T) [] [] [] E b_is_triple, (ds_cons (ds_if (PW.pt (dw_or (dt_not (dt_val (de_isSq (pe_callB call_isiT (by rfl) T.m_isinstance (by decide +kernel) (pa_cons (de_var (pv 0) (by decide)) (pa_cons (pe_tup (pa_cons (pe_bltn (v := .ty "list") (by rfl) T.m_list (by decide +kernel) rfl) (pa_cons (pe_bltn (v := .ty "tuple") (by rfl) T.m_tuple (by decide +kernel) rfl) pa_nil))) pa_nil)))))) (dw_or (dt_cmp bin_ne (pt_cmpR (op_neG (G := (GG T)) hr.units) (de_arg (m := true) arg_len (pe_callB (call_lenG (G := (GG T))) (by rfl) T.m_len (by decide +kernel) (DA.pa (da_cons (de_var (pv 0) (by decide)) da_nil)))) de_int (nomark _))) (pw_or1 (dt_not (dt_val (de_isStr (pe_callB call_isi (by rfl) T.m_isinstance (by decide +kernel) (pa_cons (de_bin bin_ix (pe_ix (ix_G (G := (GG T))) (de_var (pv 0) (by decide)) de_int (fun _ _ => rfl))) (pa_cons (pe_bltn (v := .ty "str") (by rfl) T.m_str (by decide +kernel) rfl) pa_nil)))))))))) (ds_one (ds_ret de_bl)) ds_nil)
      (ds_one (ds_ret (de_and (pe_and (de_coe (de_call (pe_call (ok_is_name T) (hr.mono (by decide)) (by rfl) T.g_is_name T.F_is_name.kp T.b_is_name .nil pass0 (DA.pa (da_cons (de_bin bin_ix (pe_ix (ix_G (G := (GG T))) (de_var (pv 0) (by decide)) de_int (fun _ _ => rfl))) da_nil))))) (de_and (pe_and (de_coe (de_call (pe_call (ok_is_name T) (hr.mono (by decide)) (by rfl) T.g_is_name T.F_is_name.kp T.b_is_name .nil pass0 (DA.pa (da_cons (de_bin bin_ix (pe_ix (ix_G (G := (GG T))) (de_var (pv 0) (by decide)) de_int (fun _ _ => rfl))) da_nil))))) (pe_one (de_bin (m := true) bin_in (pe_cmpR (op_inG (G := (GG T))) (de_bin bin_ix (pe_ix (ix_G (G := (GG T))) (de_var (pv 0) (by decide)) de_int (fun _ _ => rfl))) (de_var (pv 1) (by decide)) (by rfl))))))))))), fn_read h⟩
theorem ok_are_triples (T : Tx w K mg) : FnOk P w K mg base CX0 3 T.a_are_triples T.fd_are_triples ["value", "lasts"] (spD (GG T) f_are_triples) := by
  refine T.F_are_triples.ok sc_are_triples (fun vs H Q E h => fn_len h) (fun cdv A outer s H vs Q E hr h => ?_)
  have hu := hu_of hr
  refine ⟨tS (GG T) [] [] [] E b_are_triples, (ds_one (ds_ret (de_and (pe_and (de_isSq (pe_callB call_isiT (by rfl) T.m_isinstance (by decide +kernel) (pa_cons (de_var (pv 0) (by decide)) (pa_cons (pe_tup (pa_cons (pe_bltn (v := .ty "list") (by rfl) T.m_list (by decide +kernel) rfl) (pa_cons (pe_bltn (v := .ty "tuple") (by rfl) T.m_tuple (by decide +kernel) rfl) pa_nil))) pa_nil)))) (pe_one (de_arg (m := true) arg_all (pe_callB (call_allG (G := (GG T)) rfl) (by rfl) T.m_all (by decide +kernel) (DA.pa (da_cons (de_ofN (de_lcN (by decide) (by decide) (pe_lc (own := [("one", 2)]) (by rfl) sc_are_triples.nd (di_seq (de_var (pv 0) (by decide))) (blkOk_by (own := [("one", 2)]) (N := N_are_triples) (sc := defScope s_are_triples) (by decide +kernel)) (fun _ _ _ _ _ => (dg_name (pg_name (i := 2) sc_are_triples.nd rfl (by first | exact Or.inl rfl | exact Or.inr rfl)) (by decide))) (fun _ _ _ _ _ => dts_nil) (fun _ _ _ _ _ => (de_call (pe_call (ok_is_triple T) (hr.mono (by decide)) (by rfl) T.g_is_triple T.F_is_triple.kp T.b_is_triple .nil pass0 (DA.pa (da_cons (de_var (pv 2) (by decide)) (da_cons (de_var (pv 1) (by decide)) da_nil))))))))) da_nil))))))))), fn_read h⟩
theorem ok_is_period (T : Tx w K mg) : FnOk P w K mg base CX0 1 T.a_is_period T.fd_is_period ["value", "most"] (spD (GG T) f_is_period) := by
  refine T.F_is_period.ok sc_is_period (fun vs H Q E h => fn_len h) (fun cdv A outer s H vs Q E hr h => ?_)
  have hu := hu_of hr
  refine ⟨tS (GG T) [] [] [] E b_is_period, (ds_one (ds_ret (de_and (pe_and (de_isInt (pe_callB call_isi (by rfl) T.m_isinstance (by decide +kernel) (pa_cons (de_var (pv 0) (by decide)) (pa_cons (pe_bltn (v := .ty "int") (by rfl) T.m_int (by decide +kernel) rfl) pa_nil)))) (de_and (pe_and (de_not (pe_not (de_isBool (pe_callB call_isi (by rfl) T.m_isinstance (by decide +kernel) (pa_cons (de_var (pv 0) (by decide)) (pa_cons (pe_bltn (v := .ty "bool") (by rfl) T.m_bool (by decide +kernel) rfl) pa_nil)))))) (pe_one (de_chain bin_cmp bin_cmp (pe_chain op_leA op_leA de_int (de_var (pv 0) (by decide)) (de_var (pv 1) (by decide))))))))))), fn_read h⟩
theorem ok_ordered (T : Tx w K mg) : FnOk P w K mg base CX0 1 T.a_ordered T.fd_ordered ["triples"] (spD (GG T) f_ordered) := by
  refine T.F_ordered.ok sc_ordered (fun vs H Q E h => fn_len h) (fun cdv A outer s H vs Q E hr h => ?_)
  have hu := hu_of hr
  refine ⟨tS (GG T) [] [] [] E b_ordered, (ds_one (ds_ret (de_arg (m := false) arg_tuple (pe_callTy (call_tupleG (G := (GG T))) (by rfl) T.m_tuple (by decide +kernel) (DA.pa (da_cons (de_ofN (de_srtN (by decide) (by decide) (pe_callB (cr_sortN (by rfl) (hu65 hr)) (by rfl) T.m_sorted (by decide +kernel) (pa_cons (pe_scG (own := [("one", 1)]) (hu65 hr) (setWordsX _ _ _) (by rfl) sc_ordered.nd (di_seq (de_var (pv 0) (by decide))) (blkOk_by (own := [("one", 1)]) (N := N_ordered) (sc := defScope s_ordered) (by decide +kernel)) (fun _ _ _ _ _ => (dg_name (pg_name (i := 1) sc_ordered.nd rfl (by first | exact Or.inl rfl | exact Or.inr rfl)) (by decide))) (fun _ _ _ _ _ => dts_nil) (fun _ _ _ _ _ => (de_arg (m := false) arg_tuple (pe_callTy (call_tupleG (G := (GG T))) (by rfl) T.m_tuple (by decide +kernel) (DA.pa (da_cons (de_var (pv 1) (by decide)) da_nil)))))) pa_nil)))) da_nil)))))), fn_read h⟩
theorem ok_Table___init__ (T : Tx w K mg) : FnOk P w K mg base CX0 4 T.a_Table___init__ T.fd_Table___init__ ["self", "alone", "levels", "below", "above"] (spV (GG T).vol f_Table___init__) := by
  refine T.F_Table___init__.ok sc_Table___init__ (fun vs H Q E h => fn_lenV h) (fun cdv A outer s H vs Q E hr h => ?_)
  have hu := hu_of hr
  refine ⟨tS (GG T).vol [] [] [] E b_Table___init__, (ds_cons (ds_if (PW.pt (dw_or (dt_not (dt_val (de_callK (m := false) (pe_call (ok_are_triples T) (hr.mono (by decide)) (by rfl) T.g_are_triples T.F_are_triples.kp T.b_are_triples .nil pass0 (DA.pa (da_cons (de_var (pv 1) (by decide)) (da_cons (de_const (pe_glob (v := .ref T.a_GAP_WORDS) rfl T.g_GAP_WORDS rfl) fun _ B => (DV.tup (T.p_GAP_WORDS B) (.cons (.str _) (.cons (.str _) (.cons (.str _) .nil))))) da_nil))))))) (dw_or (dt_not (dt_val (de_isSq (pe_callB call_isiT (by rfl) T.m_isinstance (by decide +kernel) (pa_cons (de_var (pv 2) (by decide)) (pa_cons (pe_tup (pa_cons (pe_bltn (v := .ty "list") (by rfl) T.m_list (by decide +kernel) rfl) (pa_cons (pe_bltn (v := .ty "tuple") (by rfl) T.m_tuple (by decide +kernel) rfl) pa_nil))) pa_nil)))))) (pw_or1 (dt_cmp bin_cmp (pt_cmpR op_ltA (de_arg (m := true) arg_len (pe_callB (call_lenG (G := (GG T).vol)) (by rfl) T.m_len (by decide +kernel) (DA.pa (da_cons (de_var (pv 2) (by decide)) da_nil)))) de_int (nomark _))))))) (ds_one ds_never) ds_nil)
      (ds_cons (ds_set rfl (ps_set (i := 5) sc_Table___init__.nd rfl (by first | exact Or.inl rfl | exact Or.inr rfl) (de_bin (m := true) bin_fdiv (pe_op op_fdivW (de_arg (m := true) arg_len (pe_callB (call_lenG (G := (GG T).vol)) (by rfl) T.m_len (by decide +kernel) (DA.pa (da_cons (de_var (pv 2) (by decide)) da_nil)))) de_int))))
      (ds_cons (ds_if (PW.pt (dw_or (dt_cmp bin_eq (pt_cmpR (op_eqG (G := (GG T).vol) hr.units) (de_bin (m := true) bin_mod (pe_op op_mod (de_arg (m := true) arg_len (pe_callB (call_lenG (G := (GG T).vol)) (by rfl) T.m_len (by decide +kernel) (DA.pa (da_cons (de_var (pv 2) (by decide)) da_nil)))) de_int)) de_int (nomark _))) (pw_or1 (dt_not (dt_val (de_arg (m := true) arg_all (pe_callB (call_allG (G := (GG T).vol) rfl) (by rfl) T.m_all (by decide +kernel) (DA.pa (da_cons (de_lcV (by decide) (pe_lc (own := [("level", 6)]) (by rfl) sc_Table___init__.nd (di_seq (de_var (pv 2) (by decide))) (blkOk_by (own := [("level", 6)]) (N := N_Table___init__) (sc := defScope s_Table___init__) (by decide +kernel)) (fun _ _ _ _ _ => (dg_name (pg_name (i := 6) sc_Table___init__.nd rfl (by first | exact Or.inl rfl | exact Or.inr rfl)) (by decide))) (fun _ _ _ _ _ => dts_nil) (fun _ _ _ _ _ => (de_callK (m := false) (pe_call (ok_are_triples T) (hr.mono (by decide)) (by rfl) T.g_are_triples T.F_are_triples.kp T.b_are_triples .nil pass0 (DA.pa (da_cons (de_var (pv 6) (by decide)) (da_cons (de_const (pe_glob (v := .ref T.a_SIGNS) rfl T.g_SIGNS rfl) fun _ B => (DV.tup (T.p_SIGNS B) (.cons (.str _) (.cons (.str _) (.cons (.str _) .nil))))) da_nil)))))))) da_nil))))))))) (ds_one ds_never) ds_nil)
      (ds_cons (ds_if (PW.pt (dw_or (dt_not (dt_val (de_callK (m := false) (pe_call (ok_is_period T) (hr.mono (by decide)) (by rfl) T.g_is_period T.F_is_period.kp T.b_is_period .nil pass0 (DA.pa (da_cons (de_var (pv 3) (by decide)) (da_cons (de_var (pv 5) (by decide)) da_nil))))))) (pw_or1 (dt_not (dt_val (de_callK (m := false) (pe_call (ok_is_period T) (hr.mono (by decide)) (by rfl) T.g_is_period T.F_is_period.kp T.b_is_period .nil pass0 (DA.pa (da_cons (de_var (pv 4) (by decide)) (da_cons (de_var (pv 5) (by decide)) da_nil)))))))))) (ds_one ds_never) ds_nil)
      (ds_cons (ds_setM (m := false) (m' := false) (by rfl) T.cl_Table T.no_Table_own_alone (ps_fld (de_var (pv 0) (by decide)) (de_callK (m := false) (pe_call (ok_ordered T) (hr.mono (by decide)) (by rfl) T.g_ordered T.F_ordered.kp T.b_ordered .nil pass0 (DA.pa (da_cons (de_var (pv 1) (by decide)) da_nil)))) rfl))
      (ds_cons (ds_setM (m := false) (m' := false) (by rfl) T.cl_Table T.no_Table_own_levels (ps_fld (de_var (pv 0) (by decide)) (de_arg (m := false) arg_tuple (pe_callTy (call_tupleG (G := (GG T).vol)) (by rfl) T.m_tuple (by decide +kernel) (DA.pa (da_cons (de_lcV (by decide) (pe_lc (own := [("level", 6)]) (by rfl) sc_Table___init__.nd (di_seq (de_var (pv 2) (by decide))) (blkOk_by (own := [("level", 6)]) (N := N_Table___init__) (sc := defScope s_Table___init__) (by decide +kernel)) (fun _ _ _ _ _ => (dg_name (pg_name (i := 6) sc_Table___init__.nd rfl (by first | exact Or.inl rfl | exact Or.inr rfl)) (by decide))) (fun _ _ _ _ _ => dts_nil) (fun _ _ _ _ _ => (de_callK (m := false) (pe_call (ok_ordered T) (hr.mono (by decide)) (by rfl) T.g_ordered T.F_ordered.kp T.b_ordered .nil pass0 (DA.pa (da_cons (de_var (pv 6) (by decide)) da_nil))))))) da_nil)))) rfl))
      (ds_one (ds_setM (m := false) (m' := false) (by rfl) T.cl_Table T.no_Table_own_periods (ps_fld (de_var (pv 0) (by decide)) (de_tup (da_cons (de_var (pv 3) (by decide)) (da_cons (de_var (pv 4) (by decide)) da_nil)) (by decide)) rfl))))))))), fn_readV h⟩
theorem ok_Table_alone (T : Tx w K mg) : FnOk P w K mg base CX0 1 T.a_Table_alone T.fd_Table_alone ["self"] (spD (GG T) f_Table_alone) := by
  refine T.F_Table_alone.ok sc_Table_alone (fun vs H Q E h => fn_len h) (fun cdv A outer s H vs Q E hr h => ?_)
  have hu := hu_of hr
  refine ⟨tS (GG T) [] [] [] E b_Table_alone, (ds_one (ds_ret (de_fldO (by rfl) T.cl_Table T.no_Table_own_alone (pe_fld (de_var (pv 0) (by decide)) rfl)))), fn_read h⟩
theorem ok_Table_levels (T : Tx w K mg) : FnOk P w K mg base CX0 1 T.a_Table_levels T.fd_Table_levels ["self"] (spD (GG T) f_Table_levels) := by
  refine T.F_Table_levels.ok sc_Table_levels (fun vs H Q E h => fn_len h) (fun cdv A outer s H vs Q E hr h => ?_)
  have hu := hu_of hr
  refine ⟨tS (GG T) [] [] [] E b_Table_levels, (ds_one (ds_ret (de_fldO (by rfl) T.cl_Table T.no_Table_own_levels (pe_fld (de_var (pv 0) (by decide)) rfl)))), fn_read h⟩
theorem ok_Table_below (T : Tx w K mg) : FnOk P w K mg base CX0 1 T.a_Table_below T.fd_Table_below ["self"] (spD (GG T) f_Table_below) := by
  refine T.F_Table_below.ok sc_Table_below (fun vs H Q E h => fn_len h) (fun cdv A outer s H vs Q E hr h => ?_)
  have hu := hu_of hr
  refine ⟨tS (GG T) [] [] [] E b_Table_below, (ds_one (ds_ret (de_bin bin_ix (pe_ix (ix_G (G := (GG T))) (de_fldO (by rfl) T.cl_Table T.no_Table_own_periods (pe_fld (de_var (pv 0) (by decide)) rfl)) de_int (fun _ _ => rfl))))), fn_read h⟩
theorem ok_Table_above (T : Tx w K mg) : FnOk P w K mg base CX0 1 T.a_Table_above T.fd_Table_above ["self"] (spD (GG T) f_Table_above) := by
  refine T.F_Table_above.ok sc_Table_above (fun vs H Q E h => fn_len h) (fun cdv A outer s H vs Q E hr h => ?_)
  have hu := hu_of hr
  refine ⟨tS (GG T) [] [] [] E b_Table_above, (ds_one (ds_ret (de_bin bin_ix (pe_ix (ix_G (G := (GG T))) (de_fldO (by rfl) T.cl_Table T.no_Table_own_periods (pe_fld (de_var (pv 0) (by decide)) rfl)) de_int (fun _ _ => rfl))))), fn_read h⟩
theorem ok_Table_most (T : Tx w K mg) : FnOk P w K mg base CX0 1 T.a_Table_most T.fd_Table_most ["self"] (spD (GG T) f_Table_most) := by
  refine T.F_Table_most.ok sc_Table_most (fun vs H Q E h => fn_len h) (fun cdv A outer s H vs Q E hr h => ?_)
  have hu := hu_of hr
  refine ⟨tS (GG T) [] [] [] E b_Table_most, (ds_one (ds_ret (de_bin (m := true) bin_fdiv (pe_op op_fdivW (de_arg (m := true) arg_len (pe_callB (call_lenG (G := (GG T))) (by rfl) T.m_len (by decide +kernel) (DA.pa (da_cons (de_fldO (by rfl) T.cl_Table T.no_Table_own_levels (pe_fld (de_var (pv 0) (by decide)) rfl)) da_nil)))) de_int)))), fn_read h⟩
theorem ok_Table_level (T : Tx w K mg) : FnOk P w K mg base CX0 3 T.a_Table_level T.fd_Table_level ["self", "d"] (spD (GG T) f_Table_level) := by
  refine T.F_Table_level.ok sc_Table_level (fun vs H Q E h => fn_len h) (fun cdv A outer s H vs Q E hr h => ?_)
  have hu := hu_of hr
  refine ⟨tS (GG T) [] [] [] E b_Table_level, (ds_cons (ds_set rfl (ps_set (i := 2) sc_Table_level.nd rfl (by first | exact Or.inl rfl | exact Or.inr rfl) (de_meth0 (insObjM (c := "Table") (by rfl)) (pe_meth0 (de_var (pv 0) (by decide)) T.cl_Table T.me_Table_most (ok_Table_most T) (hr.mono (by decide)) T.b_Table_most .nil pass0))))
      (ds_cons (ds_if (dt_cmp bin_cmp (pt_cmpR op_gtA (de_var (pv 1) (by decide)) (de_var (pv 2) (by decide)) (nomark _))) (ds_one (ds_ret (de_bin bin_ix (pe_ix (ix_G (G := (GG T))) (de_fldO (by rfl) T.cl_Table T.no_Table_own_levels (pe_fld (de_var (pv 0) (by decide)) rfl)) (de_bin bin_add (pe_op (op_addA (G := (GG T))) (de_bin bin_add (pe_op (op_addA (G := (GG T))) (de_bin (m := true) bin_sub (pe_op op_sub (de_bin (m := true) bin_mul (pe_op op_mulW de_int (de_var (pv 2) (by decide)))) (de_coe (de_propO (insObj (c := "Table") (by rfl)) (pe_prop (de_var (pv 0) (by decide)) T.cl_Table T.pr_Table_above (ok_Table_above T) (hr.mono (by decide)) T.b_Table_above .nil pass0 rfl))))) de_int)) (de_bin (m := true) bin_mod (pe_op op_mod (de_bin (m := true) bin_sub (pe_op op_sub (de_bin (m := true) bin_sub (pe_op op_sub (de_var (pv 1) (by decide)) (de_var (pv 2) (by decide)))) de_int)) (de_coe (de_propO (insObj (c := "Table") (by rfl)) (pe_prop (de_var (pv 0) (by decide)) T.cl_Table T.pr_Table_above (ok_Table_above T) (hr.mono (by decide)) T.b_Table_above .nil pass0 rfl))))))) (fun _ _ => rfl))))) ds_nil)
      (ds_cons (ds_if (dt_cmp bin_cmp (pt_cmpR op_ltA (de_var (pv 1) (by decide)) (de_bin (m := true) bin_sub (pe_op op_sub de_int (de_var (pv 2) (by decide)))) (nomark _))) (ds_one (ds_ret (de_bin bin_ix (pe_ix (ix_G (G := (GG T))) (de_fldO (by rfl) T.cl_Table T.no_Table_own_levels (pe_fld (de_var (pv 0) (by decide)) rfl)) (de_bin (m := true) bin_sub (pe_op op_sub (de_bin (m := true) bin_sub (pe_op op_sub (de_coe (de_propO (insObj (c := "Table") (by rfl)) (pe_prop (de_var (pv 0) (by decide)) T.cl_Table T.pr_Table_below (ok_Table_below T) (hr.mono (by decide)) T.b_Table_below .nil pass0 rfl))) de_int)) (de_bin (m := true) bin_mod (pe_op op_mod (de_bin (m := true) bin_sub (pe_op op_sub (de_bin (m := true) bin_sub (pe_op op_sub (de_bin (m := true) bin_sub (pe_op op_sub de_int (de_var (pv 2) (by decide)))) de_int)) (de_var (pv 1) (by decide)))) (de_coe (de_propO (insObj (c := "Table") (by rfl)) (pe_prop (de_var (pv 0) (by decide)) T.cl_Table T.pr_Table_below (ok_Table_below T) (hr.mono (by decide)) T.b_Table_below .nil pass0 rfl))))))) (fun _ _ => rfl))))) ds_nil)
      (ds_one (ds_ret (de_bin bin_ix (pe_ix (ix_G (G := (GG T))) (de_fldO (by rfl) T.cl_Table T.no_Table_own_levels (pe_fld (de_var (pv 0) (by decide)) rfl)) (de_bin bin_add (pe_op (op_addA (G := (GG T))) (de_var (pv 1) (by decide)) (de_var (pv 2) (by decide)))) (fun _ _ => rfl)))))))), fn_read h⟩
theorem ok_Table___contains__ (T : Tx w K mg) : FnOk P w K mg base CX0 5 T.a_Table___contains__ T.fd_Table___contains__ ["self", "state"] (spD (GG T) f_Table___contains__) := by
  refine T.F_Table___contains__.ok sc_Table___contains__ (fun vs H Q E h => fn_len h) (fun cdv A outer s H vs Q E hr h => ?_)
  have hu := hu_of hr
  refine ⟨tS (GG T) [] [] [] E b_Table___contains__, (ds_cons (ds_if (PW.pt (dw_or (dt_not (dt_val (de_isSq (pe_callB call_isiT (by rfl) T.m_isinstance (by decide +kernel) (pa_cons (de_var (pv 1) (by decide)) (pa_cons (pe_tup (pa_cons (pe_bltn (v := .ty "list") (by rfl) T.m_list (by decide +kernel) rfl) (pa_cons (pe_bltn (v := .ty "tuple") (by rfl) T.m_tuple (by decide +kernel) rfl) pa_nil))) pa_nil)))))) (pw_or1 (dt_cmp bin_ne (pt_cmpR (op_neG (G := (GG T)) hr.units) (de_arg (m := true) arg_len (pe_callB (call_lenG (G := (GG T))) (by rfl) T.m_len (by decide +kernel) (DA.pa (da_cons (de_var (pv 1) (by decide)) da_nil)))) de_int (nomark _)))))) (ds_one (ds_ret de_bl)) ds_nil)
      (ds_cons (ds_if (dt_val (de_isStr (pe_callB call_isi (by rfl) T.m_isinstance (by decide +kernel) (pa_cons (de_bin bin_ix (pe_ix (ix_G (G := (GG T))) (de_var (pv 1) (by decide)) de_int (fun _ _ => rfl))) (pa_cons (pe_bltn (v := .ty "str") (by rfl) T.m_str (by decide +kernel) rfl) pa_nil))))) (ds_one (ds_ret (de_and (pe_and (de_coe (de_call (pe_call (ok_is_triple T) (hr.mono (by decide)) (by rfl) T.g_is_triple T.F_is_triple.kp T.b_is_triple .nil pass0 (DA.pa (da_cons (de_var (pv 1) (by decide)) (da_cons (de_const (pe_glob (v := .ref T.a_GAP_WORDS) rfl T.g_GAP_WORDS rfl) fun _ B => (DV.tup (T.p_GAP_WORDS B) (.cons (.str _) (.cons (.str _) (.cons (.str _) .nil))))) da_nil)))))) (pe_one (de_bin (m := true) bin_inX (pe_cmpR (op_inXG (G := (GG T)) (hu65 hr)) (de_arg (m := true) arg_tuple (pe_callTy (call_tupleG (G := (GG T))) (by rfl) T.m_tuple (by decide +kernel) (DA.pa (da_cons (de_var (pv 1) (by decide)) da_nil)))) (de_fldO (by rfl) T.cl_Table T.no_Table_own_alone (pe_fld (de_var (pv 0) (by decide)) rfl)) (by rfl)))))))) ds_nil)
      (ds_cons (ds_if (PW.pt (dw_or (dt_not (dt_val (de_isSq (pe_callB call_isiT (by rfl) T.m_isinstance (by decide +kernel) (pa_cons (de_bin bin_ix (pe_ix (ix_G (G := (GG T))) (de_var (pv 1) (by decide)) de_int (fun _ _ => rfl))) (pa_cons (pe_tup (pa_cons (pe_bltn (v := .ty "list") (by rfl) T.m_list (by decide +kernel) rfl) (pa_cons (pe_bltn (v := .ty "tuple") (by rfl) T.m_tuple (by decide +kernel) rfl) pa_nil))) pa_nil)))))) (pw_or1 (dt_cmp bin_ne (pt_cmpR (op_neG (G := (GG T)) hr.units) (de_arg (m := true) arg_len (pe_callB (call_lenG (G := (GG T))) (by rfl) T.m_len (by decide +kernel) (DA.pa (da_cons (de_bin bin_ix (pe_ix (ix_G (G := (GG T))) (de_var (pv 1) (by decide)) de_int (fun _ _ => rfl))) da_nil)))) de_int (nomark _)))))) (ds_one (ds_ret de_bl)) ds_nil)
      (ds_cons (ds_asg (ps_asg (de_bin bin_ix (pe_ix (ix_G (G := (GG T))) (de_var (pv 1) (by decide)) de_int (fun _ _ => rfl))) (dg_tup (by rfl) (dgs_cons (dg_name (pg_name (i := 2) sc_Table___contains__.nd rfl (by first | exact Or.inl rfl | exact Or.inr rfl)) (by decide)) (dgs_cons (dg_name (pg_name (i := 3) sc_Table___contains__.nd rfl (by first | exact Or.inl rfl | exact Or.inr rfl)) (by decide)) dgs_nil)))))
      (ds_cons (ds_set rfl (ps_set (i := 4) sc_Table___contains__.nd rfl (by first | exact Or.inl rfl | exact Or.inr rfl) (de_tup (da_cons (de_bin bin_ix (pe_ix (ix_G (G := (GG T))) (de_var (pv 1) (by decide)) de_int (fun _ _ => rfl))) (da_cons (de_bin bin_ix (pe_ix (ix_G (G := (GG T))) (de_var (pv 1) (by decide)) de_int (fun _ _ => rfl))) (da_cons (de_var (pv 3) (by decide)) da_nil))) (by decide))))
      (ds_one (ds_ret (de_and (pe_and (de_isInt (pe_callB call_isi (by rfl) T.m_isinstance (by decide +kernel) (pa_cons (de_var (pv 2) (by decide)) (pa_cons (pe_bltn (v := .ty "int") (by rfl) T.m_int (by decide +kernel) rfl) pa_nil)))) (de_and (pe_and (de_not (pe_not (de_isBool (pe_callB call_isi (by rfl) T.m_isinstance (by decide +kernel) (pa_cons (de_var (pv 2) (by decide)) (pa_cons (pe_bltn (v := .ty "bool") (by rfl) T.m_bool (by decide +kernel) rfl) pa_nil)))))) (de_and (pe_and (de_coe (de_call (pe_call (ok_is_triple T) (hr.mono (by decide)) (by rfl) T.g_is_triple T.F_is_triple.kp T.b_is_triple .nil pass0 (DA.pa (da_cons (de_var (pv 4) (by decide)) (da_cons (de_const (pe_glob (v := .ref T.a_SIGNS) rfl T.g_SIGNS rfl) fun _ B => (DV.tup (T.p_SIGNS B) (.cons (.str _) (.cons (.str _) (.cons (.str _) .nil))))) da_nil)))))) (pe_one (de_bin (m := true) bin_inX (pe_cmpR (op_inXG (G := (GG T)) (hu65 hr)) (de_var (pv 4) (by decide)) (de_coe (de_meth (insObjM (c := "Table") (by rfl)) (pe_meth (de_var (pv 0) (by decide)) T.cl_Table T.me_Table_level (ok_Table_level T) (hr.mono (by decide)) T.b_Table_level .nil pass0 (DA.pa (da_cons (de_var (pv 2) (by decide)) da_nil))))) (by rfl))))))))))))))))), fn_read h⟩
theorem ok_Table___eq__ (T : Tx w K mg) : FnOk P w K mg base CX0 6 T.a_Table___eq__ T.fd_Table___eq__ ["self", "other"] (spD (GG T) f_Table___eq__) := by
  refine T.F_Table___eq__.ok sc_Table___eq__ (fun vs H Q E h => fn_len h) (fun cdv A outer s H vs Q E hr h => ?_)
  have hu := hu_of hr
  refine ⟨tS (GG T) [] [] [] E b_Table___eq__, (ds_one (ds_ret (de_and (pe_and (de_isOwn (insObj (c := "Table") (by rfl)) T.cl_Table T.oc_Table (pe_callB call_isi (by rfl) T.m_isinstance (by decide +kernel) (pa_cons (de_var (pv 1) (by decide)) (pa_cons (pe_glob (by rfl) T.g_Table rfl) pa_nil)))) (de_and (pe_and (de_bin (m := true) bin_eq (pe_cmpR (op_eqG (G := (GG T)) hr.units) (de_coe (de_propO (insObj (c := "Table") (by rfl)) (pe_prop (de_var (pv 0) (by decide)) T.cl_Table T.pr_Table_alone (ok_Table_alone T) (hr.mono (by decide)) T.b_Table_alone .nil pass0 rfl))) (de_coe (de_propO (insObj (c := "Table") (by rfl)) (pe_prop (de_var (pv 1) (by decide)) T.cl_Table T.pr_Table_alone (ok_Table_alone T) (hr.mono (by decide)) T.b_Table_alone .nil pass0 rfl))) (nomark _))) (de_and (pe_and (de_bin (m := true) bin_eq (pe_cmpR (op_eqG (G := (GG T)) hr.units) (de_coe (de_propO (insObj (c := "Table") (by rfl)) (pe_prop (de_var (pv 0) (by decide)) T.cl_Table T.pr_Table_levels (ok_Table_levels T) (hr.mono (by decide)) T.b_Table_levels .nil pass0 rfl))) (de_coe (de_propO (insObj (c := "Table") (by rfl)) (pe_prop (de_var (pv 1) (by decide)) T.cl_Table T.pr_Table_levels (ok_Table_levels T) (hr.mono (by decide)) T.b_Table_levels .nil pass0 rfl))) (nomark _))) (pe_one (de_bin (m := true) bin_eq (pe_cmpR (op_eqG (G := (GG T)) hr.units) (de_fldO (by rfl) T.cl_Table T.no_Table_own_periods (pe_fld (de_var (pv 0) (by decide)) rfl)) (de_fldO (by rfl) T.cl_Table T.no_Table_own_periods (pe_fld (de_var (pv 1) (by decide)) rfl)) (nomark _)))))))))))), fn_read h⟩
/-- the source that a script makes -/
def sp__law_source (K : PySem.W.Frag) : Sp := fun vs H Q _ => ∃ (a : Addr) (ns : List Int), vs = [.ref a] ∧ SqL K H a (ns.map V.int) ∧
  ∀ (H' : Hp) (p : Addr), Same H H' → H p = none → Src H' p 0 → Q (.ref p) H'
theorem ok__law_source (T : Tx w K mg) : FnOk P w K mg base CX0 1 T.a__law_source T.fd__law_source ["_law_script"] (sp__law_source K) := by
  refine T.F__law_source.ok sc__law_source (fun vs H Q E h => ?_) (fun cdv A outer s H vs Q E hr h => ?_)
  · obtain ⟨a, ns, rfl, _⟩ := h; rfl
  · obtain ⟨a, ns, rfl, hS, q⟩ := h
    refine ⟨_, ((pss_cons (ps_asg (pe_tup (pa_cons pe_int (pa_cons pe_int pa_nil))) (pg_tup (by rfl) (pgs_cons (pg_name (i := 1) sc__law_source.nd rfl (by first | exact Or.inl rfl | exact Or.inr rfl)) (pgs_cons (pg_name (i := 2) sc__law_source.nd rfl (by first | exact Or.inl rfl | exact Or.inr rfl)) pgs_nil))))
      (pss_cons (ps_for PassesOwn.never rfl (pi_list (pv 0)) (pg_name (i := 3) sc__law_source.nd rfl (by first | exact Or.inl rfl | exact Or.inr rfl))
        (pss_cons (ps_if (PW.pt (pw_and (pt_cmpR (op_eq) (pv 1) pe_int (nomark _)) (pw_and1 (pt_cmpR (op_ge) (pv 3) (pe_op op_pow pe_int pe_int) (nomark _))))) (pss_one (ps_set (i := 1) sc__law_source.nd rfl (by first | exact Or.inl rfl | exact Or.inr rfl) (pv 3))) pss_nil)
      (pss_one (ps_set (i := 2) sc__law_source.nd rfl (by first | exact Or.inl rfl | exact Or.inr rfl) (pe_op op_mod (pe_callTy (call_int1) (by rfl) T.m_int (by decide +kernel) (pa_cons (pe_op op_add (pe_op op_add (pe_op op_mul (pv 2) pe_int) (pv 3)) pe_int) pa_nil)) pe_int)))))
      (pss_one (ps_ret (pe_lst (pa_cons (pv 1) (pa_cons (pv 2) (pa_cons pe_int pa_nil))))))))), ?_⟩
    refine ⟨(by walk_at "len"), fun t nt => ?_⟩
    refine ⟨_, _, rfl, SqT.of upd_same, rfl, _, _, rfl, _, _, rfl, rfl, ?_⟩
    have sm : Same H _ := same_new (o := .tup [.int 0, .int 17]) nt
    have hS := sm.seq hS
    generalize upd H t (.tup [.int 0, .int 17]) = H1 at *
    refine ⟨_, rfl, _, rfl, ⟨_, hS⟩, for_list (K := K) (a := a) (xs := ns.map V.int) (fun i σ H' => ∃ (g z : Int) (c : Option V), σ = [some (.ref a), some (.int g), some (.int z), c] ∧ H' = H1 ∧ 0 ≤ z ∧ z < 2147483647)
      ⟨0, 17, none, rfl, rfl, by decide, by decide⟩ ?_ ?_ ?_⟩
    · rintro i σ H' _ ⟨g, z, c, rfl, rfl, _⟩; exact hS
    · rintro i x σ H' hx ⟨g, z, c, rfl, rfl, z1, z2⟩
      obtain ⟨n, rfl⟩ : ∃ n, x = V.int n := by
        rw [List.getElem?_map] at hx
        cases e : ns[i]? with
        | none => rw [e] at hx; cases hx
        | some n => rw [e] at hx; exact ⟨n, (Option.some.inj hx).symm⟩
      refine ⟨_, rfl, rfl, _, rfl, ?_⟩
      refine ifD (fun c => ?_) (fun c => ?_)
      · refine ⟨_, rfl, _, _, rfl, rfl, (by walk_at "pow"), _, _, rfl, rfl, _, rfl, ?_⟩
        refine ifD (fun c => ?_) (fun c => ?_)
        · refine ⟨_, rfl, ?_⟩
          refine ⟨_, rfl, _, _, rfl, rfl, (by walk_at "mul"), _, rfl, _, _, rfl, rfl, _, _, rfl, rfl, .inl ⟨_, rfl, ?_⟩⟩
          refine ⟨_, _, rfl, rfl, (by walk_at "pos"), ?_⟩
          exact ⟨_, _, _, rfl, rfl, Int.emod_nonneg _ (by decide), Int.emod_lt_of_pos _ (by decide)⟩
        · refine ⟨_, rfl, _, _, rfl, rfl, (by walk_at "mul"), _, rfl, _, _, rfl, rfl, _, _, rfl, rfl, .inl ⟨_, rfl, ?_⟩⟩
          refine ⟨_, _, rfl, rfl, (by walk_at "pos"), ?_⟩
          exact ⟨_, _, _, rfl, rfl, Int.emod_nonneg _ (by decide), Int.emod_lt_of_pos _ (by decide)⟩
      · refine ifF rfl ?_
        refine ⟨_, rfl, _, _, rfl, rfl, (by walk_at "mul"), _, rfl, _, _, rfl, rfl, _, _, rfl, rfl, .inl ⟨_, rfl, ?_⟩⟩
        refine ⟨_, _, rfl, rfl, (by walk_at "pos"), ?_⟩
        exact ⟨_, _, _, rfl, rfl, Int.emod_nonneg _ (by decide), Int.emod_lt_of_pos _ (by decide)⟩
    · rintro σ H' ⟨g, z, c, rfl, rfl, z1, z2⟩
      refine ⟨_, rfl, _, rfl, (by walk_at "len"), fun p np => ?_⟩
      exact q _ p (sm.trans (same_new np)) (sm.free np) ⟨g, z, upd_same, z1, z2, by decide⟩
theorem ok__law_draw (T : Tx w K mg) : FnOk P w K mg base CX0 1 T.a__law_draw T.fd__law_draw ["_law_source_here", "_law_many"] (spD (GG T) f__law_draw) := by
  refine T.F__law_draw.ok sc__law_draw (fun vs H Q E h => ?_) (fun cdv A outer s H vs Q E hr h => ?_)
  · obtain ⟨p, B, ds, S, h1, h2, h3, h4⟩ := h
    rw [h3.len]
    unfold f__law_draw at h4
    split at h4
    all_goals first | rfl | exact h4.elim
  · obtain ⟨po, B, ds, S, hB, hsrc, hv, h4⟩ := h
    have hds : ∃ m, ds = [.src, .int m] ∧ 0 < m ∧ m < 1000000 ∧ S.c ≤ 990000 := by
      unfold f__law_draw at h4
      split at h4
      all_goals first | exact h4.elim | skip
      rename_i m
      by_cases hc : (decide (0 < m) && decide (m < 1000000) && decide (S.c ≤ 990000)) = true
      · simp only [Bool.and_eq_true, decide_eq_true_eq] at hc; exact ⟨m, rfl, hc.1.1, hc.1.2, hc.2⟩
      · rw [if_neg hc] at h4; exact h4.elim
    obtain ⟨m, rfl, m1, m2, c2⟩ := hds
    have hok : f__law_draw [.src, .int m] S = .ok (.int (drawV S m)) (drawS S m) := by
      show (if _ then _ else _) = _
      rw [if_pos (by simp [m1, m2, c2])]
    rw [hok] at h4
    cases hv with | cons k1 k2 =>
    cases k2 with | cons k2 k3 =>
    cases k3; cases k2
    cases k1 with | src hp0 =>
    rename_i p
    subst hp0
    obtain ⟨nB, hp, z1, z2, c1⟩ := hsrc p rfl
    obtain ⟨g, z, c, mm⟩ := S
    have hp : H p = some (.lst [.int g, .int z, .int c]) := hp
    have z1 : 0 ≤ z := z1
    have z2 : z < 2147483647 := z2
    have c1 : 0 ≤ c := c1
    have c2 : c ≤ 990000 := c2
    have fin : ∀ (g' r : Int), drawV ⟨g, z, c, mm⟩ m = r → drawS ⟨g, z, c, mm⟩ m = ⟨g', z, c + 1, mm⟩ → Q (.int r) (upd H p (.lst [.int g', .int z, .int (c + 1)])) := fun g' r e1 e2 => by
      rw [e1, e2] at h4
      refine h4 (.int r) B _ (Same.refl _) (fun q o hq => ?_) (fun q o hpq hq => ?_) (fun q o hq _ => .inl hq) (fun q hq => ?_) (.int _)
      · have e : q ≠ p := fun e => by rw [e, nB] at hq; cases hq
        rw [upd_ne e]; exact hB q o hq
      · have e : q ≠ p := fun e => hpq (e ▸ rfl)
        rw [upd_ne e]; exact hq
      · cases hq; exact ⟨nB, upd_same, z1, z2, by show 0 ≤ c + 1; omega⟩
    refine ⟨_, ((pss_cons (ps_asg (pe_op op_add (pe_ix ix_list (pv 0) pe_int (fun _ _ => rfl)) pe_int) (pg_sub (pv 0) pe_int set_list))
      (pss_cons (ps_if (pt_cmpR (op_gt) (pe_ix ix_list (pv 0) pe_int (fun _ _ => rfl)) pe_int (nomark _)) (pss_cons (ps_set (i := 2) sc__law_draw.nd rfl (by first | exact Or.inl rfl | exact Or.inr rfl) (pe_op op_mod (pe_callTy (call_int1) (by rfl) T.m_int (by decide +kernel) (pa_cons (pe_ix ix_list (pv 0) pe_int (fun _ _ => rfl)) pa_nil)) (pv 1)))
      (pss_cons (ps_asg (pe_op op_fdivW (pe_ix ix_list (pv 0) pe_int (fun _ _ => rfl)) (pv 1)) (pg_sub (pv 0) pe_int set_list))
      (pss_one (ps_ret (pv 2))))) pss_nil)
      (pss_cons (ps_set (i := 3) sc__law_draw.nd rfl (by first | exact Or.inl rfl | exact Or.inr rfl) (pe_op op_mod (pe_op op_pow (pe_op op_add (pe_ix ix_list (pv 0) pe_int (fun _ _ => rfl)) (pe_op op_mul pe_int (pe_ix ix_list (pv 0) pe_int (fun _ _ => rfl)))) pe_int) pe_int))
      (pss_one (ps_ret (pe_op op_mod (pe_op op_mod (pe_op op_pow (pe_op op_add (pe_op op_add (pe_op op_mul (pv 3) pe_int) (pe_op op_mul (pe_op op_mul pe_int (pe_ix ix_list (pv 0) pe_int (fun _ _ => rfl))) (pe_ix ix_list (pv 0) pe_int (fun _ _ => rfl)))) pe_int) pe_int) pe_int) (pv 1)))))))), ?_⟩
    refine ⟨_, rfl, _, _, _, _, rfl, rfl, (by walk_at "sq"), (by walk_at "at"), _, _, rfl, rfl, _, rfl, _, _, _, _, rfl, rfl, (by walk_at "hp"), (by walk_at "ixN"), ?_⟩
    refine ⟨_, rfl, _, _, _, _, rfl, rfl, (by walk_at "sq"), (by walk_at "at"), _, _, rfl, rfl, _, rfl, ?_⟩
    refine ifD (fun d => ?_) (fun d => ?_)
    · refine ⟨_, rfl, _, _, _, _, rfl, rfl, (by walk_at "sq"), (by walk_at "at"), .inl ⟨_, rfl, ?_⟩⟩
      refine ⟨_, rfl, _, _, rfl, rfl, (by walk_at "pos"), ?_⟩
      refine ⟨_, rfl, _, _, _, _, rfl, rfl, (by walk_at "sq"), (by walk_at "at"), _, rfl, _, _, rfl, rfl, (by walk_at "div"), _, rfl, _, _, _, _, rfl, rfl, (by walk_at "hp"), (by walk_at "ixN"), ?_⟩
      refine ⟨_, rfl, ?_⟩
      rw [L2.upd_upd]
      have d : 1 < g := d
      exact fin _ _ (by unfold drawV; rw [if_pos d]) (by unfold drawS; rw [if_pos d])
    · refine ⟨_, rfl, _, _, _, _, rfl, rfl, (by walk_at "sq"), (by walk_at "at"), _, rfl, _, _, _, _, rfl, rfl, (by walk_at "sq"), (by walk_at "at"), _, _, rfl, rfl, (by walk_at "mul"), _, _, rfl, rfl, _, _, rfl, rfl, ⟨by decide, by decide, by omega⟩, _, _, rfl, rfl, (by walk_at "pos"), ?_⟩
      have hy : ∀ x : Int, 0 ≤ x % 2147483629 ∧ x % 2147483629 < 2147483629 := fun x => ⟨Int.emod_nonneg _ (by decide), Int.emod_lt_of_pos _ (by decide)⟩
      have d : ¬ 1 < g := d
      have ev : drawV ⟨g, z, c, mm⟩ m = ((z + 7919 * (c + 1)) ^ (5 : Int).toNat % 2147483629 * 48271 + 16807 * (c + 1) * (c + 1) + 11) ^ (3 : Int).toNat % 1000000007 % m := by unfold drawV; rw [if_neg d]
      have es : drawS ⟨g, z, c, mm⟩ m = ⟨g, z, c + 1, mm⟩ := by unfold drawS; rw [if_neg d]
      have fin2 := fin _ _ ev es
      obtain ⟨y1, y2⟩ := hy ((z + 7919 * (c + 1)) ^ (5 : Int).toNat)
      have h1 : 16807 * (c + 1) * (c + 1) ≤ 16807 * 1000001 * 1000001 := Int.mul_le_mul (by omega) (by omega) (by omega) (by decide)
      have h0 : 0 ≤ 16807 * (c + 1) * (c + 1) := Int.mul_nonneg (by omega) (by omega)
      refine ⟨_, rfl, _, _, rfl, rfl, (by walk_at "mul"), _, rfl, _, _, _, _, rfl, rfl, (by walk_at "sq"), (by walk_at "at"), _, _, rfl, rfl, (by walk_at "mul"), _, rfl, _, _, _, _, rfl, rfl, (by walk_at "sq"), (by walk_at "at"), _, _, rfl, rfl, (by walk_at "mul"), _, _, rfl, rfl, _, _, rfl, rfl, _, _, rfl, rfl, ⟨by decide, by decide, by omega⟩, _, _, rfl, rfl, (by walk_at "pos"), _, rfl, _, _, rfl, rfl, (by walk_at "pos"), ?_⟩
      exact fin2
theorem ok__law_pick (T : Tx w K mg) : FnOk P w K mg base CX0 2 T.a__law_pick T.fd__law_pick ["_law_source_here", "_law_things"] (spD (GG T) f__law_pick) := by
  refine T.F__law_pick.ok sc__law_pick (fun vs H Q E h => fn_len h) (fun cdv A outer s H vs Q E hr h => ?_)
  have hu := hu_of hr
  refine ⟨tS (GG T) [] [] [] E b__law_pick, (ds_one (ds_ret (de_bin bin_ix (pe_ix (ix_G (G := (GG T))) (de_var (pv 1) (by decide)) (de_call (pe_call (ok__law_draw T) (hr.mono (by decide)) (by rfl) T.g__law_draw T.F__law_draw.kp T.b__law_draw .nil pass0 (DA.pa (da_cons (de_var (pv 0) (by decide)) (da_cons (de_arg (m := true) arg_len (pe_callB (call_lenG (G := (GG T))) (by rfl) T.m_len (by decide +kernel) (DA.pa (da_cons (de_var (pv 1) (by decide)) da_nil)))) da_nil))))) (fun _ _ => rfl))))), fn_read h⟩
theorem ok__law_level (T : Tx w K mg) : FnOk P w K mg base CX0 3 T.a__law_level T.fd__law_level ["_law_table", "_law_d"] (spD (GG T) f__law_level) := by
  refine T.F__law_level.ok sc__law_level (fun vs H Q E h => fn_len h) (fun cdv A outer s H vs Q E hr h => ?_)
  have hu := hu_of hr
  refine ⟨tS (GG T) [] [] [] E b__law_level, (ds_cons (ds_set rfl (ps_set (i := 2) sc__law_level.nd rfl (by first | exact Or.inl rfl | exact Or.inr rfl) (de_bin (m := true) bin_fdiv (pe_op op_fdivW (de_arg (m := true) arg_len (pe_callB (call_lenG (G := (GG T))) (by rfl) T.m_len (by decide +kernel) (DA.pa (da_cons (de_coe (de_propO (insObj (c := "Table") (by rfl)) (pe_prop (de_var (pv 0) (by decide)) T.cl_Table T.pr_Table_levels (ok_Table_levels T) (hr.mono (by decide)) T.b_Table_levels .nil pass0 rfl))) da_nil)))) de_int))))
      (ds_cons (ds_if (dt_cmp bin_cmp (pt_cmpR op_gtA (de_var (pv 1) (by decide)) (de_var (pv 2) (by decide)) (nomark _))) (ds_one (ds_set rfl (ps_set (i := 1) sc__law_level.nd rfl (by first | exact Or.inl rfl | exact Or.inr rfl) (de_bin bin_add (pe_op (op_addA (G := (GG T))) (de_bin (m := true) bin_sub (pe_op op_sub (de_var (pv 1) (by decide)) (de_bin (m := true) bin_mul (pe_op op_mulW (de_bin (m := true) bin_fdiv (pe_op op_fdivW (de_arg (m := true) arg_int (pe_callTy (call_int1) (by rfl) T.m_int (by decide +kernel) (DA.pa (da_cons (de_bin (m := true) bin_sub (pe_op op_sub (de_var (pv 1) (by decide)) (de_var (pv 2) (by decide)))) da_nil)))) (de_coe (de_propO (insObj (c := "Table") (by rfl)) (pe_prop (de_var (pv 0) (by decide)) T.cl_Table T.pr_Table_above (ok_Table_above T) (hr.mono (by decide)) T.b_Table_above .nil pass0 rfl))))) (de_coe (de_propO (insObj (c := "Table") (by rfl)) (pe_prop (de_var (pv 0) (by decide)) T.cl_Table T.pr_Table_above (ok_Table_above T) (hr.mono (by decide)) T.b_Table_above .nil pass0 rfl))))))) (de_propO (insObj (c := "Table") (by rfl)) (pe_prop (de_var (pv 0) (by decide)) T.cl_Table T.pr_Table_above (ok_Table_above T) (hr.mono (by decide)) T.b_Table_above .nil pass0 rfl))))))) ds_nil)
      (ds_cons (ds_if (dt_cmp bin_cmp (pt_cmpR op_ltA (de_var (pv 1) (by decide)) (de_bin (m := true) bin_sub (pe_op op_sub de_int (de_var (pv 2) (by decide)))) (nomark _))) (ds_one (ds_set rfl (ps_set (i := 1) sc__law_level.nd rfl (by first | exact Or.inl rfl | exact Or.inr rfl) (de_bin (m := true) bin_sub (pe_op op_sub (de_bin bin_add (pe_op (op_addA (G := (GG T))) (de_var (pv 1) (by decide)) (de_bin (m := true) bin_mul (pe_op op_mulW (de_bin (m := true) bin_fdiv (pe_op op_fdivW (de_arg (m := true) arg_int (pe_callTy (call_int1) (by rfl) T.m_int (by decide +kernel) (DA.pa (da_cons (de_bin (m := true) bin_sub (pe_op op_sub (de_bin (m := true) bin_sub (pe_op op_sub de_int (de_var (pv 2) (by decide)))) (de_var (pv 1) (by decide)))) da_nil)))) (de_coe (de_propO (insObj (c := "Table") (by rfl)) (pe_prop (de_var (pv 0) (by decide)) T.cl_Table T.pr_Table_below (ok_Table_below T) (hr.mono (by decide)) T.b_Table_below .nil pass0 rfl))))) (de_coe (de_propO (insObj (c := "Table") (by rfl)) (pe_prop (de_var (pv 0) (by decide)) T.cl_Table T.pr_Table_below (ok_Table_below T) (hr.mono (by decide)) T.b_Table_below .nil pass0 rfl))))))) (de_coe (de_propO (insObj (c := "Table") (by rfl)) (pe_prop (de_var (pv 0) (by decide)) T.cl_Table T.pr_Table_below (ok_Table_below T) (hr.mono (by decide)) T.b_Table_below .nil pass0 rfl)))))))) ds_nil)
      (ds_cons (ds_while 10 (ps_while PassesOwn.never (dt_cmp bin_cmp (pt_cmpR op_gtA (de_var (pv 1) (by decide)) (de_var (pv 2) (by decide)) (nomark _)))
        (ds_one (ds_set rfl (ps_set (i := 1) sc__law_level.nd rfl (by first | exact Or.inl rfl | exact Or.inr rfl) (de_bin (m := true) bin_sub (pe_op op_sub (de_var (pv 1) (by decide)) (de_coe (de_propO (insObj (c := "Table") (by rfl)) (pe_prop (de_var (pv 0) (by decide)) T.cl_Table T.pr_Table_above (ok_Table_above T) (hr.mono (by decide)) T.b_Table_above .nil pass0 rfl))))))))))
      (ds_cons (ds_while 10 (ps_while PassesOwn.never (dt_cmp bin_cmp (pt_cmpR op_ltA (de_var (pv 1) (by decide)) (de_bin (m := true) bin_sub (pe_op op_sub de_int (de_var (pv 2) (by decide)))) (nomark _)))
        (ds_one (ds_set rfl (ps_set (i := 1) sc__law_level.nd rfl (by first | exact Or.inl rfl | exact Or.inr rfl) (de_bin bin_add (pe_op (op_addA (G := (GG T))) (de_var (pv 1) (by decide)) (de_propO (insObj (c := "Table") (by rfl)) (pe_prop (de_var (pv 0) (by decide)) T.cl_Table T.pr_Table_below (ok_Table_below T) (hr.mono (by decide)) T.b_Table_below .nil pass0 rfl)))))))))
      (ds_one (ds_ret (de_bin bin_ix (pe_ix (ix_G (G := (GG T))) (de_propO (insObj (c := "Table") (by rfl)) (pe_prop (de_var (pv 0) (by decide)) T.cl_Table T.pr_Table_levels (ok_Table_levels T) (hr.mono (by decide)) T.b_Table_levels .nil pass0 rfl)) (de_bin bin_add (pe_op (op_addA (G := (GG T))) (de_var (pv 1) (by decide)) (de_var (pv 2) (by decide)))) (fun _ _ => rfl)))))))))), fn_read h⟩
theorem ok__law_triples (T : Tx w K mg) : FnOk P w K mg base CX0 3 T.a__law_triples T.fd__law_triples ["_law_source_here", "_law_lasts", "_law_most"] (spD (GG T) f__law_triples) := by
  refine T.F__law_triples.ok sc__law_triples (fun vs H Q E h => fn_len h) (fun cdv A outer s H vs Q E hr h => ?_)
  have hu := hu_of hr
  refine ⟨tS (GG T) [] [] [] E b__law_triples, (ds_cons (ds_setN (by decide) rfl (ps_set (i := 3) sc__law_triples.nd rfl (by first | exact Or.inl rfl | exact Or.inr rfl) (de_lstN da_nil (by decide))))
      (ds_cons (ds_for (ps_for PassesOwn.never rfl (di_rng1 (pi_range1 rfl T.m_range (DA.pa (da_cons (de_coe (de_call (pe_call (ok__law_draw T) (hr.mono (by decide)) (by rfl) T.g__law_draw T.F__law_draw.kp T.b__law_draw .nil pass0 (DA.pa (da_cons (de_var (pv 0) (by decide)) (da_cons (de_bin bin_add (pe_op (op_addA (G := (GG T))) (de_var (pv 2) (by decide)) de_int)) da_nil)))))) da_nil)))) (dg_name (pg_name (i := 4) sc__law_triples.nd rfl (by first | exact Or.inl rfl | exact Or.inr rfl)) (by decide))
        (ds_cons (ds_par (by decide) (by decide) (ps_par (i := 5) (j := 6) (by rfl) sc__law_triples.nd rfl rfl (by decide) rfl rfl (DA.pa (da_cons (de_call (pe_call (ok__law_pick T) (hr.mono (by decide)) (by rfl) T.g__law_pick T.F__law_pick.kp T.b__law_pick .nil pass0 (DA.pa (da_cons (de_var (pv 0) (by decide)) (da_cons (de_lst (da_cons de_str (da_cons de_str (da_cons de_str da_nil))) (by decide)) da_nil))))) (da_cons (de_call (pe_call (ok__law_pick T) (hr.mono (by decide)) (by rfl) T.g__law_pick T.F__law_pick.kp T.b__law_pick .nil pass0 (DA.pa (da_cons (de_var (pv 0) (by decide)) (da_cons (de_lst (da_cons de_str (da_cons de_str da_nil)) (by decide)) da_nil))))) da_nil))) (by rfl)))
      (ds_one (ds_app (by decide) (ps_expr (pe_bm PySem.F.plainAttrs_list PySem.F.slot_list_append PySem.F.type_list_append mt_append (pv 3) (DA.pa (da_cons (de_tup (da_cons (de_var (pv 5) (by decide)) (da_cons (de_var (pv 6) (by decide)) (da_cons (de_call (pe_call (ok__law_pick T) (hr.mono (by decide)) (by rfl) T.g__law_pick T.F__law_pick.kp T.b__law_pick .nil pass0 (DA.pa (da_cons (de_var (pv 0) (by decide)) (da_cons (de_var (pv 1) (by decide)) da_nil))))) da_nil))) (by decide)) da_nil)))))))))
      (ds_frz 3 rfl (ds_one (ds_ret (de_var (pv 3) (by decide))))))), fn_read h⟩
theorem ok__law_ascending (T : Tx w K mg) : FnOk P w K mg base CX0 1 T.a__law_ascending T.fd__law_ascending ["_law_triples_here"] (spD (GG T) f__law_ascending) := by
  refine T.F__law_ascending.ok sc__law_ascending (fun vs H Q E h => fn_len h) (fun cdv A outer s H vs Q E hr h => ?_)
  have hu := hu_of hr
  refine ⟨tS (GG T) [] [] [] E b__law_ascending, (ds_one (ds_ret (de_arg (m := false) arg_tuple (pe_callTy (call_tupleG (G := (GG T))) (by rfl) T.m_tuple (by decide +kernel) (DA.pa (da_cons (de_ofN (de_argN (m := false) arg_sortX (pe_callB (call_sortX (G := (GG T)) (hu65 hr)) (by rfl) T.m_sorted (by decide +kernel) (DA.pa (da_cons (de_ofN (de_lcN (by decide) (by decide) (pe_lc (own := [("_law_k", 1), ("_law_one", 2)]) (by rfl) sc__law_ascending.nd (di_enum (pi_enum (by rfl) T.m_enumerate (DA.pa (da_cons (de_var (pv 0) (by decide)) da_nil)))) (blkOk_by (own := [("_law_k", 1), ("_law_one", 2)]) (N := N__law_ascending) (sc := defScope s__law_ascending) (by decide +kernel)) (fun _ _ _ _ _ => (dg_tup (by rfl) (dgs_cons (dg_name (pg_name (i := 1) sc__law_ascending.nd rfl (by first | exact Or.inl rfl | exact Or.inr rfl)) (by decide)) (dgs_cons (dg_name (pg_name (i := 2) sc__law_ascending.nd rfl (by first | exact Or.inl rfl | exact Or.inr rfl)) (by decide)) dgs_nil)))) (fun _ _ _ _ _ => (pts_one (dt_cmp bin_inX (pt_cmpR (op_notInXG (G := (GG T)) (hu65 hr)) (de_var (pv 2) (by decide)) (de_slice (pe_slice (sl_G (G := (GG T))) (de_var (pv 0) (by decide)) do_none (do_some (de_var (pv 1) (by decide))))) (by rfl))))) (fun _ _ _ _ _ => (de_var (pv 2) (by decide)))))) da_nil))))) da_nil)))))), fn_read h⟩
theorem ok__law_near (T : Tx w K mg) : FnOk P w K mg base CX0 1 T.a__law_near T.fd__law_near ["_law_d", "_law_below", "_law_above"] (spD (GG T) f__law_near) := by
  refine T.F__law_near.ok sc__law_near (fun vs H Q E h => fn_len h) (fun cdv A outer s H vs Q E hr h => ?_)
  have hu := hu_of hr
  refine ⟨tS (GG T) [] [] [] E b__law_near, (ds_cons (ds_if (dt_cmp bin_cmp (pt_cmpR op_ltA (de_arg (m := true) arg_abs (pe_callB (call_abs) (by rfl) T.m_abs (by decide +kernel) (DA.pa (da_cons (de_var (pv 0) (by decide)) da_nil)))) (de_bin (m := true) bin_pow (pe_op op_pow de_int de_int)) (nomark _))) (ds_one (ds_ret (de_var (pv 0) (by decide)))) ds_nil)
      (ds_cons (ds_if (dt_cmp bin_cmp (pt_cmpR op_gtA (de_var (pv 0) (by decide)) de_int (nomark _))) (ds_one (ds_ret (de_bin bin_add (pe_op (op_addA (G := (GG T))) (de_bin (m := true) bin_mod (pe_op op_mod (de_var (pv 0) (by decide)) (de_bin (m := true) bin_mul (pe_op op_mulW de_int (de_var (pv 2) (by decide)))))) (de_bin (m := true) bin_mul (pe_op op_mulW de_int (de_var (pv 2) (by decide)))))))) ds_nil)
      (ds_one (ds_ret (de_bin (m := true) bin_sub (pe_op op_sub (de_bin (m := true) bin_sub (pe_op op_sub de_int (de_bin (m := true) bin_mod (pe_op op_mod (de_bin (m := true) bin_sub (pe_op op_sub de_int (de_var (pv 0) (by decide)))) (de_bin (m := true) bin_mul (pe_op op_mulW de_int (de_var (pv 1) (by decide)))))))) (de_bin (m := true) bin_mul (pe_op op_mulW de_int (de_var (pv 1) (by decide)))))))))), fn_read h⟩
theorem ok__law_holds_rightly (T : Tx w K mg) : FnOk P w K mg base CX0 7 T.a__law_holds_rightly T.fd__law_holds_rightly ["_law_source_here", "_law_table", "_law_d"] (spD (GG T) f__law_holds_rightly) := by
  refine T.F__law_holds_rightly.ok sc__law_holds_rightly (fun vs H Q E h => fn_len h) (fun cdv A outer s H vs Q E hr h => ?_)
  have hu := hu_of hr
  refine ⟨tS (GG T) [] [] [] E b__law_holds_rightly, (ds_cons (ds_set rfl (ps_set (i := 3) sc__law_holds_rightly.nd rfl (by first | exact Or.inl rfl | exact Or.inr rfl) (de_meth (insObjM (c := "Table") (by rfl)) (pe_meth (de_var (pv 1) (by decide)) T.cl_Table T.me_Table_level (ok_Table_level T) (hr.mono (by decide)) T.b_Table_level .nil pass0 (DA.pa (da_cons (de_var (pv 2) (by decide)) da_nil))))))
      (ds_cons (ds_for (ps_for PassesOwn.never rfl (di_seq (de_call (pe_call (ok__law_triples T) (hr.mono (by decide)) (by rfl) T.g__law_triples T.F__law_triples.kp T.b__law_triples .nil pass0 (DA.pa (da_cons (de_var (pv 0) (by decide)) (da_cons (de_lst (da_cons de_str (da_cons de_str (da_cons de_str da_nil))) (by decide)) (da_cons de_int da_nil))))))) (dg_name (pg_name (i := 4) sc__law_holds_rightly.nd rfl (by first | exact Or.inl rfl | exact Or.inr rfl)) (by decide))
        (ds_cons (ds_set rfl (ps_set (i := 5) sc__law_holds_rightly.nd rfl (by first | exact Or.inl rfl | exact Or.inr rfl) (de_bin (m := true) bin_inX (pe_cmpR (op_inXG (G := (GG T)) (hu65 hr)) (de_var (pv 4) (by decide)) (de_var (pv 3) (by decide)) (by rfl)))))
      (ds_cons (ds_if (dt_cmp bin_ne (pt_cmpR (op_neG (G := (GG T)) hr.units) (de_inO (insObj (c := "Table") (by rfl)) (pe_cmpR (op_inO (ok_Table___contains__ T) (hr.mono (by decide)) T.me_Table___contains__ T.b_Table___contains__ pass0) (de_tup (da_cons (de_bin bin_ix (pe_ix (ix_G (G := (GG T))) (de_var (pv 4) (by decide)) de_int (fun _ _ => rfl))) (da_cons (de_bin bin_ix (pe_ix (ix_G (G := (GG T))) (de_var (pv 4) (by decide)) de_int (fun _ _ => rfl))) (da_cons (de_tup (da_cons (de_var (pv 2) (by decide)) (da_cons (de_bin bin_ix (pe_ix (ix_G (G := (GG T))) (de_var (pv 4) (by decide)) de_int (fun _ _ => rfl))) da_nil)) (by decide)) da_nil))) (by decide)) (de_var (pv 1) (by decide)) (by rfl))) (de_var (pv 5) (by decide)) (nomark _))) (ds_one (ds_ret de_bl)) ds_nil)
      (ds_one (ds_if (dt_cmp bin_ne (pt_cmpR (op_neG (G := (GG T)) hr.units) (de_inO (insObj (c := "Table") (by rfl)) (pe_cmpR (op_inO (ok_Table___contains__ T) (hr.mono (by decide)) T.me_Table___contains__ T.b_Table___contains__ pass0) (de_lst (da_cons (de_bin bin_ix (pe_ix (ix_G (G := (GG T))) (de_var (pv 4) (by decide)) de_int (fun _ _ => rfl))) (da_cons (de_bin bin_ix (pe_ix (ix_G (G := (GG T))) (de_var (pv 4) (by decide)) de_int (fun _ _ => rfl))) (da_cons (de_lst (da_cons (de_var (pv 2) (by decide)) (da_cons (de_bin bin_ix (pe_ix (ix_G (G := (GG T))) (de_var (pv 4) (by decide)) de_int (fun _ _ => rfl))) da_nil)) (by decide)) da_nil))) (by decide)) (de_var (pv 1) (by decide)) (by rfl))) (de_var (pv 5) (by decide)) (nomark _))) (ds_one (ds_ret de_bl)) ds_nil))))))
      (ds_one (ds_ret de_bl)))), fn_read h⟩
def sp_law (K : PySem.W.Frag) : Sp := fun vs H Q _ => ∃ (a : Addr) (ns : List Int), vs = [.ref a] ∧ SqL K H a (ns.map V.int) ∧ ns.length ≤ 63 ∧ ∀ H', Q (.bl true) H'
theorem ok_law (T : Tx w K mg) : FnOk P w K mg base CX0 9 T.a_law T.fd_law ["_law_script"] (sp_law K) := by
  refine T.F_law.ok sc_law (fun vs H Q E h => ?_) (fun cdv A outer s H vs Q E hr h => ?_)
  · obtain ⟨p, c, rfl, _⟩ := h; rfl
  · obtain ⟨a, ns, rfl, hS, hlen, q⟩ := h
    have hu := hu_of hr
    refine ⟨_, pss_cons (ps_set (i := 1) sc_law.nd rfl (by first | exact Or.inl rfl | exact Or.inr rfl) (pe_call (ok__law_source T) (hr.mono (by decide)) rfl T.g__law_source T.F__law_source.kp T.b__law_source .nil pass0 (pa_cons (pv 0) pa_nil)))
      (show PSs _ _ (tS (GG T).vol [] [] [] E b_law) from (ds_cons (ds_set rfl (ps_set (i := 2) sc_law.nd rfl (by first | exact Or.inl rfl | exact Or.inr rfl) (de_lift rfl rfl (de_call (pe_call (ok__law_triples T) (hr.mono (by decide)) (by rfl) T.g__law_triples T.F__law_triples.kp T.b__law_triples .nil pass0 (DA.pa (da_cons (de_var (pv 1) (by decide)) (da_cons (de_lst (da_cons de_str (da_cons de_str (da_cons de_str da_nil))) (by decide)) (da_cons de_int da_nil)))))))))
      (ds_cons (ds_set rfl (ps_set (i := 3) sc_law.nd rfl (by first | exact Or.inl rfl | exact Or.inr rfl) (de_lift rfl rfl (de_bin bin_add (pe_op (op_addA (G := GG T)) de_int (de_call (pe_call (ok__law_draw T) (hr.mono (by decide)) (by rfl) T.g__law_draw T.F__law_draw.kp T.b__law_draw .nil pass0 (DA.pa (da_cons (de_var (pv 1) (by decide)) (da_cons de_int da_nil))))))))))
      (ds_cons (ds_lcV rfl (by decide) (ps_setLc (i := 4) (own := [("_law_k", 5)]) (by rfl) sc_law.nd rfl rfl (sw_true rfl rfl rfl (by decide +kernel)) (di_rng1 (pi_range1 rfl T.m_range (DA.pa (da_cons (de_lift rfl rfl (de_bin bin_add (pe_op (op_addA (G := GG T)) (de_bin (m := true) bin_mul (pe_op op_mulW de_int (de_var (pv 3) (by decide)))) de_int))) da_nil)))) (blkOk_by (own := [("_law_k", 5)]) (N := N_law) (sc := defScope s_law) (by decide +kernel)) (fun _ _ _ _ _ => (dg_name (pg_name (i := 5) sc_law.nd rfl (by first | exact Or.inl rfl | exact Or.inr rfl)) (by decide))) (fun _ _ _ _ _ => dts_nil) (fun _ _ _ _ _ => (de_callK (m := false) (pe_call (ok__law_triples T) (hr.mono (by decide)) (by rfl) T.g__law_triples T.F__law_triples.kp T.b__law_triples .nil pass0 (DA.pa (da_cons (de_var (pv 1) (by decide)) (da_cons (de_lst (da_cons de_str (da_cons de_str (da_cons de_str da_nil))) (by decide)) (da_cons de_int da_nil)))))))))
      (ds_cons (ds_par (by decide) (by decide) (ps_par (i := 6) (j := 7) (by rfl) sc_law.nd rfl rfl (by decide) rfl rfl (DA.pa (da_cons (de_lift rfl rfl (de_bin bin_add (pe_op (op_addA (G := GG T)) de_int (de_call (pe_call (ok__law_draw T) (hr.mono (by decide)) (by rfl) T.g__law_draw T.F__law_draw.kp T.b__law_draw .nil pass0 (DA.pa (da_cons (de_var (pv 1) (by decide)) (da_cons (de_var (pv 3) (by decide)) da_nil)))))))) (da_cons (de_lift rfl rfl (de_bin bin_add (pe_op (op_addA (G := GG T)) de_int (de_call (pe_call (ok__law_draw T) (hr.mono (by decide)) (by rfl) T.g__law_draw T.F__law_draw.kp T.b__law_draw .nil pass0 (DA.pa (da_cons (de_var (pv 1) (by decide)) (da_cons (de_var (pv 3) (by decide)) da_nil)))))))) da_nil))) (by rfl)))
      (ds_cons (ds_par (by decide) (by decide) (ps_par (i := 8) (j := 9) (by rfl) sc_law.nd rfl rfl (by decide) rfl rfl (DA.pa (da_cons (de_cell (m := false) (de_lcVN (by decide) (pe_lc (own := [("_law_one", 10)]) (by rfl) sc_law.nd (di_seq (de_var (pv 2) (by decide))) (blkOk_by (own := [("_law_one", 10)]) (N := N_law) (sc := defScope s_law) (by decide +kernel)) (fun _ _ _ _ _ => (dg_name (pg_name (i := 10) sc_law.nd rfl (by first | exact Or.inl rfl | exact Or.inr rfl)) (by decide))) (fun _ _ _ _ _ => dts_nil) (fun _ _ _ _ _ => (de_cell (m := false) (de_argN (m := false) arg_listN (pe_callTy (call_listG (G := (GG T).vol)) (by rfl) T.m_list (by decide +kernel) (DA.pa (da_cons (de_var (pv 10) (by decide)) da_nil))))))))) (da_cons (de_cell (m := false) (de_lcVN (by decide) (pe_lc (own := [("_law_level_here", 11)]) (by rfl) sc_law.nd (di_seq (de_var (pv 4) (by decide))) (blkOk_by (own := [("_law_level_here", 11)]) (N := N_law) (sc := defScope s_law) (by decide +kernel)) (fun _ _ _ _ _ => (dg_name (pg_name (i := 11) sc_law.nd rfl (by first | exact Or.inl rfl | exact Or.inr rfl)) (by decide))) (fun _ _ _ _ _ => dts_nil) (fun _ _ _ _ _ => (de_cell (m := false) (de_argN (m := false) arg_listN (pe_callTy (call_listG (G := (GG T).vol)) (by rfl) T.m_list (by decide +kernel) (DA.pa (da_cons (de_var (pv 11) (by decide)) da_nil))))))))) da_nil))) (by rfl)))
      (ds_cons (ds_set rfl (ps_set (i := 12) sc_law.nd rfl (by first | exact Or.inl rfl | exact Or.inr rfl) (de_liftZ rfl rfl (de_makeF (by rfl) (pe_make T.mk_Table (ok_Table___init__ T) (hr.mono (by decide)) (by rfl) T.g_Table T.b_Table___init__ .nil pass0 (DA.pa (da_cons (de_var (pv 8) (by decide)) (da_cons (de_var (pv 9) (by decide)) (da_cons (de_var (pv 6) (by decide)) (da_cons (de_var (pv 7) (by decide)) da_nil))))))))))
      (ds_cons (ds_expr (ps_expr (de_clrM (m := false) (pe_bm0 PySem.F.plainAttrs_list PySem.F.slot_list_clear PySem.F.type_list_clear mt_clear (de_var (pv 8) (by decide))))))
      (ds_cons (ds_expr (ps_expr (de_clrM (m := false) (pe_bm0 PySem.F.plainAttrs_list PySem.F.slot_list_clear PySem.F.type_list_clear mt_clear (de_idxM (m := false) (pe_ix (ix_G (G := (GG T).vol)) (de_var (pv 9) (by decide)) de_int (fun _ _ => rfl)))))))
      (ds_cons (ds_expr (ps_expr (de_clrM (m := false) (pe_bm0 PySem.F.plainAttrs_list PySem.F.slot_list_clear PySem.F.type_list_clear mt_clear (de_var (pv 9) (by decide))))))
      (ds_cons (ds_if (PW.pt (dw_or (dt_lift rfl rfl (dt_cmp bin_ne (pt_cmpR (op_neG (G := GG T) hr.units) (de_coe (de_propO (insObj (c := "Table") (by rfl)) (pe_prop (de_var (pv 12) (by decide)) T.cl_Table T.pr_Table_alone (ok_Table_alone T) (hr.mono (by decide)) T.b_Table_alone .nil pass0 rfl))) (de_coe (de_call (pe_call (ok__law_ascending T) (hr.mono (by decide)) (by rfl) T.g__law_ascending T.F__law_ascending.kp T.b__law_ascending .nil pass0 (DA.pa (da_cons (de_var (pv 2) (by decide)) da_nil))))) (nomark _)))) (pw_or1 (dt_lift rfl rfl (dt_cmp bin_ne (pt_cmpR (op_neG (G := GG T) hr.units) (de_lst (da_cons (de_coe (de_propO (insObj (c := "Table") (by rfl)) (pe_prop (de_var (pv 12) (by decide)) T.cl_Table T.pr_Table_below (ok_Table_below T) (hr.mono (by decide)) T.b_Table_below .nil pass0 rfl))) (da_cons (de_coe (de_propO (insObj (c := "Table") (by rfl)) (pe_prop (de_var (pv 12) (by decide)) T.cl_Table T.pr_Table_above (ok_Table_above T) (hr.mono (by decide)) T.b_Table_above .nil pass0 rfl))) da_nil)) (by decide)) (de_lst (da_cons (de_var (pv 6) (by decide)) (da_cons (de_var (pv 7) (by decide)) da_nil)) (by decide)) (nomark _))))))) (ds_one (ds_ret de_bl)) ds_nil)
      (ds_cons (ds_if (dt_lift rfl rfl (dt_cmp bin_ne (pt_cmpR (op_neG (G := GG T) hr.units) (de_coe (de_propO (insObj (c := "Table") (by rfl)) (pe_prop (de_var (pv 12) (by decide)) T.cl_Table T.pr_Table_levels (ok_Table_levels T) (hr.mono (by decide)) T.b_Table_levels .nil pass0 rfl))) (de_arg (m := true) arg_tuple (pe_callTy (call_tupleG (G := GG T)) (by rfl) T.m_tuple (by decide +kernel) (DA.pa (da_cons (de_ofN (de_lcN (by decide) (by decide) (pe_lc (own := [("_law_level_here", 11)]) (by rfl) sc_law.nd (di_seq (de_var (pv 4) (by decide))) (blkOk_by (own := [("_law_level_here", 11)]) (N := N_law) (sc := defScope s_law) (by decide +kernel)) (fun _ _ _ _ _ => (dg_name (pg_name (i := 11) sc_law.nd rfl (by first | exact Or.inl rfl | exact Or.inr rfl)) (by decide))) (fun _ _ _ _ _ => dts_nil) (fun _ _ _ _ _ => (de_call (pe_call (ok__law_ascending T) (hr.mono (by decide)) (by rfl) T.g__law_ascending T.F__law_ascending.kp T.b__law_ascending .nil pass0 (DA.pa (da_cons (de_var (pv 11) (by decide)) da_nil)))))))) da_nil)))) (nomark _)))) (ds_one (ds_ret de_bl)) ds_nil)
      (ds_cons (ds_set rfl (ps_set (i := 13) sc_law.nd rfl (by first | exact Or.inl rfl | exact Or.inr rfl) (de_lift rfl rfl (de_lst (da_cons (de_bin bin_add (pe_op (op_addA (G := GG T)) (de_bin (m := true) bin_pow (pe_op op_pow de_int de_int)) (de_var (pv 6) (by decide)))) (da_cons (de_bin (m := true) bin_sub (pe_op op_sub (de_bin (m := true) bin_sub (pe_op op_sub de_int (de_bin (m := true) bin_pow (pe_op op_pow de_int de_int)))) (de_var (pv 7) (by decide)))) (da_cons (de_bin (m := true) bin_pow (pe_op op_pow de_int de_int)) da_nil))) (by decide)))))
      (ds_cons (ds_for (ps_for PassesOwn.never rfl (di_seq (de_lift rfl rfl (de_bin bin_add (pe_op (op_addA (G := GG T)) (de_ofN (de_lstRg2 (pe_listRg (by rfl) (by rfl) T.m_list (prg_2 (by rfl) T.m_range (de_bin (m := true) bin_sub (pe_op op_sub (de_bin (m := true) bin_sub (pe_op op_sub de_int (de_var (pv 3) (by decide)))) de_int)) (de_bin bin_add (pe_op (op_addA (G := GG T)) (de_var (pv 3) (by decide)) de_int)))))) (de_var (pv 13) (by decide)))))) (dg_name (pg_name (i := 14) sc_law.nd rfl (by first | exact Or.inl rfl | exact Or.inr rfl)) (by decide))
        (ds_cons (ds_set rfl (ps_set (i := 15) sc_law.nd rfl (by first | exact Or.inl rfl | exact Or.inr rfl) (de_lift rfl rfl (de_meth (insObjM (c := "Table") (by rfl)) (pe_meth (de_var (pv 12) (by decide)) T.cl_Table T.me_Table_level (ok_Table_level T) (hr.mono (by decide)) T.b_Table_level .nil pass0 (DA.pa (da_cons (de_var (pv 14) (by decide)) da_nil)))))))
      (ds_cons (ds_if (PW.pt (dw_or (dt_not (dt_lift rfl rfl (dt_val (de_isTup (pe_callB call_isi (by rfl) T.m_isinstance (by decide +kernel) (pa_cons (de_var (pv 15) (by decide)) (pa_cons (pe_bltn (v := .ty "tuple") (by rfl) T.m_tuple (by decide +kernel) rfl) pa_nil))))))) (pw_or1 (dt_lift rfl rfl (dt_cmp bin_ne (pt_cmpR (op_neG (G := GG T) hr.units) (de_var (pv 15) (by decide)) (de_coe (de_call (pe_call (ok__law_level T) (hr.mono (by decide)) (by rfl) T.g__law_level T.F__law_level.kp T.b__law_level .nil pass0 (DA.pa (da_cons (de_var (pv 12) (by decide)) (da_cons (de_call (pe_call (ok__law_near T) (hr.mono (by decide)) (by rfl) T.g__law_near T.F__law_near.kp T.b__law_near .nil pass0 (DA.pa (da_cons (de_var (pv 14) (by decide)) (da_cons (de_var (pv 6) (by decide)) (da_cons (de_var (pv 7) (by decide)) da_nil)))))) da_nil)))))) (nomark _))))))) (ds_one (ds_ret de_bl)) ds_nil)
      (ds_one (ds_if (dt_not (dt_lift rfl rfl (dt_val (de_coe (de_call (pe_call (ok__law_holds_rightly T) (hr.mono (by decide)) (by rfl) T.g__law_holds_rightly T.F__law_holds_rightly.kp T.b__law_holds_rightly .nil pass0 (DA.pa (da_cons (de_var (pv 1) (by decide)) (da_cons (de_var (pv 12) (by decide)) (da_cons (de_var (pv 14) (by decide)) da_nil)))))))))) (ds_one (ds_ret de_bl)) ds_nil))))))
      (ds_cons (ds_for (ps_for PassesOwn.never rfl (di_seq (de_lift rfl rfl (de_call (pe_call (ok__law_triples T) (hr.mono (by decide)) (by rfl) T.g__law_triples T.F__law_triples.kp T.b__law_triples .nil pass0 (DA.pa (da_cons (de_var (pv 1) (by decide)) (da_cons (de_lst (da_cons de_str (da_cons de_str (da_cons de_str da_nil))) (by decide)) (da_cons de_int da_nil)))))))) (dg_name (pg_name (i := 10) sc_law.nd rfl (by first | exact Or.inl rfl | exact Or.inr rfl)) (by decide))
        (ds_one (ds_if (dt_lift rfl rfl (dt_cmp bin_ne (pt_cmpR (op_neG (G := GG T) hr.units) (de_inO (insObj (c := "Table") (by rfl)) (pe_cmpR (op_inO (ok_Table___contains__ T) (hr.mono (by decide)) T.me_Table___contains__ T.b_Table___contains__ pass0) (de_var (pv 10) (by decide)) (de_var (pv 12) (by decide)) (by rfl))) (de_bin (m := true) bin_inX (pe_cmpR (op_inXG (G := GG T) (hu65 hr)) (de_var (pv 10) (by decide)) (de_var (pv 2) (by decide)) (by rfl))) (nomark _)))) (ds_one (ds_ret de_bl)) ds_nil))))
      (ds_cons (ds_set rfl (ps_set (i := 16) sc_law.nd rfl (by first | exact Or.inl rfl | exact Or.inr rfl) (de_lift rfl rfl (de_lst (da_cons de_non (da_cons (de_tup da_nil (by decide)) (da_cons de_str (da_cons (de_tup (da_cons de_str (da_cons de_str da_nil)) (by decide)) (da_cons (de_tup (da_cons de_str (da_cons de_str (da_cons de_non da_nil))) (by decide)) (da_cons (de_tup (da_cons de_str (da_cons de_str (da_cons de_str da_nil))) (by decide)) (da_cons (de_tup (da_cons de_str (da_cons de_str (da_cons (de_tup (da_cons de_int (da_cons de_str da_nil)) (by decide)) da_nil))) (by decide)) (da_cons de_int da_nil)))))))) (by decide)))))
      (ds_cons (ds_set rfl (ps_set (i := 16) sc_law.nd rfl (by first | exact Or.inl rfl | exact Or.inr rfl) (de_lift rfl rfl (de_bin bin_add (pe_op (op_addA (G := GG T)) (de_var (pv 16) (by decide)) (de_lst (da_cons (de_tup (da_cons de_str (da_cons de_str (da_cons (de_tup (da_cons de_bl (da_cons de_str da_nil)) (by decide)) da_nil))) (by decide)) (da_cons (de_tup (da_cons de_str (da_cons de_str (da_cons (de_tup (da_cons de_int (da_cons de_str (da_cons de_int da_nil))) (by decide)) da_nil))) (by decide)) (da_cons (de_tup (da_cons de_str (da_cons de_str (da_cons de_str (da_cons de_str da_nil)))) (by decide)) da_nil))) (by decide)))))))
      (ds_cons (ds_if (PW.pt (dw_or (dt_lift rfl rfl (dt_val (de_arg (m := true) arg_any (pe_callB (call_anyG (G := GG T) rfl) (by rfl) T.m_any (by decide +kernel) (DA.pa (da_cons (de_ofN (de_lcN (by decide) (by decide) (pe_lc (own := [("_law_thing", 17)]) (by rfl) sc_law.nd (di_seq (de_var (pv 16) (by decide))) (blkOk_by (own := [("_law_thing", 17)]) (N := N_law) (sc := defScope s_law) (by decide +kernel)) (fun _ _ _ _ _ => (dg_name (pg_name (i := 17) sc_law.nd rfl (by first | exact Or.inl rfl | exact Or.inr rfl)) (by decide))) (fun _ _ _ _ _ => dts_nil) (fun _ _ _ _ _ => (de_inO (insObj (c := "Table") (by rfl)) (pe_cmpR (op_inO (ok_Table___contains__ T) (hr.mono (by decide)) T.me_Table___contains__ T.b_Table___contains__ pass0) (de_var (pv 17) (by decide)) (de_var (pv 12) (by decide)) (by rfl))))))) da_nil)))))) (pw_or1 (dt_lift rfl rfl (dt_eqO (insObj (c := "Table") (by rfl)) T.cl_Table T.oc_Table (pt_cmpR (op_eqC (ok_Table___eq__ T) (hr.mono (by decide)) T.me_Table___eq__ T.b_Table___eq__ pass0) (de_var (pv 12) (by decide)) (de_tup (da_cons (de_var (pv 2) (by decide)) (da_cons (de_var (pv 4) (by decide)) (da_cons (de_var (pv 6) (by decide)) (da_cons (de_var (pv 7) (by decide)) da_nil)))) (by decide)) (nomark _))))))) (ds_one (ds_ret de_bl)) ds_nil)
      (ds_cons (ds_set rfl (ps_set (i := 18) sc_law.nd rfl (by first | exact Or.inl rfl | exact Or.inr rfl) (de_lift rfl rfl (de_makeF (by rfl) (pe_make T.mk_Table (ok_Table___init__ T) (hr.mono (by decide)) (by rfl) T.g_Table T.b_Table___init__ .nil pass0 (DA.pa (da_cons (de_ofN (de_revN (pe_revL (de_var (pv 2) (by decide))))) (da_cons (de_ofN (de_lcN (by decide) (by decide) (pe_lc (own := [("_law_level_here", 11)]) (by rfl) sc_law.nd (di_seq (de_var (pv 4) (by decide))) (blkOk_by (own := [("_law_level_here", 11)]) (N := N_law) (sc := defScope s_law) (by decide +kernel)) (fun _ _ _ _ _ => (dg_name (pg_name (i := 11) sc_law.nd rfl (by first | exact Or.inl rfl | exact Or.inr rfl)) (by decide))) (fun _ _ _ _ _ => dts_nil) (fun _ _ _ _ _ => (de_ofN (de_revN (pe_revL (de_var (pv 11) (by decide))))))))) (da_cons (de_var (pv 6) (by decide)) (da_cons (de_var (pv 7) (by decide)) da_nil))))))))))
      (ds_cons (ds_set rfl (ps_set (i := 19) sc_law.nd rfl (by first | exact Or.inl rfl | exact Or.inr rfl) (de_lift rfl rfl (de_makeF (by rfl) (pe_make T.mk_Table (ok_Table___init__ T) (hr.mono (by decide)) (by rfl) T.g_Table T.b_Table___init__ .nil pass0 (DA.pa (da_cons (de_var (pv 2) (by decide)) (da_cons (de_var (pv 4) (by decide)) (da_cons (de_var (pv 6) (by decide)) (da_cons (de_bin bin_add (pe_op (op_addA (G := GG T)) de_int (de_bin (m := true) bin_mod (pe_op op_mod (de_var (pv 7) (by decide)) (de_var (pv 3) (by decide)))))) da_nil))))))))))
      (ds_one (ds_ret (de_lift rfl rfl (de_and (pe_and (de_eqO (insObj (c := "Table") (by rfl)) T.cl_Table T.oc_Table (pe_cmpR (op_eqC (ok_Table___eq__ T) (hr.mono (by decide)) T.me_Table___eq__ T.b_Table___eq__ pass0) (de_var (pv 12) (by decide)) (de_var (pv 18) (by decide)) (nomark _))) (de_and (pe_and (de_not (pe_not (de_eqO (insObj (c := "Table") (by rfl)) T.cl_Table T.oc_Table (pe_cmpR (op_neC T.oc_Table (ok_Table___eq__ T) (hr.mono (by decide)) T.me_Table___eq__ T.b_Table___eq__ pass0) (de_var (pv 12) (by decide)) (de_var (pv 18) (by decide)) (nomark _))))) (pe_one (de_bin (m := true) bin_eq (pe_cmpR (op_eqG (G := GG T) hr.units) (de_eqO (insObj (c := "Table") (by rfl)) T.cl_Table T.oc_Table (pe_cmpR (op_eqC (ok_Table___eq__ T) (hr.mono (by decide)) T.me_Table___eq__ T.b_Table___eq__ pass0) (de_var (pv 12) (by decide)) (de_var (pv 19) (by decide)) (nomark _))) (de_bin (m := true) bin_eq (pe_cmpR (op_eqG (G := GG T) hr.units) (de_var (pv 7) (by decide)) (de_bin bin_add (pe_op (op_addA (G := GG T)) de_int (de_bin (m := true) bin_mod (pe_op op_mod (de_var (pv 7) (by decide)) (de_var (pv 3) (by decide)))))) (nomark _))) (nomark _))))))))))))))))))))))))))))))), ?_⟩
    refine ⟨_, rfl, a, ns, rfl, hS, fun H1 p sm np hs1 => ?_⟩
    exact law_readV (k := 18) hs1 q law_pure
end
theorem all_mk {l : PySem.W.OpenLaw} {w : World} {K : PySem.W.Frag} {h : Heap} {mg : Str → Option Value} {fa : Addr} (X : K.In h) (G : h.Ns mainGlobals mg) (hfa : mg "law" = some (.ref fa))
    {C_Table : Addr}
    {od_is_name an_is_name : Option Addr} {sl_is_name : Array (Option Value)} {oc_is_name kV_is_name dc_is_name pm_is_name cd_is_name ct_is_name : Value} {f_is_name : Addr}
    {od_is_triple an_is_triple : Option Addr} {sl_is_triple : Array (Option Value)} {oc_is_triple kV_is_triple dc_is_triple pm_is_triple cd_is_triple ct_is_triple : Value} {f_is_triple : Addr}
    {od_are_triples an_are_triples : Option Addr} {sl_are_triples : Array (Option Value)} {oc_are_triples kV_are_triples dc_are_triples pm_are_triples cd_are_triples ct_are_triples : Value} {f_are_triples : Addr}
    {od_is_period an_is_period : Option Addr} {sl_is_period : Array (Option Value)} {oc_is_period kV_is_period dc_is_period pm_is_period cd_is_period ct_is_period : Value} {f_is_period : Addr}
    {od_ordered an_ordered : Option Addr} {sl_ordered : Array (Option Value)} {oc_ordered kV_ordered dc_ordered pm_ordered cd_ordered ct_ordered : Value} {f_ordered : Addr}
    {od_Table___init__ an_Table___init__ : Option Addr} {sl_Table___init__ : Array (Option Value)} {oc_Table___init__ kV_Table___init__ dc_Table___init__ pm_Table___init__ cd_Table___init__ ct_Table___init__ : Value} {f_Table___init__ : Addr}
    {od_Table_alone an_Table_alone : Option Addr} {sl_Table_alone : Array (Option Value)} {oc_Table_alone kV_Table_alone dc_Table_alone pm_Table_alone cd_Table_alone ct_Table_alone : Value} {f_Table_alone : Addr}
    {p_Table_alone : Addr} {r_Table_alone : List Value}
    {od_Table_levels an_Table_levels : Option Addr} {sl_Table_levels : Array (Option Value)} {oc_Table_levels kV_Table_levels dc_Table_levels pm_Table_levels cd_Table_levels ct_Table_levels : Value} {f_Table_levels : Addr}
    {p_Table_levels : Addr} {r_Table_levels : List Value}
    {od_Table_below an_Table_below : Option Addr} {sl_Table_below : Array (Option Value)} {oc_Table_below kV_Table_below dc_Table_below pm_Table_below cd_Table_below ct_Table_below : Value} {f_Table_below : Addr}
    {p_Table_below : Addr} {r_Table_below : List Value}
    {od_Table_above an_Table_above : Option Addr} {sl_Table_above : Array (Option Value)} {oc_Table_above kV_Table_above dc_Table_above pm_Table_above cd_Table_above ct_Table_above : Value} {f_Table_above : Addr}
    {p_Table_above : Addr} {r_Table_above : List Value}
    {od_Table_most an_Table_most : Option Addr} {sl_Table_most : Array (Option Value)} {oc_Table_most kV_Table_most dc_Table_most pm_Table_most cd_Table_most ct_Table_most : Value} {f_Table_most : Addr}
    {od_Table_level an_Table_level : Option Addr} {sl_Table_level : Array (Option Value)} {oc_Table_level kV_Table_level dc_Table_level pm_Table_level cd_Table_level ct_Table_level : Value} {f_Table_level : Addr}
    {od_Table___contains__ an_Table___contains__ : Option Addr} {sl_Table___contains__ : Array (Option Value)} {oc_Table___contains__ kV_Table___contains__ dc_Table___contains__ pm_Table___contains__ cd_Table___contains__ ct_Table___contains__ : Value} {f_Table___contains__ : Addr}
    {od_Table___eq__ an_Table___eq__ : Option Addr} {sl_Table___eq__ : Array (Option Value)} {oc_Table___eq__ kV_Table___eq__ dc_Table___eq__ pm_Table___eq__ cd_Table___eq__ ct_Table___eq__ : Value} {f_Table___eq__ : Addr}
    {od__law_source an__law_source : Option Addr} {sl__law_source : Array (Option Value)} {oc__law_source kV__law_source dc__law_source pm__law_source cd__law_source ct__law_source : Value} {f__law_source : Addr}
    {od__law_draw an__law_draw : Option Addr} {sl__law_draw : Array (Option Value)} {oc__law_draw kV__law_draw dc__law_draw pm__law_draw cd__law_draw ct__law_draw : Value} {f__law_draw : Addr}
    {od__law_pick an__law_pick : Option Addr} {sl__law_pick : Array (Option Value)} {oc__law_pick kV__law_pick dc__law_pick pm__law_pick cd__law_pick ct__law_pick : Value} {f__law_pick : Addr}
    {od__law_level an__law_level : Option Addr} {sl__law_level : Array (Option Value)} {oc__law_level kV__law_level dc__law_level pm__law_level cd__law_level ct__law_level : Value} {f__law_level : Addr}
    {od__law_triples an__law_triples : Option Addr} {sl__law_triples : Array (Option Value)} {oc__law_triples kV__law_triples dc__law_triples pm__law_triples cd__law_triples ct__law_triples : Value} {f__law_triples : Addr}
    {od__law_ascending an__law_ascending : Option Addr} {sl__law_ascending : Array (Option Value)} {oc__law_ascending kV__law_ascending dc__law_ascending pm__law_ascending cd__law_ascending ct__law_ascending : Value} {f__law_ascending : Addr}
    {od__law_near an__law_near : Option Addr} {sl__law_near : Array (Option Value)} {oc__law_near kV__law_near dc__law_near pm__law_near cd__law_near ct__law_near : Value} {f__law_near : Addr}
    {od__law_holds_rightly an__law_holds_rightly : Option Addr} {sl__law_holds_rightly : Array (Option Value)} {oc__law_holds_rightly kV__law_holds_rightly dc__law_holds_rightly pm__law_holds_rightly cd__law_holds_rightly ct__law_holds_rightly : Value} {f__law_holds_rightly : Addr}
    {od_law an_law : Option Addr} {sl_law : Array (Option Value)} {oc_law kV_law dc_law pm_law cd_law ct_law : Value} {f_law : Addr}
    {t_MOST_LETTERS : Tok}
    {a_SIGNS : Addr} {o_SIGNS : Obj} {i_SIGNS : Array Value} {n_SIGNS : Nat}
    {a_GAP_WORDS : Addr} {o_GAP_WORDS : Obj} {i_GAP_WORDS : Array Value} {n_GAP_WORDS : Nat}
    (gc_Table : PySem.W.nsIn K mainGlobals "Table" = some (some (.ref C_Table))) (pg_Table : PySem.W.plainGet K C_Table Str.empty = true) (hd_Table : PySem.W.hasDictIn K C_Table = true) (po_Table : PySem.W.plainOver K C_Table = true) (sa_Table : PySem.W.findIn K (.ref C_Table) "__setattr__" = some (some (.builtin "object.__setattr__"))) (mk_Table : PySem.W.makesIn K C_Table = true) (kc_Table : PySem.W.keepIn K (.ref C_Table) = true)
    (no_Table_own_alone : PySem.W.findIn K (.ref C_Table) "own_alone" = some none)
    (no_Table_own_levels : PySem.W.findIn K (.ref C_Table) "own_levels" = some none)
    (no_Table_own_periods : PySem.W.findIn K (.ref C_Table) "own_periods" = some none)
    (ow1_Table : PySem.W.findIn K (.ref C_Table) "__class__" = some (some (.builtin "object.__class__"))) (ow2_Table : PySem.W.specialIn K (.builtin "object.__class__") "__get__" = some (some (.builtin "getset_descriptor.__get__"))) (ow3_Table : PySem.W.takesIn K (.builtin "object.__class__") = some true) (ow4_Table : PySem.W.mroIn K C_Table (.type "object") = some true) (ow5_Table : PySem.W.isClsIn K C_Table = true) (ow7_Table : PySem.W.typeIn K (.ref C_Table) = some (.type "type")) (ow6_Table : PySem.W.findIn K (.ref C_Table) "__ne__" = some (some (.builtin "object.__ne__")))
    (a_is_name : PySem.W.nsIn K mainGlobals "is_name" = some (some (.ref f_is_name)))
    (l_is_name : K.lookup f_is_name = some ⟨oc_is_name, od_is_name, .func (PySem.W.fnOf "is_name" "is_name" (defArgs s_is_name) (defBody s_is_name) (defScope s_is_name) .none kV_is_name dc_is_name pm_is_name an_is_name cd_is_name ct_is_name), sl_is_name⟩) (c_is_name : PySem.W.codeIn K cd_is_name "is_name" = true) (k_is_name : PySem.W.keepIn K (.ref f_is_name) = true)
    (a_is_triple : PySem.W.nsIn K mainGlobals "is_triple" = some (some (.ref f_is_triple)))
    (l_is_triple : K.lookup f_is_triple = some ⟨oc_is_triple, od_is_triple, .func (PySem.W.fnOf "is_triple" "is_triple" (defArgs s_is_triple) (defBody s_is_triple) (defScope s_is_triple) .none kV_is_triple dc_is_triple pm_is_triple an_is_triple cd_is_triple ct_is_triple), sl_is_triple⟩) (c_is_triple : PySem.W.codeIn K cd_is_triple "is_triple" = true) (k_is_triple : PySem.W.keepIn K (.ref f_is_triple) = true)
    (a_are_triples : PySem.W.nsIn K mainGlobals "are_triples" = some (some (.ref f_are_triples)))
    (l_are_triples : K.lookup f_are_triples = some ⟨oc_are_triples, od_are_triples, .func (PySem.W.fnOf "are_triples" "are_triples" (defArgs s_are_triples) (defBody s_are_triples) (defScope s_are_triples) .none kV_are_triples dc_are_triples pm_are_triples an_are_triples cd_are_triples ct_are_triples), sl_are_triples⟩) (c_are_triples : PySem.W.codeIn K cd_are_triples "are_triples" = true) (k_are_triples : PySem.W.keepIn K (.ref f_are_triples) = true)
    (a_is_period : PySem.W.nsIn K mainGlobals "is_period" = some (some (.ref f_is_period)))
    (l_is_period : K.lookup f_is_period = some ⟨oc_is_period, od_is_period, .func (PySem.W.fnOf "is_period" "is_period" (defArgs s_is_period) (defBody s_is_period) (defScope s_is_period) .none kV_is_period dc_is_period pm_is_period an_is_period cd_is_period ct_is_period), sl_is_period⟩) (c_is_period : PySem.W.codeIn K cd_is_period "is_period" = true) (k_is_period : PySem.W.keepIn K (.ref f_is_period) = true)
    (a_ordered : PySem.W.nsIn K mainGlobals "ordered" = some (some (.ref f_ordered)))
    (l_ordered : K.lookup f_ordered = some ⟨oc_ordered, od_ordered, .func (PySem.W.fnOf "ordered" "ordered" (defArgs s_ordered) (defBody s_ordered) (defScope s_ordered) .none kV_ordered dc_ordered pm_ordered an_ordered cd_ordered ct_ordered), sl_ordered⟩) (c_ordered : PySem.W.codeIn K cd_ordered "ordered" = true) (k_ordered : PySem.W.keepIn K (.ref f_ordered) = true)
    (a_Table___init__ : PySem.W.findIn K (.ref C_Table) "__init__" = some (some (.ref f_Table___init__))) (i_Table___init__ : PySem.W.isFn K (.ref f_Table___init__) = true)
    (l_Table___init__ : K.lookup f_Table___init__ = some ⟨oc_Table___init__, od_Table___init__, .func (PySem.W.fnOf "__init__" "Table.__init__" (defArgs s_Table___init__) (defBody s_Table___init__) (defScope s_Table___init__) .none kV_Table___init__ dc_Table___init__ pm_Table___init__ an_Table___init__ cd_Table___init__ ct_Table___init__), sl_Table___init__⟩) (c_Table___init__ : PySem.W.codeIn K cd_Table___init__ "Table.__init__" = true) (k_Table___init__ : PySem.W.keepIn K (.ref f_Table___init__) = true)
    (q1_Table_alone : PySem.W.findIn K (.ref C_Table) "alone" = some (some (.ref p_Table_alone))) (q2_Table_alone : PySem.W.specialIn K (.ref p_Table_alone) "__get__" = some (some (.builtin "property.__get__"))) (q3_Table_alone : PySem.W.takesIn K (.ref p_Table_alone) = some true) (q4_Table_alone : PySem.W.recIn K p_Table_alone "property" = some (.ref f_Table_alone :: r_Table_alone))
    (l_Table_alone : K.lookup f_Table_alone = some ⟨oc_Table_alone, od_Table_alone, .func (PySem.W.fnOf "alone" "Table.alone" (defArgs s_Table_alone) (defBody s_Table_alone) (defScope s_Table_alone) .none kV_Table_alone dc_Table_alone pm_Table_alone an_Table_alone cd_Table_alone ct_Table_alone), sl_Table_alone⟩) (c_Table_alone : PySem.W.codeIn K cd_Table_alone "Table.alone" = true) (k_Table_alone : PySem.W.keepIn K (.ref f_Table_alone) = true)
    (q1_Table_levels : PySem.W.findIn K (.ref C_Table) "levels" = some (some (.ref p_Table_levels))) (q2_Table_levels : PySem.W.specialIn K (.ref p_Table_levels) "__get__" = some (some (.builtin "property.__get__"))) (q3_Table_levels : PySem.W.takesIn K (.ref p_Table_levels) = some true) (q4_Table_levels : PySem.W.recIn K p_Table_levels "property" = some (.ref f_Table_levels :: r_Table_levels))
    (l_Table_levels : K.lookup f_Table_levels = some ⟨oc_Table_levels, od_Table_levels, .func (PySem.W.fnOf "levels" "Table.levels" (defArgs s_Table_levels) (defBody s_Table_levels) (defScope s_Table_levels) .none kV_Table_levels dc_Table_levels pm_Table_levels an_Table_levels cd_Table_levels ct_Table_levels), sl_Table_levels⟩) (c_Table_levels : PySem.W.codeIn K cd_Table_levels "Table.levels" = true) (k_Table_levels : PySem.W.keepIn K (.ref f_Table_levels) = true)
    (q1_Table_below : PySem.W.findIn K (.ref C_Table) "below" = some (some (.ref p_Table_below))) (q2_Table_below : PySem.W.specialIn K (.ref p_Table_below) "__get__" = some (some (.builtin "property.__get__"))) (q3_Table_below : PySem.W.takesIn K (.ref p_Table_below) = some true) (q4_Table_below : PySem.W.recIn K p_Table_below "property" = some (.ref f_Table_below :: r_Table_below))
    (l_Table_below : K.lookup f_Table_below = some ⟨oc_Table_below, od_Table_below, .func (PySem.W.fnOf "below" "Table.below" (defArgs s_Table_below) (defBody s_Table_below) (defScope s_Table_below) .none kV_Table_below dc_Table_below pm_Table_below an_Table_below cd_Table_below ct_Table_below), sl_Table_below⟩) (c_Table_below : PySem.W.codeIn K cd_Table_below "Table.below" = true) (k_Table_below : PySem.W.keepIn K (.ref f_Table_below) = true)
    (q1_Table_above : PySem.W.findIn K (.ref C_Table) "above" = some (some (.ref p_Table_above))) (q2_Table_above : PySem.W.specialIn K (.ref p_Table_above) "__get__" = some (some (.builtin "property.__get__"))) (q3_Table_above : PySem.W.takesIn K (.ref p_Table_above) = some true) (q4_Table_above : PySem.W.recIn K p_Table_above "property" = some (.ref f_Table_above :: r_Table_above))
    (l_Table_above : K.lookup f_Table_above = some ⟨oc_Table_above, od_Table_above, .func (PySem.W.fnOf "above" "Table.above" (defArgs s_Table_above) (defBody s_Table_above) (defScope s_Table_above) .none kV_Table_above dc_Table_above pm_Table_above an_Table_above cd_Table_above ct_Table_above), sl_Table_above⟩) (c_Table_above : PySem.W.codeIn K cd_Table_above "Table.above" = true) (k_Table_above : PySem.W.keepIn K (.ref f_Table_above) = true)
    (a_Table_most : PySem.W.findIn K (.ref C_Table) "most" = some (some (.ref f_Table_most))) (i_Table_most : PySem.W.isFn K (.ref f_Table_most) = true)
    (l_Table_most : K.lookup f_Table_most = some ⟨oc_Table_most, od_Table_most, .func (PySem.W.fnOf "most" "Table.most" (defArgs s_Table_most) (defBody s_Table_most) (defScope s_Table_most) .none kV_Table_most dc_Table_most pm_Table_most an_Table_most cd_Table_most ct_Table_most), sl_Table_most⟩) (c_Table_most : PySem.W.codeIn K cd_Table_most "Table.most" = true) (k_Table_most : PySem.W.keepIn K (.ref f_Table_most) = true)
    (a_Table_level : PySem.W.findIn K (.ref C_Table) "level" = some (some (.ref f_Table_level))) (i_Table_level : PySem.W.isFn K (.ref f_Table_level) = true)
    (l_Table_level : K.lookup f_Table_level = some ⟨oc_Table_level, od_Table_level, .func (PySem.W.fnOf "level" "Table.level" (defArgs s_Table_level) (defBody s_Table_level) (defScope s_Table_level) .none kV_Table_level dc_Table_level pm_Table_level an_Table_level cd_Table_level ct_Table_level), sl_Table_level⟩) (c_Table_level : PySem.W.codeIn K cd_Table_level "Table.level" = true) (k_Table_level : PySem.W.keepIn K (.ref f_Table_level) = true)
    (a_Table___contains__ : PySem.W.findIn K (.ref C_Table) "__contains__" = some (some (.ref f_Table___contains__))) (i_Table___contains__ : PySem.W.isFn K (.ref f_Table___contains__) = true)
    (l_Table___contains__ : K.lookup f_Table___contains__ = some ⟨oc_Table___contains__, od_Table___contains__, .func (PySem.W.fnOf "__contains__" "Table.__contains__" (defArgs s_Table___contains__) (defBody s_Table___contains__) (defScope s_Table___contains__) .none kV_Table___contains__ dc_Table___contains__ pm_Table___contains__ an_Table___contains__ cd_Table___contains__ ct_Table___contains__), sl_Table___contains__⟩) (c_Table___contains__ : PySem.W.codeIn K cd_Table___contains__ "Table.__contains__" = true) (k_Table___contains__ : PySem.W.keepIn K (.ref f_Table___contains__) = true)
    (a_Table___eq__ : PySem.W.findIn K (.ref C_Table) "__eq__" = some (some (.ref f_Table___eq__))) (i_Table___eq__ : PySem.W.isFn K (.ref f_Table___eq__) = true)
    (l_Table___eq__ : K.lookup f_Table___eq__ = some ⟨oc_Table___eq__, od_Table___eq__, .func (PySem.W.fnOf "__eq__" "Table.__eq__" (defArgs s_Table___eq__) (defBody s_Table___eq__) (defScope s_Table___eq__) .none kV_Table___eq__ dc_Table___eq__ pm_Table___eq__ an_Table___eq__ cd_Table___eq__ ct_Table___eq__), sl_Table___eq__⟩) (c_Table___eq__ : PySem.W.codeIn K cd_Table___eq__ "Table.__eq__" = true) (k_Table___eq__ : PySem.W.keepIn K (.ref f_Table___eq__) = true)
    (a__law_source : PySem.W.nsIn K mainGlobals "_law_source" = some (some (.ref f__law_source)))
    (l__law_source : K.lookup f__law_source = some ⟨oc__law_source, od__law_source, .func (PySem.W.fnOf "_law_source" "_law_source" (defArgs s__law_source) (defBody s__law_source) (defScope s__law_source) .none kV__law_source dc__law_source pm__law_source an__law_source cd__law_source ct__law_source), sl__law_source⟩) (c__law_source : PySem.W.codeIn K cd__law_source "_law_source" = true) (k__law_source : PySem.W.keepIn K (.ref f__law_source) = true)
    (a__law_draw : PySem.W.nsIn K mainGlobals "_law_draw" = some (some (.ref f__law_draw)))
    (l__law_draw : K.lookup f__law_draw = some ⟨oc__law_draw, od__law_draw, .func (PySem.W.fnOf "_law_draw" "_law_draw" (defArgs s__law_draw) (defBody s__law_draw) (defScope s__law_draw) .none kV__law_draw dc__law_draw pm__law_draw an__law_draw cd__law_draw ct__law_draw), sl__law_draw⟩) (c__law_draw : PySem.W.codeIn K cd__law_draw "_law_draw" = true) (k__law_draw : PySem.W.keepIn K (.ref f__law_draw) = true)
    (a__law_pick : PySem.W.nsIn K mainGlobals "_law_pick" = some (some (.ref f__law_pick)))
    (l__law_pick : K.lookup f__law_pick = some ⟨oc__law_pick, od__law_pick, .func (PySem.W.fnOf "_law_pick" "_law_pick" (defArgs s__law_pick) (defBody s__law_pick) (defScope s__law_pick) .none kV__law_pick dc__law_pick pm__law_pick an__law_pick cd__law_pick ct__law_pick), sl__law_pick⟩) (c__law_pick : PySem.W.codeIn K cd__law_pick "_law_pick" = true) (k__law_pick : PySem.W.keepIn K (.ref f__law_pick) = true)
    (a__law_level : PySem.W.nsIn K mainGlobals "_law_level" = some (some (.ref f__law_level)))
    (l__law_level : K.lookup f__law_level = some ⟨oc__law_level, od__law_level, .func (PySem.W.fnOf "_law_level" "_law_level" (defArgs s__law_level) (defBody s__law_level) (defScope s__law_level) .none kV__law_level dc__law_level pm__law_level an__law_level cd__law_level ct__law_level), sl__law_level⟩) (c__law_level : PySem.W.codeIn K cd__law_level "_law_level" = true) (k__law_level : PySem.W.keepIn K (.ref f__law_level) = true)
    (a__law_triples : PySem.W.nsIn K mainGlobals "_law_triples" = some (some (.ref f__law_triples)))
    (l__law_triples : K.lookup f__law_triples = some ⟨oc__law_triples, od__law_triples, .func (PySem.W.fnOf "_law_triples" "_law_triples" (defArgs s__law_triples) (defBody s__law_triples) (defScope s__law_triples) .none kV__law_triples dc__law_triples pm__law_triples an__law_triples cd__law_triples ct__law_triples), sl__law_triples⟩) (c__law_triples : PySem.W.codeIn K cd__law_triples "_law_triples" = true) (k__law_triples : PySem.W.keepIn K (.ref f__law_triples) = true)
    (a__law_ascending : PySem.W.nsIn K mainGlobals "_law_ascending" = some (some (.ref f__law_ascending)))
    (l__law_ascending : K.lookup f__law_ascending = some ⟨oc__law_ascending, od__law_ascending, .func (PySem.W.fnOf "_law_ascending" "_law_ascending" (defArgs s__law_ascending) (defBody s__law_ascending) (defScope s__law_ascending) .none kV__law_ascending dc__law_ascending pm__law_ascending an__law_ascending cd__law_ascending ct__law_ascending), sl__law_ascending⟩) (c__law_ascending : PySem.W.codeIn K cd__law_ascending "_law_ascending" = true) (k__law_ascending : PySem.W.keepIn K (.ref f__law_ascending) = true)
    (a__law_near : PySem.W.nsIn K mainGlobals "_law_near" = some (some (.ref f__law_near)))
    (l__law_near : K.lookup f__law_near = some ⟨oc__law_near, od__law_near, .func (PySem.W.fnOf "_law_near" "_law_near" (defArgs s__law_near) (defBody s__law_near) (defScope s__law_near) .none kV__law_near dc__law_near pm__law_near an__law_near cd__law_near ct__law_near), sl__law_near⟩) (c__law_near : PySem.W.codeIn K cd__law_near "_law_near" = true) (k__law_near : PySem.W.keepIn K (.ref f__law_near) = true)
    (a__law_holds_rightly : PySem.W.nsIn K mainGlobals "_law_holds_rightly" = some (some (.ref f__law_holds_rightly)))
    (l__law_holds_rightly : K.lookup f__law_holds_rightly = some ⟨oc__law_holds_rightly, od__law_holds_rightly, .func (PySem.W.fnOf "_law_holds_rightly" "_law_holds_rightly" (defArgs s__law_holds_rightly) (defBody s__law_holds_rightly) (defScope s__law_holds_rightly) .none kV__law_holds_rightly dc__law_holds_rightly pm__law_holds_rightly an__law_holds_rightly cd__law_holds_rightly ct__law_holds_rightly), sl__law_holds_rightly⟩) (c__law_holds_rightly : PySem.W.codeIn K cd__law_holds_rightly "_law_holds_rightly" = true) (k__law_holds_rightly : PySem.W.keepIn K (.ref f__law_holds_rightly) = true)
    (a_law : PySem.W.nsIn K mainGlobals "law" = some (some (.ref f_law)))
    (l_law : K.lookup f_law = some ⟨oc_law, od_law, .func (PySem.W.fnOf "law" "law" (defArgs s_law) (defBody s_law) (defScope s_law) .none kV_law dc_law pm_law an_law cd_law ct_law), sl_law⟩) (c_law : PySem.W.codeIn K cd_law "law" = true) (k_law : PySem.W.keepIn K (.ref f_law) = true)
    (m_len : PySem.W.nsIn K mainGlobals "len" = some none)
    (m_int : PySem.W.nsIn K mainGlobals "int" = some none)
    (m_bool : PySem.W.nsIn K mainGlobals "bool" = some none)
    (m_str : PySem.W.nsIn K mainGlobals "str" = some none)
    (m_list : PySem.W.nsIn K mainGlobals "list" = some none)
    (m_tuple : PySem.W.nsIn K mainGlobals "tuple" = some none)
    (m_range : PySem.W.nsIn K mainGlobals "range" = some none)
    (m_enumerate : PySem.W.nsIn K mainGlobals "enumerate" = some none)
    (m_isinstance : PySem.W.nsIn K mainGlobals "isinstance" = some none)
    (m_abs : PySem.W.nsIn K mainGlobals "abs" = some none)
    (m_any : PySem.W.nsIn K mainGlobals "any" = some none)
    (m_all : PySem.W.nsIn K mainGlobals "all" = some none)
    (m_sorted : PySem.W.nsIn K mainGlobals "sorted" = some none)
    (m_super : PySem.W.nsIn K mainGlobals "super" = some none)
    (m_ValueError : PySem.W.nsIn K mainGlobals "ValueError" = some none)
    (g_MOST_LETTERS : PySem.W.nsIn K mainGlobals "MOST_LETTERS" = some (some (.int 8 t_MOST_LETTERS)))
    (g_SIGNS : PySem.W.nsIn K mainGlobals "SIGNS" = some (some (.ref a_SIGNS))) (l_SIGNS : K.lookup a_SIGNS = some o_SIGNS) (c_SIGNS : o_SIGNS.cls = .type "tuple") (e_SIGNS : o_SIGNS.dict = none) (d_SIGNS : o_SIGNS.data = .seq i_SIGNS n_SIGNS) (z_SIGNS : i_SIGNS.size ≤ sizeLine) (v_SIGNS : Vals [.str "<", .str "=", .str ">"] i_SIGNS.toList)
    (g_GAP_WORDS : PySem.W.nsIn K mainGlobals "GAP_WORDS" = some (some (.ref a_GAP_WORDS))) (l_GAP_WORDS : K.lookup a_GAP_WORDS = some o_GAP_WORDS) (c_GAP_WORDS : o_GAP_WORDS.cls = .type "tuple") (e_GAP_WORDS : o_GAP_WORDS.dict = none) (d_GAP_WORDS : o_GAP_WORDS.data = .seq i_GAP_WORDS n_GAP_WORDS) (z_GAP_WORDS : i_GAP_WORDS.size ≤ sizeLine) (v_GAP_WORDS : Vals [.str "none", .str "first", .str "second"] i_GAP_WORDS.toList) :
    ∃ fd : FuncData, (∀ (s : Shared) (v : Value), BindsTo s fd ⟨[v], []⟩ [("_law_script", v)]) ∧ ∀ base : Heap, K.In base → base.Ns mainGlobals mg → FnOk l.prog w K mg base CX0 9 fa fd ["_law_script"] (sp_law K) := by
  have e := hfa.symm.trans (PySem.W.mg_of X G a_law)
  cases e
  have F_is_name := fun_mk (st := s_is_name) l_is_name c_is_name k_is_name
  have b_is_name := F_is_name.binds (ps := ["value"]) fun _ _ _ _ _ _ us hl => match us, hl with | [_], _ => rfl
  have F_is_triple := fun_mk (st := s_is_triple) l_is_triple c_is_triple k_is_triple
  have b_is_triple := F_is_triple.binds (ps := ["value", "lasts"]) fun _ _ _ _ _ _ us hl => match us, hl with | [_, _], _ => rfl
  have F_are_triples := fun_mk (st := s_are_triples) l_are_triples c_are_triples k_are_triples
  have b_are_triples := F_are_triples.binds (ps := ["value", "lasts"]) fun _ _ _ _ _ _ us hl => match us, hl with | [_, _], _ => rfl
  have F_is_period := fun_mk (st := s_is_period) l_is_period c_is_period k_is_period
  have b_is_period := F_is_period.binds (ps := ["value", "most"]) fun _ _ _ _ _ _ us hl => match us, hl with | [_, _], _ => rfl
  have F_ordered := fun_mk (st := s_ordered) l_ordered c_ordered k_ordered
  have b_ordered := F_ordered.binds (ps := ["triples"]) fun _ _ _ _ _ _ us hl => match us, hl with | [_], _ => rfl
  have F_Table___init__ := fun_mk (st := s_Table___init__) l_Table___init__ c_Table___init__ k_Table___init__
  have b_Table___init__ := F_Table___init__.binds (ps := ["self", "alone", "levels", "below", "above"]) fun _ _ _ _ _ _ us hl => match us, hl with | [_, _, _, _, _], _ => rfl
  have F_Table_alone := fun_mk (st := s_Table_alone) l_Table_alone c_Table_alone k_Table_alone
  have b_Table_alone := F_Table_alone.binds (ps := ["self"]) fun _ _ _ _ _ _ us hl => match us, hl with | [_], _ => rfl
  have F_Table_levels := fun_mk (st := s_Table_levels) l_Table_levels c_Table_levels k_Table_levels
  have b_Table_levels := F_Table_levels.binds (ps := ["self"]) fun _ _ _ _ _ _ us hl => match us, hl with | [_], _ => rfl
  have F_Table_below := fun_mk (st := s_Table_below) l_Table_below c_Table_below k_Table_below
  have b_Table_below := F_Table_below.binds (ps := ["self"]) fun _ _ _ _ _ _ us hl => match us, hl with | [_], _ => rfl
  have F_Table_above := fun_mk (st := s_Table_above) l_Table_above c_Table_above k_Table_above
  have b_Table_above := F_Table_above.binds (ps := ["self"]) fun _ _ _ _ _ _ us hl => match us, hl with | [_], _ => rfl
  have F_Table_most := fun_mk (st := s_Table_most) l_Table_most c_Table_most k_Table_most
  have b_Table_most := F_Table_most.binds (ps := ["self"]) fun _ _ _ _ _ _ us hl => match us, hl with | [_], _ => rfl
  have F_Table_level := fun_mk (st := s_Table_level) l_Table_level c_Table_level k_Table_level
  have b_Table_level := F_Table_level.binds (ps := ["self", "d"]) fun _ _ _ _ _ _ us hl => match us, hl with | [_, _], _ => rfl
  have F_Table___contains__ := fun_mk (st := s_Table___contains__) l_Table___contains__ c_Table___contains__ k_Table___contains__
  have b_Table___contains__ := F_Table___contains__.binds (ps := ["self", "state"]) fun _ _ _ _ _ _ us hl => match us, hl with | [_, _], _ => rfl
  have F_Table___eq__ := fun_mk (st := s_Table___eq__) l_Table___eq__ c_Table___eq__ k_Table___eq__
  have b_Table___eq__ := F_Table___eq__.binds (ps := ["self", "other"]) fun _ _ _ _ _ _ us hl => match us, hl with | [_, _], _ => rfl
  have F__law_source := fun_mk (st := s__law_source) l__law_source c__law_source k__law_source
  have b__law_source := F__law_source.binds (ps := ["_law_script"]) fun _ _ _ _ _ _ us hl => match us, hl with | [_], _ => rfl
  have F__law_draw := fun_mk (st := s__law_draw) l__law_draw c__law_draw k__law_draw
  have b__law_draw := F__law_draw.binds (ps := ["_law_source_here", "_law_many"]) fun _ _ _ _ _ _ us hl => match us, hl with | [_, _], _ => rfl
  have F__law_pick := fun_mk (st := s__law_pick) l__law_pick c__law_pick k__law_pick
  have b__law_pick := F__law_pick.binds (ps := ["_law_source_here", "_law_things"]) fun _ _ _ _ _ _ us hl => match us, hl with | [_, _], _ => rfl
  have F__law_level := fun_mk (st := s__law_level) l__law_level c__law_level k__law_level
  have b__law_level := F__law_level.binds (ps := ["_law_table", "_law_d"]) fun _ _ _ _ _ _ us hl => match us, hl with | [_, _], _ => rfl
  have F__law_triples := fun_mk (st := s__law_triples) l__law_triples c__law_triples k__law_triples
  have b__law_triples := F__law_triples.binds (ps := ["_law_source_here", "_law_lasts", "_law_most"]) fun _ _ _ _ _ _ us hl => match us, hl with | [_, _, _], _ => rfl
  have F__law_ascending := fun_mk (st := s__law_ascending) l__law_ascending c__law_ascending k__law_ascending
  have b__law_ascending := F__law_ascending.binds (ps := ["_law_triples_here"]) fun _ _ _ _ _ _ us hl => match us, hl with | [_], _ => rfl
  have F__law_near := fun_mk (st := s__law_near) l__law_near c__law_near k__law_near
  have b__law_near := F__law_near.binds (ps := ["_law_d", "_law_below", "_law_above"]) fun _ _ _ _ _ _ us hl => match us, hl with | [_, _, _], _ => rfl
  have F__law_holds_rightly := fun_mk (st := s__law_holds_rightly) l__law_holds_rightly c__law_holds_rightly k__law_holds_rightly
  have b__law_holds_rightly := F__law_holds_rightly.binds (ps := ["_law_source_here", "_law_table", "_law_d"]) fun _ _ _ _ _ _ us hl => match us, hl with | [_, _, _], _ => rfl
  have F_law := fun_mk (st := s_law) l_law c_law k_law
  have b_law := F_law.binds (ps := ["_law_script"]) fun _ _ _ _ _ _ us hl => match us, hl with | [_], _ => rfl
  exact ⟨PySem.W.fnOf "law" "law" (defArgs s_law) (defBody s_law) (defScope s_law) .none kV_law dc_law pm_law an_law cd_law ct_law, fun s v => .of_eq rfl, fun base _ _ => ok_law { a_Table := C_Table, g_Table := PySem.W.mg_of X G gc_Table, cl_Table := ⟨pg_Table, hd_Table, po_Table, sa_Table⟩, no_Table_own_alone := no_Table_own_alone, no_Table_own_levels := no_Table_own_levels, no_Table_own_periods := no_Table_own_periods, oc_Table := ⟨ow1_Table, ow2_Table, ow3_Table, ow4_Table, ow5_Table, ow7_Table, ow6_Table⟩, a_is_name := f_is_name, fd_is_name := _, F_is_name := F_is_name, b_is_name := b_is_name, g_is_name := PySem.W.mg_of X G a_is_name, a_is_triple := f_is_triple, fd_is_triple := _, F_is_triple := F_is_triple, b_is_triple := b_is_triple, g_is_triple := PySem.W.mg_of X G a_is_triple, a_are_triples := f_are_triples, fd_are_triples := _, F_are_triples := F_are_triples, b_are_triples := b_are_triples, g_are_triples := PySem.W.mg_of X G a_are_triples, a_is_period := f_is_period, fd_is_period := _, F_is_period := F_is_period, b_is_period := b_is_period, g_is_period := PySem.W.mg_of X G a_is_period, a_ordered := f_ordered, fd_ordered := _, F_ordered := F_ordered, b_ordered := b_ordered, g_ordered := PySem.W.mg_of X G a_ordered, a_Table___init__ := f_Table___init__, fd_Table___init__ := _, F_Table___init__ := F_Table___init__, b_Table___init__ := b_Table___init__, mk_Table := ⟨mk_Table, a_Table___init__, i_Table___init__, kc_Table⟩, a_Table_alone := f_Table_alone, fd_Table_alone := _, F_Table_alone := F_Table_alone, b_Table_alone := b_Table_alone, pp_Table_alone := p_Table_alone, pr_Table_alone := ⟨q1_Table_alone, q2_Table_alone, q3_Table_alone, _, q4_Table_alone⟩, a_Table_levels := f_Table_levels, fd_Table_levels := _, F_Table_levels := F_Table_levels, b_Table_levels := b_Table_levels, pp_Table_levels := p_Table_levels, pr_Table_levels := ⟨q1_Table_levels, q2_Table_levels, q3_Table_levels, _, q4_Table_levels⟩, a_Table_below := f_Table_below, fd_Table_below := _, F_Table_below := F_Table_below, b_Table_below := b_Table_below, pp_Table_below := p_Table_below, pr_Table_below := ⟨q1_Table_below, q2_Table_below, q3_Table_below, _, q4_Table_below⟩, a_Table_above := f_Table_above, fd_Table_above := _, F_Table_above := F_Table_above, b_Table_above := b_Table_above, pp_Table_above := p_Table_above, pr_Table_above := ⟨q1_Table_above, q2_Table_above, q3_Table_above, _, q4_Table_above⟩, a_Table_most := f_Table_most, fd_Table_most := _, F_Table_most := F_Table_most, b_Table_most := b_Table_most, me_Table_most := ⟨a_Table_most, i_Table_most, k_Table_most⟩, a_Table_level := f_Table_level, fd_Table_level := _, F_Table_level := F_Table_level, b_Table_level := b_Table_level, me_Table_level := ⟨a_Table_level, i_Table_level, k_Table_level⟩, a_Table___contains__ := f_Table___contains__, fd_Table___contains__ := _, F_Table___contains__ := F_Table___contains__, b_Table___contains__ := b_Table___contains__, me_Table___contains__ := ⟨a_Table___contains__, i_Table___contains__, k_Table___contains__⟩, a_Table___eq__ := f_Table___eq__, fd_Table___eq__ := _, F_Table___eq__ := F_Table___eq__, b_Table___eq__ := b_Table___eq__, me_Table___eq__ := ⟨a_Table___eq__, i_Table___eq__, k_Table___eq__⟩, a__law_source := f__law_source, fd__law_source := _, F__law_source := F__law_source, b__law_source := b__law_source, g__law_source := PySem.W.mg_of X G a__law_source, a__law_draw := f__law_draw, fd__law_draw := _, F__law_draw := F__law_draw, b__law_draw := b__law_draw, g__law_draw := PySem.W.mg_of X G a__law_draw, a__law_pick := f__law_pick, fd__law_pick := _, F__law_pick := F__law_pick, b__law_pick := b__law_pick, g__law_pick := PySem.W.mg_of X G a__law_pick, a__law_level := f__law_level, fd__law_level := _, F__law_level := F__law_level, b__law_level := b__law_level, g__law_level := PySem.W.mg_of X G a__law_level, a__law_triples := f__law_triples, fd__law_triples := _, F__law_triples := F__law_triples, b__law_triples := b__law_triples, g__law_triples := PySem.W.mg_of X G a__law_triples, a__law_ascending := f__law_ascending, fd__law_ascending := _, F__law_ascending := F__law_ascending, b__law_ascending := b__law_ascending, g__law_ascending := PySem.W.mg_of X G a__law_ascending, a__law_near := f__law_near, fd__law_near := _, F__law_near := F__law_near, b__law_near := b__law_near, g__law_near := PySem.W.mg_of X G a__law_near, a__law_holds_rightly := f__law_holds_rightly, fd__law_holds_rightly := _, F__law_holds_rightly := F__law_holds_rightly, b__law_holds_rightly := b__law_holds_rightly, g__law_holds_rightly := PySem.W.mg_of X G a__law_holds_rightly, a_law := fa, fd_law := _, F_law := F_law, b_law := b_law, g_law := PySem.W.mg_of X G a_law, m_len := PySem.W.mg_none_of X G m_len, m_int := PySem.W.mg_none_of X G m_int, m_bool := PySem.W.mg_none_of X G m_bool, m_str := PySem.W.mg_none_of X G m_str, m_list := PySem.W.mg_none_of X G m_list, m_tuple := PySem.W.mg_none_of X G m_tuple, m_range := PySem.W.mg_none_of X G m_range, m_enumerate := PySem.W.mg_none_of X G m_enumerate, m_isinstance := PySem.W.mg_none_of X G m_isinstance, m_abs := PySem.W.mg_none_of X G m_abs, m_any := PySem.W.mg_none_of X G m_any, m_all := PySem.W.mg_none_of X G m_all, m_sorted := PySem.W.mg_none_of X G m_sorted, m_super := PySem.W.mg_none_of X G m_super, m_ValueError := PySem.W.mg_none_of X G m_ValueError, t_MOST_LETTERS := t_MOST_LETTERS, g_MOST_LETTERS := PySem.W.mg_of X G g_MOST_LETTERS, a_SIGNS := a_SIGNS, g_SIGNS := PySem.W.mg_of X G g_SIGNS, k_SIGNS := ⟨o_SIGNS, l_SIGNS, c_SIGNS, e_SIGNS⟩, p_SIGNS := fun H => .inr ⟨o_SIGNS, i_SIGNS, n_SIGNS, l_SIGNS, c_SIGNS, d_SIGNS, z_SIGNS, v_SIGNS⟩, a_GAP_WORDS := a_GAP_WORDS, g_GAP_WORDS := PySem.W.mg_of X G g_GAP_WORDS, k_GAP_WORDS := ⟨o_GAP_WORDS, l_GAP_WORDS, c_GAP_WORDS, e_GAP_WORDS⟩, p_GAP_WORDS := fun H => .inr ⟨o_GAP_WORDS, i_GAP_WORDS, n_GAP_WORDS, l_GAP_WORDS, c_GAP_WORDS, d_GAP_WORDS, z_GAP_WORDS, v_GAP_WORDS⟩ }⟩
theorem walk {l : PySem.W.OpenLaw} {q : Program} {loose : List Str} {XP : (Str → Option Value) → Heap → Prop} {YP : World → Heap → Prop} {d : DefRec} {K : Params → PySem.W.Frag} (hn : l.most = some 63) (hdf : d.params.defaults = [])
    (hY : ∀ (w : World) (h : Heap), YP w h → (K w.params).In h)
    (F : ∀ (w : World) (mg : Str → Option Value) (fa : Addr) (h : Heap), (K w.params).In h → h.Ns mainGlobals mg → mg d.name = some (.ref fa) →
      ∃ fd : FuncData, (∀ (s : Shared) (u : Value), BindsTo s fd ⟨[u], []⟩ [("_law_script", u)]) ∧ ∀ base : Heap, (K w.params).In base → base.Ns mainGlobals mg → FnOk l.prog w (K w.params) mg base CX0 9 fa fd ["_law_script"] (sp_law (K w.params))) :
    PySem.W.WalkO q loose XP YP l.row.toRowW d [] (fun f vs => PySem.call f vs) :=
  L2.walk_of (n := 63) (k := 9) (x := "_law_script") (CX := fun _ => CX0) (sp := fun w => sp_law (K w.params)) hn (by decide) hdf ⟨rfl, by decide, by decide⟩ hY F (fun _ _ a ns hl _ hS => ⟨a, ns, rfl, hS, hl, fun _ => rfl⟩) fun _ _ _ _ _ z => z
end Law
open PySem PySem.W PyProof.Rows
-- names that the head would use for its twins of the states; they are not wanted
def PySem.W.Fast.tw11430561588298439088 : Unit := ()
def PySem.W.Fast.tw1571853818638897608 : Unit := ()
def PySem.W.Fast.tw10515560642579702657 : Unit := ()
def PySem.W.Fast.tw6487724534644434554 : Unit := ()
def PySem.W.Fast.tw5915316196811679407 : Unit := ()
def PySem.W.Fast.tw10473119681225357330 : Unit := ()
def PySem.W.Fast.tw16208902996365969376 : Unit := ()
def PySem.W.Fast.tw10466648035235298690 : Unit := ()
def PySem.W.Fast.tw12101046066529336272 : Unit := ()
def PySem.W.Fast.tw5824510010172839020 : Unit := ()
def PySem.W.Fast.tw14134107427417353813 : Unit := ()
set_option maxRecDepth 100000 in
set_option maxHeartbeats 0 in
theorem PySem.Challenge.cw_nearloops_k50_tables_holds : PySem.Challenge.rw_nearloops_k50_tables.Holds := by
  w_on; o_law; k_head; (case hw => w_witness2)
  k_fill
  refine Law.walk (l := PySem.Challenge.rw_nearloops_k50_tables) rfl rfl (fun w h Y => PySem.W.kIn_of Y) ?F
  case F =>
    intro w mg fa h KX G hmg
    refine' Law.all_mk KX G hmg ?gc_Table ?pg_Table ?hd_Table ?po_Table ?sa_Table ?mk_Table ?kc_Table ?no_Table_own_alone ?no_Table_own_levels ?no_Table_own_periods ?ow1_Table ?ow2_Table ?ow3_Table ?ow4_Table ?ow5_Table ?ow7_Table ?ow6_Table ?a_is_name ?l_is_name ?c_is_name ?k_is_name ?a_is_triple ?l_is_triple ?c_is_triple ?k_is_triple ?a_are_triples ?l_are_triples ?c_are_triples ?k_are_triples ?a_is_period ?l_is_period ?c_is_period ?k_is_period ?a_ordered ?l_ordered ?c_ordered ?k_ordered ?a_Table___init__ ?i_Table___init__ ?l_Table___init__ ?c_Table___init__ ?k_Table___init__ ?q1_Table_alone ?q2_Table_alone ?q3_Table_alone ?q4_Table_alone ?l_Table_alone ?c_Table_alone ?k_Table_alone ?q1_Table_levels ?q2_Table_levels ?q3_Table_levels ?q4_Table_levels ?l_Table_levels ?c_Table_levels ?k_Table_levels ?q1_Table_below ?q2_Table_below ?q3_Table_below ?q4_Table_below ?l_Table_below ?c_Table_below ?k_Table_below ?q1_Table_above ?q2_Table_above ?q3_Table_above ?q4_Table_above ?l_Table_above ?c_Table_above ?k_Table_above ?a_Table_most ?i_Table_most ?l_Table_most ?c_Table_most ?k_Table_most ?a_Table_level ?i_Table_level ?l_Table_level ?c_Table_level ?k_Table_level ?a_Table___contains__ ?i_Table___contains__ ?l_Table___contains__ ?c_Table___contains__ ?k_Table___contains__ ?a_Table___eq__ ?i_Table___eq__ ?l_Table___eq__ ?c_Table___eq__ ?k_Table___eq__ ?a__law_source ?l__law_source ?c__law_source ?k__law_source ?a__law_draw ?l__law_draw ?c__law_draw ?k__law_draw ?a__law_pick ?l__law_pick ?c__law_pick ?k__law_pick ?a__law_level ?l__law_level ?c__law_level ?k__law_level ?a__law_triples ?l__law_triples ?c__law_triples ?k__law_triples ?a__law_ascending ?l__law_ascending ?c__law_ascending ?k__law_ascending ?a__law_near ?l__law_near ?c__law_near ?k__law_near ?a__law_holds_rightly ?l__law_holds_rightly ?c__law_holds_rightly ?k__law_holds_rightly ?a_law ?l_law ?c_law ?k_law ?m_len ?m_int ?m_bool ?m_str ?m_list ?m_tuple ?m_range ?m_enumerate ?m_isinstance ?m_abs ?m_any ?m_all ?m_sorted ?m_super ?m_ValueError ?g_MOST_LETTERS ?g_SIGNS ?l_SIGNS ?c_SIGNS ?e_SIGNS ?d_SIGNS ?z_SIGNS ?v_SIGNS ?g_GAP_WORDS ?l_GAP_WORDS ?c_GAP_WORDS ?e_GAP_WORDS ?d_GAP_WORDS ?z_GAP_WORDS ?v_GAP_WORDS
    (case gc_Table => k_is)
    (case pg_Table => k_is)
    (case hd_Table => k_is)
    (case po_Table => k_is)
    (case sa_Table => k_is)
    (case mk_Table => k_is)
    (case kc_Table => k_is)
    (case no_Table_own_alone => k_is)
    (case no_Table_own_levels => k_is)
    (case no_Table_own_periods => k_is)
    (case ow1_Table => k_is)
    (case ow2_Table => k_is)
    (case ow3_Table => k_is)
    (case ow4_Table => k_is)
    (case ow5_Table => k_is)
    (case ow7_Table => k_is)
    (case ow6_Table => k_is)
    (case a_is_name => k_is)
    (case l_is_name => k_is)
    (case c_is_name => k_is)
    (case k_is_name => k_is)
    (case a_is_triple => k_is)
    (case l_is_triple => k_is)
    (case c_is_triple => k_is)
    (case k_is_triple => k_is)
    (case a_are_triples => k_is)
    (case l_are_triples => k_is)
    (case c_are_triples => k_is)
    (case k_are_triples => k_is)
    (case a_is_period => k_is)
    (case l_is_period => k_is)
    (case c_is_period => k_is)
    (case k_is_period => k_is)
    (case a_ordered => k_is)
    (case l_ordered => k_is)
    (case c_ordered => k_is)
    (case k_ordered => k_is)
    (case a_Table___init__ => k_is)
    (case i_Table___init__ => k_is)
    (case l_Table___init__ => k_is)
    (case c_Table___init__ => k_is)
    (case k_Table___init__ => k_is)
    (case q1_Table_alone => k_is)
    (case q2_Table_alone => k_is)
    (case q3_Table_alone => k_is)
    (case q4_Table_alone => k_is)
    (case l_Table_alone => k_is)
    (case c_Table_alone => k_is)
    (case k_Table_alone => k_is)
    (case q1_Table_levels => k_is)
    (case q2_Table_levels => k_is)
    (case q3_Table_levels => k_is)
    (case q4_Table_levels => k_is)
    (case l_Table_levels => k_is)
    (case c_Table_levels => k_is)
    (case k_Table_levels => k_is)
    (case q1_Table_below => k_is)
    (case q2_Table_below => k_is)
    (case q3_Table_below => k_is)
    (case q4_Table_below => k_is)
    (case l_Table_below => k_is)
    (case c_Table_below => k_is)
    (case k_Table_below => k_is)
    (case q1_Table_above => k_is)
    (case q2_Table_above => k_is)
    (case q3_Table_above => k_is)
    (case q4_Table_above => k_is)
    (case l_Table_above => k_is)
    (case c_Table_above => k_is)
    (case k_Table_above => k_is)
    (case a_Table_most => k_is)
    (case i_Table_most => k_is)
    (case l_Table_most => k_is)
    (case c_Table_most => k_is)
    (case k_Table_most => k_is)
    (case a_Table_level => k_is)
    (case i_Table_level => k_is)
    (case l_Table_level => k_is)
    (case c_Table_level => k_is)
    (case k_Table_level => k_is)
    (case a_Table___contains__ => k_is)
    (case i_Table___contains__ => k_is)
    (case l_Table___contains__ => k_is)
    (case c_Table___contains__ => k_is)
    (case k_Table___contains__ => k_is)
    (case a_Table___eq__ => k_is)
    (case i_Table___eq__ => k_is)
    (case l_Table___eq__ => k_is)
    (case c_Table___eq__ => k_is)
    (case k_Table___eq__ => k_is)
    (case a__law_source => k_is)
    (case l__law_source => k_is)
    (case c__law_source => k_is)
    (case k__law_source => k_is)
    (case a__law_draw => k_is)
    (case l__law_draw => k_is)
    (case c__law_draw => k_is)
    (case k__law_draw => k_is)
    (case a__law_pick => k_is)
    (case l__law_pick => k_is)
    (case c__law_pick => k_is)
    (case k__law_pick => k_is)
    (case a__law_level => k_is)
    (case l__law_level => k_is)
    (case c__law_level => k_is)
    (case k__law_level => k_is)
    (case a__law_triples => k_is)
    (case l__law_triples => k_is)
    (case c__law_triples => k_is)
    (case k__law_triples => k_is)
    (case a__law_ascending => k_is)
    (case l__law_ascending => k_is)
    (case c__law_ascending => k_is)
    (case k__law_ascending => k_is)
    (case a__law_near => k_is)
    (case l__law_near => k_is)
    (case c__law_near => k_is)
    (case k__law_near => k_is)
    (case a__law_holds_rightly => k_is)
    (case l__law_holds_rightly => k_is)
    (case c__law_holds_rightly => k_is)
    (case k__law_holds_rightly => k_is)
    (case a_law => k_is)
    (case l_law => k_is)
    (case c_law => k_is)
    (case k_law => k_is)
    (case m_len => k_is)
    (case m_int => k_is)
    (case m_bool => k_is)
    (case m_str => k_is)
    (case m_list => k_is)
    (case m_tuple => k_is)
    (case m_range => k_is)
    (case m_enumerate => k_is)
    (case m_isinstance => k_is)
    (case m_abs => k_is)
    (case m_any => k_is)
    (case m_all => k_is)
    (case m_sorted => k_is)
    (case m_super => k_is)
    (case m_ValueError => k_is)
    (case g_MOST_LETTERS => k_is)
    (case g_SIGNS => k_is)
    (case l_SIGNS => k_is)
    (case c_SIGNS => rfl)
    (case e_SIGNS => rfl)
    (case d_SIGNS => rfl)
    (case z_SIGNS => decide)
    (case v_SIGNS => exact .cons ⟨_, rfl⟩ (.cons ⟨_, rfl⟩ (.cons ⟨_, rfl⟩ (.nil))))
    (case g_GAP_WORDS => k_is)
    (case l_GAP_WORDS => k_is)
    (case c_GAP_WORDS => rfl)
    (case e_GAP_WORDS => rfl)
    (case d_GAP_WORDS => rfl)
    (case z_GAP_WORDS => decide)
    (case v_GAP_WORDS => exact .cons ⟨_, rfl⟩ (.cons ⟨_, rfl⟩ (.cons ⟨_, rfl⟩ (.nil))))
#print axioms PySem.Challenge.cw_nearloops_k50_tables_holds
