import PyProof.Rows.All
import PySem.Challenge.RW_tilesregrow_k06_whole_rounds
import Wide.All
import OpenK.AllK
import Wide.FinOn
import KE.KeyNested
import KE.KDictWalk
import KE.KDictCopyH
import KE.KDictDisplayH
import HandS.ForMost
import HandS.TryMany
import HandS.ExcInit
import HandS.Defaults
import HandS.WordsExc
import HandS.TupSets
import HandS.Deep
import HandS.Lambda
import KE.SortKeyHeap
import KE.GoesEnum
import HandS.Words
import HandS.HeadWalk
import HandS.HeadHook4
import HandS.ExcField
import HandS.Head2
import HandS.IsInst
import HandS.Star
import HandS.Dict
import HandS.Text
import HandS.SetBool
import HandS.SortKw
import KE.KSortKey
import PyProof.ReprRoads
import HandS.DictComp
import HandS.Conv
/-! text A0 -/
set_option Elab.async false
set_option linter.all false
set_option maxRecDepth 100000
set_option maxHeartbeats 4000000
/-! Dicts whose keys are data of any kind (whole numbers, texts, None, tuples of such, mixed): the raw rules. -/
namespace VD
open PySem
abbrev D := NestedKey
/-- an entry: the key as data, the key's own value, the value -/
abbrev En := D × Value × Value
def KeyOk (h : Heap) (k : D) (v : Value) : Prop := NestedIs h k v ∧ k.depth ≤ 8
def enOf (w : World) (x : En) : DictEntry := ⟨x.1.hash w, x.2.1, x.2.2⟩
def look (xs : List En) (k : D) : Option (Value × Value) := (xs.find? fun x => decide (x.1 = k)).map (·.2)
def putAtV (k : D) (v : Value) (x : En) : En := if x.1 = k then (x.1, x.2.1, v) else x
def put (xs : List En) (k : D) (a v : Value) : List En := if (look xs k).isSome then xs.map (putAtV k v) else xs ++ [(k, a, v)]
def drop (xs : List En) (k : D) : List En := xs.filter fun x => decide (x.1 ≠ k)
structure DictV (w : World) (h : Heap) (d : Addr) (xs : List En) : Prop where
  ob : ∃ o es ep, h.get? d = some o ∧ o.ExactDict ∧ o.data = .dict es ep ∧ es.toList = xs.map (enOf w)
  nd : (xs.map (·.1)).Nodup
theorem put_new {xs : List En} {k : D} (h : look xs k = none) (a v : Value) : put xs k a v = xs ++ [(k, a, v)] := by simp [put, h]
theorem put_old {xs : List En} {k : D} {p : Value × Value} (h : look xs k = some p) (a v : Value) : put xs k a v = xs.map (putAtV k v) := by simp [put, h]
theorem ix_one {xs : List En} (hn : (xs.map (·.1)).Nodup) {i j : Nat} {k : D} {p q : Value × Value} (hi : xs[i]? = some (k, p)) (hj : xs[j]? = some (k, q)) : i = j := by
  have hi2 : (xs.map (·.1))[i]? = some k := by rw [List.getElem?_map, hi]; rfl
  have hj2 : (xs.map (·.1))[j]? = some k := by rw [List.getElem?_map, hj]; rfl
  exact (List.getElem?_inj (List.getElem?_eq_some_iff.mp hi2).1 hn).mp (hi2.trans hj2.symm)
theorem look_of_get {xs : List En} (hn : (xs.map (·.1)).Nodup) {i : Nat} {k : D} {p : Value × Value} (hx : xs[i]? = some (k, p)) : look xs k = some p := by
  induction xs generalizing i with
  | nil => simp at hx
  | cons x rest ih =>
    rw [List.map_cons, List.nodup_cons] at hn
    cases i with
    | zero =>
      simp only [List.getElem?_cons_zero, Option.some.injEq] at hx
      subst hx; simp [look]
    | succ j =>
      simp only [List.getElem?_cons_succ] at hx
      have hmem : k ∈ rest.map (·.1) := List.mem_map.mpr ⟨(k, p), List.mem_of_getElem? hx, rfl⟩
      have hne : ¬ x.1 = k := fun e => hn.1 (e ▸ hmem)
      have := ih hn.2 hx
      simpa [look, List.find?_cons, hne] using this
theorem look_none_of_get {xs : List En} {k : D} (h : ∀ (j : Nat) (p : Value × Value), xs[j]? ≠ some (k, p)) : look xs k = none := by
  have : (xs.find? fun x => decide (x.1 = k)) = none := by
    rw [List.find?_eq_none]
    intro x hx hk
    obtain ⟨j, hj⟩ := List.mem_iff_getElem?.mp hx
    have hk2 : x.1 = k := of_decide_eq_true hk
    exact h j x.2 (by rw [hj, ← hk2])
  simp [look, this]
theorem no_key_of_get {xs : List En} {k : D} (h : ∀ (j : Nat) (p : Value × Value), xs[j]? ≠ some (k, p)) : k ∉ xs.map (·.1) := by
  intro hm
  obtain ⟨x, hx, rfl⟩ := List.mem_map.mp hm
  obtain ⟨j, hj⟩ := List.mem_iff_getElem?.mp hx
  exact h j x.2 hj
theorem map_put_none (xs : List En) (k : D) (v : Value) (hn : k ∉ xs.map (·.1)) : xs.map (putAtV k v) = xs := by
  induction xs with
  | nil => rfl
  | cons x xs ih =>
    simp only [List.map_cons, List.mem_cons, not_or] at hn ⊢
    rw [putAtV, if_neg (fun e => hn.1 e.symm), ih hn.2]
theorem keys_map_put (xs : List En) (k : D) (v : Value) : (xs.map (putAtV k v)).map (·.1) = xs.map (·.1) := by
  induction xs with
  | nil => rfl
  | cons x xs ih =>
    simp only [List.map_cons, ih]
    by_cases hk : x.1 = k <;> simp [putAtV, hk]
theorem modify_put {β : Type} (f : En → β) (g : β → β) (k : D) (v : Value) (hg : ∀ a v0, g (f (k, a, v0)) = f (k, a, v)) :
    ∀ {xs : List En} {j : Nat} {p : Value × Value}, (xs.map (·.1)).Nodup → xs[j]? = some (k, p) → (xs.map f).modify j g = (xs.map (putAtV k v)).map f := by
  intro xs
  induction xs with
  | nil => intro j p _ hj; simp at hj
  | cons x rest ih =>
    intro j p hn hj
    rw [List.map_cons, List.nodup_cons] at hn
    cases j with
    | zero =>
      simp only [List.getElem?_cons_zero, Option.some.injEq] at hj
      subst hj
      rw [List.map_cons, List.map_cons, map_put_none rest k v hn.1, putAtV, if_pos rfl, List.map_cons]
      show g (f (k, p)) :: rest.map f = f (k, p.1, v) :: rest.map f
      rw [show (k, p) = (k, p.1, p.2) from rfl, hg]
    | succ j =>
      simp only [List.getElem?_cons_succ] at hj
      have hmem : k ∈ rest.map (·.1) := List.mem_map.mpr ⟨(k, p), List.mem_of_getElem? hj, rfl⟩
      have hne : ¬ x.1 = k := fun e => hn.1 (e ▸ hmem)
      rw [List.map_cons, List.map_cons, putAtV, if_neg hne, List.map_cons]
      show f x :: (rest.map f).modify j g = f x :: (rest.map (putAtV k v)).map f
      rw [ih hn.2 hj]
theorem erase_drop {xs : List En} : ∀ {j : Nat} {k : D} {p : Value × Value}, (xs.map (·.1)).Nodup → xs[j]? = some (k, p) → xs.eraseIdx j = drop xs k := by
  induction xs with
  | nil => intro j k p _ hj; simp at hj
  | cons x rest ih =>
    intro j k p hn hj
    rw [List.map_cons, List.nodup_cons] at hn
    cases j with
    | zero =>
      simp only [List.getElem?_cons_zero, Option.some.injEq] at hj
      subst hj
      rw [List.eraseIdx_cons_zero]
      have e : drop ((k, p) :: rest) k = drop rest k := by
        simp only [drop, List.filter_cons, ne_eq, not_true_eq_false, decide_false, Bool.false_eq_true, if_false]
      rw [e]
      refine (List.filter_eq_self.mpr fun y hy => ?_).symm
      exact decide_eq_true fun z => hn.1 (List.mem_map.mpr ⟨y, hy, z⟩)
    | succ j =>
      simp only [List.getElem?_cons_succ] at hj
      have hmem : k ∈ rest.map (·.1) := List.mem_map.mpr ⟨(k, p), List.mem_of_getElem? hj, rfl⟩
      have hne : x.1 ≠ k := fun e => hn.1 (e ▸ hmem)
      rw [List.eraseIdx_cons_succ, ih hn.2 hj]
      simp only [drop, List.filter_cons, decide_eq_true hne, if_true]
theorem put_nodup {xs : List En} (hn : (xs.map (·.1)).Nodup) (k : D) (a v : Value) : ((put xs k a v).map (·.1)).Nodup := by
  unfold put
  split
  · rw [keys_map_put]; exact hn
  · rename_i h
    have h0 : look xs k = none := by cases e : look xs k with
      | none => rfl
      | some p => rw [e] at h; exact absurd rfl h
    rw [List.map_append, List.nodup_append]
    refine ⟨hn, by simp, ?_⟩
    intro x hx y hy
    simp only [List.map_cons, List.map_nil, List.mem_singleton] at hy
    subst hy
    intro e
    subst e
    obtain ⟨z, hz, hzk⟩ := List.mem_map.mp hx
    have : (xs.find? fun x => decide (x.1 = z.1)) ≠ none := by
      intro q
      rw [List.find?_eq_none] at q
      exact q z hz (decide_eq_true rfl)
    rw [hzk] at this
    unfold look at h0
    cases q : (xs.find? fun y => decide (y.1 = x)) with
    | none => exact this q
    | some y => rw [q] at h0; cases h0
theorem drop_nodup {xs : List En} (hn : (xs.map (·.1)).Nodup) (k : D) : ((drop xs k).map (·.1)).Nodup := List.Nodup.sublist (List.Sublist.map _ List.filter_sublist) hn
theorem en_at {w : World} {es : Array DictEntry} {xs : List En} (he : es.toList = xs.map (enOf w)) (j : Nat) : es[j]? = (xs[j]?).map (enOf w) := by
  rw [← Array.getElem?_toList, he, List.getElem?_map]
theorem en_size {w : World} {es : Array DictEntry} {xs : List En} (he : es.toList = xs.map (enOf w)) : es.size = xs.length := by
  rw [← Array.length_toList, he, List.length_map]
theorem DictV.typeIs {w : World} {s : Shared} {d : Addr} {xs : List En} (m : DictV w s.heap d xs) : s.TypeIs (.ref d) "dict" :=
  let ⟨o, _, _, ho, hc, _⟩ := m.ob; ⟨o, ho, hc.1⟩
theorem DictV.new {w : World} (h : Heap) : DictV w (h.push { cls := .type "dict", data := .dict #[] }) h.objs.size [] :=
  ⟨⟨_, #[], 0, Heap.get?_push_size _ rfl, ⟨rfl, rfl, rfl⟩, rfl, rfl⟩, List.nodup_nil⟩
/-- keys stay while the dict alone changes -/
theorem KeyOk.same {h h1 : Heap} {k : D} {v : Value} {d : Addr} {o : Obj} {es ep} (x : KeyOk h k v) (ho : h.get? d = some o) (hd : o.data = .dict es ep) (hs : Heap.SameBut d h h1) : KeyOk h1 k v :=
  ⟨NestedIs.at (fun b ob vs n hb hc => by
    refine (hs.2 b fun e => ?_).trans hb
    subst e
    rw [ho] at hb
    cases hb
    rw [hd] at hc
    cases hc) k _ x.1, x.2⟩
theorem quiet_ok {prog : Program} {w : World} {A : Around} {E : Value → Shared → Prop} {s : Shared} {k : D} {v : Value} {Q : Bool → Shared → Prop} (x : KeyOk s.heap k v) (h : Q true s) : wpAny (model prog w) A (eqIsQuiet 8 v) Q E s :=
  quiet_key k v 8 s x.1 x.2 A E Q h
section
variable {prog : Program} {w : World} {A : Around} {E : Value → Shared → Prop} {s : Shared}
theorem mayTell_quiet {a : Value} {k : D} {stored : List Value} {Q : Bool → Shared → Prop} (hkey : KeyOk s.heap k a)
    (hst : ∀ v ∈ stored, ∃ k1, KeyOk s.heap k1 v) (h : Q false s) : wpAny (model prog w) A (tableMayTell a stored) Q E s := by
  unfold tableMayTell
  split
  · exact wpAny_pure h
  · refine wpAny_bind (quiet_ok hkey ?_)
    simp only [Bool.not_true, Bool.false_eq_true, if_false]
    refine wpAny_bind ?_
    refine wpAny_forIn_list _ (fun rest r s1 => s1 = s ∧ r = (none, ()) ∧ ∀ v ∈ rest, ∃ k1, KeyOk s.heap k1 v) _ ?_ ?_ _ _ ⟨rfl, rfl, hst⟩
    · rintro x rest r s1 ⟨rfl, rfl, hr⟩
      obtain ⟨k1, hb⟩ := hr x List.mem_cons_self
      refine wpAny_bind (quiet_ok hb ?_)
      simp only [Bool.not_true, Bool.false_eq_true, if_false]
      exact wpAny_pure ⟨rfl, rfl, fun v hv => hr v (List.mem_cons_of_mem _ hv)⟩
    · rintro r s1 ⟨rfl, rfl, _⟩
      exact wpAny_pure h
theorem eqBool_ok {x y : D} {a b : Value} {Q : Bool → Shared → Prop} (hu : A.units + 8 < cLine) (hx : KeyOk s.heap x a) (hy : KeyOk s.heap y b) (h : Q (decide (x = y)) s) : wpAny (model prog w) A (eqBool a b) Q E s :=
  eqAt_key x y A s _ _ hx.1 hy.1 (by have := hx.2; have := hy.2; omega) _ _ _ _ (by rw [← NestedKey.decide_eq]; exact h)
theorem hash_ok {k : D} {v : Value} {Q : Int → Shared → Prop} (hu : A.units + 8 < cLine) (x : KeyOk s.heap k v) (h : Q (k.hash w) { s with toks := s.toks + k.draws }) : wpAny (model prog w) A (pyHash v) Q E s :=
  pyHash_key _ _ _ _ _ x.1 (by have := x.2; omega) h
end
end VD
/-! text A1 -/
set_option Elab.async false
set_option linter.all false
set_option maxRecDepth 100000
set_option maxHeartbeats 4000000
namespace VD
open PySem
section
variable {prog : Program} {w : World} {A : Around} {E : Value → Shared → Prop} {s : Shared}
theorem has_key {es : Array DictEntry} {xs : List En} {k : D} (he : es.toList = xs.map (enOf w)) {j : Nat} {p : Value × Value} (hj : xs[j]? = some (k, p)) : ((es[j]?.map (·.hash)) == some (k.hash w)) = true := by
  rw [en_at he j, hj]
  simp [enOf]
theorem en_mem {es : Array DictEntry} {xs : List En} (he : es.toList = xs.map (enOf w)) : ∀ e ∈ es, ∃ x ∈ xs, e = enOf w x := by
  intro e hin
  have : e ∈ xs.map (enOf w) := he ▸ Array.mem_toList_iff.mpr hin
  obtain ⟨x, hx, rfl⟩ := List.mem_map.mp this
  exact ⟨x, hx, rfl⟩
/-- what is known of the hit ahead of place i -/
def Hit (xs : List En) (k : D) (i : Nat) (hit : Option Nat) : Prop := (hit = none ∧ ∀ (j : Nat) (p : Value × Value), j < i → xs[j]? ≠ some (k, p)) ∨ ∃ (j : Nat) (p : Value × Value), hit = some j ∧ j < i ∧ xs[j]? = some (k, p)
abbrev Left (w : World) (es : Array DictEntry) (k : D) (i : Nat) : List Nat := (List.range' i (es.size - i)).filter (fun i => (es[i]?.map (·.hash)) == some (k.hash w))
theorem Hit.skip {es : Array DictEntry} {xs : List En} {k : D} {i x : Nat} {hit : Option Nat} (he : es.toList = xs.map (enOf w)) (hix : i ≤ x) (hskip : ∀ j, i ≤ j → j < x → ((es[j]?.map (·.hash)) == some (k.hash w)) = false) (hH : Hit xs k i hit) : Hit xs k x hit := by
  rcases hH with ⟨h0, hno⟩ | ⟨j, p, h1, hji, hj⟩
  · refine .inl ⟨h0, fun j p hjx hj => ?_⟩
    rcases Nat.lt_or_ge j i with h | h
    · exact hno j p h hj
    · have := hskip j h hjx
      rw [has_key he hj] at this
      exact absurd this (by decide)
  · exact .inr ⟨j, p, h1, by omega, hj⟩
theorem Hit.other {xs : List En} {k k1 : D} {x : Nat} {hit : Option Nat} {p : Value × Value} (hkv : xs[x]? = some (k1, p)) (hne : ¬ k1 = k) (hH : Hit xs k x hit) : Hit xs k (x + 1) hit := by
  rcases hH with ⟨h0, hno⟩ | ⟨j, p, h1, hjx, hj⟩
  · refine .inl ⟨h0, fun j p hjx hj => ?_⟩
    rcases Nat.lt_or_ge j x with h | h
    · exact hno j p h hj
    · have hjx2 : j = x := by omega
      subst hjx2
      rw [hkv] at hj
      injection hj with hj
      injection hj with hj
      exact hne hj
  · exact .inr ⟨j, p, h1, by omega, hj⟩
theorem none_behind {es : Array DictEntry} {xs : List En} {k : D} {i : Nat} (he : es.toList = xs.map (enOf w)) (hr : ([] : List Nat) = Left w es k i) (hno : ∀ (j : Nat) (p : Value × Value), j < i → xs[j]? ≠ some (k, p)) : ∀ (j : Nat) (p : Value × Value), xs[j]? ≠ some (k, p) := by
  intro j p hj
  rcases Nat.lt_or_ge j i with h | h
  · exact hno j p h hj
  · have hjl : j < es.size := by
      rw [en_size he]
      rcases Nat.lt_or_ge j xs.length with h1 | h1
      · exact h1
      · rw [List.getElem?_eq_none h1] at hj; exact nomatch hj
    have := List.filter_eq_nil_iff.mp hr.symm j (List.mem_range'_1.mpr ⟨h, by omega⟩)
    exact this (has_key he hj)
theorem walkPlain_ok {d : Addr} {v : Value} {o : Obj} {es ep} {xs : List En} {k : D} {Q : Option Nat → Shared → Prop} (hu : A.units + 8 < cLine) (hkey : KeyOk s.heap k v)
    (ho : s.heap.get? d = some o) (hd : o.data = .dict es ep) (he : es.toList = xs.map (enOf w)) (his : ∀ x ∈ xs, KeyOk s.heap x.1 x.2.1)
    (hnone : (∀ (j : Nat) (p : Value × Value), xs[j]? ≠ some (k, p)) → Q none s) (hsome : ∀ (j : Nat) (p : Value × Value), xs[j]? = some (k, p) → Q (some j) s) :
    wpAny (model prog w) A (dictWalkPlain d v (k.hash w) es (placesWithHash es.size (fun i => es[i]?.map (·.hash)) (k.hash w))) Q E s := by
  have hsz : es.size = xs.length := en_size he
  unfold dictWalkPlain
  refine wpAny_bind ?_
  refine wpAny_forIn_list _ (fun rest b s1 => s1 = s ∧ b = (none, ()) ∧ ∃ i, rest = Left w es k i ∧ i ≤ es.size ∧ Hit xs k i none) _ ?_ ?_ _ _
    ⟨rfl, rfl, 0, by rw [placesWithHash, List.range_eq_range', Left, Nat.sub_zero], Nat.zero_le _, .inl ⟨rfl, fun _ _ h => absurd h (Nat.not_lt_zero _)⟩⟩
  · rintro x rest b s1 ⟨rfl, rfl, i, hr, hi, hH⟩
    obtain ⟨hix, hxn, hpx, hskip, hrest⟩ := filter_range'_cons _ _ _ _ _ hr.symm
    have hlt : x < es.size := by omega
    have hrest2 : rest = Left w es k (x + 1) := by rw [hrest]; unfold Left; congr 2; omega
    obtain ⟨⟨k1, b, v1⟩, hkv⟩ : ∃ y, xs[x]? = some y := ⟨xs[x]'(by rw [← hsz]; exact hlt), List.getElem?_eq_getElem _⟩
    have hib : KeyOk s1.heap k1 b := his _ (List.mem_of_getElem? hkv)
    have hex : es[x]? = some ⟨k1.hash w, b, v1⟩ := by rw [en_at he x, hkv]; rfl
    have hHx := Hit.skip he hix hskip hH
    rw [hex]
    dsimp only
    by_cases hh : (k1.hash w == k.hash w) = true
    · rw [if_pos hh]
      refine wpAny_bind (wpAny_dictEpoch ho hd (wpAny_bind (eqBool_ok (x := k1) (y := k) hu hib hkey (wpAny_bind (wpAny_dictEpoch ho hd ?_)))))
      show wpAny _ _ (if (ep != ep) = true then _ else _) _ E _
      rw [if_neg (by simp)]
      by_cases hkk : k1 = k
      · rw [decide_eq_true hkk]
        exact wpAny_bind (wpAny_rule (wpAny_pure (wpAny_pure (hsome x (b, v1) (by rw [← hkk]; exact hkv)))))
      · rw [decide_eq_false hkk]
        exact wpAny_bind (wpAny_rule (wpAny_pure ⟨rfl, rfl, x + 1, hrest2, hlt, Hit.other hkv hkk hHx⟩))
    · rw [if_neg hh]
      refine wpAny_pure ⟨rfl, rfl, x + 1, hrest2, hlt, Hit.other hkv ?_ hHx⟩
      intro hkk
      rw [hkk] at hh; simp at hh
  · rintro b s1 ⟨rfl, rfl, i, hr, hi, hH⟩
    rcases hH with ⟨_, hno⟩ | ⟨j, p, hj, _, _⟩
    · exact wpAny_pure (hnone (none_behind he hr hno))
    · cases hj
theorem byValue_ok {d : Addr} {x : Str} {t : Tok} {o : Obj} {es ep} {xs : List En} {k : D} {Q : Option Nat → Shared → Prop} (hk : k = .text x) (hu : A.units + 8 < cLine)
    (ho : s.heap.get? d = some o) (hd : o.data = .dict es ep) (he : es.toList = xs.map (enOf w)) (his : ∀ x ∈ xs, KeyOk s.heap x.1 x.2.1) (hstr : (es.all fun e => isExactStrKey e.key) = true)
    (hnone : (∀ (j : Nat) (p : Value × Value), xs[j]? ≠ some (k, p)) → Q none s) (hsome : ∀ (j : Nat) (p : Value × Value), xs[j]? = some (k, p) → Q (some j) s) :
    wpAny (model prog w) A (foundByValue d (.str x t) es x) Q E s := by
  subst hk
  have hsz : es.size = xs.length := en_size he
  have all : ∀ (j : Nat) (y : En), xs[j]? = some y → ∃ z u, y.1 = .text z ∧ y.2.1 = .str z u := fun j y hj => by
    have hk := his y (List.mem_of_getElem? hj)
    have he1 : es[j]? = some (enOf w y) := by rw [en_at he j, hj]; rfl
    have hs := (Array.all_eq_true_iff_forall_mem.mp hstr) _ (Array.mem_of_getElem? he1)
    obtain ⟨k1, b, v1⟩ := y
    have hs : isExactStrKey b = true := hs
    have hk : NestedIs s.heap k1 b := hk.1
    cases hk with
    | text z u => exact ⟨z, u, rfl, rfl⟩
    | _ => exact absurd hs Bool.false_ne_true
  unfold foundByValue
  cases hf : es.findIdx? (fun e => e.key.isStr x) with
  | none =>
    refine wpAny_pure (hnone fun j p hj => ?_)
    obtain ⟨z, u, e1, e2⟩ := all j _ hj
    cases e1
    have he1 : es[j]? = some (enOf w (.text x, p)) := by rw [en_at he j, hj]; rfl
    have := Array.findIdx?_eq_none_iff.mp hf _ (Array.mem_of_getElem? he1)
    have e3 : p.1 = .str x u := e2
    simp [enOf, e3, Value.isStr] at this
  | some i =>
    obtain ⟨hlt, hi, _⟩ := Array.findIdx?_eq_some_iff_getElem.mp hf
    obtain ⟨⟨k1, b, v1⟩, hkv⟩ : ∃ y, xs[i]? = some y := ⟨xs[i]'(by rw [← hsz]; exact hlt), List.getElem?_eq_getElem _⟩
    have hex : es[i]? = some ⟨k1.hash w, b, v1⟩ := by rw [en_at he i, hkv]; rfl
    have hib : KeyOk s.heap k1 b := his _ (List.mem_of_getElem? hkv)
    obtain ⟨z, u, e1, e2⟩ := all i _ hkv
    have e1 : k1 = .text z := e1
    have e2 : b = .str z u := e2
    subst e1 e2
    have hz : z = x := by
      have hg : es[i] = ⟨(NestedKey.text z).hash w, .str z u, v1⟩ := by
        rw [Array.getElem?_eq_getElem hlt] at hex
        exact Option.some.inj hex
      rw [hg] at hi
      simpa [Value.isStr] using hi
    subst hz
    dsimp only
    rw [hex]
    dsimp only
    refine wpAny_bind (wpAny_dictEpoch ho hd (wpAny_bind (eqBool_ok (x := .text z) (y := .text z) hu hib ⟨.text z t, Nat.zero_le _⟩ (wpAny_bind (wpAny_dictEpoch ho hd ?_)))))
    show wpAny _ _ (if (ep != ep) = true then _ else _) _ E _
    rw [if_neg (by simp), decide_eq_true rfl]
    exact wpAny_bind (wpAny_rule (wpAny_pure (hsome i _ hkv)))
end
end VD
/-! text A2 -/
set_option Elab.async false
set_option linter.all false
set_option maxRecDepth 100000
set_option maxHeartbeats 4000000
set_option pp.maxSteps 400
set_option pp.deepTerms false
namespace VD
open PySem
theorem ite_wp {α : Type} {M : Model} {A : Around} {Q : α → Shared → Prop} {E : Value → Shared → Prop} {s : Shared} {c : Prop} [Decidable c] {t e : Sem α} (h1 : c → wpAny M A t Q E s) (h2 : ¬ c → wpAny M A e Q E s) : wpAny M A (if c then t else e) Q E s := by
  by_cases h : c
  · rw [if_pos h]; exact h1 h
  · rw [if_neg h]; exact h2 h
theorem ite_wp2 {α : Type} {M : Model} {A : Around} {Q : α → Shared → Prop} {E : Value → Shared → Prop} {s : Shared} {c : Prop} [Decidable c] {t e : Sem α} (h1 : c → wpAny M A t Q E s) (h2 : ¬ c → wpAny M A e Q E s) : wpAny M A (if c then t else e) Q E s := ite_wp h1 h2
section
variable {prog : Program} {w : World} {A : Around} {E : Value → Shared → Prop} {s : Shared}
theorem find_ok {d : Addr} {v : Value} {o : Obj} {es ep} {xs : List En} {k : D} {Q : Option Nat → Shared → Prop} (hu : A.units + 8 < cLine) (hkey : KeyOk s.heap k v)
    (ho : s.heap.get? d = some o) (hd : o.data = .dict es ep) (he : es.toList = xs.map (enOf w)) (his : ∀ x ∈ xs, KeyOk s.heap x.1 x.2.1) (hn : (xs.map (·.1)).Nodup)
    (hnone : (∀ (j : Nat) (p : Value × Value), xs[j]? ≠ some (k, p)) → Q none s) (hsome : ∀ (j : Nat) (p : Value × Value), xs[j]? = some (k, p) → Q (some j) s) :
    wpAny (model prog w) A (dictFind d v (k.hash w)) Q E s := by
  have hsz : es.size = xs.length := en_size he
  have hany : ∀ a, v = .ref a → ¬ (es.any fun e => e.key == Value.ref a && e.hash != k.hash w) = true := by
    intro a hva
    rw [← Array.any_toList, List.any_eq_true]
    rintro ⟨e, hin, hc⟩
    obtain ⟨x, hx, rfl⟩ := en_mem he e (Array.mem_toList_iff.mp hin)
    simp only [enOf, Bool.and_eq_true, beq_iff_eq, bne_iff_ne, ne_eq] at hc
    obtain ⟨hxa, hne⟩ := hc
    have h1 := his x hx
    rw [hxa, ← hva] at h1
    exact hne (by rw [NestedIs.inj _ _ _ h1.1 hkey.1])
  have hst : ∀ u ∈ (placesWithHash es.size (fun i => es[i]?.map (·.hash)) (k.hash w)).filterMap (fun i => es[i]?.map (·.key)), ∃ k1, KeyOk s.heap k1 u := by
    intro u hv
    obtain ⟨i, _, hi⟩ := List.mem_filterMap.mp hv
    cases hei : es[i]? with
    | none => rw [hei] at hi; cases hi
    | some e =>
      rw [hei] at hi
      obtain rfl : e.key = u := by simpa using hi
      obtain ⟨x, hx, rfl⟩ := en_mem he e (Array.mem_of_getElem? hei)
      exact ⟨x.1, his x hx⟩
  have hv : v = .none ∨ (∃ b, v = .bool b) ∨ (∃ i t, v = .int i t) ∨ (∃ x t, v = .str x t ∧ k = .text x) ∨ ∃ a, v = .ref a := by
    cases hkey.1 with
    | none => exact .inl rfl
    | bool e => exact .inr (.inl ⟨_, rfl⟩)
    | int i t => exact .inr (.inr (.inl ⟨_, _, rfl⟩))
    | text x t => exact .inr (.inr (.inr (.inl ⟨_, _, rfl, rfl⟩)))
    | tup h1 h2 h3 h4 => exact .inr (.inr (.inr (.inr ⟨_, rfl⟩)))
  rcases hv with rfl | ⟨b, rfl⟩ | ⟨i, t, rfl⟩ | ⟨x, t, rfl, hkt⟩ | ⟨a, rfl⟩
  all_goals (unfold dictFind; (try with_reducible refine wpAny_holding ?_); refine wpAny_bind (wpAny_dictEntries ho hd ?_); dsimp only)
  all_goals (first
    | refine ite_wp (fun _ => walkPlain_ok hu hkey ho hd he his hnone hsome) fun _ => ?_
    | refine ite_wp (fun hs => byValue_ok hkt hu ho hd he his hs hnone hsome) fun _ => ite_wp (fun _ => walkPlain_ok hu hkey ho hd he his hnone hsome) fun _ => ?_)
  all_goals (try refine ite_wp (fun h => absurd h (hany _ rfl)) fun _ => ?_)
  all_goals (refine ite_wp (fun _ => wpAny_bind (wpAny_pure ?_)) (fun _ => wpAny_bind (mayTell_quiet hkey hst ?_)))
  all_goals
    (rw [if_neg (by simp)]
     refine wpAny_bind ?_
     refine wpAny_forIn_list _ (fun rest b s1 => s1 = s ∧ ∃ i hit, b = (none, hit) ∧ rest = Left w es k i ∧ i ≤ es.size ∧ Hit xs k i hit) _ ?_ ?_ _ _
       ⟨rfl, 0, none, rfl, by rw [placesWithHash, List.range_eq_range', Left, Nat.sub_zero], Nat.zero_le _, .inl ⟨rfl, fun _ _ h => absurd h (Nat.not_lt_zero _)⟩⟩
     · rintro x rest b s1 ⟨rfl, i, hit, rfl, hr, hi, hH⟩
       obtain ⟨hix, hxn, hpx, hskip, hrest⟩ := filter_range'_cons _ _ _ _ _ hr.symm
       have hlt : x < es.size := by omega
       have hrest2 : rest = Left w es k (x + 1) := by rw [hrest]; unfold Left; congr 2; omega
       obtain ⟨⟨k1, b, v1⟩, hkv⟩ : ∃ y, xs[x]? = some y := ⟨xs[x]'(by rw [← hsz]; exact hlt), List.getElem?_eq_getElem _⟩
       have hib : KeyOk s1.heap k1 b := his _ (List.mem_of_getElem? hkv)
       have hex : es[x]? = some ⟨k1.hash w, b, v1⟩ := by rw [en_at he x, hkv]; rfl
       have hHx := Hit.skip he hix hskip hH
       rw [hex]
       dsimp only
       by_cases hh : (k1.hash w == k.hash w) = true
       · rw [if_pos hh]
         refine wpAny_bind (wpAny_dictEpoch ho hd (wpAny_bind (eqBool_ok (x := k1) (y := k) hu hib hkey (wpAny_bind (wpAny_dictEpoch ho hd ?_)))))
         show wpAny _ _ (if (ep != ep) = true then _ else _) _ E _
         rw [if_neg (by simp)]
         by_cases hkk : k1 = k
         · rw [decide_eq_true hkk]
           rcases hHx with ⟨rfl, _⟩ | ⟨j, p, _, hjx, hj⟩
           · first | rw [if_pos rfl] | skip
             simp only [Option.isSome_none, Bool.false_eq_true, if_false]
             first | refine wpAny_bind (wpAny_pure ?_) | skip
             refine wpAny_bind (wpAny_rule ?_)
             split
             · exact wpAny_pure (wpAny_pure (hsome x (b, v1) (by rw [← hkk]; exact hkv)))
             · exact wpAny_pure ⟨rfl, x + 1, some x, rfl, hrest2, hlt, .inr ⟨x, (b, v1), rfl, Nat.lt_succ_self x, by rw [← hkk]; exact hkv⟩⟩
           · exact absurd (ix_one hn hj (by rw [hkk] at hkv; exact hkv)) (by omega)
         · rw [decide_eq_false hkk]
           simp only [Bool.false_eq_true, if_false]
           refine wpAny_bind (wpAny_rule ?_)
           first | rw [if_neg (by simp)] | skip
           first
             | exact wpAny_pure ⟨rfl, x + 1, hit, rfl, hrest2, hlt, Hit.other hkv hkk hHx⟩
             | exact wpAny_bind (wpAny_pure (wpAny_pure ⟨rfl, x + 1, hit, rfl, hrest2, hlt, Hit.other hkv hkk hHx⟩))
       · rw [if_neg hh]
         refine wpAny_pure ⟨rfl, x + 1, hit, rfl, hrest2, hlt, Hit.other hkv ?_ hHx⟩
         intro hkk
         rw [hkk] at hh; simp at hh
     · rintro b s1 ⟨rfl, i, hit, rfl, hr, hi, hH⟩
       rcases hH with ⟨rfl, hno⟩ | ⟨j, p, rfl, _, hj⟩
       · exact wpAny_pure (hnone (none_behind he hr hno))
       · exact wpAny_pure (hsome j p hj))
end
end VD
/-! text A3 -/
set_option Elab.async false
set_option linter.all false
set_option maxRecDepth 100000
set_option maxHeartbeats 4000000
namespace VD
open PySem
section
variable {prog : Program} {w : World} {A : Around} {E : Value → Shared → Prop} {s : Shared} {d : Addr} {a v : Value} {k : D} {xs : List En}
abbrev AllKeys (h : Heap) (xs : List En) : Prop := ∀ x ∈ xs, KeyOk h x.1 x.2.1
theorem get_ok {Q : Option Value → Shared → Prop} (hu : A.units + 8 < cLine) (hkey : KeyOk s.heap k a) (hm : DictV w s.heap d xs) (his : AllKeys s.heap xs)
    (h : Q ((look xs k).map (·.2)) { s with toks := s.toks + k.draws }) : wpAny (model prog w) A (dictGet d a) Q E s := by
  obtain ⟨⟨o, es, ep, ho, _, hd, he⟩, hn⟩ := hm
  unfold dictGet
  try with_reducible refine wpAny_holding ?_
  refine wpAny_bind (hash_ok hu hkey (wpAny_bind (find_ok (s := { s with toks := s.toks + k.draws }) hu hkey ho hd he his hn (fun hno => ?_) fun j p hj => ?_)))
  · rw [look_none_of_get hno] at h
    exact wpAny_pure h
  · rw [look_of_get hn hj] at h
    refine wpAny_bind (wpAny_dictEntries (s := { s with toks := s.toks + k.draws }) ho hd ?_)
    rw [en_at he j, hj]
    exact wpAny_pure h
theorem put_dict {o : Obj} {es : Array DictEntry} {ep : Nat} {h : Heap} (ho : h.get? d = some o) (hc : o.ExactDict) (hd : o.data = .dict es ep) (he : es.toList = xs.map (enOf w)) (hn : (xs.map (·.1)).Nodup) (hno : look xs k = none) (a v : Value) :
    DictV w (h.update d (Obj.mapDictKeys (·.push ⟨k.hash w, a, v⟩))) d (put xs k a v) := by
  refine ⟨⟨_, _, ep + 1, Heap.get?_update_self _ ho (Obj.isFreed_of_dict (Obj.data_mapDictKeys hd _)), hc.mapDictKeys _, Obj.data_mapDictKeys hd _, ?_⟩, put_nodup hn k a v⟩
  rw [put_new hno]
  simp [he, enOf]
theorem put_dict2 {o : Obj} {es : Array DictEntry} {ep : Nat} {h : Heap} (ho : h.get? d = some o) (hc : o.ExactDict) (hd : o.data = .dict es ep) (he : es.toList = xs.map (enOf w)) (hn : (xs.map (·.1)).Nodup) {j : Nat} {p : Value × Value} (hj : xs[j]? = some (k, p)) (a v : Value) :
    DictV w (h.update d (Obj.mapDict (·.modify j fun e => { e with val := v }))) d (put xs k a v) := by
  refine ⟨⟨_, _, ep, Heap.get?_update_self _ ho (Obj.isFreed_of_dict (Obj.data_mapDict hd _)), hc.mapDict _, Obj.data_mapDict hd _, ?_⟩, put_nodup hn k a v⟩
  rw [put_old (look_of_get hn hj)]
  have := modify_put (enOf w) (fun e : DictEntry => { e with val := v }) k v (fun _ _ => rfl) hn hj
  rw [← he] at this
  obtain ⟨l⟩ := es
  simpa using this
theorem set_ok {Q : Unit → Shared → Prop} (hu : A.units + 8 < cLine) (hkey : KeyOk s.heap k a) (hm : DictV w s.heap d xs) (his : AllKeys s.heap xs)
    (hQ : ∀ h1, DictV w h1 d (put xs k a v) → Heap.SameBut d s.heap h1 → Q () { s with heap := h1, toks := s.toks + k.draws }) (hz : xs.length ≤ sizeLine) :
    wpAny (model prog w) A (dictSet d a v) Q E s := by
  obtain ⟨⟨o, es, ep, ho, hc, hd, he⟩, hn⟩ := hm
  unfold dictSet
  try with_reducible refine wpAny_holding ?_
  refine wpAny_bind (hash_ok hu hkey ?_)
  unfold dictSetHashed
  try with_reducible refine wpAny_holding ?_
  refine wpAny_bind (find_ok (s := { s with toks := s.toks + k.draws }) hu hkey ho hd he his hn (fun hno => ?_) fun j p hj => ?_)
  · exact wpAny_bind (wpAny_rule (wpAny_updateDictKeys (hz := by have e := en_size he; omega) (s := { s with toks := s.toks + k.draws }) ho hd (hQ _ (put_dict ho hc hd he hn (look_none_of_get hno) a v) (Heap.SameBut.update ..))))
  · exact wpAny_bind (wpAny_rule (wpAny_bind (wpAny_updateDict (s := { s with toks := s.toks + k.draws }) ho hd (wpAny_point (hQ _ (put_dict2 ho hc hd he hn hj a v) (Heap.SameBut.update ..))))))
theorem setdef_ok {dflt : Value} {Q : Value → Shared → Prop} (hu : A.units + 8 < cLine) (hkey : KeyOk s.heap k a) (hm : DictV w s.heap d xs) (his : AllKeys s.heap xs)
    (h1 : ∀ p, look xs k = some p → Q p.2 { s with toks := s.toks + k.draws })
    (h2 : look xs k = none → ∀ h1, DictV w h1 d (put xs k a dflt) → Heap.SameBut d s.heap h1 → Q dflt { s with heap := h1, toks := s.toks + k.draws }) (hz : xs.length ≤ sizeLine) :
    wpAny (model prog w) A (dictSetDefault d a dflt) Q E s := by
  obtain ⟨⟨o, es, ep, ho, hc, hd, he⟩, hn⟩ := hm
  unfold dictSetDefault
  try with_reducible refine wpAny_holding ?_
  refine wpAny_bind (hash_ok hu hkey ?_)
  refine wpAny_bind (find_ok (s := { s with toks := s.toks + k.draws }) hu hkey ho hd he his hn (fun hno => ?_) fun j p hj => ?_)
  · exact wpAny_bind (wpAny_rule (wpAny_bind (wpAny_updateDictKeys (hz := by have e := en_size he; omega) (s := { s with toks := s.toks + k.draws }) ho hd (wpAny_pure (h2 (look_none_of_get hno) _ (put_dict ho hc hd he hn (look_none_of_get hno) a dflt) (Heap.SameBut.update ..))))))
  · refine wpAny_bind (wpAny_dictEntries (s := { s with toks := s.toks + k.draws }) ho hd ?_)
    rw [en_at he j, hj]
    exact wpAny_bind (wpAny_rule (wpAny_pure (h1 p (look_of_get hn hj))))
theorem take_ok {Q : Option DictEntry → Shared → Prop} (hu : A.units + 8 < cLine) (hkey : KeyOk s.heap k a) (hm : DictV w s.heap d xs) (his : AllKeys s.heap xs)
    (hnone : look xs k = none → Q none { s with toks := s.toks + k.draws })
    (hsome : ∀ e p, look xs k = some p → e.val = p.2 → ∀ h1, DictV w h1 d (drop xs k) → Heap.SameBut d s.heap h1 → Q (some e) { s with heap := h1, toks := s.toks + k.draws }) (hz : xs.length ≤ sizeLine) :
    wpAny (model prog w) A (Builtin.Dict.takeOut d a) Q E s := by
  obtain ⟨⟨o, es, ep, ho, hc, hd, he⟩, hn⟩ := hm
  unfold Builtin.Dict.takeOut
  try with_reducible refine wpAny_holding ?_
  refine wpAny_bind (hash_ok hu hkey ?_)
  refine wpAny_bind (find_ok (s := { s with toks := s.toks + k.draws }) hu hkey ho hd he his hn (fun hno => ?_) fun j p hj => ?_)
  · exact wpAny_pure (hnone (look_none_of_get hno))
  · refine wpAny_bind (wpAny_dictEntries (s := { s with toks := s.toks + k.draws }) ho hd ?_)
    rw [en_at he j, hj]
    refine wpAny_bind (wpAny_updateDictKeys (hz := by have e := en_size he; omega) (s := { s with toks := s.toks + k.draws }) ho hd (wpAny_pure (hsome _ p (look_of_get hn hj) rfl _ ⟨⟨_, _, ep + 1, Heap.get?_update_self _ ho (Obj.isFreed_of_dict (Obj.data_mapDictKeys hd _)), hc.mapDictKeys _, Obj.data_mapDictKeys hd _, ?_⟩, drop_nodup hn k⟩ (Heap.SameBut.update ..))))
    rw [← erase_drop hn hj, map_eraseIdx, ← he]
    obtain ⟨l⟩ := es
    simp
/-! ### the operators -/
theorem contains_ok {Q : Bool → Shared → Prop} (hu : A.units + 9 < cLine) (hkey : KeyOk s.heap k a) (hd : (d == sysModules) = false) (hm : DictV w s.heap d xs) (his : AllKeys s.heap xs)
    (h : Q (look xs k).isSome { s with toks := s.toks + k.draws }) : wpAny (model prog w) A (contains (.ref d) a) Q E s := by
  refine wpAny_contains_slot hm.typeIs F.slot_dict_contains ?_
  refine call_meetsIn F.slot_dict_contains hm.typeIs F.entry_dict_contains (F.args_dict_contains_2 _ _) (S := fun A1 R s1 => A1 = A ∧ s1 = s ∧ R (.ok (.ret (.bool (look xs k).isSome))) { s with toks := s.toks + k.draws }) (fun A1 R s1 hS => ?_) ⟨rfl, rfl, wpAny_truthy_bool h⟩
  obtain ⟨rfl, rfl, hq⟩ := hS
  show wpAny _ _ (dictGet d a >>= _) _ _ _
  refine wpAny_bind (get_ok (by show A1.units + 1 + 8 < cLine; omega) hkey hm his ?_)
  cases hf : look xs k with
  | some p =>
    rw [hf] at hq
    show wpAny _ _ (ret (.bool true)) _ _ _
    exact wpAny_pure hq
  | none =>
    rw [hf] at hq
    show wpAny _ _ (Builtin.Dict.pendingKey? d a >>= _) _ _ _
    exact wpAny_bind (wpAny_pendingKey_other hd (wpAny_pure hq))
theorem in_ok {Q : Value → Shared → Prop} (hu : A.units + 9 < cLine) (hkey : KeyOk s.heap k a) (hd : (d == sysModules) = false) (hm : DictV w s.heap d xs) (his : AllKeys s.heap xs)
    (h : Q (.bool (look xs k).isSome) { s with toks := s.toks + k.draws }) : wpAny (model prog w) A (compareOp .In a (.ref d)) Q E s := by
  show wpAny _ _ (do return .bool (← contains (.ref d) a)) Q E s
  exact wpAny_bind (contains_ok hu hkey hd hm his (wpAny_pure h))
theorem notin_ok {Q : Value → Shared → Prop} (hu : A.units + 9 < cLine) (hkey : KeyOk s.heap k a) (hd : (d == sysModules) = false) (hm : DictV w s.heap d xs) (his : AllKeys s.heap xs)
    (h : Q (.bool (!(look xs k).isSome)) { s with toks := s.toks + k.draws }) : wpAny (model prog w) A (compareOp .NotIn a (.ref d)) Q E s := by
  show wpAny _ _ (do return .bool (!(← contains (.ref d) a))) Q E s
  exact wpAny_bind (contains_ok hu hkey hd hm his (wpAny_pure h))
theorem getItem_ok {p : Value × Value} {Q : Value → Shared → Prop} (hu : A.units + 9 < cLine) (hkey : KeyOk s.heap k a) (hm : DictV w s.heap d xs) (his : AllKeys s.heap xs) (hp : look xs k = some p)
    (h : Q p.2 { s with toks := s.toks + k.draws }) : wpAny (model prog w) A (getItem (.ref d) a) Q E s := by
  unfold getItem
  try with_reducible refine wpAny_holding ?_
  refine wpAny_bind (wpAny_sequenceKey hm.typeIs (by decide) ?_)
  refine wpAny_bind (wpAny_callSpecial?_slot (name := Str.ofString "__getitem__") hm.typeIs slot_dict_getitem
    (wpAny_call_entry slot_dict_getitem hm.typeIs entry_dict_getitem ?_ (args_dict_getitem _ _)))
  show wpAny _ _ (dictGet d a >>= _) _ _ s
  refine wpAny_bind (get_ok (by show A.units + 1 + 8 < cLine; omega) hkey hm his ?_)
  rw [hp]
  exact wpAny_pure ⟨p.2, rfl, wpAny_pure h⟩
theorem setItem_ok {Q : Unit → Shared → Prop} (hu : A.units + 9 < cLine) (hkey : KeyOk s.heap k a) (hm : DictV w s.heap d xs) (his : AllKeys s.heap xs)
    (hQ : ∀ h1, DictV w h1 d (put xs k a v) → Heap.SameBut d s.heap h1 → Q () { s with heap := h1, toks := s.toks + k.draws }) (hz : xs.length ≤ sizeLine) :
    wpAny (model prog w) A (setItem (.ref d) a v) Q E s := by
  unfold setItem
  try with_reducible refine wpAny_holding ?_
  refine wpAny_bind (wpAny_sequenceKey hm.typeIs (by decide) ?_)
  refine wpAny_bind (wpAny_callSpecial?_slot (name := Str.ofString "__setitem__") hm.typeIs slot_dict_setitem
    (wpAny_call_entry slot_dict_setitem hm.typeIs entry_dict_setitem ?_ (args_dict_setitem _ _ _)))
  show wpAny _ _ (Builtin.Dict.notOrdered "__setitem__" ⟨[.ref d, a, v], []⟩ >>= _) _ _ s
  refine wpAny_bind (wpAny_notOrdered_dict hm.typeIs ?_)
  show wpAny _ _ (dictSet d a v >>= _) _ _ s
  exact wpAny_bind (set_ok (by show A.units + 1 + 8 < cLine; omega) hkey hm his (fun h1 hm1 hs1 => wpAny_pure ⟨.none, rfl, wpAny_pure (hQ h1 hm1 hs1)⟩) hz)
theorem meets_get2 (d : Addr) (a dflt : Value) (hd : (d == sysModules) = false) :
    MeetsIn prog w (Builtin.«dict.get» ⟨[.ref d, a, dflt], []⟩) (fun A R s => A.units + 9 < cLine ∧ ∃ k xs, KeyOk s.heap k a ∧ DictV w s.heap d xs ∧ AllKeys s.heap xs ∧
      R (.ok (.ret (((look xs k).map (·.2)).getD dflt))) { s with toks := s.toks + k.draws }) :=
  .of_wp fun A R s ⟨hu, k, xs, hkey, hm, his, h⟩ => by
    show wpAny _ _ (dictGet d a >>= _) _ _ s
    refine wpAny_bind (get_ok (by show A.units + 1 + 8 < cLine; omega) hkey hm his ?_)
    cases hf : (look xs k).map (·.2) with
    | some v =>
      rw [hf] at h
      exact wpAny_pure ⟨v, rfl, h⟩
    | none =>
      rw [hf] at h
      show wpAny _ _ (Builtin.Dict.missed d a >>= _) _ _ _
      exact wpAny_bind (wpAny_missed_other hd (wpAny_pure ⟨dflt, rfl, h⟩))
theorem meets_get1 (d : Addr) (a : Value) (hd : (d == sysModules) = false) :
    MeetsIn prog w (Builtin.«dict.get» ⟨[.ref d, a], []⟩) (fun A R s => A.units + 9 < cLine ∧ ∃ k xs, KeyOk s.heap k a ∧ DictV w s.heap d xs ∧ AllKeys s.heap xs ∧
      R (.ok (.ret (((look xs k).map (·.2)).getD .none))) { s with toks := s.toks + k.draws }) :=
  .of_wp fun A R s ⟨hu, k, xs, hkey, hm, his, h⟩ => by
    show wpAny _ _ (dictGet d a >>= _) _ _ s
    refine wpAny_bind (get_ok (by show A.units + 1 + 8 < cLine; omega) hkey hm his ?_)
    cases hf : (look xs k).map (·.2) with
    | some v =>
      rw [hf] at h
      exact wpAny_pure ⟨v, rfl, h⟩
    | none =>
      rw [hf] at h
      show wpAny _ _ (Builtin.Dict.missed d a >>= _) _ _ _
      exact wpAny_bind (wpAny_missed_other hd (wpAny_pure ⟨.none, rfl, h⟩))
theorem callGet2_ok {dflt : Value} {Q : Value → Shared → Prop} (hu : A.units + 9 < cLine) (hkey : KeyOk s.heap k a) (hd : (d == sysModules) = false) (hm : DictV w s.heap d xs) (his : AllKeys s.heap xs)
    (h : Q (((look xs k).map (·.2)).getD dflt) { s with toks := s.toks + k.draws }) : wpAny (model prog w) A (call (.builtin "dict.get") [.ref d, a, dflt]) Q E s :=
  call_meetsIn F.slot_dict_get hm.typeIs F.entry_dict_get (F.args_dict_get_3 _ _ _) (meets_get2 d a dflt hd) ⟨hu, k, xs, hkey, hm, his, h⟩
theorem callGet1_ok {Q : Value → Shared → Prop} (hu : A.units + 9 < cLine) (hkey : KeyOk s.heap k a) (hd : (d == sysModules) = false) (hm : DictV w s.heap d xs) (his : AllKeys s.heap xs)
    (h : Q (((look xs k).map (·.2)).getD .none) { s with toks := s.toks + k.draws }) : wpAny (model prog w) A (call (.builtin "dict.get") [.ref d, a]) Q E s :=
  call_meetsIn F.slot_dict_get hm.typeIs F.entry_dict_get (F.args_dict_get_2 _ _) (meets_get1 d a hd) ⟨hu, k, xs, hkey, hm, his, h⟩
theorem meets_setdef (d : Addr) (a dflt : Value) (hd : (d == sysModules) = false) :
    MeetsIn prog w (Builtin.«dict.setdefault» ⟨[.ref d, a, dflt], []⟩) (fun A R s => A.units + 9 < cLine ∧ ∃ k xs, KeyOk s.heap k a ∧ DictV w s.heap d xs ∧ AllKeys s.heap xs ∧ xs.length ≤ sizeLine ∧
      (∀ p, look xs k = some p → R (.ok (.ret p.2)) { s with toks := s.toks + k.draws }) ∧
      (look xs k = none → ∀ h1, DictV w h1 d (put xs k a dflt) → Heap.SameBut d s.heap h1 → R (.ok (.ret dflt)) { s with heap := h1, toks := s.toks + k.draws })) :=
  .of_wp fun A R s ⟨hu, k, xs, hkey, hm, his, hz, h1, h2⟩ => by
    unfold Builtin.«dict.setdefault»
    refine wpAny_bind ?_
    unfold Builtin.Dict.keyAndDefault
    refine wpAny_bind (wpAny_notOrdered_dict hm.typeIs ?_)
    show wpAny _ _ (pure (d, a, some dflt)) _ _ s
    refine wpAny_pure ?_
    show wpAny _ _ (if (d == sysModules) = true then _ else (dictSetDefault d a dflt >>= _)) _ _ s
    rw [if_neg (by rw [hd]; exact Bool.false_ne_true)]
    exact wpAny_bind (setdef_ok (by show A.units + 1 + 8 < cLine; omega) hkey hm his (fun p hp => wpAny_pure ⟨p.2, rfl, h1 p hp⟩) (fun hn g hm1 hs1 => wpAny_pure ⟨dflt, rfl, h2 hn g hm1 hs1⟩) hz)
theorem callSetdef_ok {dflt : Value} {Q : Value → Shared → Prop} (hu : A.units + 9 < cLine) (hkey : KeyOk s.heap k a) (hd : (d == sysModules) = false) (hm : DictV w s.heap d xs) (his : AllKeys s.heap xs) (hz : xs.length ≤ sizeLine)
    (h1 : ∀ p, look xs k = some p → Q p.2 { s with toks := s.toks + k.draws })
    (h2 : look xs k = none → ∀ h1, DictV w h1 d (put xs k a dflt) → Heap.SameBut d s.heap h1 → Q dflt { s with heap := h1, toks := s.toks + k.draws }) :
    wpAny (model prog w) A (call (.builtin "dict.setdefault") [.ref d, a, dflt]) Q E s :=
  call_meetsIn F.slot_dict_setdefault hm.typeIs F.entry_dict_setdefault (F.args_dict_setdefault_3 _ _ _) (meets_setdef d a dflt hd) ⟨hu, k, xs, hkey, hm, his, hz, h1, h2⟩
theorem meets_pop1 (d : Addr) (a : Value) (hka : keyPart a = none) (hd : (d == sysModules) = false) :
    MeetsIn prog w (Builtin.«dict.pop» ⟨[.ref d, a], []⟩) (fun A R s => A.units + 9 < cLine ∧ ∃ k xs p, KeyOk s.heap k a ∧ DictV w s.heap d xs ∧ AllKeys s.heap xs ∧ xs.length ≤ sizeLine ∧ look xs k = some p ∧
      ∀ h1, DictV w h1 d (drop xs k) → Heap.SameBut d s.heap h1 → R (.ok (.ret p.2)) { s with heap := h1, toks := s.toks + k.draws }) :=
  .of_wp fun A R s ⟨hu, k, xs, p, hkey, hm, his, hz, hp, h1⟩ => by
    obtain ⟨⟨o, es, ep, ho, hc, hdat, he⟩, hn⟩ := id hm
    unfold Builtin.«dict.pop»
    refine wpAny_bind ?_
    unfold Builtin.Dict.keyAndDefault
    refine wpAny_bind (wpAny_notOrdered_dict hm.typeIs ?_)
    have hes := en_size he
    show wpAny _ _ (pure (d, a, none)) _ _ s
    refine wpAny_pure ?_
    simp only [hka, Option.isSome_none, Bool.false_eq_true, if_false]
    refine wpAny_bind (wpAny_dictEntries ho hdat (wpAny_bind (wpAny_pure ?_)))
    refine ite_wp (fun hemp => ?_) fun _ => ?_
    · have hx : xs = [] := by
        have h0 : es.size = 0 := by simpa using hemp
        exact List.length_eq_zero_iff.mp (by omega)
      subst hx
      cases hp
    · refine wpAny_bind (take_ok (by show A.units + 1 + 8 < cLine; omega) hkey hm his (fun hno => ?_) (fun e q hq hv g hm1 hs1 => ?_) hz)
      · rw [hp] at hno; cases hno
      · simp only [Option.isNone_some, Bool.false_eq_true, if_false]
        rw [hp] at hq; cases hq
        exact wpAny_bind (wpAny_letGo (wpAny_pure ⟨e.val, rfl, by rw [hv]; exact h1 g hm1 hs1⟩))
theorem callPop1_ok {p : Value × Value} {Q : Value → Shared → Prop} (hka : keyPart a = none) (hu : A.units + 9 < cLine) (hkey : KeyOk s.heap k a) (hd : (d == sysModules) = false) (hm : DictV w s.heap d xs) (his : AllKeys s.heap xs) (hz : xs.length ≤ sizeLine) (hp : look xs k = some p)
    (h1 : ∀ h1, DictV w h1 d (drop xs k) → Heap.SameBut d s.heap h1 → Q p.2 { s with heap := h1, toks := s.toks + k.draws }) :
    wpAny (model prog w) A (call (.builtin "dict.pop") [.ref d, a]) Q E s :=
  call_meetsIn F.slot_dict_pop hm.typeIs F.entry_dict_pop (F.args_dict_pop_2 _ _) (meets_pop1 d a hka hd) ⟨hu, k, xs, p, hkey, hm, his, hz, hp, h1⟩
theorem meets_del (d : Addr) (a : Value) :
    MeetsIn prog w (Builtin.«dict.__delitem__» ⟨[.ref d, a], []⟩) (fun A R s => A.units + 9 < cLine ∧ ∃ k xs p, KeyOk s.heap k a ∧ DictV w s.heap d xs ∧ AllKeys s.heap xs ∧ xs.length ≤ sizeLine ∧ look xs k = some p ∧
      ∀ h1, DictV w h1 d (drop xs k) → Heap.SameBut d s.heap h1 → R (.ok (.ret .none)) { s with heap := h1, toks := s.toks + k.draws }) :=
  .of_wp fun A R s ⟨hu, k, xs, p, hkey, hm, his, hz, hp, h1⟩ => by
    unfold Builtin.«dict.__delitem__»
    refine wpAny_bind ?_
    unfold Builtin.Dict.dictSlotArgs
    refine wpAny_bind (wpAny_notOrdered_dict hm.typeIs ?_)
    show wpAny _ _ (pure (Value.ref d, a)) _ _ s
    refine wpAny_pure ?_
    show wpAny _ _ (Builtin.Dict.takeOut d a >>= _) _ _ s
    refine wpAny_bind (take_ok (by show A.units + 1 + 8 < cLine; omega) hkey hm his (fun hno => ?_) (fun e q hq hv g hm1 hs1 => ?_) hz)
    · rw [hp] at hno; cases hno
    · exact wpAny_bind (wpAny_letGo (wpAny_pure ⟨.none, rfl, h1 g hm1 hs1⟩))
theorem delItem_ok {p : Value × Value} {Q : Unit → Shared → Prop} (hu : A.units + 9 < cLine) (hkey : KeyOk s.heap k a) (hm : DictV w s.heap d xs) (his : AllKeys s.heap xs) (hz : xs.length ≤ sizeLine) (hp : look xs k = some p)
    (h1 : ∀ h1, DictV w h1 d (drop xs k) → Heap.SameBut d s.heap h1 → Q () { s with heap := h1, toks := s.toks + k.draws }) :
    wpAny (model prog w) A (delItem (.ref d) a) Q E s :=
  wpAny_delItem_slot hm.typeIs (by decide) F.slot_dict_delitem (call_meetsIn F.slot_dict_delitem hm.typeIs F.entry_dict_delitem (F.args_dict_delitem_2 _ _) (meets_del d a) ⟨hu, k, xs, p, hkey, hm, his, hz, hp, h1⟩)
/-- what is in the dict behind a store: keys stay keys -/
theorem keys_put {h : Heap} (his : AllKeys h xs) (hk : KeyOk h k a) (v : Value) : AllKeys h (put xs k a v) := by
  intro x hx
  unfold put at hx
  split at hx
  · obtain ⟨y, hy, rfl⟩ := List.mem_map.mp hx
    unfold putAtV
    split <;> exact his y hy
  · rcases List.mem_append.mp hx with hx | hx
    · exact his x hx
    · simp only [List.mem_singleton] at hx
      subst hx
      exact hk
theorem keys_drop {h : Heap} (his : AllKeys h xs) : AllKeys h (drop xs k) := fun x hx => his x (List.mem_filter.mp hx).1
/-- a dict as the walks tell it -/
theorem DictV.raw {h : Heap} (m : DictV w h d xs) : ∃ es ep, h.DictRaw d es ep ∧ es.size = xs.length ∧ ∀ i (hi : i < es.size), ∃ y, xs[i]? = some y ∧ es[i].key = y.2.1 ∧ es[i].val = y.2.2 := by
  obtain ⟨⟨o, es, ep, ho, hc, hd, he⟩, _⟩ := m
  have hs := en_size he
  refine ⟨es, ep, ⟨o, ho, hc, hd⟩, hs, fun i hi => ?_⟩
  have hx : i < xs.length := hs ▸ hi
  have e := en_at he i
  rw [Array.getElem?_eq_getElem hi, List.getElem?_eq_getElem hx, Option.map_some] at e
  have e2 := Option.some.inj e
  exact ⟨xs[i], List.getElem?_eq_getElem hx, by rw [e2]; rfl, by rw [e2]; rfl⟩
end
end VD
/-! text B0 -/
set_option Elab.async false
set_option linter.all false
set_option maxRecDepth 100000
set_option maxHeartbeats 4000000
/-! Data over the abstract heap; dicts keyed by data. -/
namespace TR
open PySem PySem.Spec PyProof.Rows L2 VD
/-! ### data -/
mutual
/-- the value v is the data k -/
inductive Dt (H : Hp) : V → D → Prop
  | non : Dt H .non .none
  | int (i : Int) : Dt H (.int i) (.num i)
  | str (x : Str) : Dt H (.str x) (.text x)
  | tup {a : Addr} {vs : List V} {ks : List D} : H a = some (.tup vs) → DtAll H vs ks → Dt H (.ref a) (.tup ks)
inductive DtAll (H : Hp) : List V → List D → Prop
  | nil : DtAll H [] []
  | cons {v : V} {vs : List V} {k : D} {ks : List D} : Dt H v k → DtAll H vs ks → DtAll H (v :: vs) (k :: ks)
end
mutual
theorem Dt.ext {H H1 : Hp} (e : ∀ b vs, H b = some (.tup vs) → H1 b = some (.tup vs)) : ∀ (k : D) (v : V), Dt H v k → Dt H1 v k
  | .none, _, h => by cases h; exact .non
  | .num i, _, h => by cases h; exact .int i
  | .text x, _, h => by cases h; exact .str x
  | .tup ks, _, h => by
    cases h with
    | tup h1 h2 => exact .tup (e _ _ h1) (DtAll.ext e ks _ h2)
theorem DtAll.ext {H H1 : Hp} (e : ∀ b vs, H b = some (.tup vs) → H1 b = some (.tup vs)) : ∀ (ks : List D) (vs : List V), DtAll H vs ks → DtAll H1 vs ks
  | [], _, h => by cases h; exact .nil
  | k :: ks, _, h => by
    cases h with
    | cons h1 h2 => exact .cons (Dt.ext e k _ h1) (DtAll.ext e ks _ h2)
end
theorem DtAll.length {H : Hp} : ∀ {vs : List V} {ks : List D}, DtAll H vs ks → vs.length = ks.length
  | _, _, .nil => rfl
  | _, _, .cons _ t => by simp [DtAll.length t]
theorem DtAll.get {H : Hp} : ∀ {vs : List V} {ks : List D} {i : Nat} {v : V}, DtAll H vs ks → vs[i]? = some v → ∃ k, ks[i]? = some k ∧ Dt H v k
  | _, _, _, _, .nil, e => by simp at e
  | _, _, 0, _, .cons r _, e => by simp at e; subst e; exact ⟨_, rfl, r⟩
  | _, _, i + 1, v, .cons _ t, e => by
    obtain ⟨k, h1, h2⟩ := DtAll.get (i := i) (v := v) t (by simpa using e)
    exact ⟨k, by simpa using h1, h2⟩
theorem DtAll.get2 {H : Hp} : ∀ {vs : List V} {ks : List D} {i : Nat} {k : D}, DtAll H vs ks → ks[i]? = some k → ∃ v, vs[i]? = some v ∧ Dt H v k
  | _, _, _, _, .nil, e => by simp at e
  | _, _, 0, _, .cons r _, e => by simp at e; subst e; exact ⟨_, rfl, r⟩
  | _, _, i + 1, k, .cons _ t, e => by
    obtain ⟨v, h1, h2⟩ := DtAll.get2 (i := i) (k := k) t (by simpa using e)
    exact ⟨v, by simpa using h1, h2⟩
theorem DtAll.app {H : Hp} : ∀ {vs us : List V} {ks ls : List D}, DtAll H vs ks → DtAll H us ls → DtAll H (vs ++ us) (ks ++ ls)
  | _, _, _, _, .nil, s => s
  | _, _, _, _, .cons r t, s => .cons r (DtAll.app t s)
mutual
theorem Dt.nested {X : Cx} {pins : List (Addr × Obj)} {σ : L2.St} {H : Hp} {s : Shared} (I : Inv X pins σ H s) : ∀ (k : D) (v : V) (u : Value), Dt H v k → RelV v u → NestedIs s.heap k u
  | .none, _, _, h, r => by cases h; cases r; exact .none
  | .num i, _, _, h, r => by cases h; obtain ⟨t, rfl⟩ := r; exact .int i t
  | .text x, _, _, h, r => by cases h; obtain ⟨t, rfl⟩ := r; exact .text x t
  | .tup ks, _, _, h, r => by
    cases h with
    | tup h1 h2 =>
      cases r
      obtain ⟨its, rv, ⟨o, ho, hc, n, hd⟩, _⟩ := I.tuple (SqT.of (K := X.K) h1)
      exact .tup ho hc hd (by simpa using Dt.nestedAll I ks _ its h2 rv)
theorem Dt.nestedAll {X : Cx} {pins : List (Addr × Obj)} {σ : L2.St} {H : Hp} {s : Shared} (I : Inv X pins σ H s) : ∀ (ks : List D) (vs : List V) (us : List Value), DtAll H vs ks → Vals vs us → NestedAll s.heap ks us
  | [], _, _, h, r => by cases h; cases r; exact .nil
  | k :: ks, _, _, h, r => by
    cases h with
    | cons h1 h2 =>
      cases r with
      | cons r1 r2 => exact .cons (Dt.nested I k _ _ h1 r1) (Dt.nestedAll I ks _ _ h2 r2)
end
mutual
theorem Dt.dp {K : PySem.W.Frag} {H : Hp} : ∀ (k : D) (v : V), Dt H v k → Dp K H v k.data
  | .none, _, h => by cases h; exact .non
  | .num i, _, h => by cases h; exact .int i
  | .text x, _, h => by cases h; exact .str x
  | .tup ks, _, h => by
    cases h with
    | tup h1 h2 => exact .tup (SqT.of h1) (Dt.dpAll ks _ h2)
theorem Dt.dpAll {K : PySem.W.Frag} {H : Hp} : ∀ (ks : List D) (vs : List V), DtAll H vs ks → DpAll K H vs (NestedKey.datas ks)
  | [], _, h => by cases h; exact .nil
  | k :: ks, _, h => by
    cases h with
    | cons h1 h2 => exact .cons (Dt.dp k _ h1) (Dt.dpAll ks _ h2)
end
mutual
theorem eqv_data : ∀ x y : D, PyData.eqv x.data y.data = NestedKey.beq x y
  | .none, .none => by simp [NestedKey.data, NestedKey.beq, PyData.eqv]
  | .none, .num _ => by simp [NestedKey.data, NestedKey.beq, PyData.eqv]
  | .none, .text _ => by simp [NestedKey.data, NestedKey.beq, PyData.eqv]
  | .none, .tup _ => by simp [NestedKey.data, NestedKey.beq, PyData.eqv]
  | .num _, .none => by simp [NestedKey.data, NestedKey.beq, PyData.eqv]
  | .num a, .num b => by simp only [NestedKey.data, NestedKey.beq, PyData.eqv]; exact Bool.beq_eq_decide_eq a b
  | .num _, .text _ => by simp [NestedKey.data, NestedKey.beq, PyData.eqv]
  | .num _, .tup _ => by simp [NestedKey.data, NestedKey.beq, PyData.eqv]
  | .text _, .none => by simp [NestedKey.data, NestedKey.beq, PyData.eqv]
  | .text _, .num _ => by simp [NestedKey.data, NestedKey.beq, PyData.eqv]
  | .text a, .text b => by simp only [NestedKey.data, NestedKey.beq, PyData.eqv]; exact Bool.beq_eq_decide_eq a b
  | .text _, .tup _ => by simp [NestedKey.data, NestedKey.beq, PyData.eqv]
  | .tup _, .none => by simp [NestedKey.data, NestedKey.beq, PyData.eqv]
  | .tup _, .num _ => by simp [NestedKey.data, NestedKey.beq, PyData.eqv]
  | .tup _, .text _ => by simp [NestedKey.data, NestedKey.beq, PyData.eqv]
  | .tup a, .tup b => by
    simp only [NestedKey.data, NestedKey.beq, PyData.eqv]
    exact eqv_datas a b
theorem eqv_datas : ∀ x y : List D, PyData.eqvAll (NestedKey.datas x) (NestedKey.datas y) = NestedKey.beqAll x y
  | [], [] => by simp [NestedKey.datas, NestedKey.beqAll, PyData.eqvAll]
  | [], _ :: _ => by simp [NestedKey.datas, NestedKey.beqAll, PyData.eqvAll]
  | _ :: _, [] => by simp [NestedKey.datas, NestedKey.beqAll, PyData.eqvAll]
  | a :: as, b :: bs => by
    simp only [NestedKey.datas, NestedKey.beqAll, PyData.eqvAll]
    rw [eqv_data a b, eqv_datas as bs]
end
theorem eqv_dec (x y : D) : PyData.eqv x.data y.data = decide (x = y) := by rw [eqv_data, NestedKey.decide_eq]
mutual
theorem depth_data : ∀ x : D, x.data.depth = x.depth
  | .none => by simp [NestedKey.data, PyData.depth, NestedKey.depth]
  | .num _ => by simp [NestedKey.data, PyData.depth, NestedKey.depth]
  | .text _ => by simp [NestedKey.data, PyData.depth, NestedKey.depth]
  | .tup ks => by simp only [NestedKey.data, PyData.depth, NestedKey.depth]; rw [depth_datas ks]
theorem depth_datas : ∀ x : List D, PyData.depthAll (NestedKey.datas x) = NestedKey.depthAll x
  | [] => by simp [NestedKey.datas, PyData.depthAll, NestedKey.depthAll]
  | a :: as => by simp only [NestedKey.datas, PyData.depthAll, NestedKey.depthAll]; rw [depth_data a, depth_datas as]
end
/-- data that is not too deep, its texts of real signs -/
structure Nice (x : D) : Prop where
  dp : x.depth ≤ 8
  ly : x.data.canLay0 = true
theorem shaped_data {x : D} (h : Nice x) : SeqAt.shaped x.data = true := by
  show (x.data.canLay0 && decide (x.data.depth ≤ 64)) = true
  rw [h.ly, depth_data, decide_eq_true (by have := h.dp; omega)]; rfl
theorem datas_map : ∀ ks : List D, NestedKey.datas ks = ks.map NestedKey.data
  | [] => rfl
  | k :: ks => by rw [NestedKey.datas, datas_map ks]; rfl
/-! ### dicts keyed by data -/
abbrev Es := List (D × V × V)
abbrev Ents : Es → List En → Prop := Paired fun (p : D × V × V) (q : En) => p.1 = q.1 ∧ RelV p.2.1 q.2.1 ∧ RelV p.2.2 q.2.2
/-- the dict at d: its entries es, its epoch ep -/
def DO (w : World) (d : Addr) (es : Es) (ep : Nat) : HO := .ext fun h => ∃ (o : Obj) (ra : Array DictEntry) (xs : List En), h.get? d = some o ∧ o.ExactDict ∧ o.data = .dict ra ep ∧ ra.toList = xs.map (enOf w) ∧ (xs.map (·.1)).Nodup ∧ Ents es xs
structure DictE (w : World) (H : Hp) (d : Addr) (es : Es) : Prop where
  ob : ∃ ep, H d = some (DO w d es ep)
  ks : ∀ e ∈ es, Dt H e.2.1 e.1 ∧ e.1.depth ≤ 8
  len : es.length ≤ sizeLine
  ns : (d == sysModules) = false
  nd : (es.map (·.1)).Nodup
def lookE (es : Es) (k : D) : Option V := (es.find? fun x => decide (x.1 = k)).map (·.2.2)
def putE (es : Es) (k : D) (a v : V) : Es := if (lookE es k).isSome then es.map (fun x => if x.1 = k then (x.1, x.2.1, v) else x) else es ++ [(k, a, v)]
def dropE (es : Es) (k : D) : Es := es.filter fun x => decide (x.1 ≠ k)
theorem ents_look {es : Es} {xs : List En} (r : Ents es xs) (k : D) : RelO (lookE es k) ((VD.look xs k).map (·.2)) := by
  induction r with
  | nil => exact True.intro
  | @cons p q ps qs h t ih =>
    by_cases e : p.1 = k
    · have e2 : q.1 = k := h.1 ▸ e
      simp only [lookE, VD.look, List.find?_cons, decide_eq_true e, decide_eq_true e2, Option.map_some]
      exact h.2.2
    · have e2 : ¬ q.1 = k := h.1 ▸ e
      have i1 : lookE (p :: ps) k = lookE ps k := by simp only [lookE, List.find?_cons, decide_eq_false e]
      have i2 : VD.look (q :: qs) k = VD.look qs k := by simp only [VD.look, List.find?_cons, decide_eq_false e2]
      rw [i1, i2]
      exact ih
theorem relO_isSome {a : Option V} {b : Option Value} (r : RelO a b) : a.isSome = b.isSome := by
  cases a <;> cases b <;> first | rfl | exact (show False from r).elim
theorem ents_put {es : Es} {xs : List En} (r : Ents es xs) {k : D} {a v : V} {b u : Value} (ra : RelV a b) (rv : RelV v u) : Ents (putE es k a v) (VD.put xs k b u) := by
  have hs : (lookE es k).isSome = (VD.look xs k).isSome := by
    have := relO_isSome (ents_look r k)
    rw [this, Option.isSome_map]
  unfold putE VD.put
  rw [hs]
  generalize (VD.look xs k).isSome = bb
  clear hs
  cases bb
  case true =>
    rw [if_pos rfl, if_pos rfl]
    induction r with
    | nil => exact .nil
    | @cons p q ps qs h t ih =>
      refine .cons ?_ ih
      unfold putAtV
      by_cases e : p.1 = k
      · have e2 : q.1 = k := h.1 ▸ e
        dsimp only
        rw [if_pos e, if_pos e2]
        exact ⟨h.1, h.2.1, rv⟩
      · have e2 : ¬ q.1 = k := h.1 ▸ e
        dsimp only
        rw [if_neg e, if_neg e2]
        exact h
  case false =>
    rw [if_neg Bool.false_ne_true, if_neg Bool.false_ne_true]
    induction r with
    | nil => exact .cons ⟨rfl, ra, rv⟩ .nil
    | cons h t ih => exact .cons h ih
theorem ents_drop {es : Es} {xs : List En} (r : Ents es xs) (k : D) : Ents (dropE es k) (VD.drop xs k) := by
  induction r with
  | nil => exact .nil
  | @cons p q ps qs h t ih =>
    unfold dropE VD.drop at *
    by_cases e : p.1 = k
    · have e2 : q.1 = k := h.1 ▸ e
      simp only [List.filter_cons, e, e2, ne_eq, not_true_eq_false, decide_false, Bool.false_eq_true, if_false]
      exact ih
    · have e2 : ¬ q.1 = k := h.1 ▸ e
      simp only [List.filter_cons, ne_eq, e, e2, not_false_eq_true, decide_true, if_true]
      exact .cons h ih
theorem ents_keys {es : Es} {xs : List En} (r : Ents es xs) : es.map (·.1) = xs.map (·.1) := by
  induction r with
  | nil => rfl
  | cons h t ih => rw [List.map_cons, List.map_cons, ih, h.1]
theorem DO_ok {P : Program} {w : World} {H : Hp} {h : Heap} {d : Addr} {es : Es} {xs : List En} (m : DictV w h d xs) (r : Ents es xs) : ∃ ep, ObjOk P w H h d (DO w d es ep) := by
  obtain ⟨⟨o, ra, ep, ho, hc, hd, he⟩, hn⟩ := m
  exact ⟨ep, ⟨o, ra, xs, ho, hc, hd, he, hn, r⟩, ⟨o, ho⟩, fun h1 h2 ⟨o, ra, xs, a, b⟩ st => ⟨o, ra, xs, st _ a, b⟩⟩
section
variable {X : Cx} {pins : List (Addr × Obj)} {σ : L2.St} {H : Hp} {s : Shared} {d : Addr} {es : Es}
theorem at_dict (I : Inv X pins σ H s) (m : DictE X.w H d es) : ∃ xs, Ents es xs ∧ DictV X.w s.heap d xs ∧ AllKeys s.heap xs ∧ xs.length ≤ sizeLine := by
  obtain ⟨ep, e⟩ := m.ob
  obtain ⟨⟨o, ra, xs, ho, hc, hd, he, hn, r⟩, _, _⟩ := (show ObjOk X.prog X.w H s.heap d (DO X.w d es ep) from I.hok d _ e)
  refine ⟨xs, r, ⟨⟨o, ra, ep, ho, hc, hd, he⟩, hn⟩, fun x hx => ?_, by have := Paired.length r; have := m.len; omega⟩
  obtain ⟨i, hi⟩ := List.mem_iff_getElem?.mp hx
  have hl : i < es.length := by
    have := Paired.length r
    have := (List.getElem?_eq_some_iff.mp hi).1
    omega
  obtain ⟨y, hy, h1, h2, h3⟩ := paired_get r (List.getElem?_eq_getElem hl)
  rw [hi] at hy
  cases hy
  obtain ⟨k1, k2⟩ := m.ks _ (List.getElem_mem hl)
  rw [← h1]
  exact ⟨Dt.nested I _ _ _ k1 h2, k2⟩
theorem DictE.keep {w : World} {H1 : Hp} (m : DictE w H d es) (hd : ∀ o, H d = some o → H1 d = some o) (ht : ∀ b vs, H b = some (.tup vs) → H1 b = some (.tup vs)) : DictE w H1 d es :=
  ⟨let ⟨ep, e⟩ := m.ob; ⟨ep, hd _ e⟩, fun e he => ⟨Dt.ext ht _ _ (m.ks e he).1, (m.ks e he).2⟩, m.len, m.ns, m.nd⟩
theorem DictE.noTup {w : World} (m : DictE w H d es) {b : Addr} {vs : List V} (h : H b = some (.tup vs)) : b ≠ d := by
  rintro rfl
  obtain ⟨ep, e⟩ := m.ob
  rw [e] at h
  cases h
/-- the dict is written -/
theorem wrote (I : Inv X pins σ H s) {es2 : Es} {xs : List En} {h1 : Heap} (m : DictE X.w H d es) (m1 : DictV X.w h1 d xs) (r : Ents es2 xs) (hs : Heap.SameBut d s.heap h1) (t : Nat) :
    ∃ ep, Inv X pins σ (upd H d (DO X.w d es2 ep)) { s with heap := h1, toks := t } := by
  obtain ⟨ep, e⟩ := m.ob
  obtain ⟨ep2, ok⟩ := DO_ok (P := X.prog) (H := H) m1 r
  obtain ⟨ok1, ⟨o, ho⟩, ok3⟩ := ok
  refine ⟨ep2, I.write (e := d) (t' := t) (by rw [e]; exact True.intro) (.inl rfl) (fun b u hb q => (hs.2 b hb).trans q) ⟨o, ho⟩ ⟨ok1, ⟨o, ho⟩, ok3⟩⟩
/-- what the dict is behind a write -/
theorem DictE.upd {w : World} {es2 : Es} {ep : Nat} (m : DictE w H d es) (hk : ∀ e ∈ es2, Dt H e.2.1 e.1 ∧ e.1.depth ≤ 8) (hl : es2.length ≤ sizeLine) (hn : (es2.map (·.1)).Nodup) : DictE w (L2.upd H d (DO w d es2 ep)) d es2 :=
  ⟨⟨ep, upd_same⟩, fun e he => ⟨Dt.ext (fun b vs h => by rw [upd_ne (m.noTup h)]; exact h) _ _ (hk e he).1, (hk e he).2⟩, hl, m.ns, hn⟩
end
theorem lookE_none {es : Es} {k : D} (h : k ∉ es.map (·.1)) : lookE es k = none := by
  unfold lookE
  rw [Option.map_eq_none_iff, List.find?_eq_none]
  intro x hx hk
  exact h (List.mem_map.mpr ⟨x, hx, of_decide_eq_true hk⟩)
theorem lookE_some {es : Es} {k : D} {v : V} (h : lookE es k = some v) : k ∈ es.map (·.1) := by
  unfold lookE at h
  obtain ⟨x, hx, _⟩ := Option.map_eq_some_iff.mp h
  have := List.find?_some hx
  exact List.mem_map.mpr ⟨x, List.mem_of_find?_eq_some hx, of_decide_eq_true this⟩
theorem not_mem_of_lookE {es : Es} {k : D} (h : lookE es k = none) : k ∉ es.map (·.1) := by
  intro hm
  obtain ⟨x, hx, hk⟩ := List.mem_map.mp hm
  unfold lookE at h
  rw [Option.map_eq_none_iff, List.find?_eq_none] at h
  exact h x hx (decide_eq_true hk)
theorem putE_keys {es : Es} {k : D} {a v : V} : (putE es k a v).map (·.1) = if (lookE es k).isSome then es.map (·.1) else es.map (·.1) ++ [k] := by
  unfold putE
  split
  · rw [List.map_map]
    refine List.map_congr_left fun x _ => ?_
    show (if x.1 = k then (x.1, x.2.1, v) else x).1 = x.1
    split <;> rfl
  · rw [List.map_append]; rfl
theorem putE_nd {es : Es} {k : D} {a v : V} (h : (es.map (·.1)).Nodup) : ((putE es k a v).map (·.1)).Nodup := by
  rw [putE_keys]
  split
  · exact h
  · rename_i hn
    rw [List.nodup_append]
    refine ⟨h, by simp, fun x hx y hy => ?_⟩
    simp only [List.mem_singleton] at hy
    subst hy
    rintro rfl
    refine not_mem_of_lookE ?_ hx
    cases e : lookE es x with
    | none => rfl
    | some v => rw [e] at hn; exact absurd rfl hn
theorem putE_mem {es : Es} {k : D} {a v : V} {e : D × V × V} (h : e ∈ putE es k a v) : (∃ e0 ∈ es, e.1 = e0.1 ∧ e.2.1 = e0.2.1) ∨ (e.1 = k ∧ e.2.1 = a) := by
  unfold putE at h
  split at h
  · obtain ⟨x, hx, rfl⟩ := List.mem_map.mp h
    refine .inl ⟨x, hx, ?_⟩
    split <;> exact ⟨rfl, rfl⟩
  · rcases List.mem_append.mp h with h | h
    · exact .inl ⟨e, h, rfl, rfl⟩
    · simp only [List.mem_singleton] at h
      subst h
      exact .inr ⟨rfl, rfl⟩
theorem putE_len {es : Es} {k : D} {a v : V} : (putE es k a v).length ≤ es.length + 1 := by
  unfold putE
  split
  · rw [List.length_map]; omega
  · rw [List.length_append]; simp
theorem lookE_put (es : Es) (k : D) (a v : V) (j : D) : lookE (putE es k a v) j = if j = k then some v else lookE es j := by
  unfold putE
  split
  · rename_i hs
    by_cases hj : j = k
    · rw [if_pos hj]
      subst hj
      induction es with
      | nil => cases hs
      | cons x es ih =>
        by_cases hx : x.1 = j
        · simp [lookE, hx]
        · have h1 : lookE (x :: es) j = lookE es j := by simp [lookE, hx]
          rw [h1] at hs
          have := ih hs
          simpa [lookE, hx] using this
    · rw [if_neg hj]
      clear hs
      induction es with
      | nil => rfl
      | cons x es ih =>
        by_cases hx : x.1 = k
        · have hxj : ¬ k = j := fun z => hj z.symm
          simpa [lookE, hx, hxj] using ih
        · by_cases hxj : x.1 = j
          · simp [lookE, hx, hxj, hj]
          · simpa [lookE, hx, hxj] using ih
  · rename_i hs
    have hs : lookE es k = none := by
      cases e : lookE es k with
      | none => rfl
      | some v => rw [e] at hs; exact absurd rfl hs
    by_cases hj : j = k
    · rw [if_pos hj]
      subst hj
      unfold lookE at hs ⊢
      rw [List.find?_append]
      rw [Option.map_eq_none_iff] at hs
      simp [hs]
    · rw [if_neg hj]
      unfold lookE
      rw [List.find?_append]
      have : ([(k, a, v)] : Es).find? (fun x => decide (x.1 = j)) = none := by simp [Ne.symm hj]
      rw [this, Option.or_none]
theorem lookE_drop (es : Es) (k j : D) : lookE (dropE es k) j = if j = k then none else lookE es j := by
  unfold dropE
  induction es with
  | nil => split <;> rfl
  | cons x es ih =>
    by_cases hx : x.1 = k
    · rw [List.filter_cons, if_neg (by simp [hx])]
      rw [ih]
      by_cases hj : j = k
      · rw [if_pos hj, if_pos hj]
      · have : ¬ x.1 = j := fun z => hj (z.symm.trans hx)
        rw [if_neg hj, if_neg hj]
        simp [lookE, this]
    · rw [List.filter_cons, if_pos (by simp [hx])]
      by_cases hxj : x.1 = j
      · have hj : ¬ j = k := fun z => hx (hxj.trans z)
        rw [if_neg hj]
        simp [lookE, hxj]
      · have h1 : lookE (x :: es.filter fun x => decide (x.1 ≠ k)) j = lookE (es.filter fun x => decide (x.1 ≠ k)) j := by simp [lookE, hxj]
        have h2 : lookE (x :: es) j = lookE es j := by simp [lookE, hxj]
        rw [h1, h2, ih]
theorem dropE_nd {es : Es} {k : D} (h : (es.map (·.1)).Nodup) : ((dropE es k).map (·.1)).Nodup := List.Nodup.sublist (List.Sublist.map _ List.filter_sublist) h
theorem dropE_mem {es : Es} {k : D} {e : D × V × V} (h : e ∈ dropE es k) : e ∈ es := (List.mem_filter.mp h).1
theorem dropE_len {es : Es} {k : D} : (dropE es k).length ≤ es.length := List.length_filter_le _ _
end TR
/-! text B1 -/
set_option Elab.async false
set_option linter.all false
set_option maxRecDepth 100000
set_option maxHeartbeats 4000000
namespace TR
open PySem PySem.Spec PyProof.Rows L2 VD
/-- all but the object at a is as it was -/
def Chg (a : Addr) (H H1 : Hp) : Prop := ∀ b, b ≠ a → H1 b = H b
theorem Chg.upd {a : Addr} {H : Hp} {o : HO} : Chg a H (L2.upd H a o) := fun b hb => upd_ne hb
section
variable {w : World} {H : Hp} {d : Addr} {es : Es}
theorem DictE.put (m : DictE w H d es) {y : V} {k : D} (hy : Dt H y k) (hk : k.depth ≤ 8) (hz : es.length < sizeLine) (v : V) (ep : Nat) : DictE w (L2.upd H d (DO w d (putE es k y v) ep)) d (putE es k y v) :=
  m.upd (fun e he => by
    rcases putE_mem he with ⟨e0, h0, h1, h2⟩ | ⟨h1, h2⟩
    · rw [h1, h2]; exact m.ks e0 h0
    · rw [h1, h2]; exact ⟨hy, hk⟩) (Nat.le_trans putE_len hz) (putE_nd m.nd)
theorem DictE.dropped (m : DictE w H d es) (k : D) (ep : Nat) : DictE w (L2.upd H d (DO w d (dropE es k) ep)) d (dropE es k) :=
  m.upd (fun e he => m.ks e (dropE_mem he)) (Nat.le_trans dropE_len m.len) (dropE_nd m.nd)
end
/-! ### readings -/
def tXIn (w : World) (ty td : TE) : TE := fun σ H Q => ty σ H fun y H1 => td σ H1 fun x H2 => ∃ a es k, x = .ref a ∧ DictE w H2 a es ∧ Dt H2 y k ∧ k.depth ≤ 8 ∧ Q (.bl (lookE es k).isSome) H2
def tXNotIn (w : World) (ty td : TE) : TE := fun σ H Q => ty σ H fun y H1 => td σ H1 fun x H2 => ∃ a es k, x = .ref a ∧ DictE w H2 a es ∧ Dt H2 y k ∧ k.depth ≤ 8 ∧ Q (.bl (!(lookE es k).isSome)) H2
def tXGet (w : World) (td ty : TE) : TE := fun σ H Q => td σ H fun x H1 => ty σ H1 fun y H2 => ∃ a es k v, x = .ref a ∧ DictE w H2 a es ∧ Dt H2 y k ∧ k.depth ≤ 8 ∧ lookE es k = some v ∧ Q v H2
def sXPut (w : World) (td ty tv : TE) : TS := fun D σ H => tv σ H fun v H1 => td σ H1 fun x H2 => ty σ H2 fun y H3 => ∃ a es k, x = .ref a ∧ DictE w H3 a es ∧ Dt H3 y k ∧ k.depth ≤ 8 ∧ es.length < sizeLine ∧
  ∀ H4, DictE w H4 a (putE es k y v) → Chg a H3 H4 → D.nx σ H4
def sXDel (w : World) (td ty : TE) : TS := fun D σ H => td σ H fun x H1 => ty σ H1 fun y H2 => ∃ a es k, x = .ref a ∧ DictE w H2 a es ∧ Dt H2 y k ∧ k.depth ≤ 8 ∧ (lookE es k).isSome = true ∧
  ∀ H4, DictE w H4 a (dropE es k) → Chg a H2 H4 → D.nx σ H4
def tXNew (w : World) : TE := fun _ H Q => ∀ p H1, H p = none → DictE w H1 p [] → Chg p H H1 → Q (.ref p) H1
/-- a dict, whatever it holds -/
def IsX (w : World) (H : Hp) (a : Addr) : Prop := ∃ es, DictE w H a es
def tXGet1 (w : World) (td ty : TE) : TE := fun σ H Q => td σ H fun x H1 => ∃ a, x = .ref a ∧ IsX w H1 a ∧ ty σ H1 fun y H2 => ∃ es k, DictE w H2 a es ∧ Dt H2 y k ∧ k.depth ≤ 8 ∧ Q ((lookE es k).getD .non) H2
def tXGet2 (w : World) (td ty tx : TE) : TE := fun σ H Q => td σ H fun x H1 => ∃ a, x = .ref a ∧ IsX w H1 a ∧ ty σ H1 fun y H2 => tx σ H2 fun z H3 => ∃ es k, DictE w H3 a es ∧ Dt H3 y k ∧ k.depth ≤ 8 ∧ Q ((lookE es k).getD z) H3
def tXSetd (w : World) (td ty tx : TE) : TE := fun σ H Q => td σ H fun x H1 => ∃ a, x = .ref a ∧ IsX w H1 a ∧ ty σ H1 fun y H2 => tx σ H2 fun z H3 => ∃ es k, DictE w H3 a es ∧ Dt H3 y k ∧ k.depth ≤ 8 ∧ es.length < sizeLine ∧
  (∀ v, lookE es k = some v → Q v H3) ∧ (lookE es k = none → ∀ H4, DictE w H4 a (putE es k y z) → Chg a H3 H4 → Q z H4)
def tXPop1 (w : World) (td ty : TE) : TE := fun σ H Q => td σ H fun x H1 => ∃ a, x = .ref a ∧ IsX w H1 a ∧ ty σ H1 fun y H2 => ∃ es k b v, y = .ref b ∧ DictE w H2 a es ∧ Dt H2 y k ∧ k.depth ≤ 8 ∧ lookE es k = some v ∧
  ∀ H4, DictE w H4 a (dropE es k) → Chg a H2 H4 → Q v H4
section
variable {X : Cx} {pins : List (Addr × Obj)} {σ : L2.St} {H : Hp} {s : Shared} {a : Addr} {es : Es} {y : V} {u : Value} {k : D}
theorem lk {es : Es} {xs : List En} (r : Ents es xs) {k : D} {v : V} (h : lookE es k = some v) : ∃ p, VD.look xs k = some p ∧ RelV v p.2 := by
  have q := ents_look r k
  rw [h] at q
  cases e : VD.look xs k with
  | none => rw [e] at q; exact (show False from q).elim
  | some p => rw [e] at q; exact ⟨p, rfl, q⟩
theorem lk0 {es : Es} {xs : List En} (r : Ents es xs) {k : D} (h : lookE es k = none) : VD.look xs k = none := by
  have q := ents_look r k
  rw [h] at q
  cases e : VD.look xs k with
  | none => rfl
  | some p => rw [e] at q; exact (show False from q).elim
theorem lkS {es : Es} {xs : List En} (r : Ents es xs) (k : D) : (VD.look xs k).isSome = (lookE es k).isSome := by
  have := relO_isSome (ents_look r k)
  rw [this, Option.isSome_map]
theorem keyOk (I : Inv X pins σ H s) (h : Dt H y k) (hk : k.depth ≤ 8) (r : RelV y u) : KeyOk s.heap k u := ⟨Dt.nested I _ _ _ h r, hk⟩
theorem isX_at (I : Inv X pins σ H s) (d : IsX X.w H a) : s.TypeIs (.ref a) "dict" ∧ (∀ b, Value.ref a = .ref b → ∃ ob, s.heap.get? b = some ob ∧ ob.dict = none) := by
  obtain ⟨es, m⟩ := d
  obtain ⟨xs, r, dv, _, _⟩ := at_dict I m
  refine ⟨dv.typeIs, fun b q => ?_⟩
  cases q
  obtain ⟨⟨ob, _, _, h1, h2, _⟩, _⟩ := dv
  exact ⟨ob, h1, h2.2.1⟩
end
section
variable {X : Cx} {o i e f value : Expr} {pos pos' tpos apos cpos : Pos} {td ty tv tx : TE} {k : Nat}
theorem pc_xin (hr : Room k X.A) (hi : PE X i ty) (ho : PE X o td) : PC X .In i o (tXIn X.w ty td) := by
  refine ⟨fun pins s σ H Q I h => ?_⟩
  refine thn (hi.run pins s σ H _ I h) fun iv s1 ⟨y, H1, I1, ry, q1⟩ => thn (ho.run pins s1 σ H1 _ I1 q1) fun u s2 ⟨x, H2, I2, rx, a, es, k, ex, m, hy, hk, q2⟩ => ?_
  subst ex
  obtain rfl : u = Value.ref a := rx
  obtain ⟨xs, r, dv, ak, hz⟩ := at_dict I2 m
  exact in_ok (by have := hr.units; omega) (keyOk I2 hy hk ry) m.ns dv ak ⟨.bl (lookE es k).isSome, H2, I2.tok _, by rw [lkS r k]; rfl, q2⟩
theorem pc_xnotin (hr : Room k X.A) (hi : PE X i ty) (ho : PE X o td) : PC X .NotIn i o (tXNotIn X.w ty td) := by
  refine ⟨fun pins s σ H Q I h => ?_⟩
  refine thn (hi.run pins s σ H _ I h) fun iv s1 ⟨y, H1, I1, ry, q1⟩ => thn (ho.run pins s1 σ H1 _ I1 q1) fun u s2 ⟨x, H2, I2, rx, a, es, k, ex, m, hy, hk, q2⟩ => ?_
  subst ex
  obtain rfl : u = Value.ref a := rx
  obtain ⟨xs, r, dv, ak, hz⟩ := at_dict I2 m
  exact notin_ok (by have := hr.units; omega) (keyOk I2 hy hk ry) m.ns dv ak ⟨.bl (!(lookE es k).isSome), H2, I2.tok _, by rw [lkS r k]; rfl, q2⟩
theorem pe_xget (hr : Room k X.A) (ho : PE X o td) (hi : PE X i ty) (hs : NoSl i) : PE X (.Subscript o i pos) (tXGet X.w td ty) := by
  refine ⟨fun pins s σ H Q I h => ?_⟩
  refine subD_of PySem.F.slot_dict_getitem.lookup hs (thn (ho.run pins s σ H _ I h) fun u s1 ⟨x, H1, I1, rx, q1⟩ => thn (hi.run pins s1 σ H1 _ I1 q1) fun iv s2 ⟨y, H2, I2, ry, a, es, k, v, ex, m, hy, hk, hl, q2⟩ => ?_)
  subst ex
  obtain rfl : u = Value.ref a := rx
  obtain ⟨xs, r, dv, ak, hz⟩ := at_dict I2 m
  obtain ⟨p, hp, rp⟩ := lk r hl
  exact ⟨dv.typeIs, getItem_ok (by have := hr.units; omega) (keyOk I2 hy hk ry) dv ak hp ⟨v, H2, I2.tok _, rp, q2⟩⟩
theorem ps_xput (hr : Room k X.A) (ho : PE X o td) (hi : PE X i ty) (hv : PE X value tv) (hs : swapsWith value (some (.Subscript o i pos')) pos.line X.env = pure false) :
    PS X (.Assign [.Subscript o i pos'] value pos) (sXPut X.w td ty tv) := by
  refine ⟨fun pins s σ H D I h => ?_⟩
  refine wpAny_Assign_Subscript (thn (hv.run pins s σ H _ I h) fun r s1 ⟨v, H1, I1, rv, q1⟩ => thn (ho.run pins s1 σ H1 _ I1 q1) fun u s2 ⟨x, H2, I2, rx, q2⟩ => thn (hi.run pins s2 σ H2 _ I2 q2) fun iv s3 ⟨y, H3, I3, ry, a, es, k, ex, m, hy, hk, hz, q3⟩ => ?_) hs
  subst ex
  obtain rfl : u = Value.ref a := rx
  obtain ⟨xs, rr, dv, ak, hz2⟩ := at_dict I3 m
  refine setItem_ok (by have := hr.units; omega) (keyOk I3 hy hk ry) dv ak (fun h1 m1 hs1 => ?_) hz2
  obtain ⟨ep, J⟩ := wrote I3 m m1 (ents_put rr ry rv) hs1 (s3.toks + k.draws)
  exact ⟨σ, _, J, q3 _ (m.put hy hk hz v ep) Chg.upd⟩
theorem ps_xdel (hr : Room k X.A) (ho : PE X o td) (hi : PE X i ty) : PS X (.Delete [.Subscript o i tpos] pos) (sXDel X.w td ty) := by
  refine ⟨fun pins s σ H D I h => ?_⟩
  refine wpAny_Delete (wpAny_deleteEach_cons (wpAny_delete_Subscript (thn (ho.run pins s σ H _ I h) fun u s1 ⟨x, H1, I1, rx, q1⟩ => thn (hi.run pins s1 σ H1 _ I1 q1) fun iv s2 ⟨y, H2, I2, ry, a, es, k, ex, m, hy, hk, hl, q2⟩ => ?_)))
  subst ex
  obtain rfl : u = Value.ref a := rx
  obtain ⟨xs, rr, dv, ak, hz2⟩ := at_dict I2 m
  obtain ⟨v, hv⟩ := Option.isSome_iff_exists.mp hl
  obtain ⟨p, hp, rp⟩ := lk rr hv
  refine delItem_ok (by have := hr.units; omega) (keyOk I2 hy hk ry) dv ak hz2 hp fun h1 m1 hs1 => ?_
  obtain ⟨ep, J⟩ := wrote I2 m m1 (ents_drop rr k) hs1 (s2.toks + k.draws)
  exact wpAny_deleteEach_nil ⟨σ, _, J, q2 _ (m.dropped k ep) Chg.upd⟩
theorem new_dict {P : Program} {w : World} {H : Hp} (h : Heap) (hb : sysModules < h.objs.size) : ∃ ep, ObjOk P w H (h.push { cls := .type "dict", data := .dict #[] }) h.objs.size (DO w h.objs.size [] ep) := DO_ok (DictV.new h) .nil
theorem DictE.new {w : World} {H : Hp} {p : Addr} {ep : Nat} (hb : sysModules < p) : DictE w (L2.upd H p (DO w p [] ep)) p [] :=
  ⟨⟨ep, upd_same⟩, fun _ h => (by cases h), Nat.zero_le _, beq_eq_false_iff_ne.mpr (Ne.symm (Nat.ne_of_lt hb)), List.nodup_nil⟩
theorem pe_xnew : PE X (.Dict [] [] pos) (tXNew X.w) := ⟨fun pins s σ H Q I h => by
  obtain ⟨ep, ok⟩ := new_dict (P := X.prog) (w := X.w) (H := H) s.heap I.big
  obtain ⟨ok1, ok2, ok3⟩ := ok
  exact wpAny_Dict_empty ⟨.ref s.heap.objs.size, _, I.laid (a := s.heap.objs.size) (o := DO X.w s.heap.objs.size [] ep) (t' := s.toks) (fun _ _ q => Heap.get?_push_of_some _ q) (Nat.le_refl _) ⟨ok1, ok2, ok3⟩, rfl, h _ _ (I.hok.fresh (Nat.le_refl _)) (DictE.new I.big) Chg.upd⟩⟩
theorem pe_xget1 (hr : Room k X.A) (ho : PE X o td) (he : PE X e ty) (m : M1 X o "get" apos e cpos) : PE X (.Call (.Attribute o "get" apos) [e] [] cpos) (tXGet1 X.w td ty) := by
  refine ⟨fun pins s σ H Q I h => ?_⟩
  refine wpAny_Call_method m.base m.few m.line PySem.F.plainAttrs_dict PySem.F.slot_dict_get PySem.F.type_dict_get (thn (ho.run pins s σ H _ I h) fun u s1 ⟨x, H1, I1, rx, a, ex, d, q1⟩ => ?_)
  subst ex
  obtain rfl : u = Value.ref a := rx
  obtain ⟨t1, t2⟩ := isX_at I1 d
  refine ⟨t1, t2, ?_⟩
  rw [m.trees]
  refine Calls.callWith_builtin rfl (Calls.evalArgs_plain (Calls.spliced_cons (thn (he.run pins s1 σ H1 _ I1 q1) fun iv s2 ⟨y, H2, I2, ry, es, k, m, hy, hk, q2⟩ => Calls.spliced_nil ?_)))
  obtain ⟨xs, r, dv, ak, hz⟩ := at_dict I2 m
  refine callGet1_ok (by have := hr.units; omega) (keyOk I2 hy hk ry) m.ns dv ak ⟨_, H2, I2.tok _, ?_, q2⟩
  cases e : lookE es k with
  | none => rw [lk0 r e]; rfl
  | some v => obtain ⟨p, hp, rp⟩ := lk r e; rw [hp]; exact rp
theorem pe_xget2 (hr : Room k X.A) (ho : PE X o td) (he : PE X e ty) (hf : PE X f tx) (m : M2 X o "get" apos e f cpos) : PE X (.Call (.Attribute o "get" apos) [e, f] [] cpos) (tXGet2 X.w td ty tx) := by
  refine ⟨fun pins s σ H Q I h => ?_⟩
  refine wpAny_Call_method m.base m.few m.line PySem.F.plainAttrs_dict PySem.F.slot_dict_get PySem.F.type_dict_get (thn (ho.run pins s σ H _ I h) fun u s1 ⟨x, H1, I1, rx, a, ex, d, q1⟩ => ?_)
  subst ex
  obtain rfl : u = Value.ref a := rx
  obtain ⟨t1, t2⟩ := isX_at I1 d
  refine ⟨t1, t2, ?_⟩
  rw [m.trees]
  refine Calls.callWith_builtin rfl (Calls.evalArgs_plain (Calls.spliced_cons (thn (he.run pins s1 σ H1 _ I1 q1) fun iv s2 ⟨y, H2, I2, ry, q2⟩ =>
    Calls.spliced_cons (thn (hf.run pins s2 σ H2 _ I2 q2) fun fv s3 ⟨z, H3, I3, rz, es, k, m, hy, hk, q3⟩ => Calls.spliced_nil ?_))))
  obtain ⟨xs, r, dv, ak, hz⟩ := at_dict I3 m
  refine callGet2_ok (by have := hr.units; omega) (keyOk I3 hy hk ry) m.ns dv ak ⟨_, H3, I3.tok _, ?_, q3⟩
  cases e : lookE es k with
  | none => rw [lk0 r e]; exact rz
  | some v => obtain ⟨p, hp, rp⟩ := lk r e; rw [hp]; exact rp
theorem pe_xsetd (hr : Room k X.A) (ho : PE X o td) (he : PE X e ty) (hf : PE X f tx) (m : M2 X o "setdefault" apos e f cpos) : PE X (.Call (.Attribute o "setdefault" apos) [e, f] [] cpos) (tXSetd X.w td ty tx) := by
  refine ⟨fun pins s σ H Q I h => ?_⟩
  refine wpAny_Call_method m.base m.few m.line PySem.F.plainAttrs_dict PySem.F.slot_dict_setdefault PySem.F.type_dict_setdefault (thn (ho.run pins s σ H _ I h) fun u s1 ⟨x, H1, I1, rx, a, ex, d, q1⟩ => ?_)
  subst ex
  obtain rfl : u = Value.ref a := rx
  obtain ⟨t1, t2⟩ := isX_at I1 d
  refine ⟨t1, t2, ?_⟩
  rw [m.trees]
  refine Calls.callWith_builtin rfl (Calls.evalArgs_plain (Calls.spliced_cons (thn (he.run pins s1 σ H1 _ I1 q1) fun iv s2 ⟨y, H2, I2, ry, q2⟩ =>
    Calls.spliced_cons (thn (hf.run pins s2 σ H2 _ I2 q2) fun fv s3 ⟨z, H3, I3, rz, es, k, m, hy, hk, hz, q3, q4⟩ => Calls.spliced_nil ?_))))
  obtain ⟨xs, r, dv, ak, hz2⟩ := at_dict I3 m
  refine callSetdef_ok (by have := hr.units; omega) (keyOk I3 hy hk ry) m.ns dv ak hz2 (fun p hp => ?_) fun hn h1 m1 hs1 => ?_
  · cases e : lookE es k with
    | none => rw [lk0 r e] at hp; cases hp
    | some v =>
      obtain ⟨p2, hp2, rp⟩ := lk r e
      rw [hp] at hp2; cases hp2
      exact ⟨v, H3, I3.tok _, rp, q3 v e⟩
  · have hn2 : lookE es k = none := by
      cases e : lookE es k with
      | none => rfl
      | some v => obtain ⟨p2, hp2, rp⟩ := lk r e; rw [hn] at hp2; cases hp2
    obtain ⟨ep, J⟩ := wrote I3 m m1 (ents_put r ry rz) hs1 (s3.toks + k.draws)
    exact ⟨z, _, J, rz, q4 hn2 _ (m.put hy hk hz z ep) Chg.upd⟩
theorem pe_xpop1 (hr : Room k X.A) (ho : PE X o td) (he : PE X e ty) (m : M1 X o "pop" apos e cpos) : PE X (.Call (.Attribute o "pop" apos) [e] [] cpos) (tXPop1 X.w td ty) := by
  refine ⟨fun pins s σ H Q I h => ?_⟩
  refine wpAny_Call_method m.base m.few m.line PySem.F.plainAttrs_dict PySem.F.slot_dict_pop PySem.F.type_dict_pop (thn (ho.run pins s σ H _ I h) fun u s1 ⟨x, H1, I1, rx, a, ex, d, q1⟩ => ?_)
  subst ex
  obtain rfl : u = Value.ref a := rx
  obtain ⟨t1, t2⟩ := isX_at I1 d
  refine ⟨t1, t2, ?_⟩
  rw [m.trees]
  refine Calls.callWith_builtin rfl (Calls.evalArgs_plain (Calls.spliced_cons (thn (he.run pins s1 σ H1 _ I1 q1) fun iv s2 ⟨y, H2, I2, ry, es, k, b, v, ey, m, hy, hk, hl, q2⟩ => Calls.spliced_nil ?_)))
  subst ey
  obtain rfl : iv = Value.ref b := ry
  obtain ⟨xs, r, dv, ak, hz⟩ := at_dict I2 m
  obtain ⟨p, hp, rp⟩ := lk r hl
  refine callPop1_ok rfl (by have := hr.units; omega) (keyOk I2 hy hk rfl) m.ns dv ak hz hp fun h1 m1 hs1 => ?_
  obtain ⟨ep, J⟩ := wrote I2 m m1 (ents_drop r k) hs1 (s2.toks + k.draws)
  exact ⟨v, _, J, rp, q2 _ (m.dropped k ep) Chg.upd⟩
end
/-! ### len(d), list(d) -/
theorem vals_of_get : ∀ {xs : List V} {us : List Value}, xs.length = us.length → (∀ (i : Nat) (v : V) (u : Value), xs[i]? = some v → us[i]? = some u → RelV v u) → Vals xs us
  | [], [], _, _ => .nil
  | x :: xs, u :: us, hl, h => .cons (h 0 x u rfl rfl) (vals_of_get (by simpa using hl) fun i v w hv hw => h (i + 1) v w (by simpa using hv) (by simpa using hw))
  | [], _ :: _, hl, _ => by simp at hl
  | _ :: _, [], hl, _ => by simp at hl
section
variable {X : Cx}
def rLenX (w : World) : List V → Hp → VK → Prop := fun xs H Q => ∃ a es, xs = [.ref a] ∧ DictE w H a es ∧ Q (.int (es.length : Int)) H
theorem call_lenX : CallR X (.builtin "len") (rLenX X.w) := by
  intro pins s σ H xs us Q I r h
  obtain ⟨a, es, rfl, m, q⟩ := h
  obtain ⟨u, rfl, rx⟩ := vals1 r
  cases rx
  obtain ⟨xs, rr, dv, ak, hz⟩ := at_dict I m
  obtain ⟨ra, ep, hraw, hs, _⟩ := DictV.raw (w := X.w) dv
  have hl := line63
  have he : es.length = xs.length := Paired.length rr
  have hs16 : sizeLine = 16777216 := sizeLine_eq
  refine PyProof.Rows.call_len_slot (n := ra.size) dv.typeIs F.slot_dict_len (fun Q1 hq => call_len_raw (prog := X.prog) (w := X.w) m.ns hraw hq) (by omega) (by omega) ⟨.int (es.length : Int), H, I.tok (s.toks + 1 + 1), ⟨s.toks + 1, ?_⟩, q⟩
  rw [hs, he]
def rListX (w : World) : List V → Hp → VK → Prop := fun xs H Q => ∃ a es, xs = [.ref a] ∧ DictE w H a es ∧ ∀ l, H l = none → Q (.ref l) (upd H l (.lst (es.map (·.2.1))))
theorem call_listX (hc : X.calm = true) : CallR X (.type "list") (rListX X.w) := by
  intro pins s σ H xs us Q I r h
  obtain ⟨a, es, rfl, m, q⟩ := h
  obtain ⟨u, rfl, rx⟩ := vals1 r
  cases rx
  obtain ⟨xs, rr, dv, ak, hz⟩ := at_dict I m
  obtain ⟨ra, ep, hraw, hs, hat⟩ := dv.raw
  have he : es.length = xs.length := Paired.length rr
  refine PySem.W.kdl_call (KdlSrc.rawDict m.ns) (I.ok.hd hc) hraw (by omega) fun h' tk acc' c' hk hS hacc => ?_
  have vs : Vals (es.map (·.2.1)) acc'.toList := by
    obtain ⟨hsz, hit⟩ := hacc
    refine vals_of_get ?_ fun i v u hv hu => ?_
    · have e1 : acc'.toList.length = acc'.size := Array.length_toList
      rw [List.length_map, e1]
      omega
    · rw [List.getElem?_map] at hv
      obtain ⟨e, hei, rfl⟩ := Option.map_eq_some_iff.mp hv
      rw [Array.getElem?_toList] at hu
      obtain ⟨hlt, hk⟩ := hit i u hu
      obtain ⟨y, hy, hyk, _⟩ := hat i hlt
      obtain ⟨b, hb, _, r2, _⟩ := paired_get rr hei
      rw [hy] at hb; cases hb
      rw [hk, hyk]
      exact r2
  refine ⟨.ref s.heap.objs.size, _, I.laid (a := s.heap.objs.size) (o := .lst (es.map (·.2.1))) (t' := tk) (fun b o e => hk b o e) (Nat.le_refl _) ⟨by rw [List.length_map]; exact m.len, acc'.toList, c', vs, by simpa using hS⟩, rfl, q _ (I.hok.fresh (Nat.le_refl _))⟩
end
end TR
/-! text C0 -/
set_option Elab.async false
set_option linter.all false
set_option maxRecDepth 100000
set_option maxHeartbeats 4000000
namespace TR
open PySem PySem.Spec PyProof.Rows L2 VD
/-! ### for k in d -/
def Itx (d : Addr) (u : HO) (ks : List V) : It := ⟨fun i H => H d = some u ∧ i < ks.length, fun i H x H1 => H1 = H ∧ ks[i]? = some x, fun i H => H d = some u ∧ ks.length ≤ i⟩
section
variable {P : Program} {w : World} {K : PySem.W.Frag} {tg : Expr} {d : Addr}
theorem raw_of {X : Cx} {pins : List (Addr × Obj)} {σ : L2.St} {H : Hp} {s : Shared} {es : Es} {ep : Nat} (I : Inv X pins σ H s) (h : H d = some (DO X.w d es ep)) :
    ∃ (o : Obj) (ra : Array DictEntry), s.heap.get? d = some o ∧ o.ExactDict ∧ o.data = .dict ra ep ∧ ra.size = es.length ∧ ∀ (i : Nat) (x : V), (es.map (·.2.1))[i]? = some x → ∃ en : DictEntry, ra[i]? = some en ∧ RelV x en.key := by
  obtain ⟨⟨o, ra, xs, ho, hc, hd, he, hn, r⟩, _, _⟩ := (show ObjOk X.prog X.w H s.heap d (DO X.w d es ep) from I.hok d _ h)
  have hl : es.length = xs.length := Paired.length r
  refine ⟨o, ra, ho, hc, hd, by rw [en_size he, hl], fun i x hx => ?_⟩
  rw [List.getElem?_map] at hx
  obtain ⟨e, hei, rfl⟩ := Option.map_eq_some_iff.mp hx
  obtain ⟨b, hb, _, r2, _⟩ := paired_get r hei
  exact ⟨enOf X.w b, by rw [en_at he i, hb]; rfl, r2⟩
theorem turn_x {es : Es} {ep : Nat} (it : Addr) : Turn P w K tg (Itx d (DO w d es ep) (es.map (·.2.1))) [it] it (fun i h => h.IsKeyIter it d i es.length ep) where
  mem := by simp
  obj := fun i h st b hb => by
    have e : b = it := by simpa using hb
    subst e
    obtain ⟨oi, e, c, dd⟩ := st
    exact ⟨oi, e, fun v z => by rw [dd] at z; cases z⟩
  keep := fun i h h1 st k => st.at fun oi e => k it (by simp) oi e
  item := by
    intro X hP hw hK hc i pins s σ H E I hf st hg
    subst hP hw hK
    obtain ⟨hd, hi⟩ := hg
    obtain ⟨f0, f1, f2, f3, f4, f5⟩ := hf it (by simp)
    obtain ⟨o, ra, ho, hx, hdt, hsz, hat⟩ := raw_of I hd
    obtain ⟨x, hxi⟩ : ∃ x, (es.map (·.2.1))[i]? = some x := ⟨_, List.getElem?_eq_getElem hi⟩
    obtain ⟨en, hen, rk⟩ := hat i x hxi
    refine next_key_item st ho hdt hsz hen fun h1 st1 sb => ?_
    have I1 : Inv X pins σ H { s with heap := h1 } := I.turned (t' := s.toks) (fun b ob hb e => (sb.2 b hb).trans e) f0 f1 f3 f4 f5
    obtain ⟨oi, e, c, dd⟩ := id st1
    exact ⟨en.key, rfl, go_of (s := { s with heap := h1 }) e c dd (by decide) ⟨x, H, I1, rk, ⟨rfl, hxi⟩, st1, fun b hb => (hf b hb).1⟩⟩
  done := by
    intro X hP hw hK hc i pins s σ H E I hf st hg
    subst hP hw hK
    obtain ⟨hd, hi⟩ := hg
    obtain ⟨f0, f1, f2, f3, f4, f5⟩ := hf it (by simp)
    obtain ⟨o, ra, ho, hx, hdt, hsz, hat⟩ := raw_of I hd
    rw [List.length_map] at hi
    exact next_key_end (I.ok.hd hc) st ho hdt hsz hi fun h1 eb => ⟨rfl, I.turned (t' := s.toks) (fun b ob hb e => eb b ob hb e) f0 f1 f3 f4 f5⟩
  self := fun A i s Q E st h => by
    refine wpAny_pyIter_slot st.typeIs F.slot_dict_keyiterator_iter (wpAny_call_entry F.slot_dict_keyiterator_iter st.typeIs F.entry_dict_keyiterator_iter ?_ (F.args_dict_keyiterator_iter_1 _))
    show wpAny _ _ (ret (.ref it)) _ _ s
    exact wpAny_pure ⟨_, rfl, "dict_keyiterator", _, st.typeIs, F.slot_dict_keyiterator_next.lookup, h⟩
end
def iX (w : World) (td : TE) : TI := fun σ H R => td σ H fun x H1 => ∃ d es, x = .ref d ∧ DictE w H1 d es ∧ ∀ u, H1 d = some u → R (Itx d u (es.map (·.2.1))) H1
theorem pi_x {X : Cx} {tg e : Expr} {td : TE} (he : PE X e td) : PI X tg e (iX X.w td) := by
  refine ⟨fun pins s σ H R I h => ?_⟩
  refine thn (he.run pins s σ H _ I h) fun u s1 ⟨x, H1, I1, rx, d, es, ex, m, q⟩ => ?_
  subst ex
  obtain rfl : u = Value.ref d := rx
  obtain ⟨ep, hd⟩ := m.ob
  obtain ⟨o, ra, ho, hx, hdt, hsz, hat⟩ := raw_of I1 hd
  refine iter_keys m.ns ho hx hdt (pi_one (tk := s1.toks) I1 _ (turn_x _) ⟨_, Heap.get?_push_size _ rfl, rfl, ?_⟩ (q _ hd))
  rw [hsz] <;> rfl
/-- over a dict that the body leaves as it is -/
theorem for_x {d : Addr} {u : HO} {xs : List V} {g : TG} {tb : TS} {D : Ends} {σ : L2.St} {H : Hp} (Pv : Nat → L2.St → Hp → Prop) (h0 : Pv 0 σ H) (hl : ∀ i σ H, i ≤ xs.length → Pv i σ H → H d = some u)
    (hs : ∀ i x σ H, xs[i]? = some x → Pv i σ H → g x σ H fun σ2 H2 => tb { D with nx := Pv (i + 1), ct := Pv (i + 1), bk := D.nx } σ2 H2) (hd : ∀ σ H, Pv xs.length σ H → D.nx σ H) :
    ∃ W : Nat → Nat → L2.St → Hp → Prop, (∃ m, W 0 m σ H) ∧ ∀ i m σ H, W i m σ H →
      ((Itx d u xs).stop i H ∧ D.nx σ H) ∨ ((Itx d u xs).go i H ∧ ∃ N : L2.St → Hp → Prop, (∀ σ' H', N σ' H' → ∃ m', m' < m ∧ W (i + 1) m' σ' H') ∧ ∀ x H', (Itx d u xs).yld i H x H' → g x σ H' fun σ2 H2 => tb { D with nx := N, ct := N, bk := D.nx } σ2 H2) := by
  refine ⟨fun i m σ H => m = xs.length - i ∧ i ≤ xs.length ∧ Pv i σ H, ⟨xs.length, by simp, Nat.zero_le _, h0⟩, ?_⟩
  rintro i m σ H ⟨rfl, hi, p⟩
  have q := hl i σ H hi p
  by_cases hlt : i < xs.length
  · refine .inr ⟨⟨q, hlt⟩, Pv (i + 1), fun σ1 H1 p1 => ⟨xs.length - (i + 1), by omega, rfl, hlt, p1⟩, fun x H1 y => ?_⟩
    obtain ⟨e, y⟩ := y
    subst e
    exact hs i x σ _ y p
  · have e : i = xs.length := by omega
    subst e
    exact .inl ⟨⟨q, Nat.le_refl _⟩, hd σ H p⟩
/-- the same for a comprehension -/
theorem lc_x {d : Addr} {u : HO} {xs : List V} {g : TG} {tt : TT} {te : TE} {vs : List Nat} {σ : L2.St} {H1 : Hp} {D : Addr} {Qd : Hp → Prop} (Pv : Nat → Hp → Prop) (h0 : Pv 0 (upd H1 D (.lst []))) (hl : ∀ i H, i ≤ xs.length → Pv i H → H d = some u)
    (hs : ∀ i x H, xs[i]? = some x → Pv i H → g x (wipe σ vs) H fun σ2 H2 => wipe σ2 vs = wipe σ vs ∧ tt σ2 H2 fun b H3 =>
      if b = true then te σ2 H3 fun y H4 => ∃ acc, H4 D = some (.lst acc) ∧ acc.length < sizeLine ∧ Pv (i + 1) (upd H4 D (.lst (acc ++ [y]))) else Pv (i + 1) H3) (hd : ∀ H, Pv xs.length H → Qd H) :
    ∃ W : Nat → Nat → Hp → Prop, (∃ m, W 0 m (upd H1 D (.lst []))) ∧ ∀ i m H, W i m H →
      ((Itx d u xs).stop i H ∧ Qd H) ∨ ((Itx d u xs).go i H ∧ ∃ Nx : Hp → Prop, (∀ H', Nx H' → ∃ m', m' < m ∧ W (i + 1) m' H') ∧ ∀ x H', (Itx d u xs).yld i H x H' → g x (wipe σ vs) H' fun σ2 H2 => wipe σ2 vs = wipe σ vs ∧ tt σ2 H2 fun b H3 =>
        if b = true then te σ2 H3 fun y H4 => ∃ acc, H4 D = some (.lst acc) ∧ acc.length < sizeLine ∧ Nx (upd H4 D (.lst (acc ++ [y]))) else Nx H3) := by
  refine ⟨fun i m H => m = xs.length - i ∧ i ≤ xs.length ∧ Pv i H, ⟨xs.length, by simp, Nat.zero_le _, h0⟩, ?_⟩
  rintro i m H ⟨rfl, hi, p⟩
  have q := hl i H hi p
  by_cases hlt : i < xs.length
  · refine .inr ⟨⟨q, hlt⟩, Pv (i + 1), fun H1 p1 => ⟨xs.length - (i + 1), by omega, rfl, hlt, p1⟩, fun x H1 y => ?_⟩
    obtain ⟨e, y⟩ := y
    subst e
    exact hs i x _ y p
  · have e : i = xs.length := by omega
    subst e
    exact .inl ⟨⟨q, Nat.le_refl _⟩, hd H p⟩
/-! ### enumerate(t), t a tuple -/
def Iet (K : PySem.W.Frag) (a : Addr) : It :=
  ⟨fun i H => ∃ (xs : List V) (x : V), SqT K H a xs ∧ xs[i]? = some x, fun i H v H1 => ∃ T x, v = .ref T ∧ H T = none ∧ H1 = upd H T (.tup [.int (i : Nat), x]) ∧ ∀ xs, SqT K H a xs → xs[i]? = some x, fun i H => ∃ xs : List V, SqT K H a xs ∧ xs.length ≤ i⟩
theorem enum_endT {prog : Program} {w : World} {A : Around} {E : Value → Shared → Prop} {s : Shared} {e it l : Addr} {i : Nat} {items : Array Value} {old : Value} {Q : Option Value → Shared → Prop} (hh : A.handled = none)
    (he : IsEnum s.heap e it i old) (hit : s.heap.IsTupleIter it l i) (hl : s.heap.IsTuple l items) (hx : items[i]? = none)
    (hQ : ∀ h1, Heap.ExtBut it s.heap h1 → Q none { s with heap := h1 }) : wpAny (model prog w) A (pyNext (.ref e)) Q E s := by
  have hT : s.TypeIs (.ref e) "enumerate" := ⟨_, he, rfl⟩
  unfold pyNext
  refine wpAny_bind (wpAny_attempt (wpAny_callSpecial?_slot (name := Str.ofString "__next__") hT F.slot_enumerate_next
    (wpAny_call_entry F.slot_enumerate_next hT F.entry_enumerate_next ?_ (F.args_enumerate_next_1 _))))
  show wpAny _ _ (field (.ref e) 2 >>= _) _ _ _
  refine wpAny_bind (wpAny_field he rfl (x := .ref it) rfl ?_)
  refine wpAny_bind (wpAny_nextOf_tuple_end hh hit hl hx fun h1 x he1 hx1 => ?_)
  obtain ⟨o, ho, hc⟩ := hx1
  refine wpAny_bind (wpAny_isInstance (T := "StopIteration") (b := true) ⟨o, ho, hc⟩ isSubtype_stop ?_)
  exact wpAny_pure (hQ _ he1)
theorem turn_enumT {P : Program} {w : World} {K : PySem.W.Frag} {elts : List Expr} {kk : Nat} {tpos : Pos} (a e it : Addr) :
    Turn P w K (.Tuple elts kk tpos) (Iet K a) [e, it] e (fun i h => (∃ old, IsEnum h e it ((i : Nat) : Int) old) ∧ h.IsTupleIter it a i ∧ e ≠ it ∧ a ≠ it ∧ a ≠ e) where
  mem := by simp
  obj := fun i h st b hb => by
    obtain ⟨⟨old, he⟩, ⟨o, ho, hc, hd⟩, _⟩ := st
    have e1 : b = e ∨ b = it := by simpa using hb
    rcases e1 with z | z
    · rw [z]; exact ⟨_, he, fun v q => nomatch q⟩
    · rw [z]; exact ⟨o, ho, fun v q => by rw [hd] at q; cases q⟩
  keep := fun i h h1 st k => let ⟨⟨old, he⟩, hi, hne⟩ := st; ⟨⟨old, k e (by simp) _ he⟩, hi.at fun o q => k it (by simp) o q, hne⟩
  item := by
    intro X hP hw hK hc i pins s σ H E I hf st hg
    subst hP hw hK
    obtain ⟨⟨old, he⟩, hit, hne, hat, hae⟩ := st
    obtain ⟨xs, x, hq, hx⟩ := hg
    obtain ⟨its, rv, p, hz⟩ := I.tuple hq
    obtain ⟨u, hu, ru⟩ := rv.get hx
    have hel : e < s.heap.objs.size := Heap.lt_size he
    have hil : it < s.heap.objs.size := by obtain ⟨_, q, _⟩ := hit; exact Heap.lt_size q
    have hi : i < its.toArray.size := by
      have := (List.getElem?_eq_some_iff.mp hu).1
      simpa using this
    have hIs : s.heap.IsTuple a its.toArray := p
    refine wpAny_pyNext_enum_itemD (Draws.tuple (A := X.A.in1) (I.ok.hd hc) it a hat its.toArray) he ⟨hit, hIs⟩ hi hne (by simp only [List.mem_cons, List.not_mem_nil, or_false, not_or]; exact ⟨hne, fun z => hae z.symm⟩) fun y h1 tk hP ho hit1 hT hsz hk => ?_
    have hy : y = u := by
      have hP : its.toArray[i]? = some y := hP
      rw [List.getElem?_toArray, hu] at hP
      exact (Option.some.inj hP).symm
    subst hy
    refine ⟨_, rfl, wpAny_letOwnedTupleGo_enum (s := { s with heap := h1, toks := tk + 1 }) ho fun h2 he1 sb => ?_⟩
    have hT2 : h2.get? s.heap.objs.size = some { cls := .type "tuple", data := .seq #[.int i tk, y] } := (sb.2 _ (Nat.ne_of_gt hel)).trans hT
    have new : ObjOk X.prog X.w (upd H s.heap.objs.size (.tup [.int (i : Nat), x])) h2 s.heap.objs.size (.tup [.int (i : Nat), x]) :=
      ⟨by show 2 ≤ sizeLine; decide, [.int i tk, y], .cons ⟨_, rfl⟩ (.cons ru .nil), ⟨_, hT2, rfl, _, rfl⟩⟩
    have I1 : Inv X pins σ (upd H s.heap.objs.size (.tup [.int (i : Nat), x])) { s with heap := h2, toks := tk + 1 } :=
      I.turnedNew (ch := [e, it]) (fun b ob hb q => (sb.2 b (fun z => hb (by simp [z]))).trans (hk b ob (fun z => hb (by simp [z])) (fun z => hb (by simp [z])) q)) hf (Nat.le_refl _) new
    refine ⟨.ref s.heap.objs.size, _, I1, rfl, ⟨_, x, rfl, I.hok.fresh (Nat.le_refl _), rfl, fun ys hy => by rw [I.tuple_inj hy hq]; exact hx⟩, ⟨⟨y, ?_⟩, hit1.1.at fun o q => (sb.2 it (Ne.symm hne)).trans q, hne, hat, hae⟩, fun b hb => ?_⟩
    · have e1 : ((i + 1 : Nat) : Int) = (i : Int) + 1 := by omega
      rw [e1]; exact he1
    · have hb1 : b < s.heap.objs.size := by
        have e1 : b = e ∨ b = it := by simpa using hb
        rcases e1 with z | z
        · rw [z]; exact hel
        · rw [z]; exact hil
      rw [upd_ne (Nat.ne_of_lt hb1)]
      exact (hf b hb).1
  done := by
    intro X hP hw hK hc i pins s σ H E I hf st hg
    subst hP hw hK
    obtain ⟨⟨old, he⟩, hit, hne, hat, hae⟩ := st
    obtain ⟨xs, hq, hx⟩ := hg
    obtain ⟨its, rv, p, hz⟩ := I.tuple hq
    obtain ⟨f0, f1, f2, f3, f4, f5⟩ := hf it (by simp)
    have hl := rv.length
    exact enum_endT (I.ok.hd hc) he hit p (by simp; omega) fun h1 eb => ⟨rfl, I.turned (t' := s.toks) (fun b o hb q => eb b o hb q) f0 f1 f3 f4 f5⟩
  self := fun A i s Q E st h => let ⟨⟨_, he⟩, _⟩ := st; wpAny_pyIter_enum he h
theorem meets_enumT (l : Addr) (items : Array Value) (n : Nat) (dct : Option Addr) (sl : Array (Option Value)) :
    Meets (Builtin.«enumerate.__new__» ⟨[.type "enumerate", .ref l], []⟩) (fun _ R s => s.heap.get? l = some { cls := .type "tuple", dict := dct, data := .seq items n, slots := sl } ∧
      R (.ok (.ret (.ref (s.heap.push { cls := .type "tuple_iterator", data := .fields #[.ref l, .int 0 0] }).objs.size)))
        { s with heap := (s.heap.push { cls := .type "tuple_iterator", data := .fields #[.ref l, .int 0 0] }).push { cls := .type "enumerate", data := .fields #[.none, .bool false, .ref s.heap.objs.size, rawInt 0, .none, .none] } }) :=
  .of_wp fun prog w A R s h => by
    obtain ⟨hp, g, d, tk, os⟩ := s; obtain ⟨hl, h⟩ := h
    have hsub := sub_enumerate
    have hL : Heap.IsTuple (Shared.heap ⟨hp, g, d, tk, os⟩) l items := ⟨_, hl, rfl, n, rfl⟩
    wp_walk using wpAny_loadPart' hl
    refine wpAny_stack_any fun st => wpAny_pure ?_
    split
    · rename_i c _ _ _ _ _
      cases (c == Value.type "enumerate")
      · wp_walk using wpAny_loadPart' hl, wpAny_pyIter_tuple hL
        exact ⟨_, rfl, h⟩
      · wp_walk using wpAny_loadPart' hl, wpAny_pyIter_tuple hL
        exact ⟨_, rfl, h⟩
    · wp_walk using wpAny_loadPart' hl, wpAny_pyIter_tuple hL
      exact ⟨_, rfl, h⟩
theorem enum_begT {prog : Program} {w : World} {A : Around} {E : Value → Shared → Prop} {s : Shared} {l : Addr} {items : Array Value} {Q : Value → Shared → Prop} (hL : s.heap.IsTuple l items)
    (h : ∀ h1, IsEnum h1 (s.heap.objs.size + 1) s.heap.objs.size 0 .none → h1.IsTupleIter s.heap.objs.size l 0 → h1.objs.size = s.heap.objs.size + 2 →
      (∀ b o, s.heap.get? b = some o → h1.get? b = some o) → Q (.ref (s.heap.objs.size + 1)) { s with heap := h1 }) :
    wpAny (model prog w) A (call (.type "enumerate") [.ref l]) Q E s := by
  obtain ⟨⟨c, dct, dt, sl⟩, hl, hc, n, hd⟩ := hL
  replace hc : c = .type "tuple" := hc
  replace hd : dt = .seq items n := hd
  subst hc hd
  refine callType_new F.called_enumerate (by decide) (F.typeCall_enumerate_1 _) (F.newCall_enumerate_1 _) (fun obj => F.args_object_init_2 obj _) F.entry_enumerate_new
    (meets_enumT l items n dct sl) ⟨hl, ?_⟩
  have hz : (s.heap.push { cls := .type "tuple_iterator", data := .fields #[.ref l, .int 0 0] }).objs.size = s.heap.objs.size + 1 := Heap.size_push ..
  show _ ∧ _
  rw [hz]
  have he : IsEnum ((s.heap.push { cls := .type "tuple_iterator", data := .fields #[.ref l, .int 0 0] }).push { cls := .type "enumerate", data := .fields #[.none, .bool false, .ref s.heap.objs.size, rawInt 0, .none, .none] }) (s.heap.objs.size + 1) s.heap.objs.size 0 .none := by
    have := Heap.get?_push_size (s.heap.push { cls := .type "tuple_iterator", data := .fields #[.ref l, .int 0 0] }) (o := { cls := .type "enumerate", data := .fields #[.none, .bool false, .ref s.heap.objs.size, rawInt 0, .none, .none] }) rfl
    rw [hz] at this; exact this
  refine ⟨⟨_, he, rfl⟩, h _ he ⟨_, Heap.get?_push_of_some _ (Heap.get?_push_size _ rfl), rfl, rfl⟩ (by rw [Heap.size_push, hz]) fun b o y => Heap.get?_push_of_some _ (Heap.get?_push_of_some _ y)⟩
def iEnumT (K : PySem.W.Frag) (ta : TA) : TI := fun σ H R => ta σ H fun vs H1 => ∃ a xs, vs = [.ref a] ∧ SqT K H1 a xs ∧ R (Iet K a) H1
theorem pi_enumT {X : Cx} {e : Expr} {ta : TA} {p pos tpos : Pos} {elts : List Expr} {kk : Nat} (hg : Gl X "enumerate") (hm : X.mg "enumerate" = none) (ha : PA X [e] ta) (hs : starEach [e] X.env = [(false, eval e X.env)] := by rfl) :
    PI X (.Tuple elts kk tpos) (.Call (.Name "enumerate" p) [e] [] pos) (iEnumT X.K ta) := by
  refine ⟨fun pins s σ H R I h => ?_⟩
  refine Call_ (ld_blt I hg hm boot_enumerate (PyProof.Rows.callWith_type1 (thn (ha.run pos pins s σ H _ I h) fun us s1 ⟨vs, H1, I1, r1, q1⟩ => ?_) hs rfl))
  obtain ⟨a, xs, ex, hq, q⟩ := q1
  subst ex
  obtain ⟨u, rfl, r⟩ := vals1 r1
  cases r
  obtain ⟨its, rv, p1, hz⟩ := I1.tuple hq
  have hal : a < s1.heap.objs.size := p1.lt
  refine enum_begT p1 fun h1 he hit hsz hk => wpAny_pyIter_enum he ?_
  have I2 : Inv X pins σ H1 { s1 with heap := h1 } := I1.kept (t' := s1.toks) hk
  refine ⟨s1.heap.objs.size + 1, [s1.heap.objs.size + 1, s1.heap.objs.size], _, _, H1, rfl, I2, turn_enumT a (s1.heap.objs.size + 1) s1.heap.objs.size, ⟨⟨.none, he⟩, hit, Nat.succ_ne_self _, Nat.ne_of_lt hal, Nat.ne_of_lt (Nat.lt_succ_of_lt hal)⟩, fun b hb => ?_, q⟩
  have e1 : b = s1.heap.objs.size + 1 ∨ b = s1.heap.objs.size := by simpa using hb
  have hle : s1.heap.objs.size ≤ b := by
    rcases e1 with z | z
    · rw [z]; exact Nat.le_add_right _ _
    · rw [z]; exact Nat.le_refl _
  exact I1.fpOk hle (I1.hok.fresh hle)
/-- over enumerate of a tuple: the pair is a new tuple at T -/
theorem for_enumT {K : PySem.W.Frag} {a : Addr} {xs : List V} {g : TG} {tb : TS} {D : Ends} {σ : L2.St} {H : Hp} (Pv : Nat → L2.St → Hp → Prop) (h0 : Pv 0 σ H) (hl : ∀ i σ H, i ≤ xs.length → Pv i σ H → SqT K H a xs)
    (hs : ∀ i x σ H T, xs[i]? = some x → Pv i σ H → H T = none → g (.ref T) σ (upd H T (.tup [.int (i : Nat), x])) fun σ2 H2 => tb { D with nx := Pv (i + 1), ct := Pv (i + 1), bk := D.nx } σ2 H2) (hd : ∀ σ H, Pv xs.length σ H → D.nx σ H) :
    ∃ W : Nat → Nat → L2.St → Hp → Prop, (∃ m, W 0 m σ H) ∧ ∀ i m σ H, W i m σ H →
      ((Iet K a).stop i H ∧ D.nx σ H) ∨ ((Iet K a).go i H ∧ ∃ N : L2.St → Hp → Prop, (∀ σ' H', N σ' H' → ∃ m', m' < m ∧ W (i + 1) m' σ' H') ∧ ∀ x H', (Iet K a).yld i H x H' → g x σ H' fun σ2 H2 => tb { D with nx := N, ct := N, bk := D.nx } σ2 H2) := by
  refine ⟨fun i m σ H => m = xs.length - i ∧ i ≤ xs.length ∧ Pv i σ H, ⟨xs.length, by simp, Nat.zero_le _, h0⟩, ?_⟩
  rintro i m σ H ⟨rfl, hi, p⟩
  have q := hl i σ H hi p
  by_cases hlt : i < xs.length
  · refine .inr ⟨⟨xs, xs[i], q, List.getElem?_eq_getElem hlt⟩, Pv (i + 1), fun σ1 H1 p1 => ⟨xs.length - (i + 1), by omega, rfl, hlt, p1⟩, fun x H1 y => ?_⟩
    obtain ⟨T, y, rfl, hT, rfl, hy⟩ := y
    exact hs i y σ H T (hy xs q) p hT
  · have e : i = xs.length := by omega
    subst e
    exact .inl ⟨⟨xs, q, Nat.le_refl _⟩, hd σ H p⟩
end TR
/-! text C1 -/
set_option Elab.async false
set_option linter.all false
set_option maxRecDepth 100000
set_option maxHeartbeats 4000000
namespace TR
open PySem PySem.Spec PyProof.Rows L2 VD LamX
/-! ### a dict is no code object -/
theorem heap_of (oc : Obj) : ∀ n : Nat, ∃ h : Heap, h.objs.size = n ∧ ∀ b o, h.get? b = some o → o = oc
  | 0 => ⟨{ objs := #[] }, rfl, fun b o e => by simp [Heap.get?] at e⟩
  | n + 1 => by
    obtain ⟨h, h1, h2⟩ := heap_of oc n
    refine ⟨h.push oc, by rw [Heap.size_push, h1], fun b o e => ?_⟩
    rcases Heap.get?_push_cases e with ⟨_, e2⟩ | e2
    · exact e2
    · exact h2 b o e2
theorem DO_code {w : World} {d c : Addr} {es : Es} {ep : Nat} {q : Str} : DO w d es ep ≠ CodeO c q := by
  intro z
  unfold DO CodeO at z
  injection z with z
  obtain ⟨h, h1, h2⟩ := heap_of { cls := .none, data := .fields #[.none, .str q 0] } c
  have at_ : (h.push { cls := .none, data := .fields #[.none, .str q 0] }).get? c = some { cls := .none, data := .fields #[.none, .str q 0] } := by
    have := Heap.get?_push_size h (o := { cls := .none, data := .fields #[.none, .str q 0] }) rfl
    rw [h1] at this; exact this
  have k := congrFun z (h.push { cls := .none, data := .fields #[.none, .str q 0] })
  have k2 : ∃ (oc : Obj) (vs : Array Value) (t : Tok), (h.push { cls := .none, data := .fields #[.none, .str q 0] }).get? c = some oc ∧ oc.data = .fields vs ∧ vs[1]? = some (.str q t) := ⟨_, _, 0, at_, rfl, rfl⟩
  rw [← k] at k2
  obtain ⟨o, ra, xs, ho, _, hd, _⟩ := k2
  have e : o = { cls := .none, data := .fields #[.none, .str q 0] } := by
    rcases Heap.get?_push_cases ho with ⟨_, e2⟩ | e2
    · exact e2
    · exact h2 d o e2
  rw [e] at hd
  cases hd
/-- things that may be written without harm to the tables -/
def Soft : HO → Prop
  | .lst _ => True
  | .dK _ => True
  | .ins _ _ _ => True
  | .ext φ => ∀ c q, HO.ext φ ≠ CodeO c q
  | _ => False
theorem DO_soft {w : World} {d : Addr} {es : Es} {ep : Nat} : Soft (DO w d es ep) := fun _ _ => DO_code
theorem tabs_chg {T : List (Addr × Str)} {H H1 : Hp} {a : Addr} {o : HO} (h : H a = some o) (so : Soft o) (c : Chg a H H1) (t : Tabs T H) : Tabs T H1 := by
  intro p hp
  obtain ⟨ps, h1, h2, h3⟩ := t p hp
  have keep : ∀ b u, H b = some u → ¬ Soft u → H1 b = some u := fun b u e ns => by
    rw [c b (fun z => by subst z; rw [h] at e; cases e; exact ns so)]; exact e
  refine ⟨ps, keep _ _ h1 (fun z => z), h2, fun pos cv hc => ?_⟩
  obtain ⟨cc, e1, e2⟩ := h3 pos cv hc
  exact ⟨cc, e1, keep _ _ e2 fun z => z cc p.2 rfl⟩
/-! ### what a call leaves as it was: all but S; the tables stay tables -/
structure Ext (T : List (Addr × Str)) (S : List Addr) (H H1 : Hp) : Prop where
  keep : ∀ b o, H b = some o → b ∉ S → (∀ ps, o ≠ .tbl ps) → H1 b = some o
  tups : ∀ b vs, H b = some (.tup vs) → H1 b = some (.tup vs)
  tabs : Tabs T H → Tabs T H1
  dom : ∀ b, H1 b = none → H b = none
section
variable {T : List (Addr × Str)} {S S1 : List Addr} {H H1 H2 : Hp} {a b p : Addr} {o : HO}
theorem Ext.refl : Ext T S H H := ⟨fun _ _ e _ _ => e, fun _ _ e => e, fun t => t, fun _ e => e⟩
theorem Ext.trans (e : Ext T S H H1) (f : Ext T S H1 H2) : Ext T S H H2 := ⟨fun b o h hb ht => f.keep b o (e.keep b o h hb ht) hb ht, fun b vs h => f.tups b vs (e.tups b vs h), fun t => f.tabs (e.tabs t), fun b h => e.dom b (f.dom b h)⟩
theorem Ext.mono (e : Ext T S H H1) (h : ∀ b ∈ S, b ∈ S1) : Ext T S1 H H1 := ⟨fun b o q hb ht => e.keep b o q (fun z => hb (h b z)) ht, e.tups, e.tabs, e.dom⟩
theorem Ext.nil (e : Ext T [] H H1) : Ext T S H H1 := e.mono fun _ h => by cases h
/-- a later call changes things that were new, or are of S -/
theorem Ext.then_ (e : Ext T S H H1) (f : Ext T S1 H1 H2) (h : ∀ b ∈ S1, H b = none ∨ b ∈ S) : Ext T S H H2 :=
  ⟨fun b o q hb ht => f.keep b o (e.keep b o q hb ht) (fun z => (h b z).elim (fun n => by rw [n] at q; cases q) hb) ht, fun b vs q => f.tups b vs (e.tups b vs q), fun t => f.tabs (e.tabs t), fun b q => e.dom b (f.dom b q)⟩
theorem Ext.then1 (e : Ext T S H H1) (f : Ext T [p] H1 H2) (h : H p = none ∨ p ∈ S) : Ext T S H H2 := e.then_ f fun b hb => by
  rw [List.mem_singleton.mp hb]; exact h
theorem Ext.newC (h : H p = none) (c : Chg p H H1) : Ext T S H H1 := ⟨fun b u e _ _ => by rw [c b (ne_of_none e h)]; exact e, fun b u e => by rw [c b (ne_of_none e h)]; exact e,
  fun t => t.ext fun b u e => by rw [c b (ne_of_none e h)]; exact e, fun b q => by
    by_cases hb : b = p
    · rw [hb]; exact h
    · rw [c b hb] at q; exact q⟩
theorem Ext.new (h : H p = none) : Ext T S H (upd H p o) := Ext.newC h Chg.upd
theorem Ext.andNew (e : Ext T S H H1) (h : H1 p = none) : Ext T S H (upd H1 p o) := e.trans (Ext.new h)
theorem Ext.andNewC (e : Ext T S H H1) (h : H1 p = none) (c : Chg p H1 H2) : Ext T S H H2 := e.trans (Ext.newC h c)
theorem Ext.fresh (e : Ext T S H H1) (h : H1 p = none) : H p = none := e.dom p h
/-- a thing of S, or a new one, is written -/
theorem Ext.chg (e : Ext T S H H1) (h : H1 p = some o) (so : Soft o) (c : Chg p H1 H2) (hn : H2 p ≠ none) (hp : H p = none ∨ p ∈ S) : Ext T S H H2 := by
  refine ⟨fun b u q hb ht => ?_, fun b vs q => ?_, fun t => tabs_chg h so c (e.tabs t), fun b q => ?_⟩
  · rw [c b (fun z => hp.elim (fun n => by rw [← z, q] at n; cases n) (fun m => hb (z ▸ m)))]
    exact e.keep b u q hb ht
  · have q1 := e.tups b vs q
    rw [c b (fun z => by subst z; rw [h] at q1; cases q1; exact so)]
    exact q1
  · by_cases hb : b = p
    · rw [hb] at q; exact absurd q hn
    · rw [c b hb] at q; exact e.dom b q
theorem Ext.lst {xs ys : List V} (e : Ext T S H H1) (h : H1 p = some (.lst xs)) (hp : H p = none ∨ p ∈ S) : Ext T S H (upd H1 p (.lst ys)) := e.chg h True.intro Chg.upd (by rw [upd_same]; exact fun z => by cases z) hp
theorem Ext.dK {xs ys : List (Key × V)} (e : Ext T S H H1) (h : H1 p = some (.dK xs)) (hp : H p = none ∨ p ∈ S) : Ext T S H (upd H1 p (.dK ys)) := e.chg h True.intro Chg.upd (by rw [upd_same]; exact fun z => by cases z) hp
theorem Ext.ins {C dx C1 dx1 : Addr} {xs ys : List (Str × V)} (e : Ext T S H H1) (h : H1 p = some (.ins C dx xs)) (hp : H p = none ∨ p ∈ S) : Ext T S H (upd H1 p (.ins C1 dx1 ys)) := e.chg h True.intro Chg.upd (by rw [upd_same]; exact fun z => by cases z) hp
theorem Ext.dict {w : World} {es es2 : Es} (e : Ext T S H H1) (h : DictE w H1 p es) (c : Chg p H1 H2) (h2 : DictE w H2 p es2) (hp : H p = none ∨ p ∈ S) : Ext T S H H2 := by
  obtain ⟨ep, h1⟩ := h.ob
  obtain ⟨ep2, h3⟩ := h2.ob
  exact e.chg h1 DO_soft c (by rw [h3]; exact fun z => by cases z) hp
/-! what is carried over -/
theorem Ext.dt (e : Ext T S H H1) {v : V} {k : D} (h : Dt H v k) : Dt H1 v k := Dt.ext e.tups _ _ h
theorem Ext.dts (e : Ext T S H H1) {v : List V} {k : List D} (h : DtAll H v k) : DtAll H1 v k := DtAll.ext e.tups _ _ h
theorem Ext.tup (e : Ext T S H H1) {vs : List V} (h : H a = some (.tup vs)) : H1 a = some (.tup vs) := e.tups a vs h
theorem Ext.sqt (e : Ext T S H H1) {K : PySem.W.Frag} {vs : List V} (h : H a = some (.tup vs)) : SqT K H1 a vs := SqT.of (e.tups a vs h)
theorem Ext.at_ (e : Ext T S H H1) (h : H a = some o) (ha : a ∉ S) (ht : ∀ ps, o ≠ .tbl ps := by exact fun _ z => by cases z) : H1 a = some o := e.keep a o h ha ht
theorem Ext.at0 (e : Ext T [] H H1) (h : H a = some o) (ht : ∀ ps, o ≠ .tbl ps := by exact fun _ z => by cases z) : H1 a = some o := e.keep a o h (by simp) ht
theorem Ext.dictE (e : Ext T S H H1) {w : World} {es : Es} (h : DictE w H a es) (ha : a ∉ S) : DictE w H1 a es :=
  h.keep (fun o q => by
    obtain ⟨ep, q1⟩ := h.ob
    rw [q1] at q; cases q
    exact e.keep a _ q1 ha fun ps z => by cases z) e.tups
theorem Ext.some_ (e : Ext T S H H1) (h : H a = some o) : H1 a ≠ none := fun z => by rw [e.dom a z] at h; cases h
theorem Chg.at_ (c : Chg a H H1) (h : H b = some o) (hb : b ≠ a) : H1 b = some o := by rw [c b hb]; exact h
theorem Chg.dt (c : Chg a H H1) (h : H a = some o) (nt : ∀ vs, o ≠ .tup vs) {v : V} {k : D} (hd : Dt H v k) : Dt H1 v k :=
  Dt.ext (fun b vs q => by rw [c b (fun z => by subst z; rw [h] at q; cases q; exact nt _ rfl)]; exact q) _ _ hd
end
end TR
/-! text C2 -/
set_option Elab.async false
set_option linter.all false
set_option maxRecDepth 100000
set_option maxHeartbeats 4000000
namespace TR
open PySem PySem.Spec PyProof.Rows L2 VD LamX PySem.W
/-! ### places -/
abbrev Pl := Int × Int
def plD (p : Pl) : D := .tup [.num p.1, .num p.2]
/-- the order of places -/
def plLe (p q : Pl) : Bool := decide (p.1 < q.1 ∨ (p.1 = q.1 ∧ p.2 ≤ q.2))
theorem plD_inj {p q : Pl} (h : plD p = plD q) : p = q := by
  unfold plD at h
  injection h with h
  injection h with h1 h2
  injection h2 with h2 _
  injection h1 with h1
  injection h2 with h2
  exact Prod.ext h1 h2
theorem pl_tup {H : Hp} {v : V} {p : Pl} (h : Dt H v (plD p)) : ∃ t, v = .ref t ∧ H t = some (.tup [.int p.1, .int p.2]) := by
  cases h with
  | tup h1 h2 =>
    cases h2 with
    | cons a r =>
      cases r with
      | cons b r =>
        cases r
        cases a
        cases b
        exact ⟨_, rfl, h1⟩
theorem pl_dt {H : Hp} {t : Addr} {p : Pl} (h : H t = some (.tup [.int p.1, .int p.2])) : Dt H (.ref t) (plD p) := .tup h (.cons (.int _) (.cons (.int _) .nil))
abbrev PV := V × Pl
def pvEnc (b : PV) : PyData := .tuple [.int b.2.1, .int b.2.2]
def pvLe (p q : PV) : Bool := plLe p.2 q.2
theorem dataLe_pv : dataLe false pvEnc = pvLe := dataLe_ii (fun b : PV => b.2.1) (fun b : PV => b.2.2)
theorem alike_pv (b c : PV) : alike (pvEnc b) (pvEnc c) = true := by simp [pvEnc, alike, alikeAll]
theorem each_of : ∀ {bs : List PV} {us : List Value}, Vals (bs.map (·.1)) us → EachIs (fun (v : Value) (b : PV) => L2.RelV b.1 v) us bs
  | [], us, r => by cases us with
    | nil => exact .nil
    | cons => cases r
  | b :: bs, us, r => by
    cases r with
    | cons r1 r2 => exact .cons r1 (each_of r2)
theorem of_each : ∀ {bs : List PV} {us : List Value}, EachIs (fun (v : Value) (b : PV) => L2.RelV b.1 v) us bs → Vals (bs.map (·.1)) us
  | _, _, .nil => .nil
  | _, _, .cons r t => .cons r (of_each t)
theorem each_reads {X : Cx} {pins : List (Addr × Obj)} {σ : L2.St} {H : Hp} {s : Shared} (I : Inv X pins σ H s) : ∀ {bs : List PV} {us : List Value}, Vals (bs.map (·.1)) us → (∀ b ∈ bs, Dt H b.1 (plD b.2)) → EachIs (fun (v : Value) (b : PV) => ∃ as, Reads s.heap v (pvEnc b) as) us bs
  | [], us, r, _ => by cases us with
    | nil => exact .nil
    | cons => cases r
  | b :: bs, us, r, h => by
    cases r with
    | cons r1 r2 => exact .cons (Dp.reads I _ _ _ (Dt.dp (K := X.K) _ _ (h b List.mem_cons_self)) r1) (each_reads I r2 fun c hc => h c (List.mem_cons_of_mem _ hc))
/-- sorted(xs), xs a list of places -/
def rSortPl (K : PySem.W.Frag) : List V → Hp → VK → Prop := fun vs H Q => ∃ (a : Addr) (bs : List PV), vs = [.ref a] ∧ SqL K H a (bs.map (·.1)) ∧ (∀ b ∈ bs, Dt H b.1 (plD b.2)) ∧
  ∀ l, H l = none → Q (.ref l) (upd H l (.lst ((bs.mergeSort pvLe).map (·.1))))
theorem cr_sortPl {X : Cx} (hu : X.A.units + 64 < cLine) : CallR X (.builtin "sorted") (rSortPl X.K) := by
  intro pins s σ H vs us Q I r h
  obtain ⟨a, bs, rfl, hs, hd, q⟩ := h
  rw [Vals.ref1 r]
  obtain ⟨its, rv, pl, hz⟩ := I.list hs
  rw [List.length_map] at hz
  refine sorted_data (R := fun (v : Value) (b : PV) => L2.RelV b.1 v) (enc := pvEnc) (bs := bs) (vs := its) pl.isList (each_of rv) (each_reads I rv hd) (AllAlike.of alike_pv) (Sortable.tuples fun b => ⟨_, _, rfl⟩) hz
    (fun b _ => by have : (pvEnc b).depth = 1 := by simp [pvEnc, PyData.depth, PyData.depthAll]
                   omega) fun out hl he => ?_
  rw [dataLe_pv] at he
  obtain ⟨ep, hE⟩ := PyProof.Rows.sortedAll_at s.heap its (List.toArray out)
  have hv := of_each he
  have hlen : ((bs.mergeSort pvLe).map (·.1)).length ≤ sizeLine := by rw [List.length_map, List.length_mergeSort]; exact hz
  exact ⟨.ref _, upd H (s.heap.objs.size + 1) (.lst ((bs.mergeSort pvLe).map (·.1))), I.laid (t' := s.toks) (fun _ _ => PyProof.Rows.sortedAll_old) (Nat.le_succ _) ⟨hlen, out, ep, hv, hE⟩, rfl, q _ (I.hok.fresh (Nat.le_succ _))⟩
end TR
/-! text S0 -/
set_option Elab.async false
set_option linter.all false
set_option maxRecDepth 100000
set_option maxHeartbeats 4000000
/-! The text: each def, its names, its scope. -/
namespace TR
open PySem PySem.Spec PyProof.Rows L2
def top (i : Nat) : Stmt := PySem.Challenge.pw_tilesregrow_k06_whole_rounds.main.body.getD i (.Pass ⟨0, 0, 0, 0⟩)
abbrev s_BadNumber_init : Stmt := inClass (top 3) 0
abbrev s_TooMany_init : Stmt := inClass (top 10) 0
abbrev s_is_integer : Stmt := top 12
abbrev s_is_place : Stmt := top 13
abbrev s_is_glue : Stmt := top 14
abbrev s_check_place : Stmt := top 15
abbrev s_check_side : Stmt := top 16
abbrev s_beside : Stmt := top 17
abbrev s_Tile_init : Stmt := inClass (top 18) 0
abbrev s_Tile_glue_at : Stmt := inClass (top 18) 1
abbrev s_TileSet_init : Stmt := inClass (top 19) 0
abbrev s_TileSet_tile_of : Stmt := inClass (top 19) 1
abbrev s_TileSet_with_glue : Stmt := inClass (top 19) 4
abbrev s_TileSet_in_order : Stmt := inClass (top 19) 5
abbrev s_Bed_init : Stmt := inClass (top 20) 0
abbrev s_Bed_places : Stmt := inClass (top 20) 2
abbrev s_Bed_pairs : Stmt := inClass (top 20) 3
abbrev s_Bed_how_many : Stmt := inClass (top 20) 4
abbrev s_Bed_bonds : Stmt := inClass (top 20) 5
abbrev s_Bed_shown_glues : Stmt := inClass (top 20) 6
abbrev s_Bed_fitting : Stmt := inClass (top 20) 7
abbrev s_Bed_may_come : Stmt := inClass (top 20) 9
abbrev s_Bed_check_empty : Stmt := inClass (top 20) 11
abbrev s_Bed_come : Stmt := inClass (top 20) 12
abbrev s_Bed_slip : Stmt := inClass (top 20) 13
abbrev s_Bed_cut : Stmt := inClass (top 20) 14
abbrev s_Bed_lay : Stmt := inClass (top 20) 15
abbrev s_Bed_twin : Stmt := inClass (top 20) 16
abbrev s_check_most : Stmt := top 22
abbrev s_rounds_of : Stmt := top 23
abbrev s_first_each : Stmt := top 24
abbrev s_settle : Stmt := top 25
abbrev s_law_pen : Stmt := top 27
abbrev s_law_draw : Stmt := top 28
abbrev s_law_pick : Stmt := top 29
abbrev s_law_is_whole : Stmt := top 30
abbrev s_law_shuffled : Stmt := top 31
abbrev s_law_t2_next : Stmt := top 32
abbrev s_law_t2_datum : Stmt := top 33
abbrev s_law_t2_patch : Stmt := top 34
abbrev s_law_t2_edge_glues : Stmt := top 35
abbrev s_law_t2_outer_glue : Stmt := top 36
abbrev s_law_t2_late_rival : Stmt := top 37
abbrev s_law_t2_world : Stmt := top 38
abbrev s_law_t2_tile_set : Stmt := top 39
abbrev s_law_t2_bonds : Stmt := top 40
abbrev s_law_t2_fitting : Stmt := top 41
abbrev s_law_t2_may : Stmt := top 42
abbrev s_law_t2_copy : Stmt := top 43
abbrev s_law_t2_pairs : Stmt := top 44
abbrev s_law_t2_rounds : Stmt := top 45
abbrev s_law_t2_near : Stmt := top 46
abbrev s_law_t2_disturb : Stmt := top 47
abbrev s_law_t2_asked : Stmt := top 48
abbrev s_law_t2_rounds_right : Stmt := top 49
abbrev s_law_t2_numbers : Stmt := top 50
abbrev s_law_t2_steps_right : Stmt := top 51
abbrev s_law : Stmt := top 52
def n_BadNumber_init : List Str := ["self", "what", "number"]
theorem sc_BadNumber_init : FnScope n_BadNumber_init ["self", "what", "number"] (defScope s_BadNumber_init) := ⟨rfl, rfl, rfl, by decide +kernel, rfl, by decide +kernel, by decide +kernel⟩
def n_TooMany_init : List Str := ["self", "what", "many", "limit"]
theorem sc_TooMany_init : FnScope n_TooMany_init ["self", "what", "many", "limit"] (defScope s_TooMany_init) := ⟨rfl, rfl, rfl, by decide +kernel, rfl, by decide +kernel, by decide +kernel⟩
def n_is_integer : List Str := ["value"]
theorem sc_is_integer : FnScope n_is_integer ["value"] (defScope s_is_integer) := ⟨rfl, rfl, rfl, by decide +kernel, rfl, by decide +kernel, by decide +kernel⟩
def n_is_place : List Str := ["value"]
theorem sc_is_place : FnScope n_is_place ["value"] (defScope s_is_place) := ⟨rfl, rfl, rfl, by decide +kernel, rfl, by decide +kernel, by decide +kernel⟩
def n_is_glue : List Str := ["value"]
theorem sc_is_glue : FnScope n_is_glue ["value"] (defScope s_is_glue) := ⟨rfl, rfl, rfl, by decide +kernel, rfl, by decide +kernel, by decide +kernel⟩
def n_check_place : List Str := ["value"]
theorem sc_check_place : FnScope n_check_place ["value"] (defScope s_check_place) := ⟨rfl, rfl, rfl, by decide +kernel, rfl, by decide +kernel, by decide +kernel⟩
def n_check_side : List Str := ["value"]
theorem sc_check_side : FnScope n_check_side ["value"] (defScope s_check_side) := ⟨rfl, rfl, rfl, by decide +kernel, rfl, by decide +kernel, by decide +kernel⟩
def n_beside : List Str := ["place", "across", "up"]
theorem sc_beside : FnScope n_beside ["place"] (defScope s_beside) := ⟨rfl, rfl, rfl, by decide +kernel, rfl, by decide +kernel, by decide +kernel⟩
def n_Tile_init : List Str := ["self", "name", "west", "south", "east", "north", "glue"]
theorem sc_Tile_init : FnScope n_Tile_init ["self", "name", "west", "south", "east", "north"] (defScope s_Tile_init) := ⟨rfl, rfl, rfl, by decide +kernel, rfl, by decide +kernel, by decide +kernel⟩
def n_Tile_glue_at : List Str := ["self", "side"]
theorem sc_Tile_glue_at : FnScope n_Tile_glue_at ["self", "side"] (defScope s_Tile_glue_at) := ⟨rfl, rfl, rfl, by decide +kernel, rfl, by decide +kernel, by decide +kernel⟩
def n_TileSet_init : List Str := ["self", "tiles", "tile", "rank", "name", "side", "found"]
theorem sc_TileSet_init : FnScope n_TileSet_init ["self", "tiles"] (defScope s_TileSet_init) := ⟨rfl, rfl, rfl, by decide +kernel, rfl, by decide +kernel, by decide +kernel⟩
def n_TileSet_tile_of : List Str := ["self", "name"]
theorem sc_TileSet_tile_of : FnScope n_TileSet_tile_of ["self", "name"] (defScope s_TileSet_tile_of) := ⟨rfl, rfl, rfl, by decide +kernel, rfl, by decide +kernel, by decide +kernel⟩
def n_TileSet_with_glue : List Str := ["self", "side", "glue"]
theorem sc_TileSet_with_glue : FnScope n_TileSet_with_glue ["self", "side", "glue"] (defScope s_TileSet_with_glue) := ⟨rfl, rfl, rfl, by decide +kernel, rfl, by decide +kernel, by decide +kernel⟩
def n_TileSet_in_order : List Str := ["self", "names"]
theorem sc_TileSet_in_order : FnScope n_TileSet_in_order ["self", "names"] (defScope s_TileSet_in_order) := ⟨rfl, rfl, rfl, by decide +kernel, rfl, by decide +kernel, by decide +kernel⟩
def n_Bed_init : List Str := ["self", "tile_set", "seed_place", "seed_name"]
theorem sc_Bed_init : FnScope n_Bed_init ["self", "tile_set", "seed_place", "seed_name"] (defScope s_Bed_init) := ⟨rfl, rfl, rfl, by decide +kernel, rfl, by decide +kernel, by decide +kernel⟩
def n_Bed_places : List Str := ["self"]
theorem sc_Bed_places : FnScope n_Bed_places ["self"] (defScope s_Bed_places) := ⟨rfl, rfl, rfl, by decide +kernel, rfl, by decide +kernel, by decide +kernel⟩
def n_Bed_pairs : List Str := ["self", "place"]
theorem sc_Bed_pairs : FnScope n_Bed_pairs ["self"] (defScope s_Bed_pairs) := ⟨rfl, rfl, rfl, by decide +kernel, rfl, by decide +kernel, by decide +kernel⟩
def n_Bed_how_many : List Str := ["self"]
theorem sc_Bed_how_many : FnScope n_Bed_how_many ["self"] (defScope s_Bed_how_many) := ⟨rfl, rfl, rfl, by decide +kernel, rfl, by decide +kernel, by decide +kernel⟩
def n_Bed_bonds : List Str := ["self", "place", "name", "tile", "total", "side", "label", "strength"]
theorem sc_Bed_bonds : FnScope n_Bed_bonds ["self", "place", "name"] (defScope s_Bed_bonds) := ⟨rfl, rfl, rfl, by decide +kernel, rfl, by decide +kernel, by decide +kernel⟩
def n_Bed_shown_glues : List Str := ["self", "place", "found", "side", "other", "tile"]
theorem sc_Bed_shown_glues : FnScope n_Bed_shown_glues ["self", "place"] (defScope s_Bed_shown_glues) := ⟨rfl, rfl, rfl, by decide +kernel, rfl, by decide +kernel, by decide +kernel⟩
def n_Bed_fitting : List Str := ["self", "place", "totals", "side", "glue", "name"]
theorem sc_Bed_fitting : FnScope n_Bed_fitting ["self", "place"] (defScope s_Bed_fitting) := ⟨rfl, rfl, rfl, by decide +kernel, rfl, by decide +kernel, by decide +kernel⟩
def n_Bed_may_come : List Str := ["self", "place", "name"]
theorem sc_Bed_may_come : FnScope n_Bed_may_come ["self"] (defScope s_Bed_may_come) := ⟨rfl, rfl, rfl, by decide +kernel, rfl, by decide +kernel, by decide +kernel⟩
def n_Bed_check_empty : List Str := ["self", "place", "name"]
theorem sc_Bed_check_empty : FnScope n_Bed_check_empty ["self", "place", "name"] (defScope s_Bed_check_empty) := ⟨rfl, rfl, rfl, by decide +kernel, rfl, by decide +kernel, by decide +kernel⟩
def n_Bed_come : List Str := ["self", "place", "name", "bonds"]
theorem sc_Bed_come : FnScope n_Bed_come ["self", "place", "name"] (defScope s_Bed_come) := ⟨rfl, rfl, rfl, by decide +kernel, rfl, by decide +kernel, by decide +kernel⟩
def n_Bed_slip : List Str := ["self", "place", "name"]
theorem sc_Bed_slip : FnScope n_Bed_slip ["self", "place", "name"] (defScope s_Bed_slip) := ⟨rfl, rfl, rfl, by decide +kernel, rfl, by decide +kernel, by decide +kernel⟩
def n_Bed_cut : List Str := ["self", "places", "place", "gone"]
theorem sc_Bed_cut : FnScope n_Bed_cut ["self", "places"] (defScope s_Bed_cut) := ⟨rfl, rfl, rfl, by decide +kernel, rfl, by decide +kernel, by decide +kernel⟩
def n_Bed_lay : List Str := ["self", "place", "name", "one", "names"]
theorem sc_Bed_lay : FnScope n_Bed_lay ["self", "place", "name"] (defScope s_Bed_lay) := ⟨rfl, rfl, rfl, by decide +kernel, rfl, by decide +kernel, by decide +kernel⟩
def n_Bed_twin : List Str := ["self", "other", "place"]
theorem sc_Bed_twin : FnScope n_Bed_twin ["self"] (defScope s_Bed_twin) := ⟨rfl, rfl, rfl, by decide +kernel, rfl, by decide +kernel, by decide +kernel⟩
def n_check_most : List Str := ["most"]
theorem sc_check_most : FnScope n_check_most ["most"] (defScope s_check_most) := ⟨rfl, rfl, rfl, by decide +kernel, rfl, by decide +kernel, by decide +kernel⟩
def n_rounds_of : List Str := ["bed", "most", "trial", "found", "lot", "many", "place", "name"]
theorem sc_rounds_of : FnScope n_rounds_of ["bed", "most"] (defScope s_rounds_of) := ⟨rfl, rfl, rfl, by decide +kernel, rfl, by decide +kernel, by decide +kernel⟩
def n_first_each : List Str := ["pairs", "found", "place", "name"]
theorem sc_first_each : FnScope n_first_each ["pairs"] (defScope s_first_each) := ⟨rfl, rfl, rfl, by decide +kernel, rfl, by decide +kernel, by decide +kernel⟩
def n_settle : List Str := ["bed", "most", "many", "lot", "place", "name"]
theorem sc_settle : FnScope n_settle ["bed", "most"] (defScope s_settle) := ⟨rfl, rfl, rfl, by decide +kernel, rfl, by decide +kernel, by decide +kernel⟩
def n_law_pen : List Str := ["_law_script", "_law_fold", "_law_cell"]
theorem sc_law_pen : FnScope n_law_pen ["_law_script"] (defScope s_law_pen) := ⟨rfl, rfl, rfl, by decide +kernel, rfl, by decide +kernel, by decide +kernel⟩
def n_law_draw : List Str := ["_law_pen_here", "_law_many", "_law_cell", "_law_digit", "_law_blend"]
theorem sc_law_draw : FnScope n_law_draw ["_law_pen_here", "_law_many"] (defScope s_law_draw) := ⟨rfl, rfl, rfl, by decide +kernel, rfl, by decide +kernel, by decide +kernel⟩
def n_law_pick : List Str := ["_law_pen_here", "_law_some"]
theorem sc_law_pick : FnScope n_law_pick ["_law_pen_here", "_law_some"] (defScope s_law_pick) := ⟨rfl, rfl, rfl, by decide +kernel, rfl, by decide +kernel, by decide +kernel⟩
def n_law_is_whole : List Str := ["_law_value"]
theorem sc_law_is_whole : FnScope n_law_is_whole ["_law_value"] (defScope s_law_is_whole) := ⟨rfl, rfl, rfl, by decide +kernel, rfl, by decide +kernel, by decide +kernel⟩
def n_law_shuffled : List Str := ["_law_pen_here", "_law_some", "_law_left", "_law_found", "_law_lap", "_law_k"]
theorem sc_law_shuffled : FnScope n_law_shuffled ["_law_pen_here", "_law_some"] (defScope s_law_shuffled) := ⟨rfl, rfl, rfl, by decide +kernel, rfl, by decide +kernel, by decide +kernel⟩
def n_law_t2_next : List Str := ["_law_place", "_law_side"]
theorem sc_law_t2_next : FnScope n_law_t2_next ["_law_place", "_law_side"] (defScope s_law_t2_next) := ⟨rfl, rfl, rfl, by decide +kernel, rfl, by decide +kernel, by decide +kernel⟩
def n_law_t2_datum : List Str := ["_law_pen_here", "_law_serial", "_law_found", "_law_lap"]
theorem sc_law_t2_datum : FnScope n_law_t2_datum ["_law_pen_here", "_law_serial"] (defScope s_law_t2_datum) := ⟨rfl, rfl, rfl, by decide +kernel, rfl, by decide +kernel, by decide +kernel⟩
def n_law_t2_patch : List Str := ["_law_pen_here", "_law_many", "_law_cells", "_law_lap", "_law_free", "_law_cell", "_law_side", "_law_one", "_law_tight"]
theorem sc_law_t2_patch : FnScope n_law_t2_patch ["_law_pen_here", "_law_many"] (defScope s_law_t2_patch) := ⟨rfl, rfl, rfl, by decide +kernel, rfl, by decide +kernel, by decide +kernel⟩
def n_law_t2_edge_glues : List Str := ["_law_pen_here", "_law_cells", "_law_mixture", "_law_glues", "_law_serial", "_law_at", "_law_side", "_law_ahead", "_law_strong", "_law_k", "_law_label", "_law_strength"]
theorem sc_law_t2_edge_glues : FnScope n_law_t2_edge_glues ["_law_pen_here", "_law_cells", "_law_mixture"] (defScope s_law_t2_edge_glues) := ⟨rfl, rfl, rfl, by decide +kernel, rfl, by decide +kernel, by decide +kernel⟩
def n_law_t2_outer_glue : List Str := ["_law_pen_here", "_law_mixture", "_law_way"]
theorem sc_law_t2_outer_glue : FnScope n_law_t2_outer_glue ["_law_pen_here", "_law_mixture"] (defScope s_law_t2_outer_glue) := ⟨rfl, rfl, rfl, by decide +kernel, rfl, by decide +kernel, by decide +kernel⟩
def n_law_t2_late_rival : List Str := ["_law_glues", "_law_cells", "_law_at", "_law_kind", "_law_side"]
theorem sc_law_t2_late_rival : FnScope n_law_t2_late_rival ["_law_glues", "_law_cells", "_law_at"] (defScope s_law_t2_late_rival) := ⟨rfl, rfl, rfl, by decide +kernel, rfl, by decide +kernel, by decide +kernel⟩
def n_law_t2_world : List Str := ["_law_pen_here", "_law_many", "_law_mixture", "_law_cells", "_law_kinds", "_law_glues", "_law_cell", "_law_side", "_law_kind", "_law_seed_kind", "_law_lap", "_law_kept", "_law_one", "_law_turn", "_law_loose", "_law_own", "_law_names", "_law_k", "_law_name", "_law_far"]
theorem sc_law_t2_world : FnScope n_law_t2_world ["_law_pen_here", "_law_many", "_law_mixture"] (defScope s_law_t2_world) := ⟨rfl, rfl, rfl, by decide +kernel, rfl, by decide +kernel, by decide +kernel⟩
def n_law_t2_tile_set : List Str := ["_law_pen_here", "_law_own", "_law_tiles", "_law_name", "_law_kind"]
theorem sc_law_t2_tile_set : FnScope n_law_t2_tile_set ["_law_pen_here", "_law_own"] (defScope s_law_t2_tile_set) := ⟨rfl, rfl, rfl, by decide +kernel, rfl, by decide +kernel, by decide +kernel⟩
def n_law_t2_bonds : List Str := ["_law_own", "_law_bed", "_law_place", "_law_name", "_law_total", "_law_side", "_law_other", "_law_glue"]
theorem sc_law_t2_bonds : FnScope n_law_t2_bonds ["_law_own", "_law_bed", "_law_place", "_law_name"] (defScope s_law_t2_bonds) := ⟨rfl, rfl, rfl, by decide +kernel, rfl, by decide +kernel, by decide +kernel⟩
def n_law_t2_fitting : List Str := ["_law_own", "_law_bed", "_law_place", "_law_shown", "_law_side", "_law_other", "_law_name"]
theorem sc_law_t2_fitting : FnScope n_law_t2_fitting ["_law_own", "_law_bed", "_law_place"] (defScope s_law_t2_fitting) := ⟨rfl, rfl, rfl, by decide +kernel, rfl, by decide +kernel, by decide +kernel⟩
def n_law_t2_may : List Str := ["_law_own", "_law_bed", "_law_near", "_law_found", "_law_place", "_law_side", "_law_name"]
theorem sc_law_t2_may : FnScope n_law_t2_may ["_law_own", "_law_bed"] (defScope s_law_t2_may) := ⟨rfl, rfl, rfl, by decide +kernel, rfl, by decide +kernel, by decide +kernel⟩
def n_law_t2_copy : List Str := ["_law_bed", "_law_found", "_law_place"]
theorem sc_law_t2_copy : FnScope n_law_t2_copy ["_law_bed"] (defScope s_law_t2_copy) := ⟨rfl, rfl, rfl, by decide +kernel, rfl, by decide +kernel, by decide +kernel⟩
def n_law_t2_pairs : List Str := ["_law_bed", "_law_place"]
theorem sc_law_t2_pairs : FnScope n_law_t2_pairs ["_law_bed"] (defScope s_law_t2_pairs) := ⟨rfl, rfl, rfl, by decide +kernel, rfl, by decide +kernel, by decide +kernel⟩
def n_law_t2_rounds : List Str := ["_law_own", "_law_bed", "_law_most", "_law_here", "_law_rounds", "_law_lap", "_law_lot", "_law_pair", "_law_place", "_law_name"]
theorem sc_law_t2_rounds : FnScope n_law_t2_rounds ["_law_own", "_law_bed", "_law_most"] (defScope s_law_t2_rounds) := ⟨rfl, rfl, rfl, by decide +kernel, rfl, by decide +kernel, by decide +kernel⟩
def n_law_t2_near : List Str := ["_law_pen_here", "_law_own", "_law_bed", "_law_place", "_law_lap"]
theorem sc_law_t2_near : FnScope n_law_t2_near ["_law_pen_here", "_law_own", "_law_bed"] (defScope s_law_t2_near) := ⟨rfl, rfl, rfl, by decide +kernel, rfl, by decide +kernel, by decide +kernel⟩
def n_law_t2_disturb : List Str := ["_law_pen_here", "_law_own", "_law_bed", "_law_told", "_law_many", "_law_lap", "_law_way", "_law_pairs", "_law_place", "_law_name"]
theorem sc_law_t2_disturb : FnScope n_law_t2_disturb ["_law_pen_here", "_law_own", "_law_bed", "_law_told", "_law_many"] (defScope s_law_t2_disturb) := ⟨rfl, rfl, rfl, by decide +kernel, rfl, by decide +kernel, by decide +kernel⟩
def n_law_t2_asked : List Str := ["_law_what", "_law_bed", "_law_most", "_law_told", "e"]
theorem sc_law_t2_asked : FnScope n_law_t2_asked ["_law_what", "_law_bed", "_law_most"] (defScope s_law_t2_asked) := ⟨rfl, rfl, rfl, by decide +kernel, rfl, by decide +kernel, by decide +kernel⟩
def n_law_t2_rounds_right : List Str := ["_law_pen_here", "_law_own", "_law_bed", "_law_told", "_law_most", "_law_before", "_law_due", "_law_rounds", "_law_many", "_law_levels", "_law_lot", "_law_place", "_law_name", "_law_k"]
theorem sc_law_t2_rounds_right : FnScope n_law_t2_rounds_right ["_law_pen_here", "_law_own", "_law_bed", "_law_told", "_law_most"] (defScope s_law_t2_rounds_right) := ⟨rfl, rfl, rfl, by decide +kernel, rfl, by decide +kernel, by decide +kernel⟩
def n_law_t2_numbers : List Str := ["_law_rounds", "_law_numbers", "_law_k", "_law_place", "_law_name"]
theorem sc_law_t2_numbers : FnScope n_law_t2_numbers ["_law_rounds"] (defScope s_law_t2_numbers) := ⟨rfl, rfl, rfl, by decide +kernel, rfl, by decide +kernel, by decide +kernel⟩
def n_law_t2_steps_right : List Str := ["_law_pen_here", "_law_start", "_law_numbers", "_law_here", "_law_step", "_law_pairs", "_law_pair", "_law_lot", "_law_place", "_law_name"]
theorem sc_law_t2_steps_right : FnScope n_law_t2_steps_right ["_law_pen_here", "_law_start", "_law_numbers"] (defScope s_law_t2_steps_right) := ⟨rfl, rfl, rfl, by decide +kernel, rfl, by decide +kernel, by decide +kernel⟩
def n_law : List Str := ["_law_script", "_law_pen_here", "_law_lap", "_law_own", "_law_made", "_law_bed", "_law_told", "_law_most", "_law_full", "_law_holes", "_law_place", "_law_wide", "_law_narrow", "_law_way", "_law_numbers", "_law_fewer", "_law_alone"]
theorem sc_law : FnScope n_law ["_law_script"] (defScope s_law) := ⟨rfl, rfl, rfl, by decide +kernel, rfl, by decide +kernel, by decide +kernel⟩
end TR
/-! text H1 -/
set_option Elab.async false
set_option linter.all false
set_option maxRecDepth 100000
set_option maxHeartbeats 0
/-! The head: facts by names, the run. -/
namespace TR
open PySem PySem.Spec PyProof.Rows L2
/-- an own exception class over ValueError with its __init__ -/
def oexB (K : PySem.W.Frag) (x : Str) : Bool := (match K.lookup (He.ga K x) with
  | some ⟨.type "type", _, .cls cd, sl⟩ => (match cd.mro, sl.toList with
    | .ref C' :: bm, [_, _, _, _, some (.builtin n), _] => C' == He.ga K x && n == "ValueError.__new__" && !cd.hasDel && cd.hasDict && PySem.HandSPX.refsVE bm
    | _, _ => false)
  | _ => false) && (He.eqO (PySem.W.findIn K (.ref (He.ga K x)) "__setattr__") (some (some (.builtin "object.__setattr__"))) && (decide (PySem.W.subIn K (.ref (He.ga K x)) (.type "BaseException") = some true) && (decide (PySem.W.typeIn K (.ref (He.ga K x)) = some (.type "type")) &&
    (PySem.W.keepIn K (.ref (He.ga K x)) && (He.eqO (PySem.W.findIn K (.ref (He.ga K x)) "__init__") (some (some (.ref (He.ma K (He.ga K x) "__init__")))) && decide (PySem.W.typeIn K (.ref (He.ma K (He.ga K x) "__init__")) = some (.type "function")))))))
theorem oexB_ok {K : PySem.W.Frag} {x : Str} (h : oexB K x = true) : OexC K (He.ga K x) ∧ PySem.W.findIn K (.ref (He.ga K x)) "__init__" = some (some (.ref (He.ma K (He.ga K x) "__init__"))) ∧ PySem.W.typeIn K (.ref (He.ma K (He.ga K x) "__init__")) = some (.type "function") := by
  obtain ⟨h0, h⟩ := He.ba h
  obtain ⟨h1, h⟩ := He.ba h
  obtain ⟨h2, h⟩ := He.ba h
  obtain ⟨h3, h⟩ := He.ba h
  obtain ⟨h4, h⟩ := He.ba h
  obtain ⟨h5, h6⟩ := He.ba h
  refine ⟨⟨?_, He.eqO_ok h1, of_decide_eq_true h2, of_decide_eq_true h3, h4⟩, He.eqO_ok h5, of_decide_eq_true h6⟩
  split at h0
  · rename_i dd cd sl ho
    split at h0
    · rename_i C' bm k0 k1 k2 k3 n k5 hm hs
      simp only [Bool.and_eq_true, beq_iff_eq, Bool.not_eq_true'] at h0
      obtain ⟨⟨⟨⟨rfl, rfl⟩, hdel⟩, hdi⟩, ht⟩ := h0
      obtain ⟨nm, bs, mro, ns, qn, hd, sn, sub, ab, col, del⟩ := cd
      dsimp only at hm hdel hdi
      subst hm hdel hdi
      have hsl : sl = #[k0, k1, k2, k3, some (.builtin "ValueError.__new__"), k5] := by
        obtain ⟨l⟩ := sl
        simp only at hs
        rw [hs]
      subst hsl
      exact ⟨nm, qn, ns, bs, bm, sn, sub, ab, col, dd, k0, k1, k2, k3, k5, ho, ht⟩
    · cases h0
  · cases h0
def d_BadNumber_init : He.DefD := ⟨("BadNumber", some "__init__"), "__init__", "BadNumber.__init__", defArgs s_BadNumber_init, defBody s_BadNumber_init, defScope s_BadNumber_init, [], []⟩
def d_TooMany_init : He.DefD := ⟨("TooMany", some "__init__"), "__init__", "TooMany.__init__", defArgs s_TooMany_init, defBody s_TooMany_init, defScope s_TooMany_init, [], []⟩
def d_is_integer : He.DefD := ⟨("is_integer", none), "is_integer", "is_integer", defArgs s_is_integer, defBody s_is_integer, defScope s_is_integer, [], []⟩
def d_is_place : He.DefD := ⟨("is_place", none), "is_place", "is_place", defArgs s_is_place, defBody s_is_place, defScope s_is_place, [], []⟩
def d_is_glue : He.DefD := ⟨("is_glue", none), "is_glue", "is_glue", defArgs s_is_glue, defBody s_is_glue, defScope s_is_glue, [], []⟩
def d_check_place : He.DefD := ⟨("check_place", none), "check_place", "check_place", defArgs s_check_place, defBody s_check_place, defScope s_check_place, [], []⟩
def d_check_side : He.DefD := ⟨("check_side", none), "check_side", "check_side", defArgs s_check_side, defBody s_check_side, defScope s_check_side, [], []⟩
def d_beside : He.DefD := ⟨("beside", none), "beside", "beside", defArgs s_beside, defBody s_beside, defScope s_beside, [], []⟩
def d_Tile_init : He.DefD := ⟨("Tile", some "__init__"), "__init__", "Tile.__init__", defArgs s_Tile_init, defBody s_Tile_init, defScope s_Tile_init, [], []⟩
def d_Tile_glue_at : He.DefD := ⟨("Tile", some "glue_at"), "glue_at", "Tile.glue_at", defArgs s_Tile_glue_at, defBody s_Tile_glue_at, defScope s_Tile_glue_at, [], []⟩
def d_TileSet_init : He.DefD := ⟨("TileSet", some "__init__"), "__init__", "TileSet.__init__", defArgs s_TileSet_init, defBody s_TileSet_init, defScope s_TileSet_init, [], []⟩
def d_TileSet_tile_of : He.DefD := ⟨("TileSet", some "tile_of"), "tile_of", "TileSet.tile_of", defArgs s_TileSet_tile_of, defBody s_TileSet_tile_of, defScope s_TileSet_tile_of, [], []⟩
def d_TileSet_with_glue : He.DefD := ⟨("TileSet", some "with_glue"), "with_glue", "TileSet.with_glue", defArgs s_TileSet_with_glue, defBody s_TileSet_with_glue, defScope s_TileSet_with_glue, [], []⟩
def d_TileSet_in_order : He.DefD := ⟨("TileSet", some "in_order"), "in_order", "TileSet.in_order", defArgs s_TileSet_in_order, defBody s_TileSet_in_order, defScope s_TileSet_in_order, [], []⟩
def d_Bed_init : He.DefD := ⟨("Bed", some "__init__"), "__init__", "Bed.__init__", defArgs s_Bed_init, defBody s_Bed_init, defScope s_Bed_init, [], []⟩
def d_Bed_places : He.DefD := ⟨("Bed", some "places"), "places", "Bed.places", defArgs s_Bed_places, defBody s_Bed_places, defScope s_Bed_places, [], []⟩
def d_Bed_pairs : He.DefD := ⟨("Bed", some "pairs"), "pairs", "Bed.pairs", defArgs s_Bed_pairs, defBody s_Bed_pairs, defScope s_Bed_pairs, [], []⟩
def d_Bed_how_many : He.DefD := ⟨("Bed", some "how_many"), "how_many", "Bed.how_many", defArgs s_Bed_how_many, defBody s_Bed_how_many, defScope s_Bed_how_many, [], []⟩
def d_Bed_bonds : He.DefD := ⟨("Bed", some "bonds"), "bonds", "Bed.bonds", defArgs s_Bed_bonds, defBody s_Bed_bonds, defScope s_Bed_bonds, [], []⟩
def d_Bed_shown_glues : He.DefD := ⟨("Bed", some "shown_glues"), "shown_glues", "Bed.shown_glues", defArgs s_Bed_shown_glues, defBody s_Bed_shown_glues, defScope s_Bed_shown_glues, [], []⟩
def d_Bed_fitting : He.DefD := ⟨("Bed", some "fitting"), "fitting", "Bed.fitting", defArgs s_Bed_fitting, defBody s_Bed_fitting, defScope s_Bed_fitting, [], []⟩
def d_Bed_may_come : He.DefD := ⟨("Bed", some "may_come"), "may_come", "Bed.may_come", defArgs s_Bed_may_come, defBody s_Bed_may_come, defScope s_Bed_may_come, [], []⟩
def d_Bed_check_empty : He.DefD := ⟨("Bed", some "check_empty"), "check_empty", "Bed.check_empty", defArgs s_Bed_check_empty, defBody s_Bed_check_empty, defScope s_Bed_check_empty, [], []⟩
def d_Bed_come : He.DefD := ⟨("Bed", some "come"), "come", "Bed.come", defArgs s_Bed_come, defBody s_Bed_come, defScope s_Bed_come, [], []⟩
def d_Bed_slip : He.DefD := ⟨("Bed", some "slip"), "slip", "Bed.slip", defArgs s_Bed_slip, defBody s_Bed_slip, defScope s_Bed_slip, [], []⟩
def d_Bed_cut : He.DefD := ⟨("Bed", some "cut"), "cut", "Bed.cut", defArgs s_Bed_cut, defBody s_Bed_cut, defScope s_Bed_cut, [], []⟩
def d_Bed_lay : He.DefD := ⟨("Bed", some "lay"), "lay", "Bed.lay", defArgs s_Bed_lay, defBody s_Bed_lay, defScope s_Bed_lay, [], []⟩
def d_Bed_twin : He.DefD := ⟨("Bed", some "twin"), "twin", "Bed.twin", defArgs s_Bed_twin, defBody s_Bed_twin, defScope s_Bed_twin, [], []⟩
def d_check_most : He.DefD := ⟨("check_most", none), "check_most", "check_most", defArgs s_check_most, defBody s_check_most, defScope s_check_most, [], []⟩
def d_rounds_of : He.DefD := ⟨("rounds_of", none), "rounds_of", "rounds_of", defArgs s_rounds_of, defBody s_rounds_of, defScope s_rounds_of, [], []⟩
def d_first_each : He.DefD := ⟨("first_each", none), "first_each", "first_each", defArgs s_first_each, defBody s_first_each, defScope s_first_each, [], []⟩
def d_settle : He.DefD := ⟨("settle", none), "settle", "settle", defArgs s_settle, defBody s_settle, defScope s_settle, [], []⟩
def d_law_pen : He.DefD := ⟨("_law_pen", none), "_law_pen", "_law_pen", defArgs s_law_pen, defBody s_law_pen, defScope s_law_pen, [], []⟩
def d_law_draw : He.DefD := ⟨("_law_draw", none), "_law_draw", "_law_draw", defArgs s_law_draw, defBody s_law_draw, defScope s_law_draw, [], []⟩
def d_law_pick : He.DefD := ⟨("_law_pick", none), "_law_pick", "_law_pick", defArgs s_law_pick, defBody s_law_pick, defScope s_law_pick, [], []⟩
def d_law_is_whole : He.DefD := ⟨("_law_is_whole", none), "_law_is_whole", "_law_is_whole", defArgs s_law_is_whole, defBody s_law_is_whole, defScope s_law_is_whole, [], []⟩
def d_law_shuffled : He.DefD := ⟨("_law_shuffled", none), "_law_shuffled", "_law_shuffled", defArgs s_law_shuffled, defBody s_law_shuffled, defScope s_law_shuffled, [], []⟩
def d_law_t2_next : He.DefD := ⟨("_law_t2_next", none), "_law_t2_next", "_law_t2_next", defArgs s_law_t2_next, defBody s_law_t2_next, defScope s_law_t2_next, [], []⟩
def d_law_t2_datum : He.DefD := ⟨("_law_t2_datum", none), "_law_t2_datum", "_law_t2_datum", defArgs s_law_t2_datum, defBody s_law_t2_datum, defScope s_law_t2_datum, [], []⟩
def d_law_t2_patch : He.DefD := ⟨("_law_t2_patch", none), "_law_t2_patch", "_law_t2_patch", defArgs s_law_t2_patch, defBody s_law_t2_patch, defScope s_law_t2_patch, [], []⟩
def d_law_t2_edge_glues : He.DefD := ⟨("_law_t2_edge_glues", none), "_law_t2_edge_glues", "_law_t2_edge_glues", defArgs s_law_t2_edge_glues, defBody s_law_t2_edge_glues, defScope s_law_t2_edge_glues, [], []⟩
def d_law_t2_outer_glue : He.DefD := ⟨("_law_t2_outer_glue", none), "_law_t2_outer_glue", "_law_t2_outer_glue", defArgs s_law_t2_outer_glue, defBody s_law_t2_outer_glue, defScope s_law_t2_outer_glue, [], []⟩
def d_law_t2_late_rival : He.DefD := ⟨("_law_t2_late_rival", none), "_law_t2_late_rival", "_law_t2_late_rival", defArgs s_law_t2_late_rival, defBody s_law_t2_late_rival, defScope s_law_t2_late_rival, [], []⟩
def d_law_t2_world : He.DefD := ⟨("_law_t2_world", none), "_law_t2_world", "_law_t2_world", defArgs s_law_t2_world, defBody s_law_t2_world, defScope s_law_t2_world, [], []⟩
def d_law_t2_tile_set : He.DefD := ⟨("_law_t2_tile_set", none), "_law_t2_tile_set", "_law_t2_tile_set", defArgs s_law_t2_tile_set, defBody s_law_t2_tile_set, defScope s_law_t2_tile_set, [], []⟩
def d_law_t2_bonds : He.DefD := ⟨("_law_t2_bonds", none), "_law_t2_bonds", "_law_t2_bonds", defArgs s_law_t2_bonds, defBody s_law_t2_bonds, defScope s_law_t2_bonds, [], []⟩
def d_law_t2_fitting : He.DefD := ⟨("_law_t2_fitting", none), "_law_t2_fitting", "_law_t2_fitting", defArgs s_law_t2_fitting, defBody s_law_t2_fitting, defScope s_law_t2_fitting, [], []⟩
def d_law_t2_may : He.DefD := ⟨("_law_t2_may", none), "_law_t2_may", "_law_t2_may", defArgs s_law_t2_may, defBody s_law_t2_may, defScope s_law_t2_may, [], []⟩
def d_law_t2_copy : He.DefD := ⟨("_law_t2_copy", none), "_law_t2_copy", "_law_t2_copy", defArgs s_law_t2_copy, defBody s_law_t2_copy, defScope s_law_t2_copy, [], []⟩
def d_law_t2_pairs : He.DefD := ⟨("_law_t2_pairs", none), "_law_t2_pairs", "_law_t2_pairs", defArgs s_law_t2_pairs, defBody s_law_t2_pairs, defScope s_law_t2_pairs, [], []⟩
def d_law_t2_rounds : He.DefD := ⟨("_law_t2_rounds", none), "_law_t2_rounds", "_law_t2_rounds", defArgs s_law_t2_rounds, defBody s_law_t2_rounds, defScope s_law_t2_rounds, [], []⟩
def d_law_t2_near : He.DefD := ⟨("_law_t2_near", none), "_law_t2_near", "_law_t2_near", defArgs s_law_t2_near, defBody s_law_t2_near, defScope s_law_t2_near, [], []⟩
def d_law_t2_disturb : He.DefD := ⟨("_law_t2_disturb", none), "_law_t2_disturb", "_law_t2_disturb", defArgs s_law_t2_disturb, defBody s_law_t2_disturb, defScope s_law_t2_disturb, [], []⟩
def d_law_t2_asked : He.DefD := ⟨("_law_t2_asked", none), "_law_t2_asked", "_law_t2_asked", defArgs s_law_t2_asked, defBody s_law_t2_asked, defScope s_law_t2_asked, [], []⟩
def d_law_t2_rounds_right : He.DefD := ⟨("_law_t2_rounds_right", none), "_law_t2_rounds_right", "_law_t2_rounds_right", defArgs s_law_t2_rounds_right, defBody s_law_t2_rounds_right, defScope s_law_t2_rounds_right, [], []⟩
def d_law_t2_numbers : He.DefD := ⟨("_law_t2_numbers", none), "_law_t2_numbers", "_law_t2_numbers", defArgs s_law_t2_numbers, defBody s_law_t2_numbers, defScope s_law_t2_numbers, [], []⟩
def d_law_t2_steps_right : He.DefD := ⟨("_law_t2_steps_right", none), "_law_t2_steps_right", "_law_t2_steps_right", defArgs s_law_t2_steps_right, defBody s_law_t2_steps_right, defScope s_law_t2_steps_right, [], []⟩
def d_law : He.DefD := ⟨("law", none), "law", "law", defArgs s_law, defBody s_law, defScope s_law, [], []⟩
def fn0 : List He.DefD := [d_BadNumber_init, d_TooMany_init, d_is_integer, d_is_place, d_is_glue, d_check_place, d_check_side, d_beside, d_Tile_init, d_Tile_glue_at, d_TileSet_init, d_TileSet_tile_of, d_TileSet_with_glue, d_TileSet_in_order, d_Bed_init, d_Bed_places, d_Bed_pairs, d_Bed_how_many, d_Bed_bonds, d_Bed_shown_glues, d_Bed_fitting, d_Bed_may_come, d_Bed_check_empty, d_Bed_come, d_Bed_slip, d_Bed_cut, d_Bed_lay, d_Bed_twin, d_check_most, d_rounds_of]
def fn1 : List He.DefD := [d_first_each, d_settle, d_law_pen, d_law_draw, d_law_pick, d_law_is_whole, d_law_shuffled, d_law_t2_next, d_law_t2_datum, d_law_t2_patch, d_law_t2_edge_glues, d_law_t2_outer_glue, d_law_t2_late_rival, d_law_t2_world, d_law_t2_tile_set, d_law_t2_bonds, d_law_t2_fitting, d_law_t2_may, d_law_t2_copy, d_law_t2_pairs, d_law_t2_rounds, d_law_t2_near, d_law_t2_disturb, d_law_t2_asked, d_law_t2_rounds_right, d_law_t2_numbers, d_law_t2_steps_right, d_law]
def fn : List He.DefD := fn0 ++ fn1
def fa0 : List He.Fa := [.glo "BadNumber", .glo "TooMany", .glo "is_integer", .glo "is_place", .glo "is_glue", .glo "check_place", .glo "check_side", .glo "beside", .glo "Tile", .glo "TileSet", .glo "Bed", .glo "check_most", .glo "rounds_of", .glo "first_each", .glo "settle", .glo "_law_pen", .glo "_law_draw", .glo "_law_pick", .glo "_law_is_whole", .glo "_law_shuffled", .glo "_law_t2_next", .glo "_law_t2_datum", .glo "_law_t2_patch", .glo "_law_t2_edge_glues", .glo "_law_t2_outer_glue", .glo "_law_t2_late_rival", .glo "_law_t2_world", .glo "_law_t2_tile_set", .glo "_law_t2_bonds", .glo "_law_t2_fitting"]
def fa1 : List He.Fa := [.glo "_law_t2_may", .glo "_law_t2_copy", .glo "_law_t2_pairs", .glo "_law_t2_rounds", .glo "_law_t2_near", .glo "_law_t2_disturb", .glo "_law_t2_asked", .glo "_law_t2_rounds_right", .glo "_law_t2_numbers", .glo "_law_t2_steps_right", .glo "law", .free "isinstance", .free "int", .free "bool", .free "tuple", .free "len", .free "all", .free "list", .free "sorted", .free "repr", .free "enumerate", .free "range", .free "set", .free "sum", .free "str", .cls "Tile", .mkr "Tile", .cls "TileSet", .mkr "TileSet", .cls "Bed"]
def fa2 : List He.Fa := [.mkr "Bed", .noat "Tile" "name", .noat "Tile" "west", .noat "Tile" "south", .noat "Tile" "east", .noat "Tile" "north", .noat "TileSet" "tiles", .noat "TileSet" "tiles_by_name", .noat "TileSet" "ordered_names", .noat "TileSet" "ranks", .noat "TileSet" "names_by_glue", .noat "Bed" "tile_set", .noat "Bed" "seed_place", .noat "Bed" "seed_name", .noat "Bed" "lying", .noat "Bed" "coming", .noat "BadNumber" "what", .noat "BadNumber" "number", .noat "TooMany" "what", .noat "TooMany" "many", .noat "TooMany" "limit", .meth "Tile" "glue_at", .meth "TileSet" "tile_of", .meth "TileSet" "with_glue", .meth "TileSet" "in_order", .meth "Bed" "places", .meth "Bed" "pairs", .meth "Bed" "how_many", .meth "Bed" "bonds", .meth "Bed" "shown_glues"]
def fa3 : List He.Fa := [.meth "Bed" "fitting", .meth "Bed" "may_come", .meth "Bed" "check_empty", .meth "Bed" "come", .meth "Bed" "slip", .meth "Bed" "cut", .meth "Bed" "lay", .meth "Bed" "twin", .keep "BadNumber", .exm "BadNumber" "BadNumber" true, .exm "BadNumber" "TooMany" false, .keep "TooMany", .exm "TooMany" "BadNumber" false, .exm "TooMany" "TooMany" true]
def fa : List He.Fa := fa0 ++ fa1 ++ fa2 ++ fa3
def nm0 : List Str := ["_wall", "TileError", "BadNumber", "BadTile", "BadPlace", "NoName", "TakenName", "Taken", "Loose", "TooMany", "is_integer", "is_place", "is_glue", "check_place", "check_side", "beside", "Tile", "TileSet", "Bed", "check_most", "rounds_of", "first_each", "settle", "_law_pen", "_law_draw", "_law_pick", "_law_is_whole", "_law_shuffled", "_law_t2_next", "_law_t2_datum"]
def nm1 : List Str := ["_law_t2_patch", "_law_t2_edge_glues", "_law_t2_outer_glue", "_law_t2_late_rival", "_law_t2_world", "_law_t2_tile_set", "_law_t2_bonds", "_law_t2_fitting", "_law_t2_may", "_law_t2_copy", "_law_t2_pairs", "_law_t2_rounds", "_law_t2_near", "_law_t2_disturb", "_law_t2_asked", "_law_t2_rounds_right", "_law_t2_numbers", "_law_t2_steps_right"]
def nms : List Str := nm0 ++ nm1
def tf : List He.Defn := [("TileSet", some "__init__"), ("TileSet", some "in_order"), ("_law_t2_world", none)]
def tabsNe (K : PySem.W.Frag) : Bool := decide ((He.cT K ("TileSet", some "__init__")).2 ≠ (He.cT K ("TileSet", some "in_order")).2 ∧ (He.cT K ("TileSet", some "__init__")).2 ≠ (He.cT K ("_law_t2_world", none)).2 ∧ (He.cT K ("TileSet", some "in_order")).2 ≠ (He.cT K ("_law_t2_world", none)).2)
def ex (K : PySem.W.Frag) : Bool := oexB K "BadNumber" && (oexB K "TooMany" && (xfB K (He.ga K "BadNumber") && (xfB K (He.ga K "TooMany") && tabsNe K)))
abbrev R : PySem.W.OpenRow := PySem.W.OpenLaw.row PySem.Challenge.rw_tilesregrow_k06_whole_rounds
abbrev hk : PySem.W.Hook := He.hookX 6 fa fn [] tf ex
def ob (s : PySem.W.SharedT) : He.AlX := He.obsX 6 fa fn [] tf ex (HandSHeadRun.getT s)
theorem ob_eq (s : PySem.W.SharedT) : ob s = hk.obs s.abs := He.obsX_eq (HandSHeadRun.getT_eq s)
theorem run (w : World) : HandSHeadRun.RunEq R (PySem.W.view R.prog [52]) hk ob 6000 nms w := by
  intro os
  kernel_rfl
end TR
/-! text D0 -/
set_option Elab.async false
set_option linter.all false
set_option maxRecDepth 100000
set_option maxHeartbeats 4000000
/-! What the head tells, by names; a def that keeps its promise, called. -/
namespace TR
open PySem PySem.Spec PyProof.Rows L2
/-- what every walk leans on -/
structure Ev (K : PySem.W.Frag) (mg : Str → Option Value) (base : Heap) : Prop where
  says : He.SaysD fa fn K
  kin : K.In base
  ns : base.Ns mainGlobals mg
  tb : ∀ p ∈ tf, LamX.TabB base mg (He.cT K p).1 (He.cT K p).2
  more : ex K = true
section
variable {K : PySem.W.Frag} {mg : Str → Option Value} {base : Heap}
theorem g_BadNumber (E : Ev K mg base) : mg "BadNumber" = some (.ref (He.ga K "BadNumber")) := He.glo_ok E.kin E.ns (E.says.fact 0 (f := .glo "BadNumber"))
theorem g_TooMany (E : Ev K mg base) : mg "TooMany" = some (.ref (He.ga K "TooMany")) := He.glo_ok E.kin E.ns (E.says.fact 1 (f := .glo "TooMany"))
theorem g_is_integer (E : Ev K mg base) : mg "is_integer" = some (.ref (He.ga K "is_integer")) := He.glo_ok E.kin E.ns (E.says.fact 2 (f := .glo "is_integer"))
theorem g_is_place (E : Ev K mg base) : mg "is_place" = some (.ref (He.ga K "is_place")) := He.glo_ok E.kin E.ns (E.says.fact 3 (f := .glo "is_place"))
theorem g_is_glue (E : Ev K mg base) : mg "is_glue" = some (.ref (He.ga K "is_glue")) := He.glo_ok E.kin E.ns (E.says.fact 4 (f := .glo "is_glue"))
theorem g_check_place (E : Ev K mg base) : mg "check_place" = some (.ref (He.ga K "check_place")) := He.glo_ok E.kin E.ns (E.says.fact 5 (f := .glo "check_place"))
theorem g_check_side (E : Ev K mg base) : mg "check_side" = some (.ref (He.ga K "check_side")) := He.glo_ok E.kin E.ns (E.says.fact 6 (f := .glo "check_side"))
theorem g_beside (E : Ev K mg base) : mg "beside" = some (.ref (He.ga K "beside")) := He.glo_ok E.kin E.ns (E.says.fact 7 (f := .glo "beside"))
theorem g_Tile (E : Ev K mg base) : mg "Tile" = some (.ref (He.ga K "Tile")) := He.glo_ok E.kin E.ns (E.says.fact 8 (f := .glo "Tile"))
theorem g_TileSet (E : Ev K mg base) : mg "TileSet" = some (.ref (He.ga K "TileSet")) := He.glo_ok E.kin E.ns (E.says.fact 9 (f := .glo "TileSet"))
theorem g_Bed (E : Ev K mg base) : mg "Bed" = some (.ref (He.ga K "Bed")) := He.glo_ok E.kin E.ns (E.says.fact 10 (f := .glo "Bed"))
theorem g_check_most (E : Ev K mg base) : mg "check_most" = some (.ref (He.ga K "check_most")) := He.glo_ok E.kin E.ns (E.says.fact 11 (f := .glo "check_most"))
theorem g_rounds_of (E : Ev K mg base) : mg "rounds_of" = some (.ref (He.ga K "rounds_of")) := He.glo_ok E.kin E.ns (E.says.fact 12 (f := .glo "rounds_of"))
theorem g_first_each (E : Ev K mg base) : mg "first_each" = some (.ref (He.ga K "first_each")) := He.glo_ok E.kin E.ns (E.says.fact 13 (f := .glo "first_each"))
theorem g_settle (E : Ev K mg base) : mg "settle" = some (.ref (He.ga K "settle")) := He.glo_ok E.kin E.ns (E.says.fact 14 (f := .glo "settle"))
theorem g_law_pen (E : Ev K mg base) : mg "_law_pen" = some (.ref (He.ga K "_law_pen")) := He.glo_ok E.kin E.ns (E.says.fact 15 (f := .glo "_law_pen"))
theorem g_law_draw (E : Ev K mg base) : mg "_law_draw" = some (.ref (He.ga K "_law_draw")) := He.glo_ok E.kin E.ns (E.says.fact 16 (f := .glo "_law_draw"))
theorem g_law_pick (E : Ev K mg base) : mg "_law_pick" = some (.ref (He.ga K "_law_pick")) := He.glo_ok E.kin E.ns (E.says.fact 17 (f := .glo "_law_pick"))
theorem g_law_is_whole (E : Ev K mg base) : mg "_law_is_whole" = some (.ref (He.ga K "_law_is_whole")) := He.glo_ok E.kin E.ns (E.says.fact 18 (f := .glo "_law_is_whole"))
theorem g_law_shuffled (E : Ev K mg base) : mg "_law_shuffled" = some (.ref (He.ga K "_law_shuffled")) := He.glo_ok E.kin E.ns (E.says.fact 19 (f := .glo "_law_shuffled"))
theorem g_law_t2_next (E : Ev K mg base) : mg "_law_t2_next" = some (.ref (He.ga K "_law_t2_next")) := He.glo_ok E.kin E.ns (E.says.fact 20 (f := .glo "_law_t2_next"))
theorem g_law_t2_datum (E : Ev K mg base) : mg "_law_t2_datum" = some (.ref (He.ga K "_law_t2_datum")) := He.glo_ok E.kin E.ns (E.says.fact 21 (f := .glo "_law_t2_datum"))
theorem g_law_t2_patch (E : Ev K mg base) : mg "_law_t2_patch" = some (.ref (He.ga K "_law_t2_patch")) := He.glo_ok E.kin E.ns (E.says.fact 22 (f := .glo "_law_t2_patch"))
theorem g_law_t2_edge_glues (E : Ev K mg base) : mg "_law_t2_edge_glues" = some (.ref (He.ga K "_law_t2_edge_glues")) := He.glo_ok E.kin E.ns (E.says.fact 23 (f := .glo "_law_t2_edge_glues"))
theorem g_law_t2_outer_glue (E : Ev K mg base) : mg "_law_t2_outer_glue" = some (.ref (He.ga K "_law_t2_outer_glue")) := He.glo_ok E.kin E.ns (E.says.fact 24 (f := .glo "_law_t2_outer_glue"))
theorem g_law_t2_late_rival (E : Ev K mg base) : mg "_law_t2_late_rival" = some (.ref (He.ga K "_law_t2_late_rival")) := He.glo_ok E.kin E.ns (E.says.fact 25 (f := .glo "_law_t2_late_rival"))
theorem g_law_t2_world (E : Ev K mg base) : mg "_law_t2_world" = some (.ref (He.ga K "_law_t2_world")) := He.glo_ok E.kin E.ns (E.says.fact 26 (f := .glo "_law_t2_world"))
theorem g_law_t2_tile_set (E : Ev K mg base) : mg "_law_t2_tile_set" = some (.ref (He.ga K "_law_t2_tile_set")) := He.glo_ok E.kin E.ns (E.says.fact 27 (f := .glo "_law_t2_tile_set"))
theorem g_law_t2_bonds (E : Ev K mg base) : mg "_law_t2_bonds" = some (.ref (He.ga K "_law_t2_bonds")) := He.glo_ok E.kin E.ns (E.says.fact 28 (f := .glo "_law_t2_bonds"))
theorem g_law_t2_fitting (E : Ev K mg base) : mg "_law_t2_fitting" = some (.ref (He.ga K "_law_t2_fitting")) := He.glo_ok E.kin E.ns (E.says.fact 29 (f := .glo "_law_t2_fitting"))
theorem g_law_t2_may (E : Ev K mg base) : mg "_law_t2_may" = some (.ref (He.ga K "_law_t2_may")) := He.glo_ok E.kin E.ns (E.says.fact 30 (f := .glo "_law_t2_may"))
theorem g_law_t2_copy (E : Ev K mg base) : mg "_law_t2_copy" = some (.ref (He.ga K "_law_t2_copy")) := He.glo_ok E.kin E.ns (E.says.fact 31 (f := .glo "_law_t2_copy"))
theorem g_law_t2_pairs (E : Ev K mg base) : mg "_law_t2_pairs" = some (.ref (He.ga K "_law_t2_pairs")) := He.glo_ok E.kin E.ns (E.says.fact 32 (f := .glo "_law_t2_pairs"))
theorem g_law_t2_rounds (E : Ev K mg base) : mg "_law_t2_rounds" = some (.ref (He.ga K "_law_t2_rounds")) := He.glo_ok E.kin E.ns (E.says.fact 33 (f := .glo "_law_t2_rounds"))
theorem g_law_t2_near (E : Ev K mg base) : mg "_law_t2_near" = some (.ref (He.ga K "_law_t2_near")) := He.glo_ok E.kin E.ns (E.says.fact 34 (f := .glo "_law_t2_near"))
theorem g_law_t2_disturb (E : Ev K mg base) : mg "_law_t2_disturb" = some (.ref (He.ga K "_law_t2_disturb")) := He.glo_ok E.kin E.ns (E.says.fact 35 (f := .glo "_law_t2_disturb"))
theorem g_law_t2_asked (E : Ev K mg base) : mg "_law_t2_asked" = some (.ref (He.ga K "_law_t2_asked")) := He.glo_ok E.kin E.ns (E.says.fact 36 (f := .glo "_law_t2_asked"))
theorem g_law_t2_rounds_right (E : Ev K mg base) : mg "_law_t2_rounds_right" = some (.ref (He.ga K "_law_t2_rounds_right")) := He.glo_ok E.kin E.ns (E.says.fact 37 (f := .glo "_law_t2_rounds_right"))
theorem g_law_t2_numbers (E : Ev K mg base) : mg "_law_t2_numbers" = some (.ref (He.ga K "_law_t2_numbers")) := He.glo_ok E.kin E.ns (E.says.fact 38 (f := .glo "_law_t2_numbers"))
theorem g_law_t2_steps_right (E : Ev K mg base) : mg "_law_t2_steps_right" = some (.ref (He.ga K "_law_t2_steps_right")) := He.glo_ok E.kin E.ns (E.says.fact 39 (f := .glo "_law_t2_steps_right"))
theorem g_law (E : Ev K mg base) : mg "law" = some (.ref (He.ga K "law")) := He.glo_ok E.kin E.ns (E.says.fact 40 (f := .glo "law"))
theorem u_isinstance (E : Ev K mg base) : mg "isinstance" = none := He.free_ok E.kin E.ns (E.says.fact 41 (f := .free "isinstance"))
theorem u_int (E : Ev K mg base) : mg "int" = none := He.free_ok E.kin E.ns (E.says.fact 42 (f := .free "int"))
theorem u_bool (E : Ev K mg base) : mg "bool" = none := He.free_ok E.kin E.ns (E.says.fact 43 (f := .free "bool"))
theorem u_tuple (E : Ev K mg base) : mg "tuple" = none := He.free_ok E.kin E.ns (E.says.fact 44 (f := .free "tuple"))
theorem u_len (E : Ev K mg base) : mg "len" = none := He.free_ok E.kin E.ns (E.says.fact 45 (f := .free "len"))
theorem u_all (E : Ev K mg base) : mg "all" = none := He.free_ok E.kin E.ns (E.says.fact 46 (f := .free "all"))
theorem u_list (E : Ev K mg base) : mg "list" = none := He.free_ok E.kin E.ns (E.says.fact 47 (f := .free "list"))
theorem u_sorted (E : Ev K mg base) : mg "sorted" = none := He.free_ok E.kin E.ns (E.says.fact 48 (f := .free "sorted"))
theorem u_repr (E : Ev K mg base) : mg "repr" = none := He.free_ok E.kin E.ns (E.says.fact 49 (f := .free "repr"))
theorem u_enumerate (E : Ev K mg base) : mg "enumerate" = none := He.free_ok E.kin E.ns (E.says.fact 50 (f := .free "enumerate"))
theorem u_range (E : Ev K mg base) : mg "range" = none := He.free_ok E.kin E.ns (E.says.fact 51 (f := .free "range"))
theorem u_set (E : Ev K mg base) : mg "set" = none := He.free_ok E.kin E.ns (E.says.fact 52 (f := .free "set"))
theorem u_sum (E : Ev K mg base) : mg "sum" = none := He.free_ok E.kin E.ns (E.says.fact 53 (f := .free "sum"))
theorem u_str (E : Ev K mg base) : mg "str" = none := He.free_ok E.kin E.ns (E.says.fact 54 (f := .free "str"))
theorem c_Tile (E : Ev K mg base) : Cls K (He.ga K "Tile") := He.cls_ok (E.says.fact 55 (f := .cls "Tile"))
theorem mk_Tile (E : Ev K mg base) : Mk K (He.ga K "Tile") (He.ma K (He.ga K "Tile") "__init__") := He.mkr_ok (E.says.fact 56 (f := .mkr "Tile"))
theorem c_TileSet (E : Ev K mg base) : Cls K (He.ga K "TileSet") := He.cls_ok (E.says.fact 57 (f := .cls "TileSet"))
theorem mk_TileSet (E : Ev K mg base) : Mk K (He.ga K "TileSet") (He.ma K (He.ga K "TileSet") "__init__") := He.mkr_ok (E.says.fact 58 (f := .mkr "TileSet"))
theorem c_Bed (E : Ev K mg base) : Cls K (He.ga K "Bed") := He.cls_ok (E.says.fact 59 (f := .cls "Bed"))
theorem mk_Bed (E : Ev K mg base) : Mk K (He.ga K "Bed") (He.ma K (He.ga K "Bed") "__init__") := He.mkr_ok (E.says.fact 60 (f := .mkr "Bed"))
theorem na_Tile_name (E : Ev K mg base) : NoAttr K (He.ga K "Tile") "name" := He.noat_ok (E.says.fact 61 (f := .noat "Tile" "name"))
theorem na_Tile_west (E : Ev K mg base) : NoAttr K (He.ga K "Tile") "west" := He.noat_ok (E.says.fact 62 (f := .noat "Tile" "west"))
theorem na_Tile_south (E : Ev K mg base) : NoAttr K (He.ga K "Tile") "south" := He.noat_ok (E.says.fact 63 (f := .noat "Tile" "south"))
theorem na_Tile_east (E : Ev K mg base) : NoAttr K (He.ga K "Tile") "east" := He.noat_ok (E.says.fact 64 (f := .noat "Tile" "east"))
theorem na_Tile_north (E : Ev K mg base) : NoAttr K (He.ga K "Tile") "north" := He.noat_ok (E.says.fact 65 (f := .noat "Tile" "north"))
theorem na_TileSet_tiles (E : Ev K mg base) : NoAttr K (He.ga K "TileSet") "tiles" := He.noat_ok (E.says.fact 66 (f := .noat "TileSet" "tiles"))
theorem na_TileSet_tiles_by_name (E : Ev K mg base) : NoAttr K (He.ga K "TileSet") "tiles_by_name" := He.noat_ok (E.says.fact 67 (f := .noat "TileSet" "tiles_by_name"))
theorem na_TileSet_ordered_names (E : Ev K mg base) : NoAttr K (He.ga K "TileSet") "ordered_names" := He.noat_ok (E.says.fact 68 (f := .noat "TileSet" "ordered_names"))
theorem na_TileSet_ranks (E : Ev K mg base) : NoAttr K (He.ga K "TileSet") "ranks" := He.noat_ok (E.says.fact 69 (f := .noat "TileSet" "ranks"))
theorem na_TileSet_names_by_glue (E : Ev K mg base) : NoAttr K (He.ga K "TileSet") "names_by_glue" := He.noat_ok (E.says.fact 70 (f := .noat "TileSet" "names_by_glue"))
theorem na_Bed_tile_set (E : Ev K mg base) : NoAttr K (He.ga K "Bed") "tile_set" := He.noat_ok (E.says.fact 71 (f := .noat "Bed" "tile_set"))
theorem na_Bed_seed_place (E : Ev K mg base) : NoAttr K (He.ga K "Bed") "seed_place" := He.noat_ok (E.says.fact 72 (f := .noat "Bed" "seed_place"))
theorem na_Bed_seed_name (E : Ev K mg base) : NoAttr K (He.ga K "Bed") "seed_name" := He.noat_ok (E.says.fact 73 (f := .noat "Bed" "seed_name"))
theorem na_Bed_lying (E : Ev K mg base) : NoAttr K (He.ga K "Bed") "lying" := He.noat_ok (E.says.fact 74 (f := .noat "Bed" "lying"))
theorem na_Bed_coming (E : Ev K mg base) : NoAttr K (He.ga K "Bed") "coming" := He.noat_ok (E.says.fact 75 (f := .noat "Bed" "coming"))
theorem na_BadNumber_what (E : Ev K mg base) : NoAttr K (He.ga K "BadNumber") "what" := He.noat_ok (E.says.fact 76 (f := .noat "BadNumber" "what"))
theorem na_BadNumber_number (E : Ev K mg base) : NoAttr K (He.ga K "BadNumber") "number" := He.noat_ok (E.says.fact 77 (f := .noat "BadNumber" "number"))
theorem na_TooMany_what (E : Ev K mg base) : NoAttr K (He.ga K "TooMany") "what" := He.noat_ok (E.says.fact 78 (f := .noat "TooMany" "what"))
theorem na_TooMany_many (E : Ev K mg base) : NoAttr K (He.ga K "TooMany") "many" := He.noat_ok (E.says.fact 79 (f := .noat "TooMany" "many"))
theorem na_TooMany_limit (E : Ev K mg base) : NoAttr K (He.ga K "TooMany") "limit" := He.noat_ok (E.says.fact 80 (f := .noat "TooMany" "limit"))
theorem m_Tile_glue_at (E : Ev K mg base) : Meth K (He.ga K "Tile") "glue_at" (He.ma K (He.ga K "Tile") "glue_at") := He.meth_ok (E.says.fact 81 (f := .meth "Tile" "glue_at"))
theorem m_TileSet_tile_of (E : Ev K mg base) : Meth K (He.ga K "TileSet") "tile_of" (He.ma K (He.ga K "TileSet") "tile_of") := He.meth_ok (E.says.fact 82 (f := .meth "TileSet" "tile_of"))
theorem m_TileSet_with_glue (E : Ev K mg base) : Meth K (He.ga K "TileSet") "with_glue" (He.ma K (He.ga K "TileSet") "with_glue") := He.meth_ok (E.says.fact 83 (f := .meth "TileSet" "with_glue"))
theorem m_TileSet_in_order (E : Ev K mg base) : Meth K (He.ga K "TileSet") "in_order" (He.ma K (He.ga K "TileSet") "in_order") := He.meth_ok (E.says.fact 84 (f := .meth "TileSet" "in_order"))
theorem m_Bed_places (E : Ev K mg base) : Meth K (He.ga K "Bed") "places" (He.ma K (He.ga K "Bed") "places") := He.meth_ok (E.says.fact 85 (f := .meth "Bed" "places"))
theorem m_Bed_pairs (E : Ev K mg base) : Meth K (He.ga K "Bed") "pairs" (He.ma K (He.ga K "Bed") "pairs") := He.meth_ok (E.says.fact 86 (f := .meth "Bed" "pairs"))
theorem m_Bed_how_many (E : Ev K mg base) : Meth K (He.ga K "Bed") "how_many" (He.ma K (He.ga K "Bed") "how_many") := He.meth_ok (E.says.fact 87 (f := .meth "Bed" "how_many"))
theorem m_Bed_bonds (E : Ev K mg base) : Meth K (He.ga K "Bed") "bonds" (He.ma K (He.ga K "Bed") "bonds") := He.meth_ok (E.says.fact 88 (f := .meth "Bed" "bonds"))
theorem m_Bed_shown_glues (E : Ev K mg base) : Meth K (He.ga K "Bed") "shown_glues" (He.ma K (He.ga K "Bed") "shown_glues") := He.meth_ok (E.says.fact 89 (f := .meth "Bed" "shown_glues"))
theorem m_Bed_fitting (E : Ev K mg base) : Meth K (He.ga K "Bed") "fitting" (He.ma K (He.ga K "Bed") "fitting") := He.meth_ok (E.says.fact 90 (f := .meth "Bed" "fitting"))
theorem m_Bed_may_come (E : Ev K mg base) : Meth K (He.ga K "Bed") "may_come" (He.ma K (He.ga K "Bed") "may_come") := He.meth_ok (E.says.fact 91 (f := .meth "Bed" "may_come"))
theorem m_Bed_check_empty (E : Ev K mg base) : Meth K (He.ga K "Bed") "check_empty" (He.ma K (He.ga K "Bed") "check_empty") := He.meth_ok (E.says.fact 92 (f := .meth "Bed" "check_empty"))
theorem m_Bed_come (E : Ev K mg base) : Meth K (He.ga K "Bed") "come" (He.ma K (He.ga K "Bed") "come") := He.meth_ok (E.says.fact 93 (f := .meth "Bed" "come"))
theorem m_Bed_slip (E : Ev K mg base) : Meth K (He.ga K "Bed") "slip" (He.ma K (He.ga K "Bed") "slip") := He.meth_ok (E.says.fact 94 (f := .meth "Bed" "slip"))
theorem m_Bed_cut (E : Ev K mg base) : Meth K (He.ga K "Bed") "cut" (He.ma K (He.ga K "Bed") "cut") := He.meth_ok (E.says.fact 95 (f := .meth "Bed" "cut"))
theorem m_Bed_lay (E : Ev K mg base) : Meth K (He.ga K "Bed") "lay" (He.ma K (He.ga K "Bed") "lay") := He.meth_ok (E.says.fact 96 (f := .meth "Bed" "lay"))
theorem m_Bed_twin (E : Ev K mg base) : Meth K (He.ga K "Bed") "twin" (He.ma K (He.ga K "Bed") "twin") := He.meth_ok (E.says.fact 97 (f := .meth "Bed" "twin"))
theorem kp_BadNumber (E : Ev K mg base) : PySem.W.keepIn K (.ref (He.ga K "BadNumber")) = true := He.keep_ok (E.says.fact 98 (f := .keep "BadNumber"))
theorem exm_BadNumber_BadNumber (E : Ev K mg base) : PySem.W.exmOne K (.ref (He.ga K "BadNumber")) (.ref (He.ga K "BadNumber")) = some true := He.exm_ok (E.says.fact 99 (f := .exm "BadNumber" "BadNumber" true))
theorem exm_BadNumber_TooMany (E : Ev K mg base) : PySem.W.exmOne K (.ref (He.ga K "BadNumber")) (.ref (He.ga K "TooMany")) = some false := He.exm_ok (E.says.fact 100 (f := .exm "BadNumber" "TooMany" false))
theorem kp_TooMany (E : Ev K mg base) : PySem.W.keepIn K (.ref (He.ga K "TooMany")) = true := He.keep_ok (E.says.fact 101 (f := .keep "TooMany"))
theorem exm_TooMany_BadNumber (E : Ev K mg base) : PySem.W.exmOne K (.ref (He.ga K "TooMany")) (.ref (He.ga K "BadNumber")) = some false := He.exm_ok (E.says.fact 102 (f := .exm "TooMany" "BadNumber" false))
theorem exm_TooMany_TooMany (E : Ev K mg base) : PySem.W.exmOne K (.ref (He.ga K "TooMany")) (.ref (He.ga K "TooMany")) = some true := He.exm_ok (E.says.fact 103 (f := .exm "TooMany" "TooMany" true))
theorem x_BadNumber (E : Ev K mg base) : OexC K (He.ga K "BadNumber") ∧ PySem.W.findIn K (.ref (He.ga K "BadNumber")) "__init__" = some (some (.ref (He.ma K (He.ga K "BadNumber") "__init__"))) ∧ PySem.W.typeIn K (.ref (He.ma K (He.ga K "BadNumber") "__init__")) = some (.type "function") := oexB_ok (He.ba (show (oexB K "BadNumber" && (oexB K "TooMany" && (xfB K (He.ga K "BadNumber") && (xfB K (He.ga K "TooMany") && tabsNe K)))) = true from E.more)).1
theorem x_TooMany (E : Ev K mg base) : OexC K (He.ga K "TooMany") ∧ PySem.W.findIn K (.ref (He.ga K "TooMany")) "__init__" = some (some (.ref (He.ma K (He.ga K "TooMany") "__init__"))) ∧ PySem.W.typeIn K (.ref (He.ma K (He.ga K "TooMany") "__init__")) = some (.type "function") := oexB_ok (He.ba (He.ba (show (oexB K "BadNumber" && (oexB K "TooMany" && (xfB K (He.ga K "BadNumber") && (xfB K (He.ga K "TooMany") && tabsNe K)))) = true from E.more)).2).1
theorem x_tabs (E : Ev K mg base) : (He.cT K ("TileSet", some "__init__")).2 ≠ (He.cT K ("TileSet", some "in_order")).2 ∧ (He.cT K ("TileSet", some "__init__")).2 ≠ (He.cT K ("_law_t2_world", none)).2 ∧ (He.cT K ("TileSet", some "in_order")).2 ≠ (He.cT K ("_law_t2_world", none)).2 := of_decide_eq_true (He.ba (He.ba (He.ba (He.ba (show (oexB K "BadNumber" && (oexB K "TooMany" && (xfB K (He.ga K "BadNumber") && (xfB K (He.ga K "TooMany") && tabsNe K)))) = true from E.more)).2).2).2).2
theorem xf_BadNumber (E : Ev K mg base) : XfC K (He.ga K "BadNumber") := xfB_ok (He.ba (He.ba (He.ba (show (oexB K "BadNumber" && (oexB K "TooMany" && (xfB K (He.ga K "BadNumber") && (xfB K (He.ga K "TooMany") && tabsNe K)))) = true from E.more)).2).2).1
theorem xf_TooMany (E : Ev K mg base) : XfC K (He.ga K "TooMany") := xfB_ok (He.ba (He.ba (He.ba (He.ba (show (oexB K "BadNumber" && (oexB K "TooMany" && (xfB K (He.ga K "BadNumber") && (xfB K (He.ga K "TooMany") && tabsNe K)))) = true from E.more)).2).2).2).1
/-! ### a def that keeps its promise -/
variable {P : Program} {w : World}
def Does (P : Program) (w : World) (K : PySem.W.Frag) (mg : Str → Option Value) (base : Heap) (CX : CXT) (k : Nat) (f : Addr) (ps : List Str) (sp : Sp) : Prop :=
  PySem.W.keepIn K (.ref f) = true ∧ ∃ fd, FnOk P w K mg base CX k f fd ps sp ∧ Binds K fd ps []
/-- the promise's guards premise: nothing is being shown -/
structure FnG (P : Program) (w : World) (K : PySem.W.Frag) (mg : Str → Option Value) (base : Heap) (CX : CXT) (k : Nat) (f : Addr) (fd : FuncData) (ps : List Str) (sp : Sp) : Prop where
  len : ∀ vs H Q E, sp vs H Q E → vs.length = ps.length
  run : ∀ (A : Around) (outer : List Env) (s : Shared) (H : Hp) (args : Args) (us : List Value) (vs : List V) (Q : VK) (E : XK), Room k A → A.guards = some [] → Env0 P w K mg base A outer s H → BindsTo s fd args (ps.zip us) → Vals vs us → sp vs H Q E →
    codeAny (model P w) A (.call (.ref f) args) (CR CX outer P w H s Q E) s
def DoesG (P : Program) (w : World) (K : PySem.W.Frag) (mg : Str → Option Value) (base : Heap) (CX : CXT) (k : Nat) (f : Addr) (ps : List Str) (sp : Sp) : Prop :=
  PySem.W.keepIn K (.ref f) = true ∧ ∃ fd, FnG P w K mg base CX k f fd ps sp ∧ Binds K fd ps []
theorem fn_ofG {CX : CXT} {k : Nat} {f : Addr} {name qual : Str} {params : Arguments} {body : List Stmt} {scope : Scope} {dV kV doc pm cdv ct oc : Value} {an od : Option Addr}
    {osl : Array (Option Value)} {N ps : List Str} {sp : Sp} (lk : K.lookup f = some ⟨oc, od, .func (PySem.W.fnOf name qual params body scope dV kV doc pm an cdv ct), osl⟩) (hcd : PySem.W.codeIn K cdv qual = true) (S : FnScope N ps scope)
    (len : ∀ vs H Q E, sp vs H Q E → vs.length = ps.length)
    (hbody : ∀ (A : Around) (outer : List Env) (s : Shared) (H : Hp) (vs : List V) (Q : VK) (E : XK), Room k (A.deeper (envOfC qual scope s.heap.objs.size f cdv)) → A.guards = some [] → sp vs H Q E →
      ∃ t, PSs (cxOf CX P w K mg base N qual scope f cdv A outer s H E) body t ∧ t { nx := fun _ H' => Q .non H', rt := Q } (start N vs) H) :
    FnG P w K mg base CX (k + 1) f (PySem.W.fnOf name qual params body scope dV kV doc pm an cdv ct) ps sp := by
  refine ⟨len, fun A outer s H args us vs Q E hr hG e0 hb r hsp => ?_⟩
  have hl := len _ _ _ _ hsp
  have KX : K.In s.heap := e0.mod.kin.keeps fun b o e => (e0.bs b o e).1
  have lim : s.heap.NoLimit := e0.mod.nolimit.keeps fun b o e => (e0.bs b o e).1
  have hkind : ∀ y ∈ ps.zip us, scope.names.lookup y.1 = some .local ∨ (scope.names.lookup y.1 = some .cell ∧ ((cellsFrom (s.heap.objs.size + 1) scope.names []).lookup y.1).isSome = true) := fun ⟨n, v⟩ hy => by
    rcases S.par n (List.of_mem_zip hy).1 with q | q
    · exact .inl q
    · exact .inr ⟨q, PySem.W.cellsFrom_some _ _ _ (.inl q)⟩
  refine codeAny_call_function hr.depth (KX _ _ lk) rfl S.co S.gen rfl (PySem.W.codeRec_of KX hcd) (hb _ _ _ _ ?_)
  refine wpAny_newFunctionEnv_cells S.kind hkind fun env he s1 x => ?_
  subst he
  refine ⟨lim.keeps x.toInCall.keep, codeAny_func ?_⟩
  obtain ⟨t, ht, hq⟩ := hbody A outer s H vs Q E (hr.deeper _) hG hsp
  have I : Inv (cxOf CX P w K mg base N qual scope f cdv A outer s H E) [] (start N vs) H s1 := inv_start S hr.hd e0 hl r x
  refine wpAny_mono (ht.run [] s1 (start N vs) H _ I hq) (fun fl s' hs => ?_) fun e s' hs => hs
  have fin : ∀ {σ' : L2.St} {H' : Hp} {v : V} {u : Value}, Inv (cxOf CX P w K mg base N qual scope f cdv A outer s H E) [] σ' H' s' → RelV v u → Q v H' → CE outer P w H s Q u s' :=
    fun {σ' H' v u} J rv q => ⟨v, H', J.os, J.bare, J.base, J.hok, rv, q⟩
  cases fl with
  | ret u =>
    obtain ⟨v, σ', H', J, rv, q⟩ := hs
    exact fin J rv q
  | next =>
    obtain ⟨σ', H', J, q⟩ := hs
    exact fin (v := V.non) (u := Value.none) J rfl q
  | brk =>
    obtain ⟨_, _, _, q⟩ := hs
    exact False.elim q
  | cont =>
    obtain ⟨_, _, _, q⟩ := hs
    exact False.elim q
/-- how a def's arguments bind -/
def Bn (d : He.DefD) (ps : List Str) : Prop := ∀ (kV doc pm : Value) (an : Option Addr) (cdv ct : Value) (us : List Value), us.length = ps.length → bindArgs (PySem.W.fnOf d.name d.qual d.params d.body d.scope .none kV doc pm an cdv ct) ⟨us, []⟩ = pure (ps.zip us)
theorem keep_of {x qual : Str} {params : Arguments} {body : List Stmt} {scope : Scope} {dvs : List V} {kws : List (Str × V)} {f : Addr} {fd : FuncData} (F : FunD K x qual params body scope dvs kws f fd) : PySem.W.keepIn K (.ref f) = true := F.kp
/-- THE RULE for a def of the text (what it may let out: CX) -/
theorem Ev.does {CX : CXT} {k i : Nat} {N ps : List Str} {sp : Sp} {d : He.DefD} (E : Ev K mg base) (hd : fn[i]? = some d) (h0 : d.dfl = []) (bn : Bn d ps) (S : FnScope N ps d.scope) (len : ∀ vs H Q X, sp vs H Q X → vs.length = ps.length)
    (hbody : ∀ (cdv : Value) (A : Around) (outer : List Env) (s : Shared) (H : Hp) (vs : List V) (Q : VK) (X : XK), Room k (A.deeper (envOfC d.qual d.scope s.heap.objs.size (He.fAd K d.at_) cdv)) → sp vs H Q X →
      ∃ t, PSs (cxOf CX P w K mg base N d.qual d.scope (He.fAd K d.at_) cdv A outer s H X) d.body t ∧ t { nx := fun _ H' => Q .non H', rt := Q } (start N vs) H) : Does P w K mg base CX (k + 1) (He.fAd K d.at_) ps sp := by
  obtain ⟨fd, F⟩ := E.says.def_ i hd
  have F2 : FunD K d.name d.qual d.params d.body d.scope [] (d.kws K) (He.fAd K d.at_) fd := by
    have e : d.dvs K = [] := by unfold He.DefD.dvs; rw [h0]; rfl
    rw [e] at F; exact F
  exact ⟨F.kp, fd, F.ok S len hbody, F2.bindsN bn⟩
/-- nothing is let out -/
theorem Ev.does0 {k i : Nat} {N ps : List Str} {sp : Sp} {d : He.DefD} (E : Ev K mg base) (hd : fn[i]? = some d) (h0 : d.dfl = []) (bn : Bn d ps) (S : FnScope N ps d.scope) (len : ∀ vs H Q X, sp vs H Q X → vs.length = ps.length)
    (hbody : ∀ (cdv : Value) (A : Around) (outer : List Env) (s : Shared) (H : Hp) (vs : List V) (Q : VK) (X : XK), Room k (A.deeper (envOfC d.qual d.scope s.heap.objs.size (He.fAd K d.at_) cdv)) → sp vs H Q X →
      ∃ t, PSs (cxOf L2.CX0 P w K mg base N d.qual d.scope (He.fAd K d.at_) cdv A outer s H X).nox d.body t ∧ t { nx := fun _ H' => Q .non H', rt := Q } (start N vs) H) : Does P w K mg base L2.CX0 (k + 1) (He.fAd K d.at_) ps sp :=
  E.does hd h0 bn S len fun cdv A outer s H vs Q X hr h => let ⟨t, h1, h2⟩ := hbody cdv A outer s H vs Q X hr h; ⟨t, h1.nox, h2⟩
theorem Ev.doesG {k i : Nat} {N ps : List Str} {sp : Sp} {d : He.DefD} (E : Ev K mg base) (hd : fn[i]? = some d) (h0 : d.dfl = []) (bn : Bn d ps) (S : FnScope N ps d.scope) (len : ∀ vs H Q X, sp vs H Q X → vs.length = ps.length)
    (hbody : ∀ (cdv : Value) (A : Around) (outer : List Env) (s : Shared) (H : Hp) (vs : List V) (Q : VK) (X : XK), Room k (A.deeper (envOfC d.qual d.scope s.heap.objs.size (He.fAd K d.at_) cdv)) → A.guards = some [] → cdv = .ref (He.codeOf K d.at_) → sp vs H Q X →
      ∃ t, PSs (cxOf L2.CX0 P w K mg base N d.qual d.scope (He.fAd K d.at_) cdv A outer s H X).nox d.body t ∧ t { nx := fun _ H' => Q .non H', rt := Q } (start N vs) H) : DoesG P w K mg base L2.CX0 (k + 1) (He.fAd K d.at_) ps sp := by
  obtain ⟨fd, F⟩ := E.says.def_ i hd
  have F2 : FunD K d.name d.qual d.params d.body d.scope [] (d.kws K) (He.fAd K d.at_) fd := by
    have e : d.dvs K = [] := by unfold He.DefD.dvs; rw [h0]; rfl
    rw [e] at F; exact F
  obtain ⟨oc, od, dV, kV, doc, pm, an, cdv, ct, osl, rfl, lk, hcd, _, _⟩ := F.ex
  refine ⟨F.kp, _, fn_ofG lk hcd S len fun A outer s H vs Q X hr hG h => ?_, F2.bindsN bn⟩
  obtain ⟨c, rfl⟩ := He.codeIn_ref hcd
  have hc : Value.ref c = .ref (He.codeOf K d.at_) := by rw [He.codeOf_eq lk rfl]
  obtain ⟨t, h1, h2⟩ := hbody (.ref c) A outer s H vs Q X hr hG hc h
  exact ⟨t, h1.nox, h2⟩
theorem Ev.doesC {k i : Nat} {N ps : List Str} {sp : Sp} {d : He.DefD} (E : Ev K mg base) (hd : fn[i]? = some d) (h0 : d.dfl = []) (bn : Bn d ps) (S : FnScope N ps d.scope) (len : ∀ vs H Q X, sp vs H Q X → vs.length = ps.length)
    (hbody : ∀ (cdv : Value) (A : Around) (outer : List Env) (s : Shared) (H : Hp) (vs : List V) (Q : VK) (X : XK), Room k (A.deeper (envOfC d.qual d.scope s.heap.objs.size (He.fAd K d.at_) cdv)) → cdv = .ref (He.codeOf K d.at_) → sp vs H Q X →
      ∃ t, PSs (cxOf L2.CX0 P w K mg base N d.qual d.scope (He.fAd K d.at_) cdv A outer s H X).nox d.body t ∧ t { nx := fun _ H' => Q .non H', rt := Q } (start N vs) H) : Does P w K mg base L2.CX0 (k + 1) (He.fAd K d.at_) ps sp := by
  obtain ⟨fd, F⟩ := E.says.def_ i hd
  have F2 : FunD K d.name d.qual d.params d.body d.scope [] (d.kws K) (He.fAd K d.at_) fd := by
    have e : d.dvs K = [] := by unfold He.DefD.dvs; rw [h0]; rfl
    rw [e] at F; exact F
  obtain ⟨oc, od, dV, kV, doc, pm, an, cdv, ct, osl, rfl, lk, hcd, _, _⟩ := F.ex
  refine ⟨F.kp, _, fn_of lk hcd S len fun A outer s H vs Q X hr h => ?_, F2.bindsN bn⟩
  obtain ⟨c, rfl⟩ := He.codeIn_ref hcd
  have hc : Value.ref c = .ref (He.codeOf K d.at_) := by rw [He.codeOf_eq lk rfl]
  obtain ⟨t, h1, h2⟩ := hbody (.ref c) A outer s H vs Q X hr hc h
  exact ⟨t, h1.nox, h2⟩
end
/-! ### calls -/
section
variable {X : Cx} {CX : CXT} {k : Nat} {f C : Addr} {ps : List Str} {sp : Sp} {E : XK} {x m : Str} {p pos apos : Pos} {e o : Expr} {es : List Expr} {ta : TE} {t : TA}
theorem pe_do (F : Does X.prog X.w X.K X.mg X.base CX k f ps sp) (hr : Room k X.A) (hg : Gl X x) (hm : X.mg x = some (.ref f)) (hx : Passes CX X E) (ha : PA X (e :: es) t) (hdb : (x == ("__debug__" : Str)) = false := by decide)
    (he : starEach (e :: es) X.env = (false, eval e X.env) :: starEach es X.env := by rfl) (hpl : (backTo pos (starEach es X.env)).any (·.1) = false := by rfl) : PE X (.Call (.Name x p) (e :: es) [] pos) (tCall sp [] E t) :=
  let ⟨kp, _, h1, h2⟩ := F
  pe_call h1 hr hg hm kp h2 .nil hx ha hdb he hpl
theorem pe_doM {pl : Sem Bool} (he : PE X o ta) (c : Cls X.K C) (hm : Meth X.K C m f) (F : Does X.prog X.w X.K X.mg X.base CX k f ps sp) (hr : Room k X.A) (hx : Passes CX X E) (ha : PA X (e :: es) t)
    (hst : starEach (e :: es) X.env = (false, eval e X.env) :: starEach es X.env := by rfl) (hpl : (backTo pos (starEach es X.env)).any (·.1) = false := by rfl)
    (ht : eval (.Call (.Attribute o m apos) (e :: es) [] pos) X.env = (do
      let ov ← eval o X.env
      standAt apos.atName
      let (f, first) ← holding [ov] (getMethod ov m pl)
      callWith pos f first (backTo pos (starEach (e :: es) X.env)) (backToKw pos (keywordEach [] X.env))) := by rfl) : PE X (.Call (.Attribute o m apos) (e :: es) [] pos) (tMeth C m sp [] E ta t) :=
  let ⟨_, _, h1, h2⟩ := F
  pe_meth he c hm h1 hr h2 .nil hx ha hst hpl ht
theorem pe_doM0 {pl : Sem Bool} (he : PE X o ta) (c : Cls X.K C) (hm : Meth X.K C m f) (F : Does X.prog X.w X.K X.mg X.base CX k f ps sp) (hr : Room k X.A) (hx : Passes CX X E)
    (ht : eval (.Call (.Attribute o m apos) [] [] pos) X.env = (do
      let ov ← eval o X.env
      standAt apos.atName
      let (f, first) ← holding [ov] (getMethod ov m pl)
      callWith pos f first (backTo pos (starEach [] X.env)) (backToKw pos (keywordEach [] X.env))) := by rfl) : PE X (.Call (.Attribute o m apos) [] [] pos) (tMeth C m sp [] E ta tNil) :=
  let ⟨_, _, h1, h2⟩ := F
  pe_meth0 he c hm h1 hr h2 .nil hx ht
theorem pe_doMk (M : Mk X.K C f) (F : Does X.prog X.w X.K X.mg X.base CX k f ps sp) (hr : Room (k + 1) X.A) (hg : Gl X x) (hm : X.mg x = some (.ref C)) (hx : Passes CX X E) (ha : PA X (e :: es) t) (hdb : (x == ("__debug__" : Str)) = false := by decide)
    (he : starEach (e :: es) X.env = (false, eval e X.env) :: starEach es X.env := by rfl) (hpl : (backTo pos (starEach es X.env)).any (·.1) = false := by rfl) : PE X (.Call (.Name x p) (e :: es) [] pos) (tMake C sp [] E t) :=
  let ⟨_, _, h1, h2⟩ := F
  pe_make M h1 hr hg hm h2 .nil hx ha hdb he hpl
/-! ### .. where nothing is being shown -/
theorem run_fnG {pins : List (Addr × Obj)} {σ : L2.St} {H : Hp} {s : Shared} {Q : VK} {us : List Value} {vs : List V} {fd : FuncData} (F : FnG X.prog X.w X.K X.mg X.base CX k f fd ps sp) (hr : Room k X.A) (hG : X.A.guards = some []) (hb : Binds X.K fd ps []) (hx : Passes CX X E)
    (I : Inv X pins σ H s) (r : Vals vs us) (h : sp vs H Q E) : wpAny (model X.prog X.w) X.A (call (.ref f) us) (EP X pins σ Q) X.xe s := by
  have hl : us.length = ps.length := by rw [← r.length]; exact F.len _ _ _ _ h
  have hb2 := hb s us I.kIn (by rw [List.append_nil]; exact hl)
  rw [List.append_nil] at hb2
  refine wpAny_call (codeAny_mono (F.run X.A X.stack s H ⟨us, []⟩ us vs Q E hr hG I.env0 hb2 r h) fun r s' hq => ?_)
  cases r with
  | error e => exact hx pins σ H s e s' I hq
  | ok fl =>
    cases fl with
    | ret u => exact I.after hq
    | next => exact False.elim hq
    | brk => exact False.elim hq
    | cont => exact False.elim hq
theorem pe_doG (F : DoesG X.prog X.w X.K X.mg X.base CX k f ps sp) (hr : Room k X.A) (hG : X.A.guards = some []) (hg : Gl X x) (hm : X.mg x = some (.ref f)) (hx : Passes CX X E) (ha : PA X (e :: es) t) (hdb : (x == ("__debug__" : Str)) = false := by decide)
    (he : starEach (e :: es) X.env = (false, eval e X.env) :: starEach es X.env := by rfl) (hpl : (backTo pos (starEach es X.env)).any (·.1) = false := by rfl) : PE X (.Call (.Name x p) (e :: es) [] pos) (tCall sp [] E t) := by
  obtain ⟨kp, fd, h1, h2⟩ := F
  refine ⟨fun pins s σ H Q I h => ?_⟩
  refine wpAny_Call_Name_kw (ld_glob I hg hm ?_ hdb)
  refine PySem.W.callWith_K (h₀ := X.base) I.ok.mod.kin kp (thn (ha.run pos pins s σ H _ I h) fun us s1 ⟨vs, H1, I1, r, q⟩ => ⟨I1.kIn, ?_⟩) he hpl
  exact run_fnG h1 hr hG h2 hx I1 r (by have q2 : sp (vs ++ []) H1 Q E := q; rw [List.append_nil] at q2; exact q2)
theorem make_guards {A : Around} {C : Addr} {us : List Value} {kw : List (Str × Value)} : (A.under (.builtin "type.__call__" ⟨.ref C :: us, kw⟩)).guards = A.guards := by
  first | rfl | simp [Around.under, Code.guards, Code.isGuard, guardIds, pushGuards]
theorem run_makeG {pins : List (Addr × Obj)} {σ : L2.St} {H : Hp} {s : Shared} {Q : VK} {us : List Value} {vs : List V} {fd : FuncData} (M : Mk X.K C f) (F : FnG X.prog X.w X.K X.mg X.base CX k f fd ps sp) (hr : Room (k + 1) X.A) (hG : X.A.guards = some []) (hb : Binds X.K fd ps [])
    (hx : Passes CX X E) (I : Inv X pins σ H s) (r : Vals vs us)
    (h : ∀ x dx, H x = none → H dx = none → dx ≠ x → sp (.ref x :: vs) (upd (upd H dx (.own x)) x (.ins C dx [])) (fun v H2 => v = .non ∧ Q (.ref x) H2) E) :
    wpAny (model X.prog X.w) X.A (call (.ref C) us) (EP X pins σ Q) X.xe s := by
  have hq := h (s.heap.objs.size + 1) s.heap.objs.size (I.hok.fresh (Nat.le_succ _)) (I.hok.fresh (Nat.le_refl _)) (Nat.ne_of_lt (Nat.lt_succ_self _))
  have I2 := Inv.made (C := C) I
  have r2 : Vals (V.ref (s.heap.objs.size + 1) :: vs) (Value.ref (s.heap.objs.size + 1) :: us) := .cons rfl r
  have hl : (Value.ref (s.heap.objs.size + 1) :: us).length = ps.length := by
    have e := r2.length
    rw [F.len _ _ _ _ hq] at e
    exact e.symm
  have hb2 := hb _ (Value.ref (s.heap.objs.size + 1) :: us) I2.kIn (by rw [List.append_nil]; exact hl)
  rw [List.append_nil] at hb2
  refine wpAny_call (make_map (f := f) I.kIn M.makes M.init (beq_iff_eq.mp M.fn) (codeAny_mono (F.run _ X.stack _ _ ⟨Value.ref (s.heap.objs.size + 1) :: us, []⟩ (Value.ref (s.heap.objs.size + 1) :: us) _ _ E (hr.make C us []) (make_guards.trans hG)
    (I2.env0.make C us []) hb2 r2 hq) fun r s' hq' => ?_))
  cases r with
  | error e => exact hx pins σ _ _ e s' I2 hq'
  | ok fl =>
    cases fl with
    | ret u =>
      obtain ⟨v, H', I3, rv, ev, q3⟩ := I2.after hq'
      subst ev
      exact ⟨rv, ⟨V.ref (s.heap.objs.size + 1), H', I3, rfl, q3⟩⟩
    | next => exact False.elim hq'
    | brk => exact False.elim hq'
    | cont => exact False.elim hq'
theorem pe_doMkG (M : Mk X.K C f) (F : DoesG X.prog X.w X.K X.mg X.base CX k f ps sp) (hr : Room (k + 1) X.A) (hG : X.A.guards = some []) (hg : Gl X x) (hm : X.mg x = some (.ref C)) (hx : Passes CX X E) (ha : PA X (e :: es) t) (hdb : (x == ("__debug__" : Str)) = false := by decide)
    (he : starEach (e :: es) X.env = (false, eval e X.env) :: starEach es X.env := by rfl) (hpl : (backTo pos (starEach es X.env)).any (·.1) = false := by rfl) : PE X (.Call (.Name x p) (e :: es) [] pos) (tMake C sp [] E t) := by
  obtain ⟨_, fd, h1, h2⟩ := F
  refine ⟨fun pins s σ H Q I h => ?_⟩
  refine wpAny_Call_Name_kw (ld_glob I hg hm ?_ hdb)
  refine PySem.W.callWith_K (h₀ := X.base) I.ok.mod.kin M.kp (thn (ha.run pos pins s σ H _ I h) fun us s1 ⟨vs, H1, I1, r, q⟩ => ⟨I1.kIn, ?_⟩) he hpl
  refine run_makeG M h1 hr hG h2 hx I1 r fun x dx h3 h4 h5 => ?_
  have := q x dx h3 h4 h5
  rw [List.append_nil] at this
  exact this
end
/-! ### how each def's arguments bind -/
theorem bn_BadNumber_init : Bn d_BadNumber_init ["self", "what", "number"] := fun _ _ _ _ _ _ us hl => match us, hl with | [_, _, _], _ => rfl
def ps_BadNumber_init : List Str := ["self", "what", "number"]
theorem ix_BadNumber_init : fn[0]? = some d_BadNumber_init := rfl
theorem bn_TooMany_init : Bn d_TooMany_init ["self", "what", "many", "limit"] := fun _ _ _ _ _ _ us hl => match us, hl with | [_, _, _, _], _ => rfl
def ps_TooMany_init : List Str := ["self", "what", "many", "limit"]
theorem ix_TooMany_init : fn[1]? = some d_TooMany_init := rfl
theorem bn_is_integer : Bn d_is_integer ["value"] := fun _ _ _ _ _ _ us hl => match us, hl with | [_], _ => rfl
def ps_is_integer : List Str := ["value"]
theorem ix_is_integer : fn[2]? = some d_is_integer := rfl
theorem bn_is_place : Bn d_is_place ["value"] := fun _ _ _ _ _ _ us hl => match us, hl with | [_], _ => rfl
def ps_is_place : List Str := ["value"]
theorem ix_is_place : fn[3]? = some d_is_place := rfl
theorem bn_is_glue : Bn d_is_glue ["value"] := fun _ _ _ _ _ _ us hl => match us, hl with | [_], _ => rfl
def ps_is_glue : List Str := ["value"]
theorem ix_is_glue : fn[4]? = some d_is_glue := rfl
theorem bn_check_place : Bn d_check_place ["value"] := fun _ _ _ _ _ _ us hl => match us, hl with | [_], _ => rfl
def ps_check_place : List Str := ["value"]
theorem ix_check_place : fn[5]? = some d_check_place := rfl
theorem bn_check_side : Bn d_check_side ["value"] := fun _ _ _ _ _ _ us hl => match us, hl with | [_], _ => rfl
def ps_check_side : List Str := ["value"]
theorem ix_check_side : fn[6]? = some d_check_side := rfl
theorem bn_beside : Bn d_beside ["place"] := fun _ _ _ _ _ _ us hl => match us, hl with | [_], _ => rfl
def ps_beside : List Str := ["place"]
theorem ix_beside : fn[7]? = some d_beside := rfl
theorem bn_Tile_init : Bn d_Tile_init ["self", "name", "west", "south", "east", "north"] := fun _ _ _ _ _ _ us hl => match us, hl with | [_, _, _, _, _, _], _ => rfl
def ps_Tile_init : List Str := ["self", "name", "west", "south", "east", "north"]
theorem ix_Tile_init : fn[8]? = some d_Tile_init := rfl
theorem bn_Tile_glue_at : Bn d_Tile_glue_at ["self", "side"] := fun _ _ _ _ _ _ us hl => match us, hl with | [_, _], _ => rfl
def ps_Tile_glue_at : List Str := ["self", "side"]
theorem ix_Tile_glue_at : fn[9]? = some d_Tile_glue_at := rfl
theorem bn_TileSet_init : Bn d_TileSet_init ["self", "tiles"] := fun _ _ _ _ _ _ us hl => match us, hl with | [_, _], _ => rfl
def ps_TileSet_init : List Str := ["self", "tiles"]
theorem ix_TileSet_init : fn[10]? = some d_TileSet_init := rfl
theorem bn_TileSet_tile_of : Bn d_TileSet_tile_of ["self", "name"] := fun _ _ _ _ _ _ us hl => match us, hl with | [_, _], _ => rfl
def ps_TileSet_tile_of : List Str := ["self", "name"]
theorem ix_TileSet_tile_of : fn[11]? = some d_TileSet_tile_of := rfl
theorem bn_TileSet_with_glue : Bn d_TileSet_with_glue ["self", "side", "glue"] := fun _ _ _ _ _ _ us hl => match us, hl with | [_, _, _], _ => rfl
def ps_TileSet_with_glue : List Str := ["self", "side", "glue"]
theorem ix_TileSet_with_glue : fn[12]? = some d_TileSet_with_glue := rfl
theorem bn_TileSet_in_order : Bn d_TileSet_in_order ["self", "names"] := fun _ _ _ _ _ _ us hl => match us, hl with | [_, _], _ => rfl
def ps_TileSet_in_order : List Str := ["self", "names"]
theorem ix_TileSet_in_order : fn[13]? = some d_TileSet_in_order := rfl
theorem bn_Bed_init : Bn d_Bed_init ["self", "tile_set", "seed_place", "seed_name"] := fun _ _ _ _ _ _ us hl => match us, hl with | [_, _, _, _], _ => rfl
def ps_Bed_init : List Str := ["self", "tile_set", "seed_place", "seed_name"]
theorem ix_Bed_init : fn[14]? = some d_Bed_init := rfl
theorem bn_Bed_places : Bn d_Bed_places ["self"] := fun _ _ _ _ _ _ us hl => match us, hl with | [_], _ => rfl
def ps_Bed_places : List Str := ["self"]
theorem ix_Bed_places : fn[15]? = some d_Bed_places := rfl
theorem bn_Bed_pairs : Bn d_Bed_pairs ["self"] := fun _ _ _ _ _ _ us hl => match us, hl with | [_], _ => rfl
def ps_Bed_pairs : List Str := ["self"]
theorem ix_Bed_pairs : fn[16]? = some d_Bed_pairs := rfl
theorem bn_Bed_how_many : Bn d_Bed_how_many ["self"] := fun _ _ _ _ _ _ us hl => match us, hl with | [_], _ => rfl
def ps_Bed_how_many : List Str := ["self"]
theorem ix_Bed_how_many : fn[17]? = some d_Bed_how_many := rfl
theorem bn_Bed_bonds : Bn d_Bed_bonds ["self", "place", "name"] := fun _ _ _ _ _ _ us hl => match us, hl with | [_, _, _], _ => rfl
def ps_Bed_bonds : List Str := ["self", "place", "name"]
theorem ix_Bed_bonds : fn[18]? = some d_Bed_bonds := rfl
theorem bn_Bed_shown_glues : Bn d_Bed_shown_glues ["self", "place"] := fun _ _ _ _ _ _ us hl => match us, hl with | [_, _], _ => rfl
def ps_Bed_shown_glues : List Str := ["self", "place"]
theorem ix_Bed_shown_glues : fn[19]? = some d_Bed_shown_glues := rfl
theorem bn_Bed_fitting : Bn d_Bed_fitting ["self", "place"] := fun _ _ _ _ _ _ us hl => match us, hl with | [_, _], _ => rfl
def ps_Bed_fitting : List Str := ["self", "place"]
theorem ix_Bed_fitting : fn[20]? = some d_Bed_fitting := rfl
theorem bn_Bed_may_come : Bn d_Bed_may_come ["self"] := fun _ _ _ _ _ _ us hl => match us, hl with | [_], _ => rfl
def ps_Bed_may_come : List Str := ["self"]
theorem ix_Bed_may_come : fn[21]? = some d_Bed_may_come := rfl
theorem bn_Bed_check_empty : Bn d_Bed_check_empty ["self", "place", "name"] := fun _ _ _ _ _ _ us hl => match us, hl with | [_, _, _], _ => rfl
def ps_Bed_check_empty : List Str := ["self", "place", "name"]
theorem ix_Bed_check_empty : fn[22]? = some d_Bed_check_empty := rfl
theorem bn_Bed_come : Bn d_Bed_come ["self", "place", "name"] := fun _ _ _ _ _ _ us hl => match us, hl with | [_, _, _], _ => rfl
def ps_Bed_come : List Str := ["self", "place", "name"]
theorem ix_Bed_come : fn[23]? = some d_Bed_come := rfl
theorem bn_Bed_slip : Bn d_Bed_slip ["self", "place", "name"] := fun _ _ _ _ _ _ us hl => match us, hl with | [_, _, _], _ => rfl
def ps_Bed_slip : List Str := ["self", "place", "name"]
theorem ix_Bed_slip : fn[24]? = some d_Bed_slip := rfl
theorem bn_Bed_cut : Bn d_Bed_cut ["self", "places"] := fun _ _ _ _ _ _ us hl => match us, hl with | [_, _], _ => rfl
def ps_Bed_cut : List Str := ["self", "places"]
theorem ix_Bed_cut : fn[25]? = some d_Bed_cut := rfl
theorem bn_Bed_lay : Bn d_Bed_lay ["self", "place", "name"] := fun _ _ _ _ _ _ us hl => match us, hl with | [_, _, _], _ => rfl
def ps_Bed_lay : List Str := ["self", "place", "name"]
theorem ix_Bed_lay : fn[26]? = some d_Bed_lay := rfl
theorem bn_Bed_twin : Bn d_Bed_twin ["self"] := fun _ _ _ _ _ _ us hl => match us, hl with | [_], _ => rfl
def ps_Bed_twin : List Str := ["self"]
theorem ix_Bed_twin : fn[27]? = some d_Bed_twin := rfl
theorem bn_check_most : Bn d_check_most ["most"] := fun _ _ _ _ _ _ us hl => match us, hl with | [_], _ => rfl
def ps_check_most : List Str := ["most"]
theorem ix_check_most : fn[28]? = some d_check_most := rfl
theorem bn_rounds_of : Bn d_rounds_of ["bed", "most"] := fun _ _ _ _ _ _ us hl => match us, hl with | [_, _], _ => rfl
def ps_rounds_of : List Str := ["bed", "most"]
theorem ix_rounds_of : fn[29]? = some d_rounds_of := rfl
theorem bn_first_each : Bn d_first_each ["pairs"] := fun _ _ _ _ _ _ us hl => match us, hl with | [_], _ => rfl
def ps_first_each : List Str := ["pairs"]
theorem ix_first_each : fn[30]? = some d_first_each := rfl
theorem bn_settle : Bn d_settle ["bed", "most"] := fun _ _ _ _ _ _ us hl => match us, hl with | [_, _], _ => rfl
def ps_settle : List Str := ["bed", "most"]
theorem ix_settle : fn[31]? = some d_settle := rfl
theorem bn_law_pen : Bn d_law_pen ["_law_script"] := fun _ _ _ _ _ _ us hl => match us, hl with | [_], _ => rfl
def ps_law_pen : List Str := ["_law_script"]
theorem ix_law_pen : fn[32]? = some d_law_pen := rfl
theorem bn_law_draw : Bn d_law_draw ["_law_pen_here", "_law_many"] := fun _ _ _ _ _ _ us hl => match us, hl with | [_, _], _ => rfl
def ps_law_draw : List Str := ["_law_pen_here", "_law_many"]
theorem ix_law_draw : fn[33]? = some d_law_draw := rfl
theorem bn_law_pick : Bn d_law_pick ["_law_pen_here", "_law_some"] := fun _ _ _ _ _ _ us hl => match us, hl with | [_, _], _ => rfl
def ps_law_pick : List Str := ["_law_pen_here", "_law_some"]
theorem ix_law_pick : fn[34]? = some d_law_pick := rfl
theorem bn_law_is_whole : Bn d_law_is_whole ["_law_value"] := fun _ _ _ _ _ _ us hl => match us, hl with | [_], _ => rfl
def ps_law_is_whole : List Str := ["_law_value"]
theorem ix_law_is_whole : fn[35]? = some d_law_is_whole := rfl
theorem bn_law_shuffled : Bn d_law_shuffled ["_law_pen_here", "_law_some"] := fun _ _ _ _ _ _ us hl => match us, hl with | [_, _], _ => rfl
def ps_law_shuffled : List Str := ["_law_pen_here", "_law_some"]
theorem ix_law_shuffled : fn[36]? = some d_law_shuffled := rfl
theorem bn_law_t2_next : Bn d_law_t2_next ["_law_place", "_law_side"] := fun _ _ _ _ _ _ us hl => match us, hl with | [_, _], _ => rfl
def ps_law_t2_next : List Str := ["_law_place", "_law_side"]
theorem ix_law_t2_next : fn[37]? = some d_law_t2_next := rfl
theorem bn_law_t2_datum : Bn d_law_t2_datum ["_law_pen_here", "_law_serial"] := fun _ _ _ _ _ _ us hl => match us, hl with | [_, _], _ => rfl
def ps_law_t2_datum : List Str := ["_law_pen_here", "_law_serial"]
theorem ix_law_t2_datum : fn[38]? = some d_law_t2_datum := rfl
theorem bn_law_t2_patch : Bn d_law_t2_patch ["_law_pen_here", "_law_many"] := fun _ _ _ _ _ _ us hl => match us, hl with | [_, _], _ => rfl
def ps_law_t2_patch : List Str := ["_law_pen_here", "_law_many"]
theorem ix_law_t2_patch : fn[39]? = some d_law_t2_patch := rfl
theorem bn_law_t2_edge_glues : Bn d_law_t2_edge_glues ["_law_pen_here", "_law_cells", "_law_mixture"] := fun _ _ _ _ _ _ us hl => match us, hl with | [_, _, _], _ => rfl
def ps_law_t2_edge_glues : List Str := ["_law_pen_here", "_law_cells", "_law_mixture"]
theorem ix_law_t2_edge_glues : fn[40]? = some d_law_t2_edge_glues := rfl
theorem bn_law_t2_outer_glue : Bn d_law_t2_outer_glue ["_law_pen_here", "_law_mixture"] := fun _ _ _ _ _ _ us hl => match us, hl with | [_, _], _ => rfl
def ps_law_t2_outer_glue : List Str := ["_law_pen_here", "_law_mixture"]
theorem ix_law_t2_outer_glue : fn[41]? = some d_law_t2_outer_glue := rfl
theorem bn_law_t2_late_rival : Bn d_law_t2_late_rival ["_law_glues", "_law_cells", "_law_at"] := fun _ _ _ _ _ _ us hl => match us, hl with | [_, _, _], _ => rfl
def ps_law_t2_late_rival : List Str := ["_law_glues", "_law_cells", "_law_at"]
theorem ix_law_t2_late_rival : fn[42]? = some d_law_t2_late_rival := rfl
theorem bn_law_t2_world : Bn d_law_t2_world ["_law_pen_here", "_law_many", "_law_mixture"] := fun _ _ _ _ _ _ us hl => match us, hl with | [_, _, _], _ => rfl
def ps_law_t2_world : List Str := ["_law_pen_here", "_law_many", "_law_mixture"]
theorem ix_law_t2_world : fn[43]? = some d_law_t2_world := rfl
theorem bn_law_t2_tile_set : Bn d_law_t2_tile_set ["_law_pen_here", "_law_own"] := fun _ _ _ _ _ _ us hl => match us, hl with | [_, _], _ => rfl
def ps_law_t2_tile_set : List Str := ["_law_pen_here", "_law_own"]
theorem ix_law_t2_tile_set : fn[44]? = some d_law_t2_tile_set := rfl
theorem bn_law_t2_bonds : Bn d_law_t2_bonds ["_law_own", "_law_bed", "_law_place", "_law_name"] := fun _ _ _ _ _ _ us hl => match us, hl with | [_, _, _, _], _ => rfl
def ps_law_t2_bonds : List Str := ["_law_own", "_law_bed", "_law_place", "_law_name"]
theorem ix_law_t2_bonds : fn[45]? = some d_law_t2_bonds := rfl
theorem bn_law_t2_fitting : Bn d_law_t2_fitting ["_law_own", "_law_bed", "_law_place"] := fun _ _ _ _ _ _ us hl => match us, hl with | [_, _, _], _ => rfl
def ps_law_t2_fitting : List Str := ["_law_own", "_law_bed", "_law_place"]
theorem ix_law_t2_fitting : fn[46]? = some d_law_t2_fitting := rfl
theorem bn_law_t2_may : Bn d_law_t2_may ["_law_own", "_law_bed"] := fun _ _ _ _ _ _ us hl => match us, hl with | [_, _], _ => rfl
def ps_law_t2_may : List Str := ["_law_own", "_law_bed"]
theorem ix_law_t2_may : fn[47]? = some d_law_t2_may := rfl
theorem bn_law_t2_copy : Bn d_law_t2_copy ["_law_bed"] := fun _ _ _ _ _ _ us hl => match us, hl with | [_], _ => rfl
def ps_law_t2_copy : List Str := ["_law_bed"]
theorem ix_law_t2_copy : fn[48]? = some d_law_t2_copy := rfl
theorem bn_law_t2_pairs : Bn d_law_t2_pairs ["_law_bed"] := fun _ _ _ _ _ _ us hl => match us, hl with | [_], _ => rfl
def ps_law_t2_pairs : List Str := ["_law_bed"]
theorem ix_law_t2_pairs : fn[49]? = some d_law_t2_pairs := rfl
theorem bn_law_t2_rounds : Bn d_law_t2_rounds ["_law_own", "_law_bed", "_law_most"] := fun _ _ _ _ _ _ us hl => match us, hl with | [_, _, _], _ => rfl
def ps_law_t2_rounds : List Str := ["_law_own", "_law_bed", "_law_most"]
theorem ix_law_t2_rounds : fn[50]? = some d_law_t2_rounds := rfl
theorem bn_law_t2_near : Bn d_law_t2_near ["_law_pen_here", "_law_own", "_law_bed"] := fun _ _ _ _ _ _ us hl => match us, hl with | [_, _, _], _ => rfl
def ps_law_t2_near : List Str := ["_law_pen_here", "_law_own", "_law_bed"]
theorem ix_law_t2_near : fn[51]? = some d_law_t2_near := rfl
theorem bn_law_t2_disturb : Bn d_law_t2_disturb ["_law_pen_here", "_law_own", "_law_bed", "_law_told", "_law_many"] := fun _ _ _ _ _ _ us hl => match us, hl with | [_, _, _, _, _], _ => rfl
def ps_law_t2_disturb : List Str := ["_law_pen_here", "_law_own", "_law_bed", "_law_told", "_law_many"]
theorem ix_law_t2_disturb : fn[52]? = some d_law_t2_disturb := rfl
theorem bn_law_t2_asked : Bn d_law_t2_asked ["_law_what", "_law_bed", "_law_most"] := fun _ _ _ _ _ _ us hl => match us, hl with | [_, _, _], _ => rfl
def ps_law_t2_asked : List Str := ["_law_what", "_law_bed", "_law_most"]
theorem ix_law_t2_asked : fn[53]? = some d_law_t2_asked := rfl
theorem bn_law_t2_rounds_right : Bn d_law_t2_rounds_right ["_law_pen_here", "_law_own", "_law_bed", "_law_told", "_law_most"] := fun _ _ _ _ _ _ us hl => match us, hl with | [_, _, _, _, _], _ => rfl
def ps_law_t2_rounds_right : List Str := ["_law_pen_here", "_law_own", "_law_bed", "_law_told", "_law_most"]
theorem ix_law_t2_rounds_right : fn[54]? = some d_law_t2_rounds_right := rfl
theorem bn_law_t2_numbers : Bn d_law_t2_numbers ["_law_rounds"] := fun _ _ _ _ _ _ us hl => match us, hl with | [_], _ => rfl
def ps_law_t2_numbers : List Str := ["_law_rounds"]
theorem ix_law_t2_numbers : fn[55]? = some d_law_t2_numbers := rfl
theorem bn_law_t2_steps_right : Bn d_law_t2_steps_right ["_law_pen_here", "_law_start", "_law_numbers"] := fun _ _ _ _ _ _ us hl => match us, hl with | [_, _, _], _ => rfl
def ps_law_t2_steps_right : List Str := ["_law_pen_here", "_law_start", "_law_numbers"]
theorem ix_law_t2_steps_right : fn[56]? = some d_law_t2_steps_right := rfl
theorem bn_law : Bn d_law ["_law_script"] := fun _ _ _ _ _ _ us hl => match us, hl with | [_], _ => rfl
def ps_law : List Str := ["_law_script"]
theorem ix_law : fn[57]? = some d_law := rfl
end TR
/-! text F0 -/
set_option Elab.async false
set_option linter.all false
set_option maxRecDepth 100000
set_option maxHeartbeats 4000000
/-! is_integer .. beside -/
namespace TR
open PySem PySem.Spec PyProof.Rows L2 VD
theorem b_isinstance : bootBuiltins "isinstance" = some (.builtin "isinstance") := by decide +kernel
theorem b_int : bootBuiltins "int" = some (.type "int") := by decide +kernel
theorem b_bool : bootBuiltins "bool" = some (.type "bool") := by decide +kernel
theorem b_tuple : bootBuiltins "tuple" = some (.type "tuple") := by decide +kernel
theorem b_len : bootBuiltins "len" = some (.builtin "len") := by decide +kernel
theorem b_all : bootBuiltins "all" = some (.builtin "all") := by decide +kernel
theorem b_list : bootBuiltins "list" = some (.type "list") := by decide +kernel
theorem b_sorted : bootBuiltins "sorted" = some (.builtin "sorted") := by decide +kernel
theorem b_repr : bootBuiltins "repr" = some (.builtin "repr") := by decide +kernel
theorem b_set : bootBuiltins "set" = some (.type "set") := by decide +kernel
theorem b_sum : bootBuiltins "sum" = some (.builtin "sum") := by decide +kernel
theorem b_str : bootBuiltins "str" = some (.type "str") := by decide +kernel
theorem hu65 {A : Around} {k : Nat} (hr : Room k A) : A.units + 65 < cLine := by have := hr.un; omega
theorem pg_tupK {X : Cx} {K : PySem.W.Frag} {es : List Expr} {k : Nat} {pos : Pos} {t : TGs} {n : Nat} (hK : X.K = K) (hc : X.calm = true) (h : PGs X es t)
    (hn : (assignEach es X.env).length = n := by rfl) (hst : (assignEach es X.env).findIdx? (·.1) = none := by rfl) : PG X (.Tuple es k pos) (gTup K n t) := by
  subst hK
  exact pg_tup hc h hn hst
def isIv : V → Bool
  | .int _ => true
  | _ => false
/-- plain data at its top -/
def Pln (H : Hp) : V → Prop
  | .int _ => True
  | .bl _ => True
  | .non => True
  | .str _ => True
  | .ref a => ∃ xs, H a = some (.tup xs)
  | _ => False
theorem Dt.pln {H : Hp} {v : V} {k : D} (h : Dt H v k) : Pln H v := by
  cases h with
  | non => exact True.intro
  | int i => exact True.intro
  | str x => exact True.intro
  | tup h1 h2 => exact ⟨_, h1⟩
section
variable {P : Program} {w : World} {K : PySem.W.Frag} {mg : Str → Option Value} {base : Heap}
def spIsInt : Sp := fun vs H Q _ => ∃ x, vs = [x] ∧ Pln H x ∧ Q (.bl (isIv x)) H
theorem ok_is_integer (E : Ev K mg base) : Does P w K mg base L2.CX0 1 (He.ga K "is_integer") ["value"] spIsInt :=
  E.does0 (k := 0) ix_is_integer rfl bn_is_integer sc_is_integer (fun _ _ _ _ ⟨_, h, _⟩ => by rw [h]; rfl) fun cdv A outer s H vs Q X hr h => by
    obtain ⟨x, rfl, hx, q⟩ := h
    refine ⟨_, (pss_one (ps_ret (pe_and (pe_callB call_isi (by rfl) (u_isinstance E) b_isinstance (pa_cons (pv 0) (pa_cons (pe_bltn (v := .ty "int") (by rfl) (u_int E) b_int rfl) pa_nil))) (pe_one (pe_not (pe_callB call_isi (by rfl) (u_isinstance E) b_isinstance (pa_cons (pv 0) (pa_cons (pe_bltn (v := .ty "bool") (by rfl) (u_bool E) b_bool rfl) pa_nil)))))))), ?_⟩
    suffices key : ∃ (t : String) (b1 b2 : Bool), TyX K H x (.type t) ∧ kitB t "int" = some b1 ∧ kitB t "bool" = some b2 ∧ isIv x = (b1 && !b2) from by
      obtain ⟨t, b1, b2, h1, h2, h3, h4⟩ := key
      rw [h4] at q
      refine ⟨_, rfl, _, _, _, _, b1, rfl, .ty _, h1, kit_ty h2, b1, rfl, ?_⟩
      cases b1 with
      | true => exact iteT ⟨_, rfl, _, _, _, _, b2, rfl, .ty _, h1, kit_ty h3, b2, rfl, q⟩
      | false => exact iteF q
    cases x with
    | int i => exact ⟨"int", true, false, .base (.int i), by decide +kernel, by decide +kernel, rfl⟩
    | bl i => exact ⟨"bool", true, true, .base (.bl i), by decide +kernel, by decide +kernel, rfl⟩
    | non => exact ⟨"NoneType", false, false, .base .non, by decide +kernel, by decide +kernel, rfl⟩
    | str i => exact ⟨"str", false, false, .base (.str i), by decide +kernel, by decide +kernel, rfl⟩
    | ref a =>
      obtain ⟨xs, hx⟩ := hx
      exact ⟨"tuple", false, false, .base (.tup hx), by decide +kernel, by decide +kernel, rfl⟩
    | _ => exact hx.elim
end
end TR
/-! text F1 -/
set_option Elab.async false
set_option linter.all false
set_option maxRecDepth 100000
set_option maxHeartbeats 4000000
/-! places, glues, tiles -/
namespace TR
open PySem PySem.Spec PyProof.Rows L2 VD
def lamQ (d : He.DefD) : Str := (envOfC d.qual d.scope 0 0 .none).qual ++ "<lambda>"
/-- the tables of the three defs that make lambdas -/
def TabK (K : PySem.W.Frag) : List (Addr × Str) := [((He.cT K ("TileSet", some "__init__")).2, lamQ d_TileSet_init), ((He.cT K ("TileSet", some "in_order")).2, lamQ d_TileSet_in_order), ((He.cT K ("_law_t2_world", none)).2, lamQ d_law_t2_world)]
abbrev EX (K : PySem.W.Frag) (S : List Addr) (H H1 : Hp) : Prop := Ext (TabK K) S H H1
abbrev Gu := D × Int
def glD (g : Gu) : D := .tup [g.1, .num g.2]
def nb (p : Pl) (s : Nat) : Pl := match s with
  | 0 => (p.1 - 1, p.2)
  | 1 => (p.1, p.2 - 1)
  | 2 => (p.1 + 1, p.2)
  | _ => (p.1, p.2 + 1)
def nbD (p : Pl) : D := .tup [plD (nb p 0), plD (nb p 1), plD (nb p 2), plD (nb p 3)]
theorem tup2 {H : Hp} {v : V} {a b : D} (h : Dt H v (.tup [a, b])) : ∃ t x y, v = .ref t ∧ H t = some (.tup [x, y]) ∧ Dt H x a ∧ Dt H y b := by
  cases h with
  | tup h1 h2 =>
    cases h2 with
    | cons p r =>
      cases r with
      | cons q r =>
        cases r
        exact ⟨_, _, _, rfl, h1, p, q⟩
theorem tup4 {H : Hp} {v : V} {a b c d : D} (h : Dt H v (.tup [a, b, c, d])) : ∃ t x y z u, v = .ref t ∧ H t = some (.tup [x, y, z, u]) ∧ Dt H x a ∧ Dt H y b ∧ Dt H z c ∧ Dt H u d := by
  cases h with
  | tup h1 h2 =>
    cases h2 with
    | cons p r =>
      cases r with
      | cons q r =>
        cases r with
        | cons p2 r =>
          cases r with
          | cons q2 r =>
            cases r
            exact ⟨_, _, _, _, _, rfl, h1, p, q, p2, q2⟩
theorem dt_int {H : Hp} {v : V} {i : Int} (h : Dt H v (.num i)) : v = .int i := by cases h; rfl
theorem gl_tup {H : Hp} {v : V} {g : Gu} (h : Dt H v (glD g)) : ∃ t x, v = .ref t ∧ H t = some (.tup [x, .int g.2]) ∧ Dt H x g.1 := by
  obtain ⟨t, x, y, h1, h2, h3, h4⟩ := tup2 h
  rw [dt_int h4] at h2
  exact ⟨t, x, h1, h2, h3⟩
theorem atI0 {a : V} {r : List V} : atI (a :: r) 0 = some a := atI_nat (j := 0) rfl
theorem atI1 {a b : V} {r : List V} : atI (a :: b :: r) 1 = some b := atI_nat (j := 1) rfl
/-- a tuple newly laid -/
theorem Dt.new {H : Hp} {p : Addr} {vs : List V} {ks : List D} (hn : H p = none) (h : DtAll H vs ks) : Dt (upd H p (.tup vs)) (.ref p) (.tup ks) :=
  .tup upd_same (DtAll.ext (fun b us e => by rw [upd_ne (ne_of_none e hn)]; exact e) _ _ h)
theorem newTup {K : PySem.W.Frag} {H : Hp} {a : Addr} {vs : List V} {ks : List D} (h : H a = none) (d : DtAll H vs ks) : EX K [] H (upd H a (.tup vs)) ∧ Dt (upd H a (.tup vs)) (.ref a) (.tup ks) := ⟨Ext.new h, Dt.new h d⟩
theorem sz1 {a : V} : [a].length ≤ sizeLine := by show 1 ≤ sizeLine; decide
theorem sz2 {a b : V} : [a, b].length ≤ sizeLine := by show 2 ≤ sizeLine; decide
theorem sz3 {a b c : V} : [a, b, c].length ≤ sizeLine := by show 3 ≤ sizeLine; decide
theorem sz4 {a b c d : V} : [a, b, c, d].length ≤ sizeLine := by show 4 ≤ sizeLine; decide
theorem sz5 {a b c d e : V} : [a, b, c, d, e].length ≤ sizeLine := by show 5 ≤ sizeLine; decide
section
variable {P : Program} {w : World} {K : PySem.W.Frag} {mg : Str → Option Value} {base : Heap}
def spPlace : Sp := fun vs H Q _ => ∃ v p, vs = [v] ∧ Dt H v (plD p) ∧ Q (.bl true) H
theorem ok_is_place (E : Ev K mg base) : Does P w K mg base L2.CX0 2 (He.ga K "is_place") ["value"] spPlace :=
  E.does0 (k := 1) ix_is_place rfl bn_is_place sc_is_place (fun _ _ _ _ ⟨_, _, h, _⟩ => by rw [h]; rfl) fun cdv A outer s H vs Q X hr h => by
    obtain ⟨v, p, rfl, hp, q⟩ := h
    obtain ⟨t, rfl, ht⟩ := pl_tup hp
    refine ⟨_, (pss_one (ps_ret (pe_and (pe_callB call_isi (by rfl) (u_isinstance E) b_isinstance (pa_cons (pv 0) (pa_cons (pe_bltn (v := .ty "tuple") (by rfl) (u_tuple E) b_tuple rfl) pa_nil))) (pe_and (pe_cmpR op_eq (pe_callB call_len_seq (by rfl) (u_len E) b_len (pa_cons (pv 0) pa_nil)) pe_int (nomark _)) (pe_and (pe_do (ok_is_integer E) (hr.mono (by decide)) (by rfl) (g_is_integer E) pass0 (pa_cons (pe_ix ix_tup (pv 0) pe_int (fun _ _ => rfl)) pa_nil)) (pe_one (pe_do (ok_is_integer E) (hr.mono (by decide)) (by rfl) (g_is_integer E) pass0 (pa_cons (pe_ix ix_tup (pv 0) pe_int (fun _ _ => rfl)) pa_nil)))))))), ?_⟩
    refine ⟨_, rfl, _, _, _, _, true, rfl, .ty _, .base (.tup ht), kit_ty (by decide +kernel), true, rfl, iteT ?_⟩
    refine ⟨_, rfl, _, _, rfl, .inr (.of ht), rfl, true, rfl, iteT ?_⟩
    refine ⟨_, rfl, _, _, _, _, rfl, rfl, .of ht, atI0, ⟨_, rfl, True.intro, true, rfl, iteT ?_⟩⟩
    exact ⟨_, rfl, _, _, _, _, rfl, rfl, .of ht, atI1, ⟨_, rfl, True.intro, q⟩⟩
def spCkPlace : Sp := fun vs H Q _ => ∃ v p, vs = [v] ∧ Dt H v (plD p) ∧ Q .non H
theorem ok_check_place (E : Ev K mg base) : Does P w K mg base L2.CX0 3 (He.ga K "check_place") ["value"] spCkPlace :=
  E.does0 (k := 2) ix_check_place rfl bn_check_place sc_check_place (fun _ _ _ _ ⟨_, _, h, _⟩ => by rw [h]; rfl) fun cdv A outer s H vs Q X hr h => by
    obtain ⟨v, p, rfl, hp, q⟩ := h
    refine ⟨_, (pss_one (ps_if (pt_not (pt_val (pe_do (ok_is_place E) (hr.mono (by decide)) (by rfl) (g_is_place E) pass0 (pa_cons (pv 0) pa_nil))))
        (pss_one ps_never)
        pss_nil)), ?_⟩
    exact ⟨_, rfl, _, _, rfl, hp, true, rfl, iteF q⟩
def spGlue : Sp := fun vs H Q _ => ∃ v g, vs = [v] ∧ Dt H v (glD g) ∧ 0 ≤ g.2 ∧ g.2 ≤ 2 ∧ Q (.bl true) H
theorem ok_is_glue (E : Ev K mg base) : Does P w K mg base L2.CX0 2 (He.ga K "is_glue") ["value"] spGlue :=
  E.does0 (k := 1) ix_is_glue rfl bn_is_glue sc_is_glue (fun _ _ _ _ ⟨_, _, h, _⟩ => by rw [h]; rfl) fun cdv A outer s H vs Q X hr h => by
    obtain ⟨v, g, rfl, hp, h0, h2, q⟩ := h
    obtain ⟨t, x, rfl, ht, _⟩ := gl_tup hp
    refine ⟨_, (pss_one (ps_ret (pe_and (pe_callB call_isi (by rfl) (u_isinstance E) b_isinstance (pa_cons (pv 0) (pa_cons (pe_bltn (v := .ty "tuple") (by rfl) (u_tuple E) b_tuple rfl) pa_nil))) (pe_and (pe_cmpR op_eq (pe_callB call_len_seq (by rfl) (u_len E) b_len (pa_cons (pv 0) pa_nil)) pe_int (nomark _)) (pe_and (pe_do (ok_is_integer E) (hr.mono (by decide)) (by rfl) (g_is_integer E) pass0 (pa_cons (pe_ix ix_tup (pv 0) pe_int (fun _ _ => rfl)) pa_nil)) (pe_one (pe_chain op_le op_le pe_int (pe_ix ix_tup (pv 0) pe_int (fun _ _ => rfl)) pe_int))))))), ?_⟩
    refine ⟨_, rfl, _, _, _, _, true, rfl, .ty _, .base (.tup ht), kit_ty (by decide +kernel), true, rfl, iteT ?_⟩
    refine ⟨_, rfl, _, _, rfl, .inr (.of ht), rfl, true, rfl, iteT ?_⟩
    refine ⟨_, rfl, _, _, _, _, rfl, rfl, .of ht, atI1, ⟨_, rfl, True.intro, true, rfl, iteT ?_⟩⟩
    refine ⟨_, rfl, _, _, _, _, rfl, rfl, .of ht, atI1, _, _, rfl, rfl, _, rfl, ?_⟩
    rw [if_pos (decide_eq_true h0)]
    have q2 : Q (.bl (decide (g.2 ≤ 2))) H := by rw [decide_eq_true h2]; exact q
    exact ⟨_, _, rfl, rfl, q2⟩
def spCkSide : Sp := fun vs H Q _ => ∃ i : Int, vs = [.int i] ∧ 0 ≤ i ∧ i ≤ 3 ∧ Q .non H
theorem ok_check_side (E : Ev K mg base) : Does P w K mg base L2.CX0 2 (He.ga K "check_side") ["value"] spCkSide :=
  E.does0 (k := 1) ix_check_side rfl bn_check_side sc_check_side (fun _ _ _ _ ⟨_, h, _⟩ => by rw [h]; rfl) fun cdv A outer s H vs Q X hr h => by
    obtain ⟨i, rfl, h0, h3, q⟩ := h
    refine ⟨_, (pss_one (ps_if (PW.pt (pw_or (pt_not (pt_val (pe_do (ok_is_integer E) (hr.mono (by decide)) (by rfl) (g_is_integer E) pass0 (pa_cons (pv 0) pa_nil)))) (pw_or1 (pt_not (pt_chain op_le op_le pe_int (pv 0) pe_int)))))
        (pss_one ps_never)
        pss_nil)), ?_⟩
    refine ⟨_, rfl, _, rfl, True.intro, true, rfl, iteF ?_⟩
    refine ⟨_, rfl, _, _, rfl, rfl, _, rfl, ?_⟩
    rw [if_pos (decide_eq_true h0)]
    exact ⟨_, _, rfl, rfl, _, rfl, by rw [decide_eq_true h3]; exact iteF q⟩
def spBeside (K : PySem.W.Frag) : Sp := fun vs H Q _ => ∃ v p, vs = [v] ∧ Dt H v (plD p) ∧ ∀ t H1, EX K [] H H1 → Dt H1 (.ref t) (nbD p) → Q (.ref t) H1
theorem ok_beside (E : Ev K mg base) : Does P w K mg base L2.CX0 4 (He.ga K "beside") ["place"] (spBeside K) :=
  E.does0 (k := 3) ix_beside rfl bn_beside sc_beside (fun _ _ _ _ ⟨_, _, h, _⟩ => by rw [h]; rfl) fun cdv A outer s H vs Q X hr h => by
    obtain ⟨v, p, rfl, hp, q⟩ := h
    obtain ⟨t, rfl, ht⟩ := pl_tup hp
    refine ⟨_, (pss_cons (ps_expr (pe_do (ok_check_place E) (hr.mono (by decide)) (by rfl) (g_check_place E) pass0 (pa_cons (pv 0) pa_nil)))
      (pss_cons (ps_asg (pv 0) (pg_tupK (K := K) (n := 2) rfl rfl (pgs_cons (pg_name (i := 1) sc_beside.nd rfl (by first | exact Or.inl rfl | exact Or.inr rfl)) (pgs_cons (pg_name (i := 2) sc_beside.nd rfl (by first | exact Or.inl rfl | exact Or.inr rfl)) pgs_nil))))
      (pss_one (ps_ret (pe_tup (pa_cons (pe_tup (pa_cons (pe_op op_sub (pv 1) pe_int) (pa_cons (pv 2) pa_nil))) (pa_cons (pe_tup (pa_cons (pv 1) (pa_cons (pe_op op_sub (pv 2) pe_int) pa_nil))) (pa_cons (pe_tup (pa_cons (pe_op op_add (pv 1) pe_int) (pa_cons (pv 2) pa_nil))) (pa_cons (pe_tup (pa_cons (pv 1) (pa_cons (pe_op op_add (pv 2) pe_int) pa_nil))) pa_nil))))))))), ?_⟩
    refine ⟨_, rfl, _, _, rfl, hp, ?_⟩
    refine ⟨_, rfl, _, _, rfl, .of ht, rfl, _, _, rfl, _, _, rfl, rfl, ?_⟩
    refine ⟨_, rfl, _, _, rfl, rfl, _, rfl, sz2, fun a ha => ?_⟩
    refine ⟨_, rfl, _, rfl, _, _, rfl, rfl, sz2, fun b hb => ?_⟩
    refine ⟨_, rfl, _, _, rfl, rfl, _, rfl, sz2, fun c hc => ?_⟩
    refine ⟨_, rfl, _, rfl, _, _, rfl, rfl, sz2, fun d hd => ?_⟩
    refine ⟨sz4, fun u hu => ?_⟩
    obtain ⟨ea, da⟩ := newTup (K := K) (ks := [.num (nb p 0).1, .num (nb p 0).2]) ha (.cons (.int _) (.cons (.int _) .nil))
    obtain ⟨eb, db⟩ := newTup (K := K) (ks := [.num (nb p 1).1, .num (nb p 1).2]) hb (.cons (.int _) (.cons (.int _) .nil))
    obtain ⟨ec, dc⟩ := newTup (K := K) (ks := [.num (nb p 2).1, .num (nb p 2).2]) hc (.cons (.int _) (.cons (.int _) .nil))
    obtain ⟨ed, dd⟩ := newTup (K := K) (ks := [.num (nb p 3).1, .num (nb p 3).2]) hd (.cons (.int _) (.cons (.int _) .nil))
    exact q _ _ ((ea.trans (eb.trans (ec.trans ed))).andNew hu) (Dt.new hu (.cons (ed.dt (ec.dt (eb.dt da))) (.cons (ed.dt (ec.dt db)) (.cons (ed.dt dc) (.cons dd .nil)))))
end
end TR
/-! text F2 -/
set_option Elab.async false
set_option linter.all false
set_option maxRecDepth 100000
set_option maxHeartbeats 4000000
/-! tiles -/
namespace TR
open PySem PySem.Spec PyProof.Rows L2 VD
abbrev CTile (K : PySem.W.Frag) : Addr := He.ga K "Tile"
/-- a tile of the name n, its glues g -/
def TileO (K : PySem.W.Frag) (H : Hp) (a : Addr) (n : D) (g : Nat → Gu) : Prop := ∃ dx vn v0 v1 v2 v3, H a = some (.ins (CTile K) dx [("name", vn), ("west", v0), ("south", v1), ("east", v2), ("north", v3)]) ∧
  Dt H vn n ∧ Dt H v0 (glD (g 0)) ∧ Dt H v1 (glD (g 1)) ∧ Dt H v2 (glD (g 2)) ∧ Dt H v3 (glD (g 3))
theorem tyes {σ : L2.St} {H : Hp} {F : Bool → Hp → Prop} (h : F true H) : tYes σ H F := h
theorem ln0 {α : Type} : ([] : List α).length < 1000 := by show 0 < 1000; decide
theorem ln1 {α : Type} {a : α} : [a].length < 1000 := by show 1 < 1000; decide
theorem ln2 {α : Type} {a b : α} : [a, b].length < 1000 := by show 2 < 1000; decide
theorem ln3 {α : Type} {a b c : α} : [a, b, c].length < 1000 := by show 3 < 1000; decide
theorem ln4 {α : Type} {a b c d : α} : [a, b, c, d].length < 1000 := by show 4 < 1000; decide
theorem ln5 {α : Type} {a b c d e : α} : [a, b, c, d, e].length < 1000 := by show 5 < 1000; decide
section
variable {P : Program} {w : World} {K : PySem.W.Frag} {mg : Str → Option Value} {base : Heap}
def spTileInit (K : PySem.W.Frag) : Sp := fun vs H Q _ => ∃ x dx vn v0 v1 v2 v3 n g, vs = [.ref x, vn, v0, v1, v2, v3] ∧ H x = some (.ins (CTile K) dx []) ∧ Dt H vn n ∧ n ≠ .none ∧ Dt H v0 (glD (g 0)) ∧ Dt H v1 (glD (g 1)) ∧ Dt H v2 (glD (g 2)) ∧ Dt H v3 (glD (g 3)) ∧
  (∀ s : Nat, 0 ≤ (g s).2 ∧ (g s).2 ≤ 2) ∧ ∀ H1, EX K [x] H H1 → TileO K H1 x n g → Q .non H1
theorem insUpd {K : PySem.W.Frag} {H : Hp} {x C dx C1 dx1 : Addr} {fs ys : List (Str × V)} (h : H x = some (.ins C dx fs)) : EX K [x] H (upd H x (.ins C1 dx1 ys)) := Ext.refl.ins h (.inr (by simp))
theorem ok_Tile_init (E : Ev K mg base) : Does P w K mg base L2.CX0 3 (He.ma K (He.ga K "Tile") "__init__") ["self", "name", "west", "south", "east", "north"] (spTileInit K) :=
  E.does0 (k := 2) ix_Tile_init rfl bn_Tile_init sc_Tile_init (fun _ _ _ _ ⟨_, _, _, _, _, _, _, _, _, h, _⟩ => by rw [h]; rfl) fun cdv A outer s H vs Q X hr h => by
    obtain ⟨x, dx, vn, v0, v1, v2, v3, n, g, rfl, hx, hn, nn, h0, h1, h2, h3, hb, q⟩ := h
    refine ⟨_, (pss_cons (ps_if (PW.pt (pw_or (pt_cmp (pc_isN (pv 1))) (pw_or1 (pt_not (pt_val (pe_callB (cr_all rfl) (by rfl) (u_all E) b_all (pa_cons (pe_lc rfl sc_Tile_init.nd (pi_tup (pe_tup (pa_cons (pv 2) (pa_cons (pv 3) (pa_cons (pv 4) (pa_cons (pv 5) pa_nil)))))) (own := [("glue", 6)]) (blkOk_by (N := n_Tile_init) (sc := defScope s_Tile_init) (by decide +kernel)) (fun _ _ _ _ _ => (pg_name (i := 6) sc_Tile_init.nd rfl (by first | exact Or.inl rfl | exact Or.inr rfl))) (fun _ _ _ _ _ => pts_nil) (fun _ _ _ _ _ => (pe_do (ok_is_glue E) (hr.mono (by decide)) (by rfl) (g_is_glue E) pass0 (pa_cons (pv 6) pa_nil)))) pa_nil)))))))
        (pss_one ps_never)
        pss_nil)
      (pss_cons (ps_fld (pv 0) (pv 1) (by rfl))
      (pss_cons (ps_fld (pv 0) (pv 2) (by rfl))
      (pss_cons (ps_fld (pv 0) (pv 3) (by rfl))
      (pss_cons (ps_fld (pv 0) (pv 4) (by rfl))
      (pss_one (ps_fld (pv 0) (pv 5) (by rfl)))))))), ?_⟩
    have hvn : vn ≠ .non := fun z => by
      rw [z] at hn; cases hn; exact nn rfl
    have f0 : decide (vn = V.non) = false := decide_eq_false hvn
    refine ⟨_, rfl, _, rfl, ?_⟩
    rw [f0]
    refine iteF ?_
    -- the list of the four answers
    refine ⟨_, rfl, _, rfl, _, rfl, _, rfl, sz4, fun t ht => ⟨_, rfl, ⟨_, .of upd_same⟩, fun d hd => ?_⟩⟩
    have ds : DtAll H [v0, v1, v2, v3] [glD (g 0), glD (g 1), glD (g 2), glD (g 3)] := .cons h0 (.cons h1 (.cons h2 (.cons h3 .nil)))
    obtain ⟨et, dt⟩ := newTup (K := K) ht ds
    refine lc_tup (fun i H2 => EX K [] H H2 ∧ H2 t = some (.tup [v0, v1, v2, v3]) ∧ H2 d = some (.lst (List.replicate i (.bl true)))) ⟨et.andNew hd, ?_, upd_same⟩ (fun i H2 _ hh => .of hh.2.1) ?_ ?_
    · rw [upd_ne (ne_of_none upd_same hd)]; exact upd_same
    · intro i y H2 hy ⟨e2, t2, l2⟩
      have hy2 : ∃ s : Nat, Dt H y (glD (g s)) := by
        match i, hy with
        | 0, hy => cases hy; exact ⟨0, h0⟩
        | 1, hy => cases hy; exact ⟨1, h1⟩
        | 2, hy => cases hy; exact ⟨2, h2⟩
        | 3, hy => cases hy; exact ⟨3, h3⟩
        | _ + 4, hy => cases hy
      obtain ⟨s, hy2⟩ := hy2
      have hi : i < 4 := (List.getElem?_eq_some_iff.mp hy).1
      refine ⟨rfl, tyes ?_⟩
      refine iteT ?_
      refine ⟨_, rfl, _, _, rfl, e2.dt hy2, (hb s).1, (hb s).2, _, l2, ?_, ?_⟩
      · rw [List.length_replicate]; exact Nat.lt_trans hi (by decide)
      · refine ⟨e2.lst l2 (.inl (et.fresh hd)), ?_, ?_⟩
        · rw [upd_ne (ne_of t2 l2 (fun z => by cases z))]; exact t2
        · rw [upd_same, List.replicate_succ'] <;> rfl
    · intro H2 ⟨e2, t2, l2⟩
      refine ⟨d, [true, true, true, true], rfl, .of l2, true, rfl, ?_⟩
      refine iteF ?_
      have x2 : H2 x = some (.ins (CTile K) dx []) := e2.at0 hx
      refine ⟨_, rfl, _, rfl, _, _, dx, [], rfl, x2, c_Tile E, na_Tile_name E, ln0, ?_⟩
      refine ⟨_, rfl, _, rfl, _, _, dx, [("name", vn)], rfl, upd_same, c_Tile E, na_Tile_west E, ln1, ?_⟩
      refine ⟨_, rfl, _, rfl, _, _, dx, [("name", vn), ("west", v0)], rfl, upd_same, c_Tile E, na_Tile_south E, ln2, ?_⟩
      refine ⟨_, rfl, _, rfl, _, _, dx, [("name", vn), ("west", v0), ("south", v1)], rfl, upd_same, c_Tile E, na_Tile_east E, ln3, ?_⟩
      refine ⟨_, rfl, _, rfl, _, _, dx, [("name", vn), ("west", v0), ("south", v1), ("east", v2)], rfl, upd_same, c_Tile E, na_Tile_north E, ln4, ?_⟩
      rw [upd_upd, upd_upd, upd_upd, upd_upd]
      have e3 : EX K [x] H2 _ := insUpd (C1 := CTile K) (dx1 := dx) (ys := [("name", vn), ("west", v0), ("south", v1), ("east", v2), ("north", v3)]) x2
      have e4 := e2.nil.trans e3
      exact q _ e4 ⟨dx, vn, v0, v1, v2, v3, upd_same, e4.dt hn, e4.dt h0, e4.dt h1, e4.dt h2, e4.dt h3⟩
end
end TR
/-! text F3 -/
set_option Elab.async false
set_option linter.all false
set_option maxRecDepth 100000
set_option maxHeartbeats 4000000
/-! the pen -/
namespace TR
open PySem PySem.Spec PyProof.Rows L2 VD
section
variable {X : Cx} {st : Stmt} {rest : List Stmt} {t u : TS}
/-- a block cut behind its first statement: Pv holds there -/
def tCut (Pv : L2.St → Hp → Prop) (t u : TS) : TS := fun D σ H => t { D with nx := Pv } σ H ∧ ∀ σ H, Pv σ H → u D σ H
theorem pss_cut (Pv : L2.St → Hp → Prop) (h1 : PS X st t) (h2 : PSs X rest u) : PSs X (st :: rest) (tCut Pv t u) := by
  refine ⟨fun pins s σ H D I h => ?_⟩
  refine wpAny_execs_cons (thn (h1.run pins s σ H { D with nx := Pv } I h.1) fun f s1 q => ?_)
  cases f with
  | next =>
    obtain ⟨σ', H', I', q⟩ := q
    exact h2.run pins s1 σ' H' D I' (h.2 σ' H' q)
  | ret v => exact q
  | brk => exact q
  | cont => exact q
end
theorem pget {H : Hp} {p : Addr} {kvs : List (Key × V)} {v : V} (h : H p = some (.dK kvs)) (k : Str) (e : valV kvs (.inr k) = some v) : DGet H p (.str k) (some v) := .inl ⟨kvs, .inr k, .inl h, rfl, e.symm⟩
theorem pput {H : Hp} {p : Addr} {kvs : List (Key × V)} (h : H p = some (.dK kvs)) (k : Str) (v : V) (hl : kvs.length < sizeLine) : DPut H p (.str k) v (upd H p (.dK (putK kvs (.inr k) v))) := .inl ⟨kvs, .inr k, h, rfl, hl, rfl⟩
def PD (c : Addr) (a d k f : Int) : List (Key × V) := [(.inr "cells", .ref c), (.inr "at", .int a), (.inr "digits", .int d), (.inr "count", .int k), (.inr "fold", .int f)]
theorem PD_len {c : Addr} {a d k f : Int} : (PD c a d k f).length < sizeLine := by show 5 < sizeLine; decide
/-- the pen at p, at most n draws made -/
def Pen (H : Hp) (p c : Addr) (n : Nat) : Prop := ∃ (cs : List Int) (a d k f : Int), H p = some (.dK (PD c a d k f)) ∧ H c = some (.lst (cs.map V.int)) ∧ 0 ≤ a ∧ 0 ≤ d ∧ 0 ≤ k ∧ k ≤ n ∧ 0 ≤ f ∧ f < 2147483587
theorem Pen.mono {H : Hp} {p c : Addr} {n m : Nat} (h : Pen H p c n) (hm : n ≤ m) : Pen H p c m := by
  obtain ⟨cs, a, d, k, f, h1, h2, h3, h4, h5, h6, h7⟩ := h
  exact ⟨cs, a, d, k, f, h1, h2, h3, h4, h5, by omega, h7⟩
theorem Pen.ext {K : PySem.W.Frag} {S : List Addr} {H H1 : Hp} {p c : Addr} {n : Nat} (h : Pen H p c n) (e : EX K S H H1) (hs : ∀ b ∈ S, ∃ o, H b = some o ∧ (∀ xs, o ≠ .lst xs) ∧ ∀ xs, o ≠ .dK xs) : Pen H1 p c n := by
  obtain ⟨cs, a, d, k, f, h1, h2, r⟩ := h
  refine ⟨cs, a, d, k, f, e.at_ h1 fun z => ?_, e.at_ h2 fun z => ?_, r⟩
  · obtain ⟨o, q, _, n2⟩ := hs p z
    rw [h1] at q; cases q; exact n2 _ rfl
  · obtain ⟨o, q, n1, _⟩ := hs c z
    rw [h2] at q; cases q; exact n1 _ rfl
theorem Pen.ext0 {K : PySem.W.Frag} {H H1 : Hp} {p c : Addr} {n : Nat} (h : Pen H p c n) (e : EX K [] H H1) : Pen H1 p c n := h.ext e fun b z => by cases z
theorem Pen.chg {H H1 : Hp} {p c a : Addr} {n : Nat} (h : Pen H p c n) (k : Chg a H H1) (h1 : p ≠ a) (h2 : c ≠ a) : Pen H1 p c n := by
  obtain ⟨cs, a, d, k', f, g1, g2, r⟩ := h
  exact ⟨cs, a, d, k', f, k.at_ g1 h1, k.at_ g2 h2, r⟩
theorem Pen.neP {H : Hp} {p c a : Addr} {n : Nat} (h : Pen H p c n) (ha : H a = none) : p ≠ a := by
  obtain ⟨cs, _, d, k', f, g1, g2, r⟩ := h
  exact ne_of_none g1 ha
theorem Pen.neC {H : Hp} {p c a : Addr} {n : Nat} (h : Pen H p c n) (ha : H a = none) : c ≠ a := by
  obtain ⟨cs, _, d, k', f, g1, g2, r⟩ := h
  exact ne_of_none g2 ha
section
variable {P : Program} {w : World} {K : PySem.W.Frag} {mg : Str → Option Value} {base : Heap}
theorem sql0 {K : PySem.W.Frag} {H H1 : Hp} {a : Addr} {xs : List V} (e : EX K [] H H1) (h : SqL K H a xs) : SqL K H1 a xs := by
  rcases h with (h | ⟨o, h⟩) | h
  · exact .inl (.inl (e.at0 h))
  · exact .inl (.inr ⟨o, e.at0 h⟩)
  · exact .inr h
def spPen (K : PySem.W.Frag) : Sp := fun vs H Q _ => ∃ (a : Addr) (ns : List Int), vs = [.ref a] ∧ SqL K H a (ns.map V.int) ∧ ns.length ≤ 63 ∧ ∀ p c H1, H p = none → EX K [] H H1 → Pen H1 p c 0 → Q (.ref p) H1
theorem ok_law_pen (E : Ev K mg base) : Does P w K mg base L2.CX0 1 (He.ga K "_law_pen") ["_law_script"] (spPen K) :=
  E.does0 (k := 0) ix_law_pen rfl bn_law_pen sc_law_pen (fun _ _ _ _ ⟨_, _, h, _⟩ => by rw [h]; rfl) fun cdv A outer s H vs Q X hr h => by
    obtain ⟨a, ns, rfl, ha, hl, q⟩ := h
    refine ⟨_, (pss_cons (ps_set (i := 1) sc_law_pen.nd rfl (Or.inl rfl) pe_int)
      (pss_cons (ps_for PassesOwn.never rfl (pi_list (pv 0)) (pg_name (i := 2) sc_law_pen.nd rfl (Or.inl rfl))
        (pss_one (ps_set (i := 1) sc_law_pen.nd rfl (Or.inl rfl) (pe_op op_mod (pe_callTy call_int1 (by rfl) (u_int E) b_int (pa_cons (pe_op op_add (pe_op op_mul (pv 1) pe_int) (pv 2)) pa_nil)) pe_int))))
      (pss_one (ps_ret (pe_disp (pps_cons pe_str (pe_callTy call_list_of (by rfl) (u_list E) b_list (pa_cons (pv 0) pa_nil)) (pps_cons pe_str pe_int (pps_cons pe_str pe_int (pps_cons pe_str pe_int (pps_cons pe_str (pv 1) pps_nil))))) rfl rfl (by decide) (by decide)))))), ?_⟩
    refine ⟨_, rfl, a, rfl, ⟨_, ha⟩, ?_⟩
    refine for_list (xs := ns.map V.int) (fun i σ H2 => H2 = H ∧ ∃ (f : Int) (o : Option V), σ = [some (.ref a), some (.int f), o] ∧ 0 ≤ f ∧ f < 1000000007) ⟨rfl, 0, none, rfl, by decide, by decide⟩ (fun i σ H2 _ hh => by rw [hh.1]; exact ha) ?_ ?_
    · rintro i x σ H2 hx ⟨rfl, f, o, rfl, h0, h1⟩
      rw [List.getElem?_map] at hx
      obtain ⟨z, hz, rfl⟩ := Option.map_eq_some_iff.mp hx
      refine ⟨_, rfl, _, _, rfl, rfl, .inl ⟨by omega, by omega⟩, _, rfl, _, _, rfl, rfl, .inl ⟨_, rfl, _, _, rfl, rfl, (by decide : (0:Int) < 1000000007), ?_⟩⟩
      exact ⟨rfl, _, _, rfl, Int.emod_nonneg _ (by decide), Int.emod_lt_of_pos _ (by decide)⟩
    · rintro σ H2 ⟨rfl, f, o, rfl, h0, h1⟩
      intro p hp
      have e1 : EX K [] H2 _ := Ext.new (o := .dK []) hp
      refine ⟨_, rfl, a, _, rfl, .inl (sql0 e1 ha), fun l hl2 => ?_⟩
      have e2 : EX K [] H2 _ := e1.andNew (o := .lst (ns.map V.int)) hl2
      have hpl : p ≠ l := ne_of_none upd_same hl2
      refine ⟨_, rfl, by rw [upd_ne hpl, upd_same], PD l 0 0 0 f, rfl, by show 5 ≤ 15; decide, ?_⟩
      have hp2 : (upd (upd H2 p (.dK [])) l (.lst (ns.map V.int))) p = some (.dK []) := by rw [upd_ne hpl, upd_same]
      refine q p l _ hp (e2.dK hp2 (.inl hp)) ⟨ns, 0, 0, 0, f, upd_same, ?_, by decide, by decide, by decide, by decide, h0, by omega⟩
      rw [upd_ne (Ne.symm hpl), upd_same]
def spDraw (K : PySem.W.Frag) : Sp := fun vs H Q _ => ∃ (p c : Addr) (m : Int) (n : Nat), vs = [.ref p, .int m] ∧ Pen H p c n ∧ 0 < m ∧ m < 1000000000 ∧ n < 1000000000000 ∧ ∀ (r : Int) H1, EX K [p] H H1 → Pen H1 p c (n + 1) → 0 ≤ r → r < m → Q (.int r) H1
theorem pen_upd {K : PySem.W.Frag} {H H1 : Hp} {p : Addr} {xs ys : List (Key × V)} (e : EX K [p] H H1) (h : H1 p = some (.dK xs)) : EX K [p] H (upd H1 p (.dK ys)) := e.dK h (.inr (by simp))
theorem ok_law_draw (E : Ev K mg base) : Does P w K mg base L2.CX0 1 (He.ga K "_law_draw") ["_law_pen_here", "_law_many"] (spDraw K) :=
  E.does0 (k := 0) ix_law_draw rfl bn_law_draw sc_law_draw (fun _ _ _ _ ⟨_, _, _, _, h, _⟩ => by rw [h]; rfl) fun cdv A outer s H vs Q X hr h => by
    obtain ⟨p, c, m, n, rfl, ⟨cs, a, d, k, f, h1, h2, a0, d0, k0, kn, f0, f1⟩, m0, m1, hn, q⟩ := h
    refine ⟨_, (pss_cons (ps_dput (hu_of hr) (pv 0) pe_str (pe_op op_add (pe_dget (hu_of hr) (pv 0) pe_str (fun _ _ => rfl)) pe_int) (by rfl))
      (pss_cut (fun σ H2 => ∃ (o1 o2 o3 : Option V) (a d f : Int), σ = [some (.ref p), some (.int m), o1, o2, o3] ∧ EX K [p] H H2 ∧ H2 p = some (.dK (PD c a d (k + 1) f)) ∧ H2 c = some (.lst (cs.map V.int)) ∧ 0 ≤ a ∧ 0 ≤ d ∧ 0 ≤ f ∧ f < 2147483587) (ps_if (PW.pt (pw_and (pt_cmpR op_eq (pe_dget (hu_of hr) (pv 0) pe_str (fun _ _ => rfl)) pe_int (nomark _)) (pw_and1 (pt_cmpR op_lt (pe_dget (hu_of hr) (pv 0) pe_str (fun _ _ => rfl)) (pe_callB call_len_seq (by rfl) (u_len E) b_len (pa_cons (pe_dget (hu_of hr) (pv 0) pe_str (fun _ _ => rfl)) pa_nil)) (nomark _)))))
        (pss_cons (ps_set (i := 2) sc_law_draw.nd rfl (by first | exact Or.inl rfl | exact Or.inr rfl) (pe_ix ix_list (pe_dget (hu_of hr) (pv 0) pe_str (fun _ _ => rfl)) (pe_dget (hu_of hr) (pv 0) pe_str (fun _ _ => rfl)) (fun _ _ => rfl)))
      (pss_cons (ps_dput (hu_of hr) (pv 0) pe_str (pe_op op_add (pe_dget (hu_of hr) (pv 0) pe_str (fun _ _ => rfl)) pe_int) (by rfl))
      (pss_one (ps_if (pt_cmpR op_ge (pv 2) (pe_op op_pow pe_int pe_int) (nomark _))
        (pss_one (ps_dput (hu_of hr) (pv 0) pe_str (pe_op op_sub (pv 2) (pe_op op_pow pe_int pe_int)) (by rfl)))
        (pss_one (ps_dput (hu_of hr) (pv 0) pe_str (pe_op op_mod (pe_callTy call_int1 (by rfl) (u_int E) b_int (pa_cons (pe_op op_add (pe_op op_mul (pe_dget (hu_of hr) (pv 0) pe_str (fun _ _ => rfl)) pe_int) (pv 2)) pa_nil)) pe_int) (by rfl)))))))
        pss_nil)
      (pss_cons (ps_if (pt_cmpR op_gt (pe_dget (hu_of hr) (pv 0) pe_str (fun _ _ => rfl)) pe_int (nomark _))
        (pss_cons (ps_set (i := 3) sc_law_draw.nd rfl (by first | exact Or.inl rfl | exact Or.inr rfl) (pe_op op_mod (pe_callTy call_int1 (by rfl) (u_int E) b_int (pa_cons (pe_dget (hu_of hr) (pv 0) pe_str (fun _ _ => rfl)) pa_nil)) (pv 1)))
      (pss_cons (ps_dput (hu_of hr) (pv 0) pe_str (pe_op op_fdiv (pe_dget (hu_of hr) (pv 0) pe_str (fun _ _ => rfl)) (pv 1)) (by rfl))
      (pss_one (ps_ret (pv 3)))))
        pss_nil)
      (pss_cons (ps_set (i := 4) sc_law_draw.nd rfl (by first | exact Or.inl rfl | exact Or.inr rfl) (pe_op op_add (pe_op op_add (pe_dget (hu_of hr) (pv 0) pe_str (fun _ _ => rfl)) (pe_op op_mul (pe_dget (hu_of hr) (pv 0) pe_str (fun _ _ => rfl)) pe_int)) pe_int))
      (pss_one (ps_ret (pe_op op_mod (pe_op op_fdiv (pe_callTy call_int1 (by rfl) (u_int E) b_int (pa_cons (pe_op op_mod (pe_op op_pow (pv 4) pe_int) pe_int) pa_nil)) pe_int) (pv 1)))))))), ?_⟩
    have ncp : c ≠ p := ne_of h2 h1 (fun z => by cases z)
    refine ⟨_, rfl, _, _, rfl, pget h1 "count" rfl, _, _, rfl, rfl, _, rfl, _, _, rfl, pput h1 "count" _ PD_len, ?_⟩
    have e1 : EX K [p] H _ := pen_upd (ys := PD c a d (k + 1) f) Ext.refl h1
    refine ⟨?_, ?_⟩
    · have g0 : (upd H p (.dK (PD c a d (k + 1) f))) p = some (.dK (PD c a d (k + 1) f)) := upd_same
      have gc : (upd H p (.dK (PD c a d (k + 1) f))) c = some (.lst (cs.map V.int)) := by rw [upd_ne ncp]; exact h2
      refine ⟨_, rfl, _, _, rfl, pget g0 "digits" rfl, rfl, _, rfl, ?_⟩
      by_cases hd : V.int d = V.int 0
      case neg =>
        rw [decide_eq_false hd]
        exact iteF (iteF ⟨none, none, none, a, d, f, rfl, e1, g0, gc, a0, d0, f0, f1⟩)
      rw [decide_eq_true hd]
      refine iteT ⟨_, rfl, _, _, rfl, pget g0 "at" rfl, _, rfl, _, _, rfl, pget g0 "cells" rfl, _, _, rfl, .inl (.of gc), _, _, rfl, rfl, _, rfl, ?_⟩
      by_cases ha : a < ((cs.map V.int).length : Int)
      case neg =>
        rw [decide_eq_false ha]
        exact iteF ⟨none, none, none, a, d, f, rfl, e1, g0, gc, a0, d0, f0, f1⟩
      rw [decide_eq_true ha]
      rw [List.length_map] at ha
      obtain ⟨an, rfl⟩ : ∃ an : Nat, a = an := ⟨a.toNat, by omega⟩
      have hz : (cs.map V.int)[an]? = some (.int (cs[an]'(by omega))) := by rw [List.getElem?_map, List.getElem?_eq_getElem (by omega)]; rfl
      refine iteT ⟨_, rfl, _, _, rfl, pget g0 "cells" rfl, _, rfl, _, _, rfl, pget g0 "at" rfl, _, _, _, _, rfl, rfl, .of gc, atI_nat hz, ?_⟩
      generalize (cs[an]'(by omega)) = z
      refine ⟨_, rfl, _, _, rfl, pget g0 "at" rfl, _, _, rfl, rfl, _, rfl, _, _, rfl, pput g0 "at" _ PD_len, ?_⟩
      rw [show putK (PD c (an : Int) d (k + 1) f) (.inr "at") (.int ((an : Int) + 1)) = PD c ((an : Int) + 1) d (k + 1) f from rfl, upd_upd]
      have g1 : (upd H p (.dK (PD c ((an : Int) + 1) d (k + 1) f))) p = some (.dK (PD c ((an : Int) + 1) d (k + 1) f)) := upd_same
      have gc1 : (upd H p (.dK (PD c ((an : Int) + 1) d (k + 1) f))) c = some (.lst (cs.map V.int)) := by rw [upd_ne ncp]; exact h2
      have e2 : EX K [p] H _ := pen_upd (ys := PD c ((an : Int) + 1) d (k + 1) f) Ext.refl h1
      refine ⟨_, rfl, _, _, rfl, rfl, ⟨by decide, by decide, by decide⟩, _, _, rfl, rfl, _, rfl, ?_⟩
      by_cases hb : (10 : Int) ^ (18 : Int).toNat ≤ z
      · rw [decide_eq_true hb]
        refine iteT ⟨_, rfl, _, _, rfl, rfl, ⟨by decide, by decide, by decide⟩, _, _, rfl, rfl, _, rfl, _, _, rfl, pput g1 "digits" _ PD_len, ?_⟩
        rw [show putK (PD c ((an : Int) + 1) d (k + 1) f) (.inr "digits") (.int (z - 10 ^ (18 : Int).toNat)) = PD c ((an : Int) + 1) (z - 10 ^ (18 : Int).toNat) (k + 1) f from rfl, upd_upd]
        exact ⟨_, _, _, _, _, _, rfl, pen_upd Ext.refl h1, upd_same, by rw [upd_ne ncp]; exact h2, by omega, by omega, f0, f1⟩
      · rw [decide_eq_false hb]
        refine iteF ⟨_, rfl, _, _, rfl, pget g1 "fold" rfl, _, _, rfl, rfl, .inr ⟨by decide, by decide⟩, _, rfl, _, _, rfl, rfl, .inl ⟨_, rfl, _, _, rfl, rfl, (by decide : (0:Int) < 2147483587), _, rfl, _, _, rfl, pput g1 "fold" _ PD_len, ?_⟩⟩
        have h3 := Int.emod_nonneg (f * 69069 + z) (show (2147483587 : Int) ≠ 0 by decide)
        have h4 := Int.emod_lt_of_pos (f * 69069 + z) (show (0 : Int) < 2147483587 by decide)
        rw [upd_upd]
        exact ⟨_, _, _, (an : Int) + 1, d, (f * 69069 + z) % 2147483587, rfl, pen_upd (ys := PD c ((an : Int) + 1) d (k + 1) ((f * 69069 + z) % 2147483587)) Ext.refl h1, upd_same, by rw [upd_ne ncp]; exact h2, by omega, d0, h3, h4⟩
    · rintro σ H2 ⟨o1, o2, o3, a, d, f, rfl, e2, hp, hc, a0, d0, f0, f1⟩
      refine ⟨_, rfl, _, _, rfl, pget hp "digits" rfl, _, _, rfl, rfl, _, rfl, ?_⟩
      by_cases hd : 0 < d
      · rw [decide_eq_true hd]
        refine iteT ⟨_, rfl, _, _, rfl, pget hp "digits" rfl, .inl ⟨_, rfl, _, rfl, _, _, rfl, rfl, m0, ?_⟩⟩
        refine ⟨_, rfl, _, _, rfl, pget hp "digits" rfl, _, rfl, _, _, rfl, rfl, ⟨m0, by omega⟩, _, rfl, _, _, rfl, pput hp "digits" _ PD_len, ?_⟩
        refine ⟨_, rfl, ?_⟩
        have h3 := Int.emod_nonneg d (show m ≠ 0 by omega)
        have h4 := Int.emod_lt_of_pos d m0
        exact q _ _ (pen_upd e2 hp) ⟨cs, a, d / m, k + 1, f, upd_same, by rw [upd_ne ncp]; exact hc, a0, Int.ediv_nonneg d0 (by omega), by omega, by omega, f0, f1⟩ h3 h4
      · rw [decide_eq_false hd]
        refine iteF ⟨_, rfl, _, _, rfl, pget hp "fold" rfl, _, rfl, _, _, rfl, pget hp "count" rfl, _, _, rfl, rfl, .inr ⟨by decide, by decide⟩, _, _, rfl, rfl, _, _, rfl, rfl, ?_⟩
        refine ⟨_, rfl, _, _, rfl, rfl, ⟨by decide, by decide, ?_⟩, _, _, rfl, rfl, (by decide : (0:Int) < 2305843009213693951), .inl ⟨_, rfl, _, _, rfl, rfl, ⟨by decide, by decide⟩, _, rfl, _, _, rfl, rfl, m0, ?_⟩⟩
        · omega
        generalize (f + (k + 1) * 7907 + 37) ^ (17 : Int).toNat % 2305843009213693951 / 128 = z
        have h3 := Int.emod_nonneg z (show m ≠ 0 by omega)
        have h4 := Int.emod_lt_of_pos z m0
        exact q _ _ e2 ⟨cs, a, d, k + 1, f, hp, hc, a0, d0, by omega, by omega, f0, f1⟩ h3 h4
end
end TR
/-! text F4 -/
set_option Elab.async false
set_option linter.all false
set_option maxRecDepth 100000
set_option maxHeartbeats 4000000
/-! picks, shuffles, the next place, a tile's glue -/
namespace TR
open PySem PySem.Spec PyProof.Rows L2 VD
def Sq (K : PySem.W.Frag) (H : Hp) (a : Addr) (xs : List V) : Prop := SqL K H a xs ∨ SqT K H a xs
section
variable {K : PySem.W.Frag} {S : List Addr} {H H1 : Hp} {a p : Addr} {xs : List V} {n : Nat}
/-- S holds neither lists nor tuples -/
def NoSeq (S : List Addr) (H : Hp) : Prop := ∀ b ∈ S, ∃ o, H b = some o ∧ (∀ xs, o ≠ .lst xs) ∧ (∀ xs, o ≠ .tup xs) ∧ ∀ ob u, o ≠ .frz ob u
theorem sqlS (e : EX K S H H1) (ns : NoSeq S H) (h : SqL K H a xs) : SqL K H1 a xs := by
  rcases h with (h | ⟨o, h⟩) | h
  · exact .inl (.inl (e.at_ h fun z => by obtain ⟨o, q, n1, _⟩ := ns a z; rw [h] at q; cases q; exact n1 _ rfl))
  · exact .inl (.inr ⟨o, e.at_ h fun z => by obtain ⟨o, q, _, _, n1⟩ := ns a z; rw [h] at q; cases q; exact n1 _ _ rfl⟩)
  · exact .inr h
theorem sqtS (e : EX K S H H1) (ns : NoSeq S H) (h : SqT K H a xs) : SqT K H1 a xs := by
  rcases h with (h | ⟨o, h⟩) | h
  · exact .inl (.inl (e.tup h))
  · exact .inl (.inr ⟨o, e.at_ h fun z => by obtain ⟨o, q, _, _, n1⟩ := ns a z; rw [h] at q; cases q; exact n1 _ _ rfl⟩)
  · exact .inr h
theorem Sq.ext (e : EX K S H H1) (ns : NoSeq S H) (h : Sq K H a xs) : Sq K H1 a xs := h.imp (sqlS e ns) (sqtS e ns)
theorem Pen.noSeq {c : Addr} (h : Pen H p c n) : NoSeq [p] H := fun b hb => by
  obtain ⟨cs, a, d, k, f, h1, _⟩ := h
  rw [List.mem_singleton.mp hb]
  refine ⟨_, h1, fun _ z => ?_, fun _ z => ?_, fun _ _ z => ?_⟩ <;> cases z
theorem Pen.neL {c : Addr} (h : Pen H p c n) {l : Addr} {ys : List V} (hl : H l = some (.lst ys)) : l ≠ p := by
  obtain ⟨cs, a, d, k, f, h1, _⟩ := h
  exact ne_of hl h1 fun z => by cases z
/-- what is not the pen's own -/
theorem Pen.at_ {c : Addr} (h : Pen H p c n) (e : EX K [p] H H1) {l : Addr} {ys : List V} (hl : H l = some (.lst ys)) : H1 l = some (.lst ys) := e.at_ hl (by rw [List.mem_singleton]; exact h.neL hl)
end
theorem cut_take {xs : List V} {k : Nat} (h : k ≤ xs.length) : cutV xs none (some (k : Int)) = xs.take k := by
  unfold cutV
  rw [HT.sIx_none, HT.sIx_nat, Nat.min_eq_left h]
  simp
theorem cut_drop {xs : List V} {k : Nat} (h : k ≤ xs.length) : cutV xs (some (k : Int)) none = xs.drop k := by
  unfold cutV
  rw [HT.sIx_none, HT.sIx_nat, Nat.min_eq_left h]
  exact List.take_of_length_le (by rw [List.length_drop]; exact Nat.le_refl _)
theorem tyl {K : PySem.W.Frag} {H : Hp} {a : Addr} {xs : List V} (h : H a = some (.lst xs)) : tyV K "list" (.ref a) H := .inl ⟨rfl, xs, .of h⟩
section
variable {P : Program} {w : World} {K : PySem.W.Frag} {mg : Str → Option Value} {base : Heap}
def spPick (K : PySem.W.Frag) : Sp := fun vs H Q _ => ∃ (p c a : Addr) (xs : List V) (n : Nat), vs = [.ref p, .ref a] ∧ Pen H p c n ∧ Sq K H a xs ∧ xs ≠ [] ∧ xs.length ≤ 1000000 ∧ n < 1000000000000 ∧
  ∀ v H1, v ∈ xs → EX K [p] H H1 → Pen H1 p c (n + 1) → Q v H1
theorem ok_law_pick (E : Ev K mg base) : Does P w K mg base L2.CX0 2 (He.ga K "_law_pick") ["_law_pen_here", "_law_some"] (spPick K) :=
  E.does0 (k := 1) ix_law_pick rfl bn_law_pick sc_law_pick (fun _ _ _ _ ⟨_, _, _, _, _, h, _⟩ => by rw [h]; rfl) fun cdv A outer s H vs Q X hr h => by
    obtain ⟨p, c, a, xs, n, rfl, hp, ha, hne, hl, hn, q⟩ := h
    refine ⟨_, (pss_one (ps_ret (pe_ix ix_seq (pv 1) (pe_do (ok_law_draw E) (hr.mono (by decide)) (by rfl) (g_law_draw E) pass0 (pa_cons (pv 0) (pa_cons (pe_callB call_len_seq (by rfl) (u_len E) b_len (pa_cons (pv 1) pa_nil)) pa_nil))) (fun _ _ => rfl)))), ?_⟩
    have hpos : 0 < xs.length := List.length_pos_iff.mpr hne
    refine ⟨_, rfl, _, rfl, _, rfl, a, xs, rfl, ha, p, c, _, n, rfl, hp, by omega, by omega, hn, fun r H1 e1 p1 r0 r1 => ?_⟩
    obtain ⟨j, rfl⟩ : ∃ j : Nat, r = j := ⟨r.toNat, by omega⟩
    have hx : xs[j]? = some (xs[j]'(by omega)) := List.getElem?_eq_getElem (by omega)
    rcases ha.ext e1 hp.noSeq with h1 | h1
    · exact .inl ⟨_, _, _, _, rfl, rfl, h1, atI_nat hx, q _ _ (List.getElem_mem _) e1 p1⟩
    · exact .inr (.inl ⟨_, _, _, _, rfl, rfl, h1, atI_nat hx, q _ _ (List.getElem_mem _) e1 p1⟩)
theorem ok_law_is_whole (E : Ev K mg base) : Does P w K mg base L2.CX0 1 (He.ga K "_law_is_whole") ["_law_value"] spIsInt :=
  E.does0 (k := 0) ix_law_is_whole rfl bn_law_is_whole sc_law_is_whole (fun _ _ _ _ ⟨_, h, _⟩ => by rw [h]; rfl) fun cdv A outer s H vs Q X hr h => by
    obtain ⟨x, rfl, hx, q⟩ := h
    refine ⟨_, (pss_one (ps_ret (pe_and (pe_callB call_isi (by rfl) (u_isinstance E) b_isinstance (pa_cons (pv 0) (pa_cons (pe_bltn (v := .ty "int") (by rfl) (u_int E) b_int rfl) pa_nil))) (pe_one (pe_not (pe_callB call_isi (by rfl) (u_isinstance E) b_isinstance (pa_cons (pv 0) (pa_cons (pe_bltn (v := .ty "bool") (by rfl) (u_bool E) b_bool rfl) pa_nil)))))))), ?_⟩
    suffices key : ∃ (t : String) (b1 b2 : Bool), TyX K H x (.type t) ∧ kitB t "int" = some b1 ∧ kitB t "bool" = some b2 ∧ isIv x = (b1 && !b2) from by
      obtain ⟨t, b1, b2, h1, h2, h3, h4⟩ := key
      rw [h4] at q
      refine ⟨_, rfl, _, _, _, _, b1, rfl, .ty _, h1, kit_ty h2, b1, rfl, ?_⟩
      cases b1 with
      | true => exact iteT ⟨_, rfl, _, _, _, _, b2, rfl, .ty _, h1, kit_ty h3, b2, rfl, q⟩
      | false => exact iteF q
    cases x with
    | int i => exact ⟨"int", true, false, .base (.int i), by decide +kernel, by decide +kernel, rfl⟩
    | bl i => exact ⟨"bool", true, true, .base (.bl i), by decide +kernel, by decide +kernel, rfl⟩
    | non => exact ⟨"NoneType", false, false, .base .non, by decide +kernel, by decide +kernel, rfl⟩
    | str i => exact ⟨"str", false, false, .base (.str i), by decide +kernel, by decide +kernel, rfl⟩
    | ref a =>
      obtain ⟨xs, hx⟩ := hx
      exact ⟨"tuple", false, false, .base (.tup hx), by decide +kernel, by decide +kernel, rfl⟩
    | _ => exact hx.elim
def spShuf (K : PySem.W.Frag) : Sp := fun vs H Q _ => ∃ (p c a : Addr) (xs : List V) (n : Nat), vs = [.ref p, .ref a] ∧ Pen H p c n ∧ H a = some (.lst xs) ∧ xs.length ≤ 1000 ∧ n < 100000000000 ∧
  ∀ l ys H1, H l = none → H1 l = some (.lst ys) → ys.Perm xs → EX K [p] H H1 → Pen H1 p c (n + 1000) → Q (.ref l) H1
theorem ok_law_shuffled (E : Ev K mg base) : Does P w K mg base L2.CX0 2 (He.ga K "_law_shuffled") ["_law_pen_here", "_law_some"] (spShuf K) :=
  E.does0 (k := 1) ix_law_shuffled rfl bn_law_shuffled sc_law_shuffled (fun _ _ _ _ ⟨_, _, _, _, _, h, _⟩ => by rw [h]; rfl) fun cdv A outer s H vs Q X hr h => by
    obtain ⟨p, c, a, xs, n, rfl, hp, ha, hl, hn, q⟩ := h
    refine ⟨_, (pss_cons (ps_par (i := 2) (j := 3) rfl sc_law_shuffled.nd rfl rfl (by decide) rfl rfl (pa_cons (pe_callTy call_list_of (by rfl) (u_list E) b_list (pa_cons (pv 1) pa_nil)) (pa_cons (pe_lst pa_nil) pa_nil)) (by rfl))
      (pss_cons (ps_for PassesOwn.never rfl (pi_range1 (by rfl) (u_range E) (pa_cons (pe_callB call_len_seq (by rfl) (u_len E) b_len (pa_cons (pv 1) pa_nil)) pa_nil)) (pg_name (i := 4) sc_law_shuffled.nd rfl (by first | exact Or.inl rfl | exact Or.inr rfl))
        (pss_cons (ps_set (i := 5) sc_law_shuffled.nd rfl (by first | exact Or.inl rfl | exact Or.inr rfl) (pe_do (ok_law_draw E) (hr.mono (by decide)) (by rfl) (g_law_draw E) pass0 (pa_cons (pv 0) (pa_cons (pe_callB call_len_seq (by rfl) (u_len E) b_len (pa_cons (pv 2) pa_nil)) pa_nil))))
      (pss_cons (ps_expr (pe_bm PySem.F.plainAttrs_list PySem.F.slot_list_append PySem.F.type_list_append mt_append (pv 3) (pa_cons (pe_ix ix_list (pv 2) (pv 5) (fun _ _ => rfl)) pa_nil)))
      (pss_one (ps_set (i := 2) sc_law_shuffled.nd rfl (by first | exact Or.inl rfl | exact Or.inr rfl) (pe_op op_cat (pe_slice sl_list (pv 2) po_none (po_some (pv 5))) (pe_slice sl_list (pv 2) (po_some (pe_op op_add (pv 5) pe_int)) po_none)))))))
      (pss_one (ps_ret (pv 3))))), ?_⟩
    refine ⟨_, rfl, a, xs, rfl, .inl (.of ha), fun l hl1 => ⟨Nat.zero_le _, fun f hf => ⟨_, _, rfl, ?_⟩⟩⟩
    have e1 : EX K [p] H _ := Ext.new (o := .lst xs) hl1
    have e2 := e1.andNew (o := .lst []) hf
    have nlf : l ≠ f := ne_of_none upd_same hf
    have ncf : c ≠ f := hp.neC ((Ext.new (T := TabK K) (S := []) hl1).fresh hf)
    have ha2 : (upd (upd H l (.lst xs)) f (.lst [])) a = some (.lst xs) := e2.at_ ha (by rw [List.mem_singleton]; exact hp.neL ha)
    refine ⟨_, rfl, a, xs, rfl, .inl (.of ha2), _, rfl, by omega, by omega, ?_⟩
    refine for_range (fun i σ H2 => ∃ (l2 : Addr) (lf fd : List V) (o1 o2 : Option V), σ = [some (.ref p), some (.ref a), some (.ref l2), some (.ref f), o1, o2] ∧ EX K [p] H H2 ∧ Pen H2 p c (n + i) ∧ H2 l2 = some (.lst lf) ∧ H2 f = some (.lst fd) ∧ l2 ≠ f ∧ fd.length = i ∧ (fd ++ lf).Perm xs)
      ⟨l, xs, [], none, none, rfl, e2, ?_, ?_, upd_same, nlf, rfl, .refl _⟩ ?_ ?_
    · exact hp.ext0 (K := K) ((Ext.new (T := TabK K) hl1).andNew hf)
    · rw [upd_ne nlf, upd_same]
    · rintro i σ H2 hi ⟨l2, lf, fd, o1, o2, rfl, e2, hp2, hl2, hf2, nlf, hlen, hperm⟩
      have hlen2 := hperm.length_eq
      rw [List.length_append, hlen] at hlen2
      refine ⟨_, rfl, _, rfl, l2, lf, rfl, .inl (.of hl2), p, c, _, n + i, rfl, hp2, by omega, by omega, by omega, fun r H3 e3 hp3 r0 r1 => ?_⟩
      obtain ⟨j, rfl⟩ : ∃ j : Nat, r = j := ⟨r.toNat, by omega⟩
      have hj : j < lf.length := by omega
      have hx : lf[j]? = some (lf[j]'hj) := List.getElem?_eq_getElem hj
      have hl3 := hp2.at_ e3 hl2
      have hf3 := hp2.at_ e3 hf2
      refine ⟨_, rfl, tyl hf3, _, rfl, _, rfl, _, _, _, _, rfl, rfl, .of hl3, atI_nat hx, _, fd, _, rfl, rfl, hf3, by rw [sizeLine_eq]; omega, ?_⟩
      have e4 : EX K [p] H (upd H3 f (.lst (fd ++ [lf[j]'hj]))) := (e2.trans e3).lst hf3 (.inl ((Ext.new (T := TabK K) (S := []) hl1).fresh hf))
      have hl4 : (upd H3 f (.lst (fd ++ [lf[j]'hj]))) l2 = some (.lst lf) := by rw [upd_ne nlf]; exact hl3
      refine ⟨_, rfl, _, rfl, _, rfl, _, _, rfl, .of hl4, fun t1 ht1 => ?_⟩
      refine ⟨_, rfl, _, rfl, _, _, rfl, rfl, _, rfl, _, lf, rfl, .of (by rw [upd_ne (ne_of_none hl4 ht1)]; exact hl4), fun t2 ht2 => ?_⟩
      rw [cut_take (by omega), show ((j : Int) + 1) = ((j + 1 : Nat) : Int) by omega, cut_drop (by omega)] at *
      have e5 := e4.andNew (o := .lst (lf.take j)) ht1
      have e6 := e5.andNew (o := .lst (lf.drop (j + 1))) ht2
      have h12 : t1 ≠ t2 := ne_of_none upd_same ht2
      refine ⟨t1, t2, lf.take j, lf.drop (j + 1), rfl, rfl, by rw [upd_ne h12, upd_same], upd_same, ?_, fun t3 ht3 => ?_⟩
      · rw [List.length_take, List.length_drop, sizeLine_eq]; omega
      have q1 : (upd H3 f (.lst (fd ++ [lf[j]'hj]))) f = some (.lst (fd ++ [lf[j]'hj])) := upd_same
      have q2 : (upd (upd H3 f (.lst (fd ++ [lf[j]'hj]))) t1 (.lst (lf.take j))) f = some (.lst (fd ++ [lf[j]'hj])) := by rw [upd_ne (ne_of_none q1 ht1)]; exact q1
      have q3 : (upd (upd (upd H3 f (.lst (fd ++ [lf[j]'hj]))) t1 (.lst (lf.take j))) t2 (.lst (lf.drop (j + 1)))) f = some (.lst (fd ++ [lf[j]'hj])) := by rw [upd_ne (ne_of_none q2 ht2)]; exact q2
      have hf5 : (upd (upd (upd (upd H3 f (.lst (fd ++ [lf[j]'hj]))) t1 (.lst (lf.take j))) t2 (.lst (lf.drop (j + 1)))) t3 (.lst (lf.take j ++ lf.drop (j + 1)))) f = some (.lst (fd ++ [lf[j]'hj])) := by
        rw [upd_ne (ne_of_none q3 ht3)]; exact q3
      refine ⟨t3, _, _, _, _, rfl, e6.andNew ht3, ?_, upd_same, hf5, ?_, ?_, ?_⟩
      · have p4 : Pen (upd H3 f (.lst (fd ++ [lf[j]'hj]))) p c (n + i + 1) := hp3.chg Chg.upd (Ne.symm (hp3.neL hf3)) ncf
        exact (p4.ext0 (K := K) (((Ext.new (T := TabK K) ht1).andNew ht2).andNew ht3)).mono (by omega)
      · exact fun z => ne_of_none q3 ht3 z.symm
      · rw [List.length_append, hlen]; rfl
      · have : (fd ++ [lf[j]'hj] ++ (lf.take j ++ lf.drop (j + 1))).Perm (fd ++ lf) := by
          rw [List.append_assoc]
          refine List.Perm.append_left fd ?_
          have e : lf = lf.take j ++ lf[j]'hj :: lf.drop (j + 1) := by
            rw [List.getElem_cons_drop, List.take_append_drop]
          conv => rhs; rw [e]
          exact (List.perm_middle (a := lf[j]'hj) (l₁ := lf.take j) (l₂ := lf.drop (j + 1))).symm
        exact this.trans hperm
    · rintro σ H2 ⟨l2, lf, fd, o1, o2, rfl, e2, hp2, hl2, hf2, nlf, hlen, hperm⟩
      have hlen2 := hperm.length_eq
      rw [List.length_append, hlen] at hlen2
      have : lf = [] := List.eq_nil_of_length_eq_zero (by omega)
      rw [this, List.append_nil] at hperm
      exact ⟨_, rfl, q f fd H2 ((Ext.new (T := TabK K) (S := []) hl1).fresh hf) hf2 hperm e2 (hp2.mono (by omega))⟩
end
end TR
/-! text F5 -/
set_option Elab.async false
set_option linter.all false
set_option maxRecDepth 100000
set_option maxHeartbeats 4000000
/-! the next place, a tile's glue, a datum -/
namespace TR
open PySem PySem.Spec PyProof.Rows L2 VD
theorem mk_glue_at_nb : True := True.intro
def gTx (n : Nat) : Str := ("g" : Str) ++ Str.ofString (toString (n : Int))
/-- a datum of the serial number n, wrapped k times -/
inductive Dm (n : Nat) : Nat → D → Prop
  | int : Dm n 0 (.num n)
  | txt : Dm n 0 (.text (gTx n))
  | one {k : Nat} {d : D} : Dm n k d → Dm n (k + 1) (.tup [d])
  | two {k : Nat} {d : D} : Dm n k d → Dm n (k + 1) (.tup [d, .none])
theorem Dm.depth {n k : Nat} {d : D} (h : Dm n k d) : d.depth ≤ k := by
  induction h with
  | int => simp [NestedKey.depth]
  | txt => simp [NestedKey.depth]
  | one h ih => simp only [NestedKey.depth, NestedKey.depthAll]; omega
  | two h ih => simp only [NestedKey.depth, NestedKey.depthAll]; omega
theorem strOk_gTx (n : Nat) : PyData.strOk (gTx n) = true := by
  unfold PyData.strOk
  rw [Array.all_eq_true']
  intro c hc
  have hc : c ∈ TL.tl (gTx n) := by simpa [TL.tl] using hc
  unfold gTx at hc
  rw [TL.tl_append, TL.tl_num] at hc
  rcases List.mem_append.mp hc with h | h
  · have e : TL.tl ("g" : Str) = [103] := by decide +kernel
    rw [e] at h
    rw [List.mem_singleton.mp h]; decide
  · have := TL.numL_digits n c h
    exact decide_eq_true (by omega)
theorem Dm.ly {n k : Nat} {d : D} (h : Dm n k d) : d.data.canLay0 = true := by
  induction h with
  | int => simp [NestedKey.data, PyData.canLay0]
  | txt => simp only [NestedKey.data, PyData.canLay0]; exact strOk_gTx n
  | one h ih => simp only [NestedKey.data, NestedKey.datas, PyData.canLay0, PyData.canLayAll0, ih]; rfl
  | two h ih => simp only [NestedKey.data, NestedKey.datas, PyData.canLay0, PyData.canLayAll0, ih]; rfl
theorem Dm.nice {n k : Nat} {d : D} (h : Dm n k d) (hk : k ≤ 6) : Nice d := ⟨by have := h.depth; omega, h.ly⟩
theorem tup1 {H : Hp} {v : V} {a : D} (h : Dt H v (.tup [a])) : ∃ t x, v = .ref t ∧ H t = some (.tup [x]) ∧ Dt H x a := by
  cases h with
  | tup h1 h2 =>
    cases h2 with
    | cons p r =>
      cases r
      exact ⟨_, _, rfl, h1, p⟩
section
variable {P : Program} {w : World} {K : PySem.W.Frag} {mg : Str → Option Value} {base : Heap}
def spNext (K : PySem.W.Frag) : Sp := fun vs H Q _ => ∃ (v : V) (p : Pl) (s : Nat), vs = [v, .int s] ∧ Dt H v (plD p) ∧ s < 4 ∧ ∀ t H1, EX K [] H H1 → Dt H1 (.ref t) (plD (nb p s)) → Q (.ref t) H1
theorem lstAt {xs : List V} {s : Nat} {v : V} (h : xs[s]? = some v) : atI xs (s : Int) = some v := atI_nat h
theorem ok_law_t2_next (E : Ev K mg base) : Does P w K mg base L2.CX0 1 (He.ga K "_law_t2_next") ["_law_place", "_law_side"] (spNext K) :=
  E.does0 (k := 0) ix_law_t2_next rfl bn_law_t2_next sc_law_t2_next (fun _ _ _ _ ⟨_, _, _, h, _⟩ => by rw [h]; rfl) fun cdv A outer s H vs Q X hr h => by
    obtain ⟨v, p, s, rfl, hp, hs, q⟩ := h
    refine ⟨_, (pss_one (ps_ret (pe_tup (pa_cons (pe_op op_add (pe_ix ix_tup (pv 0) pe_int (fun _ _ => rfl)) (pe_ix ix_list (pe_lst (pa_cons (pe_un un_neg pe_int) (pa_cons pe_int (pa_cons pe_int (pa_cons pe_int pa_nil))))) (pv 1) (fun _ _ => rfl))) (pa_cons (pe_op op_add (pe_ix ix_tup (pv 0) pe_int (fun _ _ => rfl)) (pe_ix ix_list (pe_lst (pa_cons pe_int (pa_cons (pe_un un_neg pe_int) (pa_cons pe_int (pa_cons pe_int pa_nil))))) (pv 1) (fun _ _ => rfl))) pa_nil))))), ?_⟩
    obtain ⟨t, rfl, ht⟩ := pl_tup hp
    have key : ∃ x y : Int, [V.int (-1), .int 0, .int 1, .int 0][s]? = some (.int x) ∧ [V.int 0, .int (-1), .int 0, .int 1][s]? = some (.int y) ∧ nb p s = (p.1 + x, p.2 + y) := by
      match s, hs with
      | 0, _ => exact ⟨-1, 0, rfl, rfl, by simp [nb]; omega⟩
      | 1, _ => exact ⟨0, -1, rfl, rfl, by simp [nb]; omega⟩
      | 2, _ => exact ⟨1, 0, rfl, rfl, by simp [nb]⟩
      | 3, _ => exact ⟨0, 1, rfl, rfl, by simp [nb]⟩
    obtain ⟨x, y, hx, hy, hn⟩ := key
    rw [hn] at q
    refine ⟨_, rfl, _, _, _, _, rfl, rfl, .of ht, atI0, ⟨_, rfl, sz4, fun a ha => ⟨_, rfl, _, _, _, _, rfl, rfl, .of upd_same, lstAt hx, _, _, rfl, rfl, ?_⟩⟩⟩
    have e1 : EX K [] H _ := Ext.new (o := .lst [.int (-1), .int 0, .int 1, .int 0]) ha
    refine ⟨_, rfl, _, _, _, _, rfl, rfl, .of (e1.tup ht), atI1, ⟨_, rfl, sz4, fun b hb => ⟨_, rfl, _, _, _, _, rfl, rfl, .of upd_same, lstAt hy, _, _, rfl, rfl, sz2, fun c hc => ?_⟩⟩⟩
    have e2 := e1.andNew (o := .lst [.int 0, .int (-1), .int 0, .int 1]) hb
    exact q c _ (e2.andNew hc) (pl_dt (p := (p.1 + x, p.2 + y)) upd_same)
def spGlueAt (K : PySem.W.Frag) : Sp := fun vs H Q _ => ∃ (a : Addr) (n : D) (g : Nat → Gu) (s : Nat), vs = [.ref a, .int s] ∧ TileO K H a n g ∧ s < 4 ∧ ∀ v H1, EX K [] H H1 → Dt H1 v (glD (g s)) → Q v H1
theorem ok_Tile_glue_at (E : Ev K mg base) : Does P w K mg base L2.CX0 3 (He.ma K (He.ga K "Tile") "glue_at") ["self", "side"] (spGlueAt K) :=
  E.does0 (k := 2) ix_Tile_glue_at rfl bn_Tile_glue_at sc_Tile_glue_at (fun _ _ _ _ ⟨_, _, _, _, h, _⟩ => by rw [h]; rfl) fun cdv A outer s H vs Q X hr h => by
    obtain ⟨a, n, g, s, rfl, ⟨dx, vn, v0, v1, v2, v3, ha, hn, h0, h1, h2, h3⟩, hs, q⟩ := h
    refine ⟨_, (pss_cons (ps_expr (pe_do (ok_check_side E) (hr.mono (by decide)) (by rfl) (g_check_side E) pass0 (pa_cons (pv 1) pa_nil)))
      (pss_one (ps_ret (pe_ix ix_tup (pe_tup (pa_cons (pe_fld (pv 0) rfl) (pa_cons (pe_fld (pv 0) rfl) (pa_cons (pe_fld (pv 0) rfl) (pa_cons (pe_fld (pv 0) rfl) pa_nil))))) (pv 1) (fun _ _ => rfl))))), ?_⟩
    have key : ∃ v, [v0, v1, v2, v3][s]? = some v ∧ Dt H v (glD (g s)) := by
      match s, hs with
      | 0, _ => exact ⟨_, rfl, h0⟩
      | 1, _ => exact ⟨_, rfl, h1⟩
      | 2, _ => exact ⟨_, rfl, h2⟩
      | 3, _ => exact ⟨_, rfl, h3⟩
    obtain ⟨v, hv, hd⟩ := key
    refine ⟨_, rfl, _, rfl, by omega, by omega, ?_⟩
    refine ⟨_, rfl, _, _, _, _, _, rfl, ha, c_Tile E, na_Tile_west E, rfl, _, rfl, _, _, _, _, _, rfl, ha, c_Tile E, na_Tile_south E, rfl, _, rfl, _, _, _, _, _, rfl, ha, c_Tile E, na_Tile_east E, rfl, _, rfl, _, _, _, _, _, rfl, ha, c_Tile E, na_Tile_north E, rfl, sz4, fun t ht => ?_⟩
    have e1 : EX K [] H _ := Ext.new (o := .tup [v0, v1, v2, v3]) ht
    exact ⟨_, rfl, _, _, _, _, rfl, rfl, .of upd_same, lstAt hv, q v _ e1 (e1.dt hd)⟩
end
end TR
/-! text F6 -/
set_option Elab.async false
set_option linter.all false
set_option maxRecDepth 100000
set_option maxHeartbeats 4000000
/-! a datum, an outer glue -/
namespace TR
open PySem PySem.Spec PyProof.Rows L2 VD
section
variable {P : Program} {w : World} {K : PySem.W.Frag} {mg : Str → Option Value} {base : Heap}
def spDatum (K : PySem.W.Frag) : Sp := fun vs H Q _ => ∃ (p c : Addr) (m n : Nat), vs = [.ref p, .int m] ∧ Pen H p c n ∧ m < 1000000 ∧ n < 100000000000 ∧
  ∀ v H1 k d, EX K [p] H H1 → Pen H1 p c (n + 9) → Dm m k d → k ≤ 6 → Dt H1 v d → Q v H1
theorem gtx_len {m : Nat} (h : m < 1000000) : ("g" : Str).length + (Str.ofString (toString (m : Int))).length ≤ sizeLine := by
  have e : (Str.ofString (toString (m : Int))).length ≤ 6 := toString_length_le (by omega) (by decide) (by omega)
  have e2 : ("g" : Str).length = 1 := by decide +kernel
  rw [e2, sizeLine_eq]; omega
theorem log_lt {m : Nat} (h : m < 1000000) : (m : Int).natAbs.log2 < 1920 := by
  have e : (m : Int).natAbs = m := by omega
  rw [e]
  by_cases hm : m = 0
  · subst hm; decide
  · have := (Nat.log2_lt hm (k := 1920)).mpr (Nat.lt_of_lt_of_le h (by decide +kernel))
    exact this
theorem ok_law_t2_datum (E : Ev K mg base) : Does P w K mg base L2.CX0 3 (He.ga K "_law_t2_datum") ["_law_pen_here", "_law_serial"] (spDatum K) :=
  E.does0 (k := 2) ix_law_t2_datum rfl bn_law_t2_datum sc_law_t2_datum (fun _ _ _ _ ⟨_, _, _, _, h, _⟩ => by rw [h]; rfl) fun cdv A outer s H vs Q X hr h => by
    obtain ⟨p, c, m, n, rfl, hp, hm, hn, q⟩ := h
    refine ⟨_, (pss_cons (ps_set (i := 2) sc_law_t2_datum.nd rfl (by first | exact Or.inl rfl | exact Or.inr rfl) (pe_do (ok_law_pick E) (hr.mono (by decide)) (by rfl) (g_law_pick E) pass0 (pa_cons (pv 0) (pa_cons (pe_lst (pa_cons (pv 1) (pa_cons (pe_op op_add_str pe_str (pe_callTy call_str_int (by rfl) (u_str E) b_str (pa_cons (pv 1) pa_nil))) (pa_cons (pe_op op_add_str pe_str (pe_callTy call_str_int (by rfl) (u_str E) b_str (pa_cons (pv 1) pa_nil))) pa_nil)))) pa_nil))))
      (pss_cons (ps_for PassesOwn.never rfl (pi_range1 (by rfl) (u_range E) (pa_cons (pe_do (ok_law_pick E) (hr.mono (by decide)) (by rfl) (g_law_pick E) pass0 (pa_cons (pv 0) (pa_cons (pe_lst (pa_cons pe_int (pa_cons pe_int (pa_cons pe_int (pa_cons pe_int (pa_cons pe_int (pa_cons (pe_do (ok_law_draw E) (hr.mono (by decide)) (by rfl) (g_law_draw E) pass0 (pa_cons (pv 0) (pa_cons pe_int pa_nil))) pa_nil))))))) pa_nil))) pa_nil)) (pg_name (i := 3) sc_law_t2_datum.nd rfl (by first | exact Or.inl rfl | exact Or.inr rfl))
        (pss_one (ps_set (i := 2) sc_law_t2_datum.nd rfl (by first | exact Or.inl rfl | exact Or.inr rfl) (pe_ifExp (PW.pt (pw_or (pt_cmpR op_eq (pe_do (ok_law_draw E) (hr.mono (by decide)) (by rfl) (g_law_draw E) pass0 (pa_cons (pv 0) (pa_cons pe_int pa_nil))) pe_int (nomark _)) (pw_or1 (pt_cmpR op_gt (pv 3) pe_int (nomark _))))) (pe_tup (pa_cons (pv 2) pa_nil)) (pe_tup (pa_cons (pv 2) (pa_cons pe_non pa_nil)))))))
      (pss_one (ps_ret (pv 2))))), ?_⟩
    have hs : Str.ofString (toString (m : Int)) = Str.ofString (toString (m : Int)) := rfl
    refine ⟨_, rfl, _, rfl, _, rfl, _, rfl, log_lt hm, _, _, rfl, rfl, gtx_len hm, _, rfl, _, rfl, log_lt hm, _, _, rfl, rfl, gtx_len hm, sz3, fun l hl => ?_⟩
    have e1 : EX K [p] H _ := Ext.new (o := .lst [.int m, .str (gTx m), .str (gTx m)]) hl
    have hp1 := hp.ext0 (K := K) (Ext.new (o := .lst [.int m, .str (gTx m), .str (gTx m)]) hl)
    refine ⟨p, c, l, _, n, rfl, hp1, .inl (.of upd_same), List.cons_ne_nil _ _, by show 3 ≤ 1000000; decide, by omega, fun v H2 hv e2 hp2 => ?_⟩
    have hv2 : ∃ d, Dm m 0 d ∧ Dt H2 v d := by
      rcases List.mem_cons.mp hv with rfl | hv
      · exact ⟨_, .int, .int _⟩
      · rcases List.mem_cons.mp hv with rfl | hv
        · exact ⟨_, .txt, .str _⟩
        · rw [List.mem_singleton.mp hv]; exact ⟨_, .txt, .str _⟩
    obtain ⟨d0, hd0, hv2⟩ := hv2
    -- the list of counts
    refine ⟨_, rfl, _, rfl, p, c, 7, n + 1, rfl, hp2, by decide, by decide, by omega, fun r H3 e3 hp3 r0 r7 => ?_⟩
    refine ⟨by show 6 ≤ sizeLine; decide, fun l2 hl2 => ?_⟩
    have hp4 := hp3.ext0 (K := K) (Ext.new (o := .lst [.int 0, .int 0, .int 0, .int 1, .int 2, .int r]) hl2)
    refine ⟨p, c, l2, _, n + 2, rfl, hp4, .inl (.of upd_same), List.cons_ne_nil _ _, by show 6 ≤ 1000000; decide, by omega, fun v2 H5 hv5 e5 hp5 => ?_⟩
    have hk : ∃ k : Nat, v2 = .int k ∧ k ≤ 6 := by
      simp only [List.mem_cons, List.not_mem_nil, or_false] at hv5
      rcases hv5 with rfl | rfl | rfl | rfl | rfl | rfl
      · exact ⟨0, rfl, by decide⟩
      · exact ⟨0, rfl, by decide⟩
      · exact ⟨0, rfl, by decide⟩
      · exact ⟨1, rfl, by decide⟩
      · exact ⟨2, rfl, by decide⟩
      · exact ⟨r.toNat, by congr 1; omega, by omega⟩
    obtain ⟨kk, rfl, hk⟩ := hk
    have e6 : EX K [p] H H5 := ((e1.trans e2).trans e3).trans ((Ext.new hl2 : EX K [p] _ _).trans e5)
    have d6 : Dt H5 v d0 := e5.dt ((Ext.new hl2 : EX K [p] _ _).dt (e3.dt hv2))
    refine ⟨kk, rfl, by omega, by omega, ?_⟩
    refine for_range (fun i σ H2 => ∃ v d o, σ = [some (.ref p), some (.int m), some v, o] ∧ EX K [p] H H2 ∧ Pen H2 p c (n + 3 + i) ∧ Dm m i d ∧ Dt H2 v d) ⟨v, d0, none, rfl, e6, hp5, hd0, d6⟩ ?_ ?_
    · rintro i σ H2 hi ⟨v, d, o, rfl, e2, hp2, hd, hv⟩
      have hi : i < kk := by simpa using hi
      refine ⟨_, rfl, p, c, 2, n + 3 + i, rfl, hp2, by decide, by decide, by omega, fun r H3 e3 hp3 r0 r2 => ⟨rfl, _, rfl, ?_⟩⟩
      have one : ∀ t, H3 t = none → _ := fun t ht => (⟨_, _, _, rfl, (e2.trans e3).andNew ht, hp3.ext0 (K := K) (Ext.new (o := .tup [v]) ht), hd.one, Dt.new (vs := [v]) ht (.cons (e3.dt hv) .nil)⟩ : ∃ v' d' o, [some (.ref p), some (.int m), some (.ref t), some (.int (0 + (i : Int)))] = [some (.ref p), some (.int m), some v', o] ∧ EX K [p] H (upd H3 t (.tup [v])) ∧ Pen (upd H3 t (.tup [v])) p c (n + 3 + (i + 1)) ∧ Dm m (i + 1) d' ∧ Dt (upd H3 t (.tup [v])) v' d')
      have two : ∀ t, H3 t = none → _ := fun t ht => (⟨_, _, _, rfl, (e2.trans e3).andNew ht, hp3.ext0 (K := K) (Ext.new (o := .tup [v, .non]) ht), hd.two, Dt.new (vs := [v, .non]) ht (.cons (e3.dt hv) (.cons .non .nil))⟩ : ∃ v' d' o, [some (.ref p), some (.int m), some (.ref t), some (.int (0 + (i : Int)))] = [some (.ref p), some (.int m), some v', o] ∧ EX K [p] H (upd H3 t (.tup [v, .non])) ∧ Pen (upd H3 t (.tup [v, .non])) p c (n + 3 + (i + 1)) ∧ Dm m (i + 1) d' ∧ Dt (upd H3 t (.tup [v, .non])) v' d')
      by_cases hr : V.int r = V.int 0
      · rw [decide_eq_true hr]
        exact iteT (iteT ⟨_, rfl, sz1, fun t ht => one t ht⟩)
      · rw [decide_eq_false hr]
        refine iteF ⟨_, rfl, _, _, rfl, rfl, _, rfl, ?_⟩
        by_cases hz : 0 < (0 : Int) + (i : Int)
        · rw [decide_eq_true hz]
          exact iteT ⟨_, rfl, sz1, fun t ht => one t ht⟩
        · rw [decide_eq_false hz]
          exact iteF ⟨_, rfl, sz2, fun t ht => two t ht⟩
    · rintro σ H2 ⟨v, d, o, rfl, e2, hp2, hd, hv⟩
      have : ((kk : Int) - 0).toNat = kk := by omega
      exact ⟨_, rfl, q v H2 _ d e2 (hp2.mono (by omega)) hd (by omega) hv⟩
theorem nice_num (i : Int) : Nice (.num i) := ⟨by simp [NestedKey.depth], by simp [NestedKey.data, PyData.canLay0]⟩
theorem nice_non : Nice .none := ⟨by simp [NestedKey.depth], by simp [NestedKey.data, PyData.canLay0]⟩
theorem nice_x : Nice (.text "x") := ⟨by simp [NestedKey.depth], by simp only [NestedKey.data, PyData.canLay0]; decide +kernel⟩
end
end TR
/-! text G0 -/
set_option Elab.async false
set_option linter.all false
set_option maxRecDepth 100000
set_option maxHeartbeats 4000000
/-! Dicts from data to data. -/
namespace TR
open PySem PySem.Spec PyProof.Rows L2 VD
abbrev AL := List (D × D)
def lkA (al : AL) (k : D) : Option D := (al.find? fun x => decide (x.1 = k)).map (·.2)
def putA (al : AL) (k x : D) : AL := if (lkA al k).isSome then al.map (fun y => if y.1 = k then (y.1, x) else y) else al ++ [(k, x)]
def dropA (al : AL) (k : D) : AL := al.filter fun x => decide (x.1 ≠ k)
abbrev Ps (H : Hp) : Es → AL → Prop := Paired fun (e : D × V × V) (a : D × D) => e.1 = a.1 ∧ Dt H e.2.2 a.2
section
variable {H H1 : Hp} {es : Es} {al : AL} {k x : D} {v : V}
theorem Ps.ext (e : ∀ b vs, H b = some (.tup vs) → H1 b = some (.tup vs)) (p : Ps H es al) : Ps H1 es al := by
  induction p with
  | nil => exact .nil
  | cons h t ih => exact .cons ⟨h.1, Dt.ext e _ _ h.2⟩ ih
theorem Ps.keys (p : Ps H es al) : es.map (·.1) = al.map (·.1) := by
  induction p with
  | nil => rfl
  | cons h t ih => rw [List.map_cons, List.map_cons, ih, h.1]
theorem Ps.look (p : Ps H es al) (k : D) : (lkA al k = none ∧ lookE es k = none) ∨ ∃ x v, lkA al k = some x ∧ lookE es k = some v ∧ Dt H v x := by
  induction p with
  | nil => exact .inl ⟨rfl, rfl⟩
  | @cons e a es al h t ih =>
    by_cases q : e.1 = k
    · have q2 : a.1 = k := h.1 ▸ q
      refine .inr ⟨a.2, e.2.2, ?_, ?_, h.2⟩
      · simp only [lkA, List.find?_cons, decide_eq_true q2, Option.map_some]
      · simp only [lookE, List.find?_cons, decide_eq_true q, Option.map_some]
    · have q2 : ¬ a.1 = k := h.1 ▸ q
      have i1 : lkA (a :: al) k = lkA al k := by simp only [lkA, List.find?_cons, decide_eq_false q2]
      have i2 : lookE (e :: es) k = lookE es k := by simp only [lookE, List.find?_cons, decide_eq_false q]
      rw [i1, i2]; exact ih
theorem Ps.some_ (p : Ps H es al) (h : lkA al k = some x) : ∃ v, lookE es k = some v ∧ Dt H v x := by
  rcases p.look k with ⟨a, b⟩ | ⟨x2, v, a, b, c⟩
  · rw [a] at h; cases h
  · rw [a] at h; cases h; exact ⟨v, b, c⟩
theorem Ps.none_ (p : Ps H es al) (h : lkA al k = none) : lookE es k = none := by
  rcases p.look k with ⟨a, b⟩ | ⟨x2, v, a, b, c⟩
  · exact b
  · rw [a] at h; cases h
theorem Ps.isSome (p : Ps H es al) (k : D) : (lookE es k).isSome = (lkA al k).isSome := by
  rcases p.look k with ⟨a, b⟩ | ⟨x2, v, a, b, c⟩
  · rw [a, b]; rfl
  · rw [a, b]; rfl
theorem Ps.put (p : Ps H es al) (y : V) (hv : Dt H v x) : Ps H (putE es k y v) (putA al k x) := by
  have hs := p.isSome k
  unfold putE putA
  rw [hs]
  cases hb : (lkA al k).isSome with
  | true =>
    rw [if_pos rfl, if_pos rfl]
    clear hs hb
    induction p with
    | nil => exact .nil
    | @cons e a es al h t ih =>
      refine .cons ?_ ih
      by_cases q : e.1 = k
      · have q2 : a.1 = k := h.1 ▸ q
        dsimp only
        rw [if_pos q, if_pos q2]; exact ⟨h.1, hv⟩
      · have q2 : ¬ a.1 = k := h.1 ▸ q
        dsimp only
        rw [if_neg q, if_neg q2]; exact h
  | false =>
    rw [if_neg Bool.false_ne_true, if_neg Bool.false_ne_true]
    clear hs hb
    induction p with
    | nil => exact .cons ⟨rfl, hv⟩ .nil
    | cons h t ih => exact .cons h ih
theorem Ps.drop (p : Ps H es al) (k : D) : Ps H (dropE es k) (dropA al k) := by
  unfold dropE dropA
  induction p with
  | nil => exact .nil
  | @cons e a es al h t ih =>
    by_cases q : e.1 = k
    · have q2 : a.1 = k := h.1 ▸ q
      simp only [List.filter_cons, q, q2, ne_eq, not_true_eq_false, decide_false, Bool.false_eq_true, if_false]
      exact ih
    · have q2 : ¬ a.1 = k := h.1 ▸ q
      simp only [List.filter_cons, ne_eq, q, q2, not_false_eq_true, decide_true, if_true]
      exact .cons h ih
theorem dts_of {H : Hp} : ∀ {es : Es}, (∀ e ∈ es, Dt H e.2.1 e.1 ∧ e.1.depth ≤ 8) → DtAll H (es.map (·.2.1)) (es.map (·.1))
  | [], _ => .nil
  | e :: es, h => .cons (h e List.mem_cons_self).1 (dts_of fun e he => h e (List.mem_cons_of_mem _ he))
end
/-- the dict at d: from data to data -/
def DictA (w : World) (H : Hp) (d : Addr) (al : AL) : Prop := ∃ es, DictE w H d es ∧ Ps H es al
section
variable {w : World} {K : PySem.W.Frag} {S : List Addr} {H H1 H2 : Hp} {d p : Addr} {al : AL} {es : Es} {k x : D} {y v : V}
theorem DictE.tups (m : DictE w H d es) (c : Chg d H H1) : ∀ b vs, H b = some (.tup vs) → H1 b = some (.tup vs) := fun b vs h => by rw [c b (m.noTup h)]; exact h
theorem DictA.keep (m : DictA w H d al) (hd : ∀ o, H d = some o → H1 d = some o) (ht : ∀ b vs, H b = some (.tup vs) → H1 b = some (.tup vs)) : DictA w H1 d al :=
  let ⟨es, e, p⟩ := m; ⟨es, e.keep hd ht, p.ext ht⟩
theorem DictA.ext (m : DictA w H d al) (e : EX K S H H1) (hd : d ∉ S) : DictA w H1 d al := let ⟨es, de, p⟩ := m; ⟨es, e.dictE de hd, p.ext e.tups⟩
theorem DictA.is (m : DictA w H d al) : IsX w H d := let ⟨es, e, _⟩ := m; ⟨es, e⟩
theorem DictA.put (m : DictE w H d es) (p : Ps H es al) (hv : Dt H v x) (m2 : DictE w H1 d (putE es k y v)) (c : Chg d H H1) : DictA w H1 d (putA al k x) :=
  ⟨_, m2, (p.put y hv).ext (m.tups c)⟩
theorem DictA.drop (m : DictE w H d es) (p : Ps H es al) (m2 : DictE w H1 d (dropE es k)) (c : Chg d H H1) : DictA w H1 d (dropA al k) := ⟨_, m2, (p.drop k).ext (m.tups c)⟩
theorem DictA.nil (m : DictE w H d []) : DictA w H d [] := ⟨_, m, .nil⟩
theorem DictA.nd (m : DictA w H d al) : (al.map (·.1)).Nodup := by
  obtain ⟨es, e, p⟩ := m
  rw [← p.keys]; exact e.nd
theorem DictA.noSeq (m : DictA w H d al) : ∃ o, H d = some o ∧ (∀ xs, o ≠ .lst xs) ∧ (∀ xs, o ≠ .tup xs) ∧ (∀ ob u, o ≠ .frz ob u) ∧ (∀ xs, o ≠ .dK xs) ∧ ∀ C dx fs, o ≠ .ins C dx fs := by
  obtain ⟨es, e, p⟩ := m
  obtain ⟨ep, h⟩ := e.ob
  refine ⟨_, h, fun _ z => ?_, fun _ z => ?_, fun _ _ z => ?_, fun _ z => ?_, fun _ _ _ z => ?_⟩ <;> cases z
theorem DictA.some (m : DictA w H d al) : ∃ o, H d = Option.some o := let ⟨o, h, _⟩ := m.noSeq; ⟨o, h⟩
theorem Ps.length (p : Ps H es al) : es.length = al.length := Paired.length p
end
/-! ### lists as functions -/
theorem lkA_none {al : AL} {k : D} : lkA al k = none ↔ k ∉ al.map (·.1) := by
  unfold lkA
  rw [Option.map_eq_none_iff, List.find?_eq_none]
  constructor
  · intro h hm
    obtain ⟨x, hx, hk⟩ := List.mem_map.mp hm
    exact h x hx (decide_eq_true hk)
  · intro h x hx hk
    exact h (List.mem_map.mpr ⟨x, hx, of_decide_eq_true hk⟩)
theorem lkA_mem {al : AL} {k x : D} (h : lkA al k = some x) : (k, x) ∈ al := by
  unfold lkA at h
  obtain ⟨y, hy, rfl⟩ := Option.map_eq_some_iff.mp h
  have := List.find?_some hy
  have e : y.1 = k := of_decide_eq_true this
  have := List.mem_of_find?_eq_some hy
  rw [← e]; exact this
theorem lkA_cons {a : D × D} {al : AL} {k : D} : lkA (a :: al) k = if a.1 = k then some a.2 else lkA al k := by
  unfold lkA
  rw [List.find?_cons]
  by_cases h : a.1 = k
  · rw [decide_eq_true h, if_pos h]; rfl
  · rw [decide_eq_false h, if_neg h]
theorem lkA_of_mem {k x : D} : ∀ {al : AL}, (al.map (·.1)).Nodup → (k, x) ∈ al → lkA al k = some x
  | [], _, h => by cases h
  | a :: al, nd, h => by
    rw [List.map_cons, List.nodup_cons] at nd
    rw [lkA_cons]
    rcases List.mem_cons.mp h with rfl | h
    · rw [if_pos rfl]
    · rw [if_neg (fun z => nd.1 (List.mem_map.mpr ⟨_, h, z.symm⟩))]
      exact lkA_of_mem nd.2 h
theorem lkA_map {k x j : D} : ∀ al : AL, lkA (al.map fun y => if y.1 = k then (y.1, x) else y) j = if j = k then (lkA al j).map (fun _ => x) else lkA al j
  | [] => by by_cases h : j = k <;> simp [lkA, h]
  | a :: al => by
    rw [List.map_cons, lkA_cons, lkA_cons, lkA_map al]
    by_cases h : j = k
    · subst h
      by_cases q : a.1 = j
      · simp [q]
      · simp [q]
    · by_cases q : a.1 = k
      · have : ¬ a.1 = j := fun z => h (z.symm.trans q)
        have h2 : ¬ k = j := fun z => h z.symm
        simp [q, h, h2]
      · simp [q, h]
theorem lkA_append {al bl : AL} {k : D} : lkA (al ++ bl) k = (lkA al k).or (lkA bl k) := by
  induction al with
  | nil => rfl
  | cons a al ih =>
    rw [List.cons_append, lkA_cons, lkA_cons, ih]
    by_cases h : a.1 = k <;> simp [h]
theorem lkA_put {al : AL} {k x j : D} : lkA (putA al k x) j = if j = k then some x else lkA al j := by
  unfold putA
  cases e : lkA al k with
  | none =>
    rw [if_neg (by simp), lkA_append, lkA_cons]
    by_cases q : j = k
    · subst q; rw [e]; simp
    · have h2 : ¬ k = j := fun z => q z.symm
      simp [q, h2, lkA]
  | some z =>
    rw [if_pos (by simp : (some z).isSome = true), lkA_map]
    by_cases q : j = k
    · subst q; rw [e]; simp
    · simp [q]
theorem lkA_drop {al : AL} {k j : D} : lkA (dropA al k) j = if j = k then none else lkA al j := by
  unfold lkA dropA
  rw [List.find?_filter]
  by_cases q : j = k
  · subst q
    rw [if_pos rfl, Option.map_eq_none_iff, List.find?_eq_none]
    intro x _ h
    simp at h
  · rw [if_neg q]
    congr 2
    funext x
    by_cases h : x.1 = j
    · simp [h, q]
    · simp [h]
theorem putA_new {al : AL} {k x : D} (h : lkA al k = none) : putA al k x = al ++ [(k, x)] := by unfold putA; rw [h]; rfl
end TR
/-! text G1 -/
set_option Elab.async false
set_option linter.all false
set_option maxRecDepth 100000
set_option maxHeartbeats 4000000
/-! sets of places: made of a list, by a comprehension; sorted -/
namespace TR
open PySem PySem.Spec PyProof.Rows L2 VD PySem.W
abbrev AP := Addr × Pl
def pk (p : AP) : Addr × List Int := (p.1, [p.2.1, p.2.2])
section
variable {P : Program} {w : World} {A : Around} {E : Value → Shared → Prop} {s : Shared}
/-- set.add(t) -/
theorem setP_add {a b : Addr} {L : List (Addr × List Int)} {k : List Int} {es : Array (Int × Value)} {ep : Nat} {t : SetTable} {Q : Value → Shared → Prop} (hu : A.units + 64 < cLine) (R : SetTR P w s.heap a L es ep t) (hx : IsT P w s.heap k b) (hf : L.length + 1 < 64)
    (hQ : ∀ h' L' es' ep' t' tk, Heap.SameBut a s.heap h' → SetTR P w h' a L' es' ep' t' → (k ∈ L.map (·.2) → L' = L) → (k ∉ L.map (·.2) → L'.Perm ((b, k) :: L)) → Q .none { s with heap := h', toks := tk }) :
    wpAny (model P w) A (call (.builtin "set.add") [.ref a, .ref b]) Q E s := by
  obtain ⟨o, ho, hex, hd⟩ := id R.ob
  refine wpAny_call_entry F.slot_set_add ⟨o, ho, hex.1⟩ F.entry_set_add ?_ (F.args_set_add_2 _ _)
  unfold Builtin.«set.add» Builtin.Frozenset.oneOther
  simp only [List.isEmpty_nil, bind_assoc]
  unfold Builtin.Frozenset.addrOf setAdd
  refine wpAny_bind (wpAny_pure ?_)
  try dsimp only
  refine wpAny_bind (wpAny_pure ?_)
  try dsimp only
  refine wpAny_bind ?_
  refine wpAny_holding ?_
  have hu2 : A.in1.units < cLine := by show A.units + 1 < cLine; omega
  refine wpAny_bind (wpAny_pyHash_tuple hu2 hx ?_)
  refine add_at (s := { s with toks := s.toks + (k.length + 1) }) R hx hu2 hf fun bb h' L' es' ep' t' hsb R2 c1 c2 => ?_
  exact wpAny_pure ⟨_, rfl, hQ h' L' es' ep' t' _ hsb R2 c1 c2⟩
end
section
variable {X : Cx}
theorem addP_ok {pins : List (Addr × Obj)} {σ : L2.St} {H : Hp} {s : Shared} {E : Value → Shared → Prop} {D b : Addr} {L : List (Addr × List Int)} {k : List Int} {Q : Value → Shared → Prop} (hu : X.A.units + 64 < cLine) (I : Inv X pins σ H s) (hD : H D = some (SetTO X.prog X.w D L)) (hL : ∀ q ∈ L, SqT X.K H q.1 (q.2.map V.int)) (hb : SqT X.K H b (k.map V.int)) (hf : L.length + 1 < 64)
    (h : ∀ L2 s', (k ∈ L.map (·.2) → L2 = L) → (k ∉ L.map (·.2) → L2.Perm ((b, k) :: L)) → Inv X pins σ (upd H D (SetTO X.prog X.w D L2)) s' → Q .none s') : wpAny (model X.prog X.w) X.A (call (.builtin "set.add") [.ref D, .ref b]) Q E s := by
  have R0 : SetT0 X.prog X.w s.heap D L := (I.hok D _ hD).1
  obtain ⟨es, ep, t, R⟩ := R0.full fun p hp => I.isT (hL p hp)
  refine setP_add hu R (I.isT hb) hf fun h' L' es' ep' t' tk sb R2 c1 c2 => ?_
  have he : ∃ u, h'.get? D = some u := let ⟨o, ho, _⟩ := R2.ob; ⟨o, ho⟩
  exact h L' _ c1 c2 (I.write (e := D) (t' := tk) (by rw [hD]; trivial) (.inl rfl) (fun b u hb hu => (sb.2 b hb).trans hu) he (setTO_new R2.t0))
def tScP (K : PySem.W.Frag) (P : Program) (w : World) (wi : TI) (g : TG) (tt : TT) (te : TE) (vs : List Nat) : TE := fun σ H Q => wi σ H fun J H1 => ∀ D, H1 D = none → ∃ W : Nat → Nat → Hp → Prop, (∃ m, W 0 m (upd H1 D (SetTO P w D []))) ∧ ∀ i m H, W i m H →
  (J.stop i H ∧ Q (.ref D) H) ∨ (J.go i H ∧ ∃ Nx : Hp → Prop, (∀ H', Nx H' → ∃ m', m' < m ∧ W (i + 1) m' H') ∧ ∀ x H', J.yld i H x H' → g x (wipe σ vs) H' fun σ2 H2 => wipe σ2 vs = wipe σ vs ∧ tt σ2 H2 fun b H3 =>
    if b = true then te σ2 H3 fun y H4 => ∃ (b : Addr) (L : List (Addr × List Int)) (k : List Int), y = .ref b ∧ H4 D = some (SetTO P w D L) ∧ (∀ q ∈ L, SqT K H4 q.1 (q.2.map V.int)) ∧ SqT K H4 b (k.map V.int) ∧ L.length + 1 < 64 ∧ ∀ L2, (k ∈ L.map (·.2) → L2 = L) → (k ∉ L.map (·.2) → L2.Perm ((b, k) :: L)) → Nx (upd H4 D (SetTO P w D L2)) else Nx H3)
theorem scP_core {pins : List (Addr × Obj)} {s : Shared} {σ : L2.St} {H : Hp} {Q : VK} {elt tg iter : Expr} {ifs : List Expr} {scope : Scope} {own : List (Str × Nat)} {pos pos' : Pos} {wi : TI} {g : TG} {tt : TT} {te : TE} {use : Option (Value → Sem Unit)} {Qf : Value → Shared → Prop}
    (hu : X.A.units + 64 < cLine) (hc : X.calm = true) (hN : X.N.Nodup) (I : Inv X pins σ H s) (hi : PI X tg iter wi) (ok : BlkOk X.N X.env.scope scope own)
    (hg : ∀ (s : Shared) (H : Hp) (C : Addr) (cl : List (Str × Addr)) (fp : List Addr), PG (X.blk s H scope (compEnvC scope cl C X.env) fp) tg g) (ht : ∀ (s : Shared) (H : Hp) (C : Addr) (cl : List (Str × Addr)) (fp : List Addr), PTs (X.blk s H scope (compEnvC scope cl C X.env) fp) ifs tt)
    (he : ∀ (s : Shared) (H : Hp) (C : Addr) (cl : List (Str × Addr)) (fp : List Addr), PE (X.blk s H scope (compEnvC scope cl C X.env) fp) elt te) (hs : ∀ x, foldedSetIterable iter X.env x = pure x)
    (h : tScP X.K X.prog X.w wi g tt te (own.map (·.2)) σ H Q)
    (hRR : ∀ D C s' m H', Inv X pins σ H' s' → Q (.ref D) H' → s'.heap.Ns C m → FpOk X pins H' C → compPost (model X.prog X.w) X.A X.xe use Qf (.ref D) C (.ok .next) s') :
    wpAny (model X.prog X.w) X.A (comprehension (.SetComp elt [⟨tg, iter, ifs, 0⟩] scope pos) scope X.env pos' (newSet (.type "set")) false (eval iter X.env) use) Qf X.xe s := by
  have hfree : ∀ y ∈ scope.names, y.2 = .free → ∃ c, X.env.cells.lookup y.1 = some c := fun y hy e => by
    rcases ok.free y hy e with k | k
    · exact I.ok.has _ (.inl k)
    · exact I.ok.has _ (.inr k)
  refine wpAny_comprehension_free (use := use) rfl hs (closure_ok hfree) ok.kind (fun y hy e => by rw [ok.uniq y hy, e])
    (thn (hi.run pins s σ H _ I h) fun xv s1 hx => thn hx fun itv s2 h2 => ?_)
  obtain ⟨it, fp, tn, J, H2, e, I2, T, st2, f2, q⟩ := h2
  subst e
  refine PpSet.newSet_ok (newEnv_comp ?_)
  generalize hD : s2.heap.objs.size = D
  have hDn : H2 D = none := I2.hok.fresh (Nat.le_of_eq hD)
  obtain ⟨W, ⟨m0, w0⟩, turn⟩ := q D hDn
  generalize hs3 : ({ s2 with heap := s2.heap.push { cls := .type "set", dict := none, data := .set #[] 0 (.fresh 0 0 (!X.w.params.followText "set-order")) } } : Shared) = s3
  have I3 : Inv X pins σ (upd H2 D (SetTO X.prog X.w D [])) s3 := by
    rw [← hs3]
    refine I2.laid (t' := s2.toks) (fun b o e => Heap.get?_push_of_some _ e) (Nat.le_of_eq hD) ?_
    rw [← hD]
    exact setTO_new (setTR_fresh (Heap.get?_push_size _ rfl)).t0
  have h3 : s3.heap = s2.heap.push { cls := .type "set", dict := none, data := .set #[] 0 (.fresh 0 0 (!X.w.params.followText "set-order")) } := by rw [← hs3]
  have sz : ∀ b ∈ fp, b < s2.heap.objs.size := fun b hb => by
    obtain ⟨o, e, _⟩ := T.obj _ _ st2 b hb
    exact Heap.lt_size e
  have f3 : ∀ b ∈ fp, FpOk X pins (upd H2 D (SetTO X.prog X.w D [])) b ∧ b < s3.heap.objs.size := fun b hb => by
    have hlt := sz b hb
    refine ⟨⟨?_, (f2 b hb).2⟩, by rw [h3, Heap.size_push]; exact Nat.lt_succ_of_lt hlt⟩
    rw [upd_ne (by rw [← hD]; exact Nat.ne_of_lt hlt)]
    exact (f2 b hb).1
  have st3 : tn 0 s3.heap := T.keep _ _ _ st2 fun b _ o e => by rw [h3]; exact Heap.get?_push_of_some _ e
  have I4 := block_start I3 ok hN f3
  have pg := hg s3 (upd H2 D (SetTO X.prog X.w D [])) s3.heap.objs.size (cellsFrom (s3.heap.objs.size + 1) scope.names (cloFrom X.env.cells scope.names [])) fp
  have pt := ht s3 (upd H2 D (SetTO X.prog X.w D [])) s3.heap.objs.size (cellsFrom (s3.heap.objs.size + 1) scope.names (cloFrom X.env.cells scope.names [])) fp
  have pe := he s3 (upd H2 D (SetTO X.prog X.w D [])) s3.heap.objs.size (cellsFrom (s3.heap.objs.size + 1) scope.names (cloFrom X.env.cells scope.names [])) fp
  show codeAny _ _ (.compStart (.SetComp elt [⟨tg, iter, ifs, 0⟩] scope pos) 0 (.ref it) (.ref D) (compEnvC scope (cellsFrom (s3.heap.objs.size + 1) scope.names (cloFrom X.env.cells scope.names [])) s3.heap.objs.size X.env)) (compPost (model X.prog X.w) X.A X.xe use Qf (.ref D) s3.heap.objs.size) { s3 with heap := pushCells (s3.heap.push { cls := .type "dict", data := .dict #[] }) scope.names }
  have nfp : ∀ b ∈ fp, (upd H2 D (SetTO X.prog X.w D [])) b = none := fun b hb => (f3 b hb).1.1
  generalize hce : compEnvC scope (cellsFrom (s3.heap.objs.size + 1) scope.names (cloFrom X.env.cells scope.names [])) s3.heap.objs.size X.env = ce at I4 pg pt pe ⊢
  have cL : ce.locals = s3.heap.objs.size := by subst hce; rfl
  generalize hH3 : upd H2 D (SetTO X.prog X.w D []) = H3 at I3 I4 pg pt pe w0 nfp f3
  generalize hs4 : ({ s3 with heap := pushCells (s3.heap.push { cls := .type "dict", data := .dict #[] }) scope.names } : Shared) = s4 at I4 ⊢
  have st4 : tn 0 s4.heap := T.keep _ _ _ st3 fun b _ o e => by rw [← hs4]; exact pushCells_keeps _ _ _ _ (Heap.get?_push_of_some _ e)
  have stat : ∀ {σ' : L2.St} {H' : Hp} {s' : Shared}, Inv (X.blk s3 H3 scope ce fp) [] σ' H' s' → (∀ b ∈ fp, H' b = none) → ∀ b ∈ fp, FpOk (X.blk s3 H3 scope ce fp) [] H' b := fun {σ' H' s'} I' hn b hb =>
    ⟨hn b hb, (I'.ok.exf b hb).1, I'.ok.exfs b hb, .inl hb, fun x c e => (I'.ok.exf b hb).2 x c e, fun p hp => absurd (show p ∈ ([] : List (Addr × Obj)) ++ [] from hp) (by simp)⟩
  have loop : codeAny (model X.prog X.w) X.A (.compLoop (.SetComp elt [⟨tg, iter, ifs, 0⟩] scope pos) 0 (.ref it) (.ref D) ce) (compPost (model X.prog X.w) X.A X.xe use Qf (.ref D) s3.heap.objs.size) s4 := by
    refine PpSet.compLoopS_any (fun n s' => ∃ i H', Inv (X.blk s3 H3 scope ce fp) [] (wipe σ (own.map (·.2))) H' s' ∧ tn i s'.heap ∧ (∀ b ∈ fp, H' b = none) ∧ W i n H') ?_ m0 ⟨0, H3, I4, st4, nfp, w0⟩
    rintro n s5 ⟨i, H5, I5, st5, n5, w5⟩
    rcases turn i n H5 w5 with ⟨stop, qq⟩ | ⟨go, Nx, hNx, step⟩
    · have td := T.done (X.blk s3 H3 scope ce fp) rfl rfl rfl hc i [] s5 _ H5 (fun _ _ => False) I5 (stat I5 n5) st5 stop
      refine thnF td fun r s6 ⟨hr, I6⟩ => ?_
      subst hr
      have I7 : Inv X pins σ H5 s6 := I3.call' (ch := fp) I6.os I6.base I6.hok I6.bare fun b hb => ⟨(f3 b hb).1.2.2.2.1, (f3 b hb).1.2.1, (f3 b hb).1.2.2.2.2.1, (f3 b hb).1.2.2.2.2.2⟩
      have nC : H5 s3.heap.objs.size = none := by
        have z : H5 ce.locals = none := I6.free
        rw [cL] at z
        exact z
      obtain ⟨m, hn, _⟩ := I6.loc
      have hn : s6.heap.Ns ce.locals m := hn
      rw [cL] at hn
      exact hRR D s3.heap.objs.size s6 m H5 I7 qq hn (I3.fpOk (Nat.le_refl _) nC)
    · have ti := T.item (X.blk s3 H3 scope ce fp) rfl rfl rfl hc i [] s5 _ H5 (fun _ _ => False) I5 (stat I5 n5) st5 go
      refine thnF ti fun r s6 ⟨u, hr, h6⟩ => ?_
      subst hr
      refine thnF h6 fun _ s7 ⟨x, H7, I7, r7, y7, st7, n7⟩ => ?_
      have I7' := I7.pinned (stat I7 n7) (T.obj _ _ st7)
      refine thnF (pg.run _ s7 _ H7 x u _ I7' r7 (step x H7 y7)) fun _ s8 ⟨σ8, H8, I8, hw8, q8⟩ => ?_
      refine thnF (pt.run _ s8 σ8 H8 _ I8 q8) fun b s9 ⟨H9, I9, q9⟩ => ?_
      have fin : ∀ {s' : Shared} {H' : Hp}, Inv (X.blk s3 H3 scope ce fp) ([] ++ pinsAt fp s7.heap) σ8 H' s' → Nx H' → ∃ m, m < n ∧ ∃ i H', Inv (X.blk s3 H3 scope ce fp) [] (wipe σ (own.map (·.2))) H' s' ∧ tn i s'.heap ∧ (∀ b ∈ fp, H' b = none) ∧ W i m H' := fun {s' H'} I' nx => by
        obtain ⟨m', hm, w'⟩ := hNx H' nx
        have pin' : ∀ b ∈ fp, ∀ o, s7.heap.get? b = some o → s'.heap.get? b = some o ∧ H' b = none := fun b hb o e =>
          let z := I'.pin (b, o) (List.mem_append_right _ (List.mem_append_right _ (mem_pinsAt hb e)))
          ⟨z.1, z.2.1⟩
        have hl : (wipe σ (own.map (·.2))).length = σ8.length := by rw [← hw8, wipe_length]
        refine ⟨m', hm, i + 1, H', (I'.unpinned (pins := [])).weak hl (fun j v e => ?_), T.keep _ _ _ st7 fun b hb o e => (pin' b hb o e).1, fun b hb => ?_, w'⟩
        · rw [← hw8] at e
          exact (wipe_some e).1
        · obtain ⟨o, e, _⟩ := T.obj _ _ st7 b hb
          exact (pin' b hb o e).2
      cases b with
      | false =>
        simp only [Bool.false_eq_true, if_false] at q9 ⊢
        exact fin I9 q9
      | true =>
        simp only [if_true] at q9 ⊢
        refine thnF (pe.run _ s9 σ8 H9 _ I9 q9) fun z s10 ⟨yv, H10, I10, r10, b0, L0, k0, ey, hD10, hL10, hb10, hf10, nx⟩ => ?_
        subst ey
        cases (show z = Value.ref b0 from r10)
        exact addP_ok (X := X.blk s3 H3 scope ce fp) hu I10 hD10 hL10 hb10 hf10 fun L2 s11 c1 c2 I11 => fin I11 (nx L2 c1 c2)
  exact PpSet.codeAny_compStart_set loop (T.self X.A 0 _ _ _ st4 loop)

theorem pe_scP {elt tg iter : Expr} {ifs : List Expr} {scope : Scope} {own : List (Str × Nat)} {pos : Pos} {wi : TI} {g : TG} {tt : TT} {te : TE} (hc : X.calm = true) (hN : X.N.Nodup) (hi : PI X tg iter wi) (ok : BlkOk X.N X.env.scope scope own)
    (hg : ∀ (s : Shared) (H : Hp) (C : Addr) (cl : List (Str × Addr)) (fp : List Addr), PG (X.blk s H scope (compEnvC scope cl C X.env) fp) tg g) (ht : ∀ (s : Shared) (H : Hp) (C : Addr) (cl : List (Str × Addr)) (fp : List Addr), PTs (X.blk s H scope (compEnvC scope cl C X.env) fp) ifs tt)
    (he : ∀ (s : Shared) (H : Hp) (C : Addr) (cl : List (Str × Addr)) (fp : List Addr), PE (X.blk s H scope (compEnvC scope cl C X.env) fp) elt te) (hu : X.A.units + 64 < cLine) (hs : ∀ x, foldedSetIterable iter X.env x = pure x := by intro _; rfl) :
    PE X (.SetComp elt [⟨tg, iter, ifs, 0⟩] scope pos) (tScP X.K X.prog X.w wi g tt te (own.map (·.2))) := by
  refine ⟨fun pins s σ H Q I h => ?_⟩
  rw [PpSet.eval_SetComp]
  refine scP_core hu hc hN I hi ok hg ht he hs h fun D C s' m H' I' q hn f => ⟨m, hn, fun h'' sb => ?_⟩
  obtain ⟨f0, f1, f2, f3, f4, f5⟩ := f
  exact ⟨.ref D, H', I'.turned (t' := s'.toks) (fun b o hb e => (sb.2 b hb).trans e) f0 f1 f3 f4 f5, rfl, q⟩
end

theorem scP_list {P : Program} {w : World} {K : PySem.W.Frag} {a : Addr} {xs : List V} {g : TG} {tt : TT} {te : TE} {vs : List Nat} {σ : L2.St} {H1 : Hp} {D : Addr} {Qd : Hp → Prop} (Pv : Nat → Hp → Prop) (h0 : Pv 0 (upd H1 D (SetTO P w D []))) (hl : ∀ i H, i ≤ xs.length → Pv i H → SqL K H a xs)
    (hs : ∀ i x H, xs[i]? = some x → Pv i H → g x (wipe σ vs) H fun σ2 H2 => wipe σ2 vs = wipe σ vs ∧ tt σ2 H2 fun b H3 =>
      if b = true then te σ2 H3 fun y H4 => ∃ (b : Addr) (L : List (Addr × List Int)) (k : List Int), y = .ref b ∧ H4 D = some (SetTO P w D L) ∧ (∀ q ∈ L, SqT K H4 q.1 (q.2.map V.int)) ∧ SqT K H4 b (k.map V.int) ∧ L.length + 1 < 64 ∧ ∀ L2, (k ∈ L.map (·.2) → L2 = L) → (k ∉ L.map (·.2) → L2.Perm ((b, k) :: L)) → Pv (i + 1) (upd H4 D (SetTO P w D L2)) else Pv (i + 1) H3) (hd : ∀ H, Pv xs.length H → Qd H) :
    ∃ W : Nat → Nat → Hp → Prop, (∃ m, W 0 m (upd H1 D (SetTO P w D []))) ∧ ∀ i m H, W i m H →
      ((Itl K a).stop i H ∧ Qd H) ∨ ((Itl K a).go i H ∧ ∃ Nx : Hp → Prop, (∀ H', Nx H' → ∃ m', m' < m ∧ W (i + 1) m' H') ∧ ∀ x H', (Itl K a).yld i H x H' → g x (wipe σ vs) H' fun σ2 H2 => wipe σ2 vs = wipe σ vs ∧ tt σ2 H2 fun b H3 =>
        if b = true then te σ2 H3 fun y H4 => ∃ (b : Addr) (L : List (Addr × List Int)) (k : List Int), y = .ref b ∧ H4 D = some (SetTO P w D L) ∧ (∀ q ∈ L, SqT K H4 q.1 (q.2.map V.int)) ∧ SqT K H4 b (k.map V.int) ∧ L.length + 1 < 64 ∧ ∀ L2, (k ∈ L.map (·.2) → L2 = L) → (k ∉ L.map (·.2) → L2.Perm ((b, k) :: L)) → Nx (upd H4 D (SetTO P w D L2)) else Nx H3) := by
  refine ⟨fun i m H => m = xs.length - i ∧ i ≤ xs.length ∧ Pv i H, ⟨xs.length, by simp, Nat.zero_le _, h0⟩, ?_⟩
  rintro i m H ⟨rfl, hi, p⟩
  have q := hl i H hi p
  by_cases hlt : i < xs.length
  · refine .inr ⟨⟨xs, xs[i], q, by simp [hlt]⟩, Pv (i + 1), fun H' p' => ⟨xs.length - (i + 1), by omega, rfl, hlt, p'⟩, fun x H' y => ?_⟩
    obtain ⟨e, y⟩ := y
    subst e
    exact hs i x _ (y xs q) p
  · have e : i = xs.length := by omega
    subst e
    exact .inl ⟨⟨xs, q, Nat.le_refl _⟩, hd H p⟩
end TR
/-! text G2 -/
set_option Elab.async false
set_option linter.all false
set_option maxRecDepth 100000
set_option maxHeartbeats 4000000
/-! sorted(a set of places) -/
namespace TR
open PySem PySem.Spec PyProof.Rows L2 VD PySem.W
def apEnc (b : AP) : PyData := .tuple [.int b.2.1, .int b.2.2]
def apLe (p q : AP) : Bool := plLe p.2 q.2
theorem dataLe_ap : dataLe false apEnc = apLe := dataLe_ii (fun b : AP => b.2.1) (fun b : AP => b.2.2)
theorem alike_ap (b c : AP) : alike (apEnc b) (apEnc c) = true := by simp [apEnc, alike, alikeAll]
theorem plLe_trans {a b c : Pl} (h : plLe a b = true) (k : plLe b c = true) : plLe a c = true := by
  unfold plLe at *
  have h := of_decide_eq_true h
  have k := of_decide_eq_true k
  exact decide_eq_true (by omega)
theorem plLe_total (a b : Pl) : (plLe a b || plLe b a) = true := by
  unfold plLe
  rw [Bool.or_eq_true]
  by_cases h : a.1 < b.1 ∨ (a.1 = b.1 ∧ a.2 ≤ b.2)
  · exact .inl (decide_eq_true h)
  · exact .inr (decide_eq_true (by omega))
theorem plLe_anti {a b : Pl} (h : plLe a b = true) (k : plLe b a = true) : a = b := by
  unfold plLe at *
  have h := of_decide_eq_true h
  have k := of_decide_eq_true k
  exact Prod.ext (by omega) (by omega)
theorem reads_ap {P : Program} {w : World} {h : Heap} {b : AP} (x : IsT P w h (pk b).2 b.1) : Reads h (.ref b.1) (apEnc b) [] := by
  obtain ⟨o, items, n, ho, hc, hd, hi⟩ := x
  have hi := ints_of_items hi
  have key : ∀ (vs : List Value) (i j : Int), IntsAre vs [i, j] → ReadsAll h vs [.int i, .int j] [] := by
    intro vs i j q
    cases q with
    | cons i t r =>
      cases r with
      | cons j t2 r =>
        cases r
        exact ReadsAll.cons (Reads.int i t) (ReadsAll.cons (Reads.int j t2) ReadsAll.nil)
  exact Reads.tuple ho hc hd (key _ _ _ hi)
section
variable {P : Program} {w : World} {A : Around} {E : Value → Shared → Prop} {s : Shared}
theorem sorted_setP {a : Addr} {LP : List AP} {es : Array (Int × Value)} {ep : Nat} {t : SetTable} {Q : Value → Shared → Prop} (R : SetTR P w s.heap a (LP.map pk) es ep t) (hh : A.handled = none) (hu : A.units + 64 < cLine)
    (hQ : ∀ s' p (out : Array Value) (c : Nat) (L' : List AP), (∀ b o, s.heap.get? b = some o → s'.heap.get? b = some o) → s'.gens = s.gens → s'.os = s.os → s.heap.objs.size ≤ p →
      s'.heap.get? p = some (seqObj "list" out c) → out.toList = L'.map (fun q => Value.ref q.1) → L'.Perm LP → L'.Pairwise (fun q r => plLe q.2 r.2 = true) → Q (.ref p) s') :
    wpAny (model P w) A (call (.builtin "sorted") [.ref a]) Q E s := by
  obtain ⟨o, ho, hex, hd⟩ := R.ob
  have hsz := R.size
  have hfew := R.few
  rw [List.length_map] at hsz hfew
  refine Calls.call_function_entry kind_sorted plain_sorted entry_sorted (args_sorted1 _) ?_
  unfold Builtin.«sorted»
  refine wpAny_bind (m := checkCount "sorted" 1 1 _) (wpAny_pure ?_)
  refine wpAny_bind (collect_set (A := A.in1) hh ⟨o, ho, hex.1, hd⟩ R.fits (by unfold scanBound; omega) R.tab.ris R.led fun s1 vs k1 hz g1 o1 pm => ?_)
  have hes : es.toList.map (·.2) = LP.map fun q => Value.ref q.1 := by
    rw [R.rows]
    unfold L2.rowsOf
    rw [List.map_map, List.map_map] <;> rfl
  rw [hes] at pm
  have ord : ∀ us : List Value, (∀ v ∈ us, ∃ q ∈ LP, v = Value.ref q.1) → ∃ L1 : List AP, us = L1.map (fun q => Value.ref q.1) ∧ ∀ q ∈ L1, q ∈ LP := by
    intro us
    induction us with
    | nil => intro _; exact ⟨[], rfl, fun q hq => (by cases hq)⟩
    | cons v us ih =>
      intro hv
      obtain ⟨q, hq, e⟩ := hv v List.mem_cons_self
      obtain ⟨L1, e1, hs⟩ := ih fun u hu => hv u (List.mem_cons_of_mem _ hu)
      refine ⟨q :: L1, by rw [List.map_cons, e, e1], fun r hr => ?_⟩
      rcases List.mem_cons.mp hr with z | z
      · rw [z]; exact hq
      · exact hs r z
  have tp : ∀ q ∈ LP, IsT P w s.heap (pk q).2 q.1 := fun q hq => R.tup (pk q) (List.mem_map.mpr ⟨q, hq, rfl⟩)
  have one : ∀ q ∈ LP, ∀ r ∈ LP, q.1 = r.1 → q = r := fun q hq r hr e => by
    have a1 := tp q hq
    have a2 := tp r hr
    rw [e] at a1
    have e2 : (pk q).2 = (pk r).2 := a1.inj a2
    unfold pk at e2
    simp only [List.cons.injEq, and_true] at e2
    exact Prod.ext e (Prod.ext e2.1 e2.2)
  have nL : LP.Nodup := by
    have h1 := nodup_of_map (nodup_of_map R.nd)
    exact h1
  have nref : (LP.map fun q => Value.ref q.1).Nodup := by
    refine List.pairwise_map.mpr (List.Pairwise.imp_of_mem (fun {q r} hq hr hne e => ?_) nL)
    injection e with e
    exact hne (one q hq r hr e)
  obtain ⟨L1, e1, hs1⟩ := ord vs fun v hv => by
    obtain ⟨q, hq, e⟩ := List.mem_map.mp (pm.mem_iff.mp hv)
    exact ⟨q, hq, e.symm⟩
  have pm1 : L1.Perm LP := by
    have pm' : (L1.map (fun q => Value.ref q.1)).Perm (LP.map fun q => Value.ref q.1) := by rw [← e1]; exact pm
    have n1 : L1.Nodup := nodup_of_map (pm'.nodup_iff.mpr nref)
    refine (List.perm_ext_iff_of_nodup n1 nL).mpr fun q => ⟨hs1 q, fun hq => ?_⟩
    have hm : Value.ref q.1 ∈ L1.map (fun q => Value.ref q.1) := pm'.mem_iff.mpr (List.mem_map.mpr ⟨q, hq, rfl⟩)
    obtain ⟨r, hr, e⟩ := List.mem_map.mp hm
    injection e with e
    rw [← one r (hs1 r hr) q hq e]
    exact hr
  subst e1
  have hvl : L1.length < 64 := by rw [pm1.length_eq]; exact hfew
  refine wpAny_bind (wpAny_newList ?_ (by rw [List.length_map, sizeLine_eq]; omega))
  generalize hvs : L1.map (fun q => Value.ref q.1) = us
  have hoL : (s1.heap.push (seqObj "list" us.toArray 0)).get? s1.heap.objs.size = some (seqObj "list" us.toArray 0) := Heap.get?_push_size _ rfl
  have each1 : ∀ (l : List AP), EachIs (fun (v : Value) (b : AP) => v = Value.ref b.1) (l.map fun q => Value.ref q.1) l := by
    intro l
    induction l with
    | nil => exact .nil
    | cons x l ih => exact .cons rfl ih
  have each2 : ∀ (l : List AP), (∀ q ∈ l, q ∈ LP) → EachIs (fun (v : Value) (b : AP) => ∃ as, Reads (s1.heap.push (seqObj "list" us.toArray 0)) v (apEnc b) as ∧ s1.heap.objs.size ∉ as) (l.map fun q => Value.ref q.1) l := by
    intro l
    induction l with
    | nil => intro _; exact .nil
    | cons x l ih =>
      intro h
      refine .cons ⟨[], reads_ap (P := P) (w := w) (isT_keep (tp x (h x List.mem_cons_self)) fun b u e => Heap.get?_push_of_some _ (k1 b u e)), by simp⟩ (ih fun q hq => h q (List.mem_cons_of_mem _ hq))
  have eachV : ∀ {us : List Value} {l : List AP}, EachIs (fun (v : Value) (b : AP) => v = Value.ref b.1) us l → us = l.map fun q => Value.ref q.1 := by
    intro us l h
    induction h with
    | nil => rfl
    | cons r t ih => rw [List.map_cons, r, ih]
  refine wpAny_bind (wpAny_holding (list_sort_data (s := { s1 with heap := s1.heap.push (seqObj "list" us.toArray 0) }) (R := fun (v : Value) (b : AP) => v = Value.ref b.1) (enc := apEnc) (bs := L1) (vs := us) hoL (by rw [← hvs]; exact each1 L1) (by have z := each2 L1 hs1; rw [hvs] at z; exact z)
    (AllAlike.of alike_ap) (Sortable.tuples fun b => ⟨_, _, rfl⟩) (by rw [sizeLine_eq]; omega) (fun b _ => by
      have : (apEnc b).depth = 1 := by simp [apEnc, PyData.depth, PyData.depthAll]
      show A.units + 1 + 1 + (apEnc b).depth < cLine
      omega) fun out hl he => ?_))
  rw [dataLe_ap] at he
  obtain ⟨c, hc⟩ := sortedHeap_at (vs := us) (out := out.toArray) hoL
  have pw : (L1.mergeSort apLe).Pairwise (fun q r => plLe q.2 r.2 = true) :=
    List.pairwise_mergeSort (le := apLe) (fun a b c h k => plLe_trans h k) (fun a b => plLe_total a.2 b.2) L1
  refine wpAny_pure ⟨_, rfl, hQ _ s1.heap.objs.size out.toArray c (L1.mergeSort apLe) (fun b u e => ?_) g1 o1 hz hc (by simpa using eachV he) ((List.mergeSort_perm L1 apLe).trans pm1) pw⟩
  have q := k1 b u e
  have hlt := Heap.lt_size q
  show (sortedHeap (s1.heap.push (seqObj "list" us.toArray 0)) s1.heap.objs.size us out.toArray).get? b = some u
  rw [sortedHeap_old (Nat.ne_of_lt hlt) (by rw [size_push']; exact Nat.lt_succ_of_lt hlt)]
  exact Heap.get?_push_of_some _ q
end
section
variable {X : Cx}
/-- sorted(set) -/
def rSortSetP (P : Program) (w : World) : List V → Hp → VK → Prop := fun vs H Q => ∃ (a : Addr) (L : List AP), vs = [V.ref a] ∧ H a = some (SetTO P w a (L.map pk)) ∧ (∀ p ∈ L, Dt H (.ref p.1) (plD p.2)) ∧
  ∀ (L' : List AP) (p : Addr), L'.Perm L → (L'.map (·.2)).Nodup → L'.length < 64 → L'.Pairwise (fun q r => plLe q.2 r.2 = true) → H p = none → Q (.ref p) (upd H p (.lst (L'.map fun q => V.ref q.1)))
theorem pk_nodup : ∀ {L : List AP}, ((L.map pk).map (·.2)).Nodup → (L.map (·.2)).Nodup := fun {L} h => by
  rw [List.map_map] at h
  refine List.pairwise_map.mpr ((List.pairwise_map.mp h).imp fun {a b} hne e => hne ?_)
  show (pk a).2 = (pk b).2
  unfold pk; rw [e]
theorem cr_sortSetP (hc : X.calm = true) (hu : X.A.units + 64 < cLine) : CallR X (.builtin "sorted") (rSortSetP X.prog X.w) := by
  intro pins s σ H vs us Q I r h
  obtain ⟨a, L, rfl, ha, hk, q⟩ := h
  have hk2 : ∀ p ∈ L.map pk, SqT X.K H p.1 (p.2.map V.int) := fun p hp => by
    obtain ⟨y, hy, rfl⟩ := List.mem_map.mp hp
    obtain ⟨t, e, ht⟩ := pl_tup (hk y hy)
    cases e
    exact .of ht
  have R0 : SetT0 X.prog X.w s.heap a (L.map pk) := (I.hok a _ ha).1
  obtain ⟨es, ep, t, R⟩ := R0.full fun p hp => I.isT (hk2 p hp)
  rw [Vals.ref1 r]
  refine sorted_setP R (I.ok.hd hc) hu fun s' p out c L' k g o hp hg hout pm pw => ?_
  have hfew : L'.length < 64 := by rw [pm.length_eq]; have := R.few; rwa [List.length_map] at this
  have hlen : (L'.map fun q => V.ref q.1).length ≤ sizeLine := by rw [List.length_map, sizeLine_eq]; omega
  have hn : H p = none := I.hok.fresh hp
  have vr : ∀ l : List AP, Vals (l.map fun q => V.ref q.1) (l.map fun q => Value.ref q.1) := by
    intro l
    induction l with
    | nil => exact .nil
    | cons x l ih => exact .cons rfl ih
  have hv : Vals (L'.map fun q => V.ref q.1) out.toList := by rw [hout]; exact vr L'
  have J : L2.Inv X pins σ (upd H p (.lst (L'.map fun q => V.ref q.1))) { s with heap := s'.heap, gens := s'.gens, drawn := s'.drawn, toks := s'.toks } :=
    I.call (ch := []) (Un.laid k hp hn) (I.hok.laid k hp ⟨hlen, out.toList, c, hv, hg⟩) (by rw [g]; exact I.bare) (fun _ z => nomatch z)
  have e : s' = { s with heap := s'.heap, gens := s'.gens, drawn := s'.drawn, toks := s'.toks } := by
    cases s'
    cases s
    cases o
    rfl
  rw [e]
  exact ⟨.ref p, _, J, rfl, q L' p pm ((pm.map (·.2)).nodup_iff.mpr (pk_nodup R.nd)) hfew pw hn⟩
/-- set(xs), xs a list of places -/
def rSetP (K : PySem.W.Frag) (P : Program) (w : World) : List V → Hp → VK → Prop := fun vs H Q => ∃ (l : Addr) (ks : List AP), vs = [V.ref l] ∧ SqL K H l (ks.map fun p => V.ref p.1) ∧ (∀ p ∈ ks, Dt H (.ref p.1) (plD p.2)) ∧ ks.length < 64 ∧
  ∀ a (L : List AP), H a = none → (∀ p ∈ L, p ∈ ks) → (∀ p ∈ ks, p.2 ∈ L.map (·.2)) → Q (.ref a) (upd H a (SetTO P w a (L.map pk)))
theorem cr_setP (hc : X.calm = true) (hu : X.A.units + 64 < cLine) : CallR X (.type "set") (rSetP X.K X.prog X.w) := by
  intro pins s σ H vs us Q I r h
  obtain ⟨l, ks, rfl, hl, hk, hf, q⟩ := h
  refine cr_setOfT hc hu pins s σ H _ us Q I r ⟨l, ks.map pk, rfl, by rw [List.map_map]; exact hl, fun p hp => ?_, by rw [List.length_map]; exact hf, fun a L hn h1 h2 => ?_⟩
  · obtain ⟨y, hy, rfl⟩ := List.mem_map.mp hp
    obtain ⟨t, e, ht⟩ := pl_tup (hk y hy)
    cases e
    exact .of ht
  · have lift : ∀ L : List (Addr × List Int), (∀ p ∈ L, p ∈ ks.map pk) → ∃ L0 : List AP, L = L0.map pk ∧ ∀ p ∈ L0, p ∈ ks := by
      intro L
      induction L with
      | nil => intro _; exact ⟨[], rfl, fun _ h => (by cases h)⟩
      | cons x L ih =>
        intro h
        obtain ⟨y, hy, e⟩ := List.mem_map.mp (h x List.mem_cons_self)
        obtain ⟨L0, e0, h0⟩ := ih fun p hp => h p (List.mem_cons_of_mem _ hp)
        refine ⟨y :: L0, by rw [List.map_cons, e, e0], fun p hp => ?_⟩
        rcases List.mem_cons.mp hp with z | z
        · rw [z]; exact hy
        · exact h0 p z
    obtain ⟨L0, rfl, h0⟩ := lift L h1
    refine q a L0 hn h0 fun p hp => ?_
    have := h2 (pk p) (List.mem_map.mpr ⟨p, hp, rfl⟩)
    rw [List.map_map] at this
    obtain ⟨y, hy, e⟩ := List.mem_map.mp this
    refine List.mem_map.mpr ⟨y, hy, ?_⟩
    have e : (pk y).2 = (pk p).2 := e
    unfold pk at e
    simp only [List.cons.injEq, and_true] at e
    exact Prod.ext e.1 e.2
end
end TR
/-! text G3 -/
set_option Elab.async false
set_option linter.all false
set_option maxRecDepth 100000
set_option maxHeartbeats 4000000
/-! sorted(xs, key=lambda name: ..) -/
namespace TR
open PySem PySem.Spec PyProof.Rows L2 VD PySem.W
abbrev VN := V × D
/-- data that can be shown -/
structure Shw (d : D) : Prop where
  ok : d.data.showable = true
  nd : d.data.hasDict = false
  len : d.data.shown.length ≤ 1000
  dp : d.depth ≤ 8
  ne : d ≠ .none
section
variable {P : Program} {w : World} {A : Around} {E : Value → Shared → Prop} {s : Shared}
theorem keyPure_str {x : Str} {s0 s1 : Shared} {u : Value} (h : ∃ h' t tk, u = .str x t ∧ s1 = { s0 with heap := h', toks := tk } ∧ ∀ b o, s0.heap.get? b = some o → h'.get? b = some o) : KeyPure (.str x) s0 u s1 := by
  obtain ⟨h', t, tk, rfl, rfl, k⟩ := h
  exact ⟨h', tk, rfl, k, Reads.str x t⟩
/-- repr(v), v data -/
theorem repr_dt {v : Value} {d : D} {as : List Addr} {s0 : Shared} (r : Reads s.heap v d.data as) (hs : Shw d) (hg : A.guards = some []) (hu : A.units + 32 < cLine) (e0 : ∃ h tk, s = { s0 with heap := h, toks := tk } ∧ ∀ b o, s0.heap.get? b = some o → h.get? b = some o) :
    wpAny (model P w) A (call (.builtin "repr") [v]) (KeyPure (.str d.data.shown) s0) E s := by
  obtain ⟨h0, tk0, rfl, k0⟩ := e0
  have hl : d.data.shown.length ≤ sizeLine := Nat.le_trans hs.len (by rw [sizeLine_eq]; decide)
  have hdp := hs.dp
  rw [← depth_data] at hdp
  cases d with
  | none => exact absurd rfl hs.ne
  | num i =>
    cases r with
    | int _ t =>
      have hi : i.natAbs.log2 < 1920 := by
        have := hs.ok
        simp only [NestedKey.data, PyData.showable, decide_eq_true_eq] at this
        exact this
      exact PySem.P.repr_of_int hi (keyPure_str ⟨_, _, _, rfl, rfl, k0⟩)
  | text x =>
    cases r with
    | str _ t =>
      exact PySem.P.repr_of_str (keyPure_str ⟨_, _, _, rfl, rfl, k0⟩) (by simpa only [NestedKey.data, PyData.shown] using hl)
  | tup ks =>
    have hc : ∃ a, v = .ref a := by
      simp only [NestedKey.data] at r
      cases r with
      | tuple h1 h2 h3 h4 => exact ⟨_, rfl⟩
    obtain ⟨a, rfl⟩ := hc
    exact repr_of_reads' r hs.ok (fun z => by rw [hs.nd] at z; cases z) hg (by omega) (fun b o e => e) (fun h' u tk k => keyPure_str ⟨h', u, tk, rfl, rfl, fun b o e => k b o (k0 b o e)⟩) hl
/-- a lambda of one parameter, entered -/
theorem lam_enter {s0 : Shared} {k : PyData} {f c' : Addr} {q x : Str} {params : Arguments} {body : Expr} {scope : Scope} {cl : List (Str × Addr)} {pm ctv v : Value} (hroom : A.depth < recursionLimit)
    (hf : s.heap.get? f = some (kla_obj "<lambda>" q params body scope cl pm c' ctv)) (hc : ∃ (oc : Obj) (vs : Array Value) (t : Tok), s.heap.get? c' = some oc ∧ oc.data = .fields vs ∧ vs[1]? = some (.str q t))
    (hco : scope.isCoroutine = false) (hgen : scope.isGenerator = false) (hk : scope.kind = .function) (hcell : ∀ y ∈ scope.names, y.2 ≠ .cell) (hloc : scope.names.lookup x = some .local)
    (hbind : bindArgs (kla_fn "<lambda>" q params body scope cl pm (.ref c') ctv) ⟨[v], []⟩ = pure [(x, v)]) (lim : s.heap.NoLimit)
    (hb : ∀ h₁ tk, h₁.Ns s.heap.objs.size (fun y => [(x, v)].reverse.lookup y) → (∀ b o, s.heap.get? b = some o → h₁.get? b = some o) →
      wpAny (model P w) (A.deeper (envX q scope s.heap.objs.size f (.ref c') cl)) (eval body (envX q scope s.heap.objs.size f (.ref c') cl)) (KeyPure k s0) (fun _ _ => False) { s with heap := h₁, toks := tk }) :
    wpAny (model P w) A (call (.ref f) [v]) (KeyPure k s0) (fun _ _ => False) s := by
  have rc : codeAny (model P w) A (.call (.ref f) ⟨[v], []⟩) (fun r s' => match r with | .ok (.ret u) => KeyPure k s0 u s' | .ok _ => False | .error _ => False) s := by
    refine kla_callFunE hroom hf rfl hco hgen rfl (let ⟨oc, vs, t, h1, h2, h3⟩ := hc; ⟨c', oc, vs, t, rfl, h1, h2, h3⟩) ?_
    rw [hbind]
    refine wpAny_pure (wpAny_newFunctionEnv hcell (fun y hy => by rw [List.mem_singleton.mp hy]; exact hloc) (fun h₁ hns hsb => ⟨lim.fresh _ hsb, ?_⟩) hk)
    show codeAny _ _ (.expr body (envX q scope s.heap.objs.size f (.ref c') cl)) _ _
    exact kla_codeExpr (wpAny_mono (hb h₁ _ hns fun b o e => hsb.extBut b o (Nat.ne_of_lt (Heap.lt_size e)) (Heap.get?_push_of_some _ e)) (fun v s' hq => hq) fun _ _ z => z.elim)
  refine wpAny_call (codeAny_mono rc fun r s' hq => ?_)
  cases r with
  | error e => exact hq
  | ok fl =>
    cases fl with
    | ret u => exact hq
    | next => exact False.elim hq
    | brk => exact False.elim hq
    | cont => exact False.elim hq
end
section
open LamX
variable {X : Cx} {pins : List (Addr × Obj)} {σ : L2.St} {H : Hp} {s : Shared}
theorem lam_make3 {T : List (Addr × Str)} {c P : Addr} {params : Arguments} {body : Expr} {scope : Scope} {pos : Pos} {E : Value → Shared → Prop} {Q : Value → Shared → Prop} (I : Inv X pins σ H s) (TB : TabB X.base X.mg c P) (hcode : X.env.code = .ref c)
    (hm : (P, X.env.qual ++ "<lambda>") ∈ T) (hu : ∀ p ∈ T, p.1 = P → p.2 = X.env.qual ++ "<lambda>") (hT : Tabs T H) (hdef : defaultsOf params X.env = ([], [])) (hfree : ∀ y ∈ scope.names, y.2 = .free → ∃ c, X.env.cells.lookup y.1 = some c)
    (h : ∀ (f c' : Addr) (pm ctv : Value) (H1 : Hp) (s' : Shared), Inv X pins σ H1 s' → ExtN H H1 → (∀ b, H1 b = none → H b = none) → Tabs T H1 →
      s'.heap.get? f = some (PySem.W.kla_obj "<lambda>" (X.env.qual ++ "<lambda>") params body scope (cloFrom X.env.cells scope.names []) pm c' ctv) → H1 f = none → f ∉ frs X.stack → H1 c' = some (CodeO c' (X.env.qual ++ "<lambda>")) → Q (.ref f) s') :
    wpAny (model X.prog X.w) X.A (eval (.Lambda params body scope pos) X.env) Q E s := by
  obtain ⟨ps, hP, ht, ha⟩ := hT _ hm
  refine PySem.W.kla_eval hdef ?_
  have bP : s.heap.BuiltinsAt X.mg P := TB.bm.keeps I.bk
  have hP' : s.heap.get? P = some { cls := .none, data := .fields ps } := I.hok P _ hP
  have nofr : ∀ f, s.heap.objs.size ≤ f → f ∉ frs X.stack := fun f hf z => by
    rcases List.mem_cons.mp (I.stkSub _ z) with e | e
    · have h1 := I.lt
      rw [← e] at h1
      exact Nat.lt_irrefl _ (Nat.lt_of_lt_of_le h1 hf)
    · exact I.nofs hf e
  cases hc : codeAmong pos ps.toList with
  | none =>
    refine PySem.W.kla_makeFunction (mg := X.mg) (c := c) (P := P) (ps := ps) (closure_ok hfree) I.ok.glob (I.mod.glob.keeps I.bk) hcode (TB.code.keeps I.bk) hP' ht hc TB.gP bP fun c' ctv h' tk hx hge hlt hrec htb => ?_
    obtain ⟨c2, oc, vs, t, e2, hoc, hd, hv⟩ := hrec
    cases e2
    have hsz : s.heap.objs.size ≤ h'.objs.size := Nat.le_trans hge (Nat.le_of_lt hlt)
    have nC : H c' = none := I.hok.fresh hge
    have I1 := inv_table (t' := tk) (more := #[rawInt pos.line, rawInt pos.col, .ref c']) (h' := h'.push (PySem.W.kla_obj "<lambda>" (X.env.qual ++ "<lambda>") params body scope (cloFrom X.env.cells scope.names []) ((X.mg "__name__").getD .none) c' ctv)) I hP
      (fun b o hb e => Heap.get?_push_of_some _ (hx b o hb e)) (Heap.get?_push_of_some _ htb) hge ⟨oc, vs, t, Heap.get?_push_of_some _ hoc, hd, hv⟩
    have hE : ExtN H (upd (upd H P (.tbl (ps ++ #[rawInt pos.line, rawInt pos.col, .ref c']))) c' (CodeO c' (X.env.qual ++ "<lambda>"))) := fun b o e n => by
      rw [upd_ne (ne_of_none e nC), upd_ne (fun z => n ps (Option.some.inj (e.symm.trans (by rw [z]; exact hP))))]
      exact e
    have eL : (ps ++ #[rawInt pos.line, rawInt pos.col, .ref c']).toList = ps.toList ++ [rawInt pos.line, rawInt pos.col, .ref c'] := by simp
    refine h h'.objs.size c' ((X.mg "__name__").getD .none) ctv _ _ I1 hE (fun b q => ?_) (fun p hp => ?_) (Heap.get?_push_size _ rfl) ?_ (nofr _ hsz) upd_same
    · by_cases h1 : b = c'
      · rw [h1]; exact nC
      · by_cases h2 : b = P
        · rw [upd_ne h1, h2, upd_same] at q; cases q
        · rw [upd_ne h1, upd_ne h2] at q; exact q
    · by_cases hb : p.1 = P
      · rw [hu p hp hb, hb]
        refine ⟨_, by rw [upd_ne (ne_of_none hP nC), upd_same], by rw [eL]; exact PySem.TriplesOk_snoc _ _ _ _ ht, fun p' cv hcv => ?_⟩
        rw [eL] at hcv
        rcases among_app _ ht hcv with z | z
        · obtain ⟨c0, e1, e2⟩ := ha p' cv z
          exact ⟨c0, e1, hE _ _ e2 codeO_ne⟩
        · exact ⟨c', z, upd_same⟩
      · obtain ⟨ps', a1, a2, a3⟩ := hT p hp
        refine ⟨ps', by rw [upd_ne (ne_of_none a1 nC), upd_ne hb]; exact a1, a2, fun p' cv hcv => ?_⟩
        obtain ⟨c0, e1, e2⟩ := a3 p' cv hcv
        exact ⟨c0, e1, hE _ _ e2 codeO_ne⟩
    · have n1 : h'.objs.size ≠ c' := Nat.ne_of_gt hlt
      have n2 : h'.objs.size ≠ P := Nat.ne_of_gt (Nat.lt_of_lt_of_le (Heap.lt_size hP') hsz)
      rw [upd_ne n1, upd_ne n2]
      exact I.hok.fresh hsz
  | some cv =>
    obtain ⟨c', e, hco⟩ := ha pos cv hc
    subst e
    refine PySem.W.kla_makeFunctionHit (mg := X.mg) (c := c) (P := P) (ps := ps) (closure_ok hfree) I.ok.glob (I.mod.glob.keeps I.bk) hcode (TB.code.keeps I.bk) hP' ht hc bP fun ctv h' tk hx hsz => ?_
    have I1 : Inv X pins σ H { s with heap := h'.push (PySem.W.kla_obj "<lambda>" (X.env.qual ++ "<lambda>") params body scope (cloFrom X.env.cells scope.names []) ((X.mg "__name__").getD .none) c' ctv), toks := tk } := I.kept fun b o e => Heap.get?_push_of_some _ (hx b o e)
    exact h h'.objs.size c' ((X.mg "__name__").getD .none) ctv H _ I1 (ExtN.refl H) (fun _ q => q) hT (Heap.get?_push_size _ rfl) (I.hok.fresh hsz) (nofr _ hsz) hco
end
/-- all that the sorting of a list by a lambda asks: what holds once the lambda is made -/
def Turns (X : Cx) (pins : List (Addr × Obj)) (σ : L2.St) (H1 : Hp) (params : Arguments) (body : Expr) (scope : Scope) (bs : List VN) (key : VN → PyData) : Prop :=
  ∀ (f c' : Addr) (pm ctv : Value) (H2 : Hp) (s : Shared), L2.Inv X pins σ H2 s → LamX.ExtN H1 H2 → s.heap.get? f = some (kla_obj "<lambda>" (X.env.qual ++ "<lambda>") params body scope (cloFrom X.env.cells scope.names []) pm c' ctv) → H2 c' = some (LamX.CodeO c' (X.env.qual ++ "<lambda>")) →
    ∀ (v : Value) (b : VN), L2.RelV b.1 v → b ∈ bs → ∀ (h : Heap) (tk : Nat), (∀ a o, s.heap.get? a = some o → h.get? a = some o) →
      wpAny (model X.prog X.w) X.A.in1.in1 (call (.ref f) [v]) (KeyPure (key b) { s with heap := h, toks := tk }) (fun _ _ => False) { s with heap := h, toks := tk }
section
variable {X : Cx}
theorem vn_each : ∀ {bs : List VN} {us : List Value}, Vals (bs.map (·.1)) us → EachIs (fun (v : Value) (b : VN) => L2.RelV b.1 v) us bs
  | [], us, r => by cases us with
    | nil => exact .nil
    | cons => cases r
  | b :: bs, us, r => by
    cases r with
    | cons r1 r2 => exact .cons r1 (vn_each r2)
theorem vn_of_each : ∀ {bs : List VN} {us : List Value}, EachIs (fun (v : Value) (b : VN) => L2.RelV b.1 v) us bs → Vals (bs.map (·.1)) us
  | _, _, .nil => .nil
  | _, _, .cons r t => .cons r (vn_of_each t)
/-- sorted(xs, key=lambda ..) -/
def tSortL (T : List (Addr × Str)) (K : PySem.W.Frag) (G : L2.St → Hp → List VN → (VN → PyData) → Prop) (ta : TA) : TE := fun σ H Q => ta σ H fun vs H1 => ∃ (a : Addr) (bs : List VN) (key : VN → PyData), vs = [.ref a] ∧ SqL K H1 a (bs.map (·.1)) ∧ LamX.Tabs T H1 ∧ G σ H1 bs key ∧
  ∀ H2 l, LamX.ExtN H1 H2 → (∀ b, H2 b = none → H1 b = none) → LamX.Tabs T H2 → H2 l = none → Q (.ref l) (upd H2 l (.lst ((bs.mergeSort (dataLe false key)).map (·.1))))
theorem pe_sortL {T : List (Addr × Str)} {G : L2.St → Hp → List VN → (VN → PyData) → Prop} {c P : Addr} {params : Arguments} {body e : Expr} {scope : Scope} {p pos lpos kpos : Pos} {ta : TA} (TB : LamX.TabB X.base X.mg c P) (hcode : X.env.code = .ref c)
    (hm : (P, X.env.qual ++ "<lambda>") ∈ T) (huT : ∀ p ∈ T, p.1 = P → p.2 = X.env.qual ++ "<lambda>") (hdef : defaultsOf params X.env = ([], [])) (hfree : X.Ok → ∀ y ∈ scope.names, y.2 = .free → ∃ c, X.env.cells.lookup y.1 = some c)
    (hr : Room 3 X.A)
    (hG : ∀ σ H1 bs key, G σ H1 bs key → AllAlike (bs.map key) ∧ Sortable (bs.map key) ∧ (∀ b ∈ bs, (key b).depth ≤ 2) ∧ ∀ pins, Turns X pins σ H1 params body scope bs key)
    (hg : Gl X "sorted") (hmg : X.mg "sorted" = none) (hb : bootBuiltins "sorted" = some (.builtin "sorted")) (ha : PA X [e] ta)
    (he : backTo pos (starEach [e] X.env) = (false, eval e X.env) :: backTo pos (starEach [] X.env) := by rfl) (hpl : (backTo pos (starEach [e] X.env)).any (·.1) = false := by rfl) :
    PE X (.Call (.Name "sorted" p) [e] [⟨some "key", .Lambda params body scope lpos, kpos⟩] pos) (tSortL T X.K G ta) := by
  refine ⟨fun pins s σ H Q I h => ?_⟩
  refine wpAny_Call_Name_kw (ld_blt I hg hmg hb ?_ (by decide) (by decide))
  refine PyProof.Rows.callWith_kw (thn (ha.run pos pins s σ H _ I h) fun us s1 ⟨vs, H1, I1, r1, q1⟩ => ?_) he hpl rfl rfl
  obtain ⟨a, bs, key, rfl, hsl, hT, g, q⟩ := q1
  obtain ⟨al, so, dp, tn⟩ := hG σ H1 bs key g
  rw [Vals.ref1 r1]
  show wpAny _ _ (evalAll ((do let v ← eval (.Lambda params body scope lpos) X.env; standAt pos; pure v) :: (backToKw pos (keywordEach [] X.env)).map (·.2))) _ _ s1
  refine wpAny_evalAll_cons (wpAny_bind (lam_make3 I1 TB hcode hm huT hT hdef (hfree I1.ok) fun f c' pm ctv H2 s2 I2 eN dm T2 hf hfn hfr hco => wpAny_bind (wpAny_standAt (wpAny_pure (wpAny_evalAll_nil ?_)))))
  have hsl2 : SqL X.K H2 a (bs.map (·.1)) := by
    rcases hsl with (h | ⟨o, h⟩) | h
    · exact .inl (.inl (eN _ _ h fun _ z => by cases z))
    · exact .inl (.inr ⟨o, eN _ _ h fun _ z => by cases z⟩)
    · exact .inr h
  obtain ⟨its, rv, pl, hz⟩ := I2.list hsl2
  rw [List.length_map] at hz
  have hun := hr.un
  show wpAny _ _ (call (.builtin "sorted") [.ref a] [(Str.ofString "key", .ref f)]) _ _ s2
  refine sorted_key_data (b := false) (R := fun (v : Value) (b : VN) => L2.RelV b.1 v) (bs := bs) (vs := its) key pl.isList (vn_each rv) al so hz (fun b hb => by have := dp b hb; omega) (ksk_s1 _ _) (fun _ => ksk_l1 _ _) (fun _ => ksk_t1 _ _)
    (fun v b hR hb h tk kp => tn pins f c' pm ctv H2 s2 I2 eN hf hco v b hR hb h tk kp) fun out c h' tk k nn hD hl he => ?_
  have hv := vn_of_each he
  have hlen : ((bs.mergeSort (dataLe false key)).map (·.1)).length ≤ sizeLine := by rw [List.length_map, List.length_mergeSort]; exact hz
  exact ⟨.ref (s2.heap.objs.size + 1), upd H2 (s2.heap.objs.size + 1) (.lst ((bs.mergeSort (dataLe false key)).map (·.1))), I2.laid (t' := tk) k (Nat.le_succ _) ⟨hlen, out, c, hv, hD⟩, rfl, q H2 _ eN dm T2 (I2.hok.fresh (Nat.le_succ _))⟩
/-- the body is repr(name) -/
theorem turns_repr {x : Str} {params : Arguments} {scope : Scope} {p1 p2 p3 : Pos} {pins : List (Addr × Obj)} {σ : L2.St} {H1 : Hp} {bs : List VN} (hr : Room 3 X.A) (hgu : X.A.guards = some []) (hgl : scope.names.lookup ("repr" : Str) = some .globalImplicit) (hmg : X.mg "repr" = none) (hbt : bootBuiltins "repr" = some (.builtin "repr"))
    (hco : scope.isCoroutine = false) (hgen : scope.isGenerator = false) (hk : scope.kind = .function) (hcell : ∀ y ∈ scope.names, y.2 ≠ .cell) (hloc : scope.names.lookup x = some .local) (hdb : (x == ("__debug__" : Str)) = false)
    (hbind : ∀ (q : Str) (cl : List (Str × Addr)) (pm cv ctv v : Value), bindArgs (kla_fn "<lambda>" q params (.Call (.Name "repr" p1) [.Name x p2] [] p3) scope cl pm cv ctv) ⟨[v], []⟩ = pure [(x, v)])
    (hd : ∀ b ∈ bs, Dt H1 b.1 b.2) (hs : ∀ b ∈ bs, Shw b.2) : Turns X pins σ H1 params (.Call (.Name "repr" p1) [.Name x p2] [] p3) scope bs (fun b => .str b.2.data.shown) := by
  intro f c' pm ctv H2 s I eN hf hcO v b rb hb h tk kp
  have hun := hr.un
  have hdp := hr.dp
  obtain ⟨⟨oc, vs, t, hoc, hdc, hvc⟩, _, _⟩ := I.hok c' _ hcO
  have dt2 : Dt H2 b.1 b.2 := Dt.ext (fun a vs e => eN _ _ e fun _ z => by cases z) _ _ (hd b hb)
  obtain ⟨as, rd⟩ := Dp.reads I _ _ _ (Dt.dp (K := X.K) _ _ dt2) rb
  have rd' : Reads h v b.2.data as := PyProof.Rows.Reads.keeps kp rd
  refine lam_enter (s := { s with heap := h, toks := tk }) (x := x) (by show X.A.depth < recursionLimit; omega) (kp _ _ hf) ⟨oc, vs, t, kp _ _ hoc, hdc, hvc⟩ hco hgen hk hcell hloc (hbind _ _ _ _ _ v) (I.nolimit.keeps kp) fun h₁ tk1 hns k1 => ?_
  obtain ⟨mb, hbn, hbb⟩ := I.mod.blt
  have kk : ∀ a o, s.heap.get? a = some o → h₁.get? a = some o := fun a o e => k1 a o (kp a o e)
  have bk : ∀ a o, X.base.get? a = some o → h₁.get? a = some o := fun a o e => kk a o (I.bk a o e)
  generalize henv : envX (X.env.qual ++ "<lambda>") scope h.objs.size f (.ref c') (cloFrom X.env.cells scope.names []) = env
  have e1 : env.scope = scope := by rw [← henv]
  have e2 : env.globals = mainGlobals := by rw [← henv]
  have e3 : env.builtins = builtinsNs := by rw [← henv]
  have e4 : env.locals = h.objs.size := by rw [← henv]
  have ek : env.scope.kind = .function := by rw [e1]; exact hk
  have kof : ∀ y, env.kindOf y = scope.names.lookup y := fun y => by rw [← henv]; rfl
  refine wpAny_Call_Name_kw (Calls.Name_function_global ek (by rw [kof]; exact hgl) (Calls.loadGlobal_builtin (by rw [e2]; exact I.mod.glob.keeps bk) hmg (by rw [e3]; exact hbn.keeps bk) ((hbb "repr" (by decide)).trans hbt) ?_) (by decide))
  refine PyProof.Rows.callWith_builtin1 ?_ (by rfl) (by rfl)
  show wpAny _ _ (spliced ((false, eval (.Name x p2) env) :: backTo p3 (starEach [] env))) _ _ _
  refine Calls.spliced_cons (wpAny_Name (wpAny_loadName_local ek (by rw [kof]; exact hloc) (by rw [e4]; exact hns) (show (fun y => [(x, v)].reverse.lookup y) x = some v by simp) ?_) hdb)
  refine Calls.spliced_nil ?_
  have gd : ((X.A.in1.in1).deeper env).guards = some [] := hgu
  exact repr_dt (s := { s with heap := h₁, toks := tk1 }) (PyProof.Rows.Reads.keeps k1 rd') (hs b hb) gd (by show X.A.units + 1 + 1 + 3 + 32 < cLine; omega) ⟨h₁, tk1, rfl, k1⟩
end
end TR
/-! text G4 -/
set_option Elab.async false
set_option linter.all false
set_option maxRecDepth 100000
set_option maxHeartbeats 4000000
/-! sorted(names, key=lambda name: self.ranks[name]) -/
namespace TR
open PySem PySem.Spec PyProof.Rows L2 VD PySem.W
section
variable {X : Cx}
theorem keyPure_int {i : Int} {s0 s1 : Shared} {u : Value} (h : ∃ h' t tk, u = .int i t ∧ s1 = { s0 with heap := h', toks := tk } ∧ ∀ b o, s0.heap.get? b = some o → h'.get? b = some o) : KeyPure (.int i) s0 u s1 := by
  obtain ⟨h', t, tk, rfl, rfl, k⟩ := h
  exact ⟨h', tk, rfl, k, Reads.int i t⟩
theorem objM_keep {h h' : Heap} {x dx C : Addr} {mA : Str → Option Value} (O : ObjM h x dx C mA) (k : ∀ a o, h.get? a = some o → h'.get? a = some o) : ObjM h' x dx C mA :=
  ⟨k _ _ O.obj, O.ns.at fun o e => k _ _ e, O.ne⟩
theorem turns_rank {x y fld : Str} {params : Arguments} {scope : Scope} {p1 p2 p3 p4 : Pos} {pins : List (Addr × Obj)} {σ : L2.St} {H1 : Hp} {bs : List VN} {i : Nat} {a C dx rk : Addr} {fs : List (Str × V)} {es : Es} {rank : D → Int} (hr : Room 3 X.A)
    (hN : X.N[i]? = some y) (hσ : σ[i]? = some (some (.ref a))) (hcy : X.env.scope.names.lookup y = some .cell) (hfy : scope.names.lookup y = some .free) (hdy : (y == ("__debug__" : Str)) = false) (hcd : (y == ("__classdict__" : Str)) = false)
    (ha : H1 a = some (.ins C dx fs)) (hf : fs.lookup fld = some (.ref rk)) (cl : Cls X.K C) (na : NoAttr X.K C fld) (hd : DictE X.w H1 rk es) (hb : ∀ b ∈ bs, Dt H1 b.1 b.2 ∧ b.2.depth ≤ 8 ∧ lookE es b.2 = some (.int (rank b.2)))
    (hco : scope.isCoroutine = false) (hgen : scope.isGenerator = false) (hk : scope.kind = .function) (hcell : ∀ y ∈ scope.names, y.2 ≠ .cell) (hloc : scope.names.lookup x = some .local) (hdb : (x == ("__debug__" : Str)) = false)
    (hfr : ∀ z ∈ scope.names, z.2 = .free → z.1 = y)
    (hbind : ∀ (q : Str) (c2 : List (Str × Addr)) (pm cv ctv v : Value), bindArgs (kla_fn "<lambda>" q params (.Subscript (.Attribute (.Name y p1) fld p2) (.Name x p3) p4) scope c2 pm cv ctv) ⟨[v], []⟩ = pure [(x, v)])
    (hba : ∀ env, attributeBase (.Name y p1) fld env (eval (.Name y p1) env) = eval (.Name y p1) env) :
    Turns X pins σ H1 params (.Subscript (.Attribute (.Name y p1) fld p2) (.Name x p3) p4) scope bs (fun b => .int (rank b.2)) := by
  intro f c' pm ctv H2 s I eN hfo hcO v b rb hbm h tk kp
  have hun := hr.un
  have hdp := hr.dp
  obtain ⟨⟨oc, vs, t, hoc, hdc, hvc⟩, _, _⟩ := I.hok c' _ hcO
  have xt : ∀ a vs, H1 a = some (.tup vs) → H2 a = some (.tup vs) := fun a vs e => eN _ _ e fun _ z => by cases z
  obtain ⟨hb1, hb2, hb3⟩ := hb b hbm
  have dt2 : Dt H2 b.1 b.2 := Dt.ext xt _ _ hb1
  have ha2 : H2 a = some (.ins C dx fs) := eN _ _ ha fun _ z => by cases z
  have hd2 : DictE X.w H2 rk es := hd.keep (fun o e => by
    obtain ⟨ep, q⟩ := hd.ob
    rw [q] at e; cases e
    exact eN _ _ q fun _ z => by cases z) xt
  have kO : KeyOk s.heap b.2 v := keyOk I dt2 hb2 rb
  obtain ⟨xs, rr, dv, ak, hz⟩ := at_dict I hd2
  obtain ⟨pr, hpr, rpr⟩ := lk rr hb3
  obtain ⟨tq, rpr⟩ := (show ∃ t, pr.2 = Value.int (rank b.2) t from rpr)
  -- the cell of self
  obtain ⟨m, hn, hl⟩ := I.loc
  obtain ⟨u, ru, lo⟩ := hl i y _ hN hσ (.inr (.inl hcy))
  obtain rfl : u = Value.ref a := ru
  obtain ⟨cc, hcc, hcv⟩ : ∃ c, X.env.cells.lookup y = some c ∧ s.heap.IsCell c (some (.ref a)) := by
    rcases lo with ⟨k, _⟩ | ⟨_, c, e, z⟩
    · have k : X.env.scope.names.lookup y = some .local := k
      rw [hcy] at k; cases k
    · exact ⟨c, e, z⟩
  obtain ⟨mA, O, rel, _, _, _⟩ := ins_get I.hok ha2
  obtain ⟨ur, hur, rur⟩ := RelO.some_of (v := .ref rk) (o := mA fld) (by rw [← hf]; exact rel fld)
  obtain rfl : ur = Value.ref rk := rur
  refine lam_enter (s := { s with heap := h, toks := tk }) (x := x) (by show X.A.depth < recursionLimit; omega) (kp _ _ hfo) ⟨oc, vs, t, kp _ _ hoc, hdc, hvc⟩ hco hgen hk hcell hloc (hbind _ _ _ _ _ v) (I.nolimit.keeps kp) fun h₁ tk1 hns k1 => ?_
  have kk : ∀ a o, s.heap.get? a = some o → h₁.get? a = some o := fun a o e => k1 a o (kp a o e)
  generalize henv : envX (X.env.qual ++ "<lambda>") scope h.objs.size f (.ref c') (cloFrom X.env.cells scope.names []) = env
  have e1 : env.scope = scope := by rw [← henv]
  have e4 : env.locals = h.objs.size := by rw [← henv]
  have ek : env.scope.kind = .function := by rw [e1]; exact hk
  have kof : ∀ y, env.kindOf y = scope.names.lookup y := fun y => by rw [← henv]; rfl
  have ecl : env.cells.lookup y = some cc := by
    have e5 : env.cells = cloFrom X.env.cells scope.names [] := by rw [← henv]
    rw [e5]
    obtain ⟨c2, h2⟩ := mem_lookup (cloFrom_has (cells := X.env.cells) (acc := []) (PySem.mem_of_lookup hfy))
    rcases cloFrom_mem (PySem.mem_of_lookup h2) with hm | ⟨h3, h4⟩
    · cases hm
    · have h5 : c2 = cc := by
        have h4 : c2 = (X.env.cells.lookup y).getD 0 := by first | exact h4 | simpa using h4
        rw [h4, hcc] <;> rfl
      rw [h2, h5]
  have icc : h₁.IsCell cc (some (.ref a)) := by
    obtain ⟨o, ho, hdd⟩ := hcv
    exact ⟨o, kk _ _ ho, hdd⟩
  have dv1 : DictV X.w h₁ rk xs := by
    obtain ⟨⟨o, es2, ep, h2, r⟩, nd⟩ := dv
    exact ⟨⟨o, es2, ep, kk _ _ h2, r⟩, nd⟩
  have ak1 : AllKeys h₁ xs := fun z hz => ⟨NestedIs.at (fun a o _ _ e _ => kk a o e) _ _ (ak z hz).1, (ak z hz).2⟩
  refine subD_of PySem.F.slot_dict_getitem.lookup (fun _ _ => rfl) (attr_of (hba env) (wpAny_Name (wpAny_loadName_free ek (by rw [kof]; exact hfy) ecl icc ?_ hcd) hdy))
  refine get_map (s := { s with heap := h₁, toks := tk1 }) (K := X.K) (I.kIn.keeps kk) (objM_keep O kk) (cl.get fld) cl.hd na hur rfl ?_
  refine wpAny_Name (wpAny_loadName_local ek (by rw [kof]; exact hloc) (by rw [e4]; exact hns) (show (fun z => [(x, v)].reverse.lookup z) x = some v by simp) ?_) hdb
  refine ⟨dv1.typeIs, getItem_ok (by show X.A.units + 1 + 1 + 3 + 9 < cLine; omega) ⟨NestedIs.at (fun a o _ _ e _ => kk a o e) _ _ kO.1, kO.2⟩ dv1 ak1 hpr ?_⟩
  rw [rpr]
  exact keyPure_int ⟨h₁, tq, _, rfl, rfl, k1⟩
end
end TR
/-! text G5 -/
set_option Elab.async false
set_option linter.all false
set_option maxRecDepth 100000
set_option maxHeartbeats 4000000
/-! dict comprehensions and a display with keys that are data -/
namespace TR
open PySem PySem.Spec PyProof.Rows L2 VD
theorem dictSetX {X : Cx} {pins : List (Addr × Obj)} {σ : L2.St} {H : Hp} {s : Shared} {E : Value → Shared → Prop} {D : Addr} {es : Es} {k : VD.D} {y v : V} {u r : Value} {Q : Unit → Shared → Prop} (hu : X.A.units + 64 < cLine) (I : Inv X pins σ H s) (m : DictE X.w H D es) (hy : Dt H y k) (hk : k.depth ≤ 8) (hz : es.length < sizeLine)
    (ry : RelV y u) (rv : RelV v r) (h : ∀ H1 s', DictE X.w H1 D (putE es k y v) → Chg D H H1 → Inv X pins σ H1 s' → Q () s') : wpAny (model X.prog X.w) X.A (dictSet D u r) Q E s := by
  obtain ⟨xs, rr, dv, ak, hz2⟩ := at_dict I m
  refine set_ok (by omega) (keyOk I hy hk ry) dv ak (fun h1 m1 hs1 => ?_) hz2
  obtain ⟨ep, J⟩ := wrote I m m1 (ents_put rr ry rv) hs1 (s.toks + k.draws)
  exact h _ _ (m.put hy hk hz v ep) Chg.upd J
section
variable {X : Cx}

def tDcX (w : World) (wi : TI) (g : TG) (tt : TT) (tk tv : TE) (vs : List Nat) : TE := fun σ H Q => wi σ H fun J H1 => ∀ D H0, H1 D = none → DictE w H0 D [] → Chg D H1 H0 → ∃ W : Nat → Nat → Hp → Prop, (∃ m, W 0 m H0) ∧ ∀ i m H, W i m H →
  (J.stop i H ∧ Q (.ref D) H) ∨ (J.go i H ∧ ∃ Nx : Hp → Prop, (∀ H', Nx H' → ∃ m', m' < m ∧ W (i + 1) m' H') ∧ ∀ x H', J.yld i H x H' → g x (wipe σ vs) H' fun σ2 H2 => wipe σ2 vs = wipe σ vs ∧ tt σ2 H2 fun b H3 =>
    if b = true then tk σ2 H3 fun y H4 => tv σ2 H4 fun z H5 => ∃ es k, DictE w H5 D es ∧ Dt H5 y k ∧ k.depth ≤ 8 ∧ es.length < sizeLine ∧ ∀ H6, DictE w H6 D (putE es k y z) → Chg D H5 H6 → Nx H6 else Nx H3)
theorem dcX_core {pins : List (Addr × Obj)} {s : Shared} {σ : L2.St} {H : Hp} {Q : VK} {kx vx tg iter : Expr} {ifs : List Expr} {scope : Scope} {own : List (Str × Nat)} {pos pos' : Pos} {wi : TI} {g : TG} {tt : TT} {tk tv : TE} {use : Option (Value → Sem Unit)} {Qf : Value → Shared → Prop}
    (hu : X.A.units + 64 < cLine) (hc : X.calm = true) (hN : X.N.Nodup) (I : Inv X pins σ H s) (hi : PI X tg iter wi) (ok : BlkOk X.N X.env.scope scope own)
    (hg : ∀ (s : Shared) (H : Hp) (C : Addr) (cl : List (Str × Addr)) (fp : List Addr), PG (X.blk s H scope (compEnvC scope cl C X.env) fp) tg g) (ht : ∀ (s : Shared) (H : Hp) (C : Addr) (cl : List (Str × Addr)) (fp : List Addr), PTs (X.blk s H scope (compEnvC scope cl C X.env) fp) ifs tt)
    (hk : ∀ (s : Shared) (H : Hp) (C : Addr) (cl : List (Str × Addr)) (fp : List Addr), PE (X.blk s H scope (compEnvC scope cl C X.env) fp) kx tk)
    (he : ∀ (s : Shared) (H : Hp) (C : Addr) (cl : List (Str × Addr)) (fp : List Addr), PE (X.blk s H scope (compEnvC scope cl C X.env) fp) vx tv) (hs : ∀ x, foldedSetIterable iter X.env x = pure x)
    (h : tDcX X.w wi g tt tk tv (own.map (·.2)) σ H Q)
    (hRR : ∀ D C s' m H', Inv X pins σ H' s' → Q (.ref D) H' → s'.heap.Ns C m → FpOk X pins H' C → compPost (model X.prog X.w) X.A X.xe use Qf (.ref D) C (.ok .next) s') :
    wpAny (model X.prog X.w) X.A (comprehension (.DictComp kx vx [⟨tg, iter, ifs, 0⟩] scope pos) scope X.env pos' newDict false (eval iter X.env) use) Qf X.xe s := by
  have hfree : ∀ y ∈ scope.names, y.2 = .free → ∃ c, X.env.cells.lookup y.1 = some c := fun y hy e => by
    rcases ok.free y hy e with k | k
    · exact I.ok.has _ (.inl k)
    · exact I.ok.has _ (.inr k)
  refine wpAny_comprehension_free (use := use) rfl hs (closure_ok hfree) ok.kind (fun y hy e => by rw [ok.uniq y hy, e])
    (thn (hi.run pins s σ H _ I h) fun xv s1 hx => thn hx fun itv s2 h2 => ?_)
  obtain ⟨it, fp, tn, J, H2, e, I2, T, st2, f2, q⟩ := h2
  subst e
  refine wpAny_newObj_type (newEnv_comp ?_)
  generalize hD : s2.heap.objs.size = D
  have hDn : H2 D = none := I2.hok.fresh (Nat.le_of_eq hD)
  obtain ⟨ep0, ok0⟩ := new_dict (P := X.prog) (w := X.w) (H := H2) s2.heap I2.big
  rw [hD] at ok0
  have big2 : sysModules < D := by rw [← hD]; exact I2.big
  obtain ⟨W, ⟨m0, w0⟩, turn⟩ := q D (upd H2 D (DO X.w D [] ep0)) hDn (DictE.new big2) Chg.upd
  generalize hs3 : ({ s2 with heap := s2.heap.push { cls := .type "dict", data := .dict #[] } } : Shared) = s3
  have I3 : Inv X pins σ (upd H2 D (DO X.w D [] ep0)) s3 := by
    rw [← hs3]
    refine I2.laid (t' := s2.toks) (fun b o e => Heap.get?_push_of_some _ e) (Nat.le_of_eq hD) ?_
    obtain ⟨ok1, ok2, ok3⟩ := ok0
    exact ⟨ok1, ok2, ok3⟩
  have h3 : s3.heap = s2.heap.push { cls := .type "dict", data := .dict #[] } := by rw [← hs3]
  have sz : ∀ b ∈ fp, b < s2.heap.objs.size := fun b hb => by
    obtain ⟨o, e, _⟩ := T.obj _ _ st2 b hb
    exact Heap.lt_size e
  have f3 : ∀ b ∈ fp, FpOk X pins (upd H2 D (DO X.w D [] ep0)) b ∧ b < s3.heap.objs.size := fun b hb => by
    have hlt := sz b hb
    refine ⟨⟨?_, (f2 b hb).2⟩, by rw [h3, Heap.size_push]; exact Nat.lt_succ_of_lt hlt⟩
    rw [upd_ne (by rw [← hD]; exact Nat.ne_of_lt hlt)]
    exact (f2 b hb).1
  have st3 : tn 0 s3.heap := T.keep _ _ _ st2 fun b _ o e => by rw [h3]; exact Heap.get?_push_of_some _ e
  have I4 := block_start I3 ok hN f3
  have pg := hg s3 (upd H2 D (DO X.w D [] ep0)) s3.heap.objs.size (cellsFrom (s3.heap.objs.size + 1) scope.names (cloFrom X.env.cells scope.names [])) fp
  have pt := ht s3 (upd H2 D (DO X.w D [] ep0)) s3.heap.objs.size (cellsFrom (s3.heap.objs.size + 1) scope.names (cloFrom X.env.cells scope.names [])) fp
  have pk := hk s3 (upd H2 D (DO X.w D [] ep0)) s3.heap.objs.size (cellsFrom (s3.heap.objs.size + 1) scope.names (cloFrom X.env.cells scope.names [])) fp
  have pe := he s3 (upd H2 D (DO X.w D [] ep0)) s3.heap.objs.size (cellsFrom (s3.heap.objs.size + 1) scope.names (cloFrom X.env.cells scope.names [])) fp
  show codeAny _ _ (.compStart (.DictComp kx vx [⟨tg, iter, ifs, 0⟩] scope pos) 0 (.ref it) (.ref D) (compEnvC scope (cellsFrom (s3.heap.objs.size + 1) scope.names (cloFrom X.env.cells scope.names [])) s3.heap.objs.size X.env)) (compPost (model X.prog X.w) X.A X.xe use Qf (.ref D) s3.heap.objs.size) { s3 with heap := pushCells (s3.heap.push { cls := .type "dict", data := .dict #[] }) scope.names }
  have nfp : ∀ b ∈ fp, (upd H2 D (DO X.w D [] ep0)) b = none := fun b hb => (f3 b hb).1.1
  generalize hce : compEnvC scope (cellsFrom (s3.heap.objs.size + 1) scope.names (cloFrom X.env.cells scope.names [])) s3.heap.objs.size X.env = ce at I4 pg pt pk pe ⊢
  have cL : ce.locals = s3.heap.objs.size := by subst hce; rfl
  generalize hH3 : upd H2 D (DO X.w D [] ep0) = H3 at I3 I4 pg pt pk pe w0 nfp f3
  generalize hs4 : ({ s3 with heap := pushCells (s3.heap.push { cls := .type "dict", data := .dict #[] }) scope.names } : Shared) = s4 at I4 ⊢
  have st4 : tn 0 s4.heap := T.keep _ _ _ st3 fun b _ o e => by rw [← hs4]; exact pushCells_keeps _ _ _ _ (Heap.get?_push_of_some _ e)
  have stat : ∀ {σ' : L2.St} {H' : Hp} {s' : Shared}, Inv (X.blk s3 H3 scope ce fp) [] σ' H' s' → (∀ b ∈ fp, H' b = none) → ∀ b ∈ fp, FpOk (X.blk s3 H3 scope ce fp) [] H' b := fun {σ' H' s'} I' hn b hb =>
    ⟨hn b hb, (I'.ok.exf b hb).1, I'.ok.exfs b hb, .inl hb, fun x c e => (I'.ok.exf b hb).2 x c e, fun p hp => absurd (show p ∈ ([] : List (Addr × Obj)) ++ [] from hp) (by simp)⟩
  have loop : codeAny (model X.prog X.w) X.A (.compLoop (.DictComp kx vx [⟨tg, iter, ifs, 0⟩] scope pos) 0 (.ref it) (.ref D) ce) (compPost (model X.prog X.w) X.A X.xe use Qf (.ref D) s3.heap.objs.size) s4 := by
    refine compLoop_anyD (fun n s' => ∃ i H', Inv (X.blk s3 H3 scope ce fp) [] (wipe σ (own.map (·.2))) H' s' ∧ tn i s'.heap ∧ (∀ b ∈ fp, H' b = none) ∧ W i n H') ?_ m0 ⟨0, H3, I4, st4, nfp, w0⟩
    rintro n s5 ⟨i, H5, I5, st5, n5, w5⟩
    rcases turn i n H5 w5 with ⟨stop, qq⟩ | ⟨go, Nx, hNx, step⟩
    · have td := T.done (X.blk s3 H3 scope ce fp) rfl rfl rfl hc i [] s5 _ H5 (fun _ _ => False) I5 (stat I5 n5) st5 stop
      refine thnF td fun r s6 ⟨hr, I6⟩ => ?_
      subst hr
      have I7 : Inv X pins σ H5 s6 := I3.call' (ch := fp) I6.os I6.base I6.hok I6.bare fun b hb => ⟨(f3 b hb).1.2.2.2.1, (f3 b hb).1.2.1, (f3 b hb).1.2.2.2.2.1, (f3 b hb).1.2.2.2.2.2⟩
      have nC : H5 s3.heap.objs.size = none := by
        have z : H5 ce.locals = none := I6.free
        rw [cL] at z
        exact z
      obtain ⟨m, hn, _⟩ := I6.loc
      have hn : s6.heap.Ns ce.locals m := hn
      rw [cL] at hn
      exact hRR D s3.heap.objs.size s6 m H5 I7 qq hn (I3.fpOk (Nat.le_refl _) nC)
    · have ti := T.item (X.blk s3 H3 scope ce fp) rfl rfl rfl hc i [] s5 _ H5 (fun _ _ => False) I5 (stat I5 n5) st5 go
      refine thnF ti fun r s6 ⟨u, hr, h6⟩ => ?_
      subst hr
      refine thnF h6 fun _ s7 ⟨x, H7, I7, r7, y7, st7, n7⟩ => ?_
      have I7' := I7.pinned (stat I7 n7) (T.obj _ _ st7)
      refine thnF (pg.run _ s7 _ H7 x u _ I7' r7 (step x H7 y7)) fun _ s8 ⟨σ8, H8, I8, hw8, q8⟩ => ?_
      refine thnF (pt.run _ s8 σ8 H8 _ I8 q8) fun b s9 ⟨H9, I9, q9⟩ => ?_
      have fin : ∀ {s' : Shared} {H' : Hp}, Inv (X.blk s3 H3 scope ce fp) ([] ++ pinsAt fp s7.heap) σ8 H' s' → Nx H' → ∃ m, m < n ∧ ∃ i H', Inv (X.blk s3 H3 scope ce fp) [] (wipe σ (own.map (·.2))) H' s' ∧ tn i s'.heap ∧ (∀ b ∈ fp, H' b = none) ∧ W i m H' := fun {s' H'} I' nx => by
        obtain ⟨m', hm, w'⟩ := hNx H' nx
        have pin' : ∀ b ∈ fp, ∀ o, s7.heap.get? b = some o → s'.heap.get? b = some o ∧ H' b = none := fun b hb o e =>
          let z := I'.pin (b, o) (List.mem_append_right _ (List.mem_append_right _ (mem_pinsAt hb e)))
          ⟨z.1, z.2.1⟩
        have hl : (wipe σ (own.map (·.2))).length = σ8.length := by rw [← hw8, wipe_length]
        refine ⟨m', hm, i + 1, H', (I'.unpinned (pins := [])).weak hl (fun j v e => ?_), T.keep _ _ _ st7 fun b hb o e => (pin' b hb o e).1, fun b hb => ?_, w'⟩
        · rw [← hw8] at e
          exact (wipe_some e).1
        · obtain ⟨o, e, _⟩ := T.obj _ _ st7 b hb
          exact (pin' b hb o e).2
      cases b with
      | false =>
        simp only [Bool.false_eq_true, if_false] at q9 ⊢
        exact fin I9 q9
      | true =>
        simp only [if_true] at q9 ⊢
        refine thnF (pk.run _ s9 σ8 H9 _ I9 q9) fun z s10 ⟨yk, H10, I10, r10, q10⟩ => ?_
        refine thnF (pe.run _ s10 σ8 H10 _ I10 q10) fun z2 s11 ⟨yv, H11, I11, r11, es, k, hD11, hk11, hd11, hz11, nx⟩ => ?_
        exact dictSetX (X := X.blk s3 H3 scope ce fp) hu I11 hD11 hk11 hd11 hz11 r10 r11 fun H12 s12 m12 c12 I12 => fin I12 (nx H12 m12 c12)
  exact codeAny_compStart_dict loop (T.self X.A 0 _ _ _ st4 loop)

theorem pe_dcX {kx vx tg iter : Expr} {ifs : List Expr} {scope : Scope} {own : List (Str × Nat)} {pos : Pos} {wi : TI} {g : TG} {tt : TT} {tk tv : TE} (hc : X.calm = true) (hN : X.N.Nodup) (hi : PI X tg iter wi) (ok : BlkOk X.N X.env.scope scope own)
    (hg : ∀ (s : Shared) (H : Hp) (C : Addr) (cl : List (Str × Addr)) (fp : List Addr), PG (X.blk s H scope (compEnvC scope cl C X.env) fp) tg g) (ht : ∀ (s : Shared) (H : Hp) (C : Addr) (cl : List (Str × Addr)) (fp : List Addr), PTs (X.blk s H scope (compEnvC scope cl C X.env) fp) ifs tt)
    (hk : ∀ (s : Shared) (H : Hp) (C : Addr) (cl : List (Str × Addr)) (fp : List Addr), PE (X.blk s H scope (compEnvC scope cl C X.env) fp) kx tk)
    (he : ∀ (s : Shared) (H : Hp) (C : Addr) (cl : List (Str × Addr)) (fp : List Addr), PE (X.blk s H scope (compEnvC scope cl C X.env) fp) vx tv) (hu : X.A.units + 64 < cLine) (hs : ∀ x, foldedSetIterable iter X.env x = pure x := by intro _; rfl) :
    PE X (.DictComp kx vx [⟨tg, iter, ifs, 0⟩] scope pos) (tDcX X.w wi g tt tk tv (own.map (·.2))) := by
  refine ⟨fun pins s σ H Q I h => ?_⟩
  rw [arm_eval_DictComp]
  refine dcX_core hu hc hN I hi ok hg ht hk he hs h fun D C s' m H' I' q hn f => ⟨m, hn, fun h'' sb => ?_⟩
  obtain ⟨f0, f1, f2, f3, f4, f5⟩ := f
  exact ⟨.ref D, H', I'.turned (t' := s'.toks) (fun b o hb e => (sb.2 b hb).trans e) f0 f1 f3 f4 f5, rfl, q⟩
end
end TR
/-! text G6 -/
set_option Elab.async false
set_option linter.all false
set_option maxRecDepth 100000
set_option maxHeartbeats 4000000
/-! {k: v}, k a tuple of data; xs.count(x) -/
namespace TR
open PySem PySem.Spec PyProof.Rows L2 VD
/-- {k: v}; the new dict stands empty while both are made -/
def tXOne (w : World) (tk tv : TE) : TE := fun σ H Q => ∀ p H1, H p = none → DictE w H1 p [] → Chg p H H1 → tk σ H1 fun y H2 => tv σ H2 fun z H3 => ∃ b k, DictE w H3 p [] ∧ y = .ref b ∧ Dt H3 y k ∧ k.depth ≤ 8 ∧
  ∀ H4, DictE w H4 p [(k, y, z)] → Chg p H3 H4 → Q (.ref p) H4
section
variable {X : Cx}
theorem pe_xone {ke ve : Expr} {pos : Pos} {tk tv : TE} (hu : X.A.units + 64 < cLine) (hk : PE X ke tk) (hv : PE X ve tv) : PE X (.Dict [some ke] [ve] pos) (tXOne X.w tk tv) := by
  refine ⟨fun pins s σ H Q I q => ?_⟩
  have hn := I.hok.fresh (Nat.le_refl s.heap.objs.size)
  obtain ⟨ep0, ok1, ok2, ok3⟩ := new_dict (P := X.prog) (w := X.w) (H := H) s.heap I.big
  have I1 := I.laid (a := s.heap.objs.size) (o := DO X.w s.heap.objs.size [] ep0) (h' := s.heap.push { cls := .type "dict", data := .dict #[] }) (t' := s.toks) (fun _ _ q => Heap.get?_push_of_some _ q) (Nat.le_refl _) ⟨ok1, ok2, ok3⟩
  have q1 := q _ (upd H s.heap.objs.size (DO X.w s.heap.objs.size [] ep0)) hn (DictE.new I.big) Chg.upd
  rw [arm_eval_Dict, zip_pairTrees [some ke] [ve] X.env pos rfl rfl, dictDisplay_pairs _ (by intro z; cases z) (by show 1 < 17; decide)]
  refine wpAny_bind (wpAny_standAt (wpAny_bind (wpAny_subDictH (knd := nestedKind X.prog X.w) (Q := fun d s' => wpAny (model X.prog X.w) X.A (pure (Value.ref d)) (EP X pins σ Q) X.xe s') (by show X.A.units + 8 < cLine; omega) (by show 1 ≤ 15; decide) ?_)))
  refine pairTrees_cons_walk (thn (hk.run pins _ σ _ _ I1 q1) fun u s2 ⟨y, H2, I2, ry, q2⟩ => thn (hv.run pins s2 σ H2 _ I2 q2) fun v s3 ⟨z, H3, I3, rz, b, k, m, ey, dk, hd, q3⟩ => pairTrees_nil_walk ?_)
  subst ey
  obtain rfl : u = Value.ref b := ry
  have nk := Dt.nested I3 _ _ _ dk (rfl : L2.RelV (.ref b) (Value.ref b))
  obtain ⟨xs, rr, dv, ak, hz⟩ := at_dict I3 m
  cases rr
  refine ⟨[(k, b, v)], ⟨rfl, rfl, ⟨nk, hd⟩, True.intro⟩, ?_, fun h' tk hm hs => wpAny_pure ?_⟩
  · obtain ⟨⟨o, es, ep, h1, h2, h3, h4⟩, _⟩ := dv
    exact ⟨o, es, ep, h1, h2, h3, h4, fun x hx => (by cases hx), List.nodup_nil⟩
  · obtain ⟨o, es, ep, h1, h2, h3, h4, _, _⟩ := hm
    have dv1 : DictV X.w h' s.heap.objs.size [(k, .ref b, v)] := ⟨⟨o, es, ep, h1, h2, h3, h4⟩, by simp⟩
    obtain ⟨ep2, J⟩ := wrote I3 m dv1 (es2 := [(k, .ref b, z)]) (.cons ⟨rfl, rfl, rz⟩ .nil) hs tk
    refine ⟨.ref s.heap.objs.size, _, J, rfl, q3 _ (m.upd (fun e he => ?_) (by show 1 ≤ sizeLine; decide) (by simp)) Chg.upd⟩
    rw [List.mem_singleton.mp he]
    exact ⟨dk, hd⟩
/-- xs.count(y): some number -/
def rCountD (K : PySem.W.Frag) : V → List V → Hp → VK → Prop := fun x xs H Q => ∃ (a : Addr) (y : V) (d : PyData) (ds : List PyData), x = V.ref a ∧ xs = [y] ∧ Dp K H (V.ref a) (.list ds) ∧ Dp K H y d ∧ SeqAt.shaped (.list ds) = true ∧ SeqAt.shaped d = true ∧ ∀ c : Nat, Q (.int c) H
theorem mt_countD (hu : X.A.units + 65 < cLine) : MtR X "list.count" (rCountD X.K) := by
  intro pins s σ H x xs v us Q I rx rxs h
  obtain ⟨a, y, d, ds, rfl, rfl, hl, hy, sl, sd, q⟩ := h
  cases rx
  cases rxs with
  | cons ry rt =>
    rename_i uy ut
    cases rt
    obtain ⟨bs, r1⟩ := Dp.reads I d y uy hy ry
    have hxs : PyData.canLayAll0 ds = true := SeqAt.canLay_of_shaped sl
    have hroom : X.A.units + 1 + min (PyData.depthAll ds) d.depth < cLine := room_in_shaped sd hu
    cases hl with
    | lst hs ha =>
      obtain ⟨its, rv, ⟨⟨cls, dd, data, sls⟩, n, ho, hc, hdn, hdt⟩, hlen⟩ := I.list hs
      simp only at hc hdt
      subst hc hdt
      obtain ⟨as, h4⟩ := Dp.readsAll I ds _ its ha rv
      exact call_meets PySem.F.slot_list_count ⟨_, ho, rfl⟩ PySem.F.entry_list_count (PySem.F.args_list_count_2 _ _)
        (SeqAt.list_countAt a its.toArray n dd sls uy fun u => PyData.eqv (SeqAt.readOf s.heap u) d) ⟨ho, SeqAt.items_eqAt (vs := its.toArray) (show ReadsAll s.heap its.toArray.toList ds as from h4) r1 hxs (SeqAt.canLay_of_shaped sd) hroom, ⟨.int _, H, I.tok _, ⟨_, rfl⟩, q _⟩⟩
end
end TR
/-! text M0 -/
set_option Elab.async false
set_option linter.all false
set_option maxRecDepth 100000
set_option maxHeartbeats 4000000
/-! The plain law: worlds of tiles, beds, what fits, what may come. -/
namespace TR
open PySem VD
structure Wd where
  order : List D
  gl : D → Nat → Gu
abbrev Bd := List (Pl × D)
def lkB (M : Bd) (p : Pl) : Option D := (M.find? fun x => decide (x.1 = p)).map (·.2)
def bal (M : Bd) : AL := M.map fun x => (plD x.1, x.2)
def opp (s : Nat) : Nat := (s + 2) % 4
/-- one side's bond -/
def bd (W : Wd) (M : Bd) (p : Pl) (n : D) (s : Nat) : Int := match lkB M (nb p s) with
  | none => 0
  | some o => if W.gl n s = W.gl o (opp s) then (W.gl n s).2 else 0
def bonds (W : Wd) (M : Bd) (p : Pl) (n : D) : Int := bd W M p n 0 + bd W M p n 1 + bd W M p n 2 + bd W M p n 3
/-- what a neighbour shows -/
def sh (W : Wd) (M : Bd) (p : Pl) (s : Nat) : Int := match lkB M (nb p s) with
  | none => 0
  | some o => (W.gl o (opp s)).2
def fit (W : Wd) (M : Bd) (p : Pl) : List D := W.order.filter fun n => decide (2 ≤ bonds W M p n)
/-- strengths are 0, 1, 2; names stand once -/
structure WOk (W : Wd) : Prop where
  nd : W.order.Nodup
  lo : ∀ n s, 0 ≤ (W.gl n s).2
  hi : ∀ n s, (W.gl n s).2 ≤ 2
section
variable {W : Wd} {M : Bd} {p q : Pl} {n : D} {s : Nat}
theorem lkB_cons {a : Pl × D} {M : Bd} {p : Pl} : lkB (a :: M) p = if a.1 = p then some a.2 else lkB M p := by
  unfold lkB
  rw [List.find?_cons]
  by_cases h : a.1 = p
  · rw [decide_eq_true h, if_pos h]; rfl
  · rw [decide_eq_false h, if_neg h]
theorem lkB_append {M N : Bd} {p : Pl} : lkB (M ++ N) p = (lkB M p).or (lkB N p) := by
  induction M with
  | nil => rfl
  | cons a M ih =>
    rw [List.cons_append, lkB_cons, lkB_cons, ih]
    by_cases h : a.1 = p <;> simp [h]
theorem lkB_none : lkB M p = none ↔ p ∉ M.map (·.1) := by
  unfold lkB
  rw [Option.map_eq_none_iff, List.find?_eq_none]
  constructor
  · intro h hm
    obtain ⟨x, hx, hk⟩ := List.mem_map.mp hm
    exact h x hx (decide_eq_true hk)
  · intro h x hx hk
    exact h (List.mem_map.mpr ⟨x, hx, of_decide_eq_true hk⟩)
theorem lkB_mem (h : lkB M p = some n) : (p, n) ∈ M := by
  unfold lkB at h
  obtain ⟨y, hy, rfl⟩ := Option.map_eq_some_iff.mp h
  have := List.find?_some hy
  have e : y.1 = p := of_decide_eq_true this
  have := List.mem_of_find?_eq_some hy
  rw [← e]; exact this
theorem lkB_of_mem : ∀ {M : Bd}, (M.map (·.1)).Nodup → (p, n) ∈ M → lkB M p = some n
  | [], _, h => by cases h
  | a :: M, nd, h => by
    rw [List.map_cons, List.nodup_cons] at nd
    rw [lkB_cons]
    rcases List.mem_cons.mp h with rfl | h
    · rw [if_pos rfl]
    · rw [if_neg (fun z => nd.1 (List.mem_map.mpr ⟨_, h, z.symm⟩))]
      exact lkB_of_mem nd.2 h
theorem lkA_bal {M : Bd} {p : Pl} : lkA (bal M) (plD p) = lkB M p := by
  induction M with
  | nil => rfl
  | cons a M ih =>
    show lkA ((plD a.1, a.2) :: bal M) (plD p) = _
    rw [lkA_cons, lkB_cons, ih]
    by_cases h : a.1 = p
    · rw [if_pos (by rw [h]), if_pos h]
    · rw [if_neg (fun z => h (plD_inj z)), if_neg h]
theorem bal_keys : (bal M).map (·.1) = (M.map (·.1)).map plD := by
  unfold bal
  rw [List.map_map, List.map_map] <;> rfl
theorem nb_opp (p : Pl) {s : Nat} (h : s < 4) : nb (nb p s) (opp s) = p := by
  match s, h with
  | 0, _ => simp [nb, opp]
  | 1, _ => simp [nb, opp]
  | 2, _ => simp [nb, opp]
  | 3, _ => simp [nb, opp]
theorem opp_opp {s : Nat} (h : s < 4) : opp (opp s) = s := by unfold opp; omega
theorem opp_lt {s : Nat} : opp s < 4 := by unfold opp; omega
theorem nb_ne (p : Pl) {s : Nat} (h : s < 4) : nb p s ≠ p := by
  match s, h with
  | 0, _ => intro z; have := congrArg Prod.fst z; simp [nb] at this; omega
  | 1, _ => intro z; have := congrArg Prod.snd z; simp [nb] at this; omega
  | 2, _ => intro z; have := congrArg Prod.fst z; simp [nb] at this; omega
  | 3, _ => intro z; have := congrArg Prod.snd z; simp [nb] at this; omega
theorem nb_inj (p : Pl) {s t : Nat} (hs : s < 4) (ht : t < 4) (h : nb p s = nb p t) : s = t := by
  have h1 := congrArg Prod.fst h
  have h2 := congrArg Prod.snd h
  match s, t, hs, ht with
  | 0, 0, _, _ | 1, 1, _, _ | 2, 2, _, _ | 3, 3, _, _ => rfl
  | 0, 1, _, _ | 0, 2, _, _ | 0, 3, _, _ | 1, 0, _, _ | 1, 2, _, _ | 1, 3, _, _ | 2, 0, _, _ | 2, 1, _, _ | 2, 3, _, _ | 3, 0, _, _ | 3, 1, _, _ | 3, 2, _, _ =>
    simp [nb] at h1 h2 <;> omega
/-! ### bonds -/
theorem bd_nonneg (w : WOk W) : 0 ≤ bd W M p n s := by
  unfold bd
  split
  · exact Int.le_refl _
  · split
    · exact w.lo _ _
    · exact Int.le_refl _
theorem bd_le_sh (w : WOk W) : bd W M p n s ≤ sh W M p s := by
  unfold bd sh
  split
  · exact Int.le_refl _
  · split
    · rename_i h; rw [h]; exact Int.le_refl _
    · exact w.lo _ _
/-- more tiles, more bonds -/
def Sub (M N : Bd) : Prop := ∀ p n, lkB M p = some n → lkB N p = some n
theorem Sub.refl (M : Bd) : Sub M M := fun _ _ h => h
theorem Sub.trans {M N L : Bd} (a : Sub M N) (b : Sub N L) : Sub M L := fun p n h => b p n (a p n h)
theorem Sub.app (M N : Bd) : Sub M (M ++ N) := fun p n h => by rw [lkB_append, h]; rfl
theorem bd_mono {N : Bd} (w : WOk W) (h : Sub M N) : bd W M p n s ≤ bd W N p n s := by
  cases e : lkB M (nb p s) with
  | none =>
    have : bd W M p n s = 0 := by unfold bd; rw [e]
    rw [this]; exact bd_nonneg w
  | some o =>
    have e2 := h _ _ e
    unfold bd; rw [e, e2]; exact Int.le_refl _
theorem bonds_mono {N : Bd} (w : WOk W) (h : Sub M N) : bonds W M p n ≤ bonds W N p n := by
  unfold bonds
  have h0 := bd_mono (p := p) (n := n) (s := 0) w h
  have h1 := bd_mono (p := p) (n := n) (s := 1) w h
  have h2 := bd_mono (p := p) (n := n) (s := 2) w h
  have h3 := bd_mono (p := p) (n := n) (s := 3) w h
  omega
/-- what fits hangs on the neighbours alone -/
theorem bd_congr {N : Bd} (h : lkB M (nb p s) = lkB N (nb p s)) : bd W M p n s = bd W N p n s := by unfold bd; rw [h]
theorem fit_congr {N : Bd} (h : ∀ s, s < 4 → lkB M (nb p s) = lkB N (nb p s)) : fit W M p = fit W N p := by
  unfold fit bonds
  congr 1
  funext n
  rw [bd_congr (h 0 (by omega)), bd_congr (h 1 (by omega)), bd_congr (h 2 (by omega)), bd_congr (h 3 (by omega))]
theorem fit_mem {n : D} : n ∈ fit W M p ↔ n ∈ W.order ∧ 2 ≤ bonds W M p n := by
  unfold fit
  rw [List.mem_filter, decide_eq_true_eq]
theorem fit_nodup (w : WOk W) : (fit W M p).Nodup := w.nd.filter _
/-- what fits has a neighbour -/
theorem fit_near (h : fit W M p ≠ []) : ∃ s, s < 4 ∧ lkB M (nb p s) ≠ none := by
  obtain ⟨n, hn⟩ := List.exists_mem_of_ne_nil _ h
  have h2 := (fit_mem.mp hn).2
  by_cases hc : ∃ s, s < 4 ∧ lkB M (nb p s) ≠ none
  · exact hc
  · exfalso
    have z : ∀ s, s < 4 → bd W M p n s = 0 := fun s hs => by
      have : lkB M (nb p s) = none := by
        cases e : lkB M (nb p s) with
        | none => rfl
        | some o => exact absurd ⟨s, hs, by rw [e]; simp⟩ hc
      unfold bd; rw [this]
    unfold bonds at h2
    rw [z 0 (by omega), z 1 (by omega), z 2 (by omega), z 3 (by omega)] at h2
    omega
end
/-! ### lists of places in order -/
theorem plLe_tr {a b c : Pl} (h : plLe a b = true) (k : plLe b c = true) : plLe a c = true := by
  unfold plLe at *
  have h := of_decide_eq_true h
  have k := of_decide_eq_true k
  exact decide_eq_true (by omega)
theorem plLe_tot (a b : Pl) : (plLe a b || plLe b a) = true := by
  unfold plLe
  rw [Bool.or_eq_true]
  by_cases h : a.1 < b.1 ∨ (a.1 = b.1 ∧ a.2 ≤ b.2)
  · exact .inl (decide_eq_true h)
  · exact .inr (decide_eq_true (by omega))
theorem plLe_asym {a b : Pl} (h : plLe a b = true) (k : plLe b a = true) : a = b := by
  unfold plLe at *
  have h := of_decide_eq_true h
  have k := of_decide_eq_true k
  exact Prod.ext (by omega) (by omega)
abbrev PlS (l : List Pl) : Prop := l.Pairwise fun a b => plLe a b = true
/-- one order for one set -/
theorem pls_eq : ∀ {l m : List Pl}, PlS l → PlS m → l.Nodup → m.Nodup → (∀ p, p ∈ l ↔ p ∈ m) → l = m
  | [], [], _, _, _, _, _ => rfl
  | [], b :: m, _, _, _, _, h => absurd ((h b).mpr List.mem_cons_self) (by simp)
  | a :: l, [], _, _, _, _, h => absurd ((h a).mp List.mem_cons_self) (by simp)
  | a :: l, b :: m, hl, hm, nl, nm, h => by
    have hl := List.pairwise_cons.mp hl
    have hm := List.pairwise_cons.mp hm
    rw [List.nodup_cons] at nl nm
    have hab : a = b := by
      by_cases e : a = b
      · exact e
      · have h1 : a ∈ m := (List.mem_cons.mp ((h a).mp List.mem_cons_self)).resolve_left e
        have h2 : b ∈ l := (List.mem_cons.mp ((h b).mpr List.mem_cons_self)).resolve_left (fun z => e z.symm)
        exact plLe_asym (hl.1 b h2) (hm.1 a h1)
    subst hab
    congr 1
    refine pls_eq hl.2 hm.2 nl.2 nm.2 fun p => ⟨fun hp => ?_, fun hp => ?_⟩
    · exact (List.mem_cons.mp ((h p).mp (List.mem_cons_of_mem _ hp))).resolve_left fun z => nl.1 (z ▸ hp)
    · exact (List.mem_cons.mp ((h p).mpr (List.mem_cons_of_mem _ hp))).resolve_left fun z => nm.1 (z ▸ hp)
theorem uniq_sorted {α : Type} {R : α → α → Prop} : ∀ {l m : List α}, l.Pairwise R → m.Pairwise R → l.Nodup → m.Nodup → (∀ p, p ∈ l ↔ p ∈ m) → (∀ a b, a ∈ l → b ∈ l → R a b → R b a → a = b) → l = m
  | [], [], _, _, _, _, _, _ => rfl
  | [], b :: m, _, _, _, _, h, _ => absurd ((h b).mpr List.mem_cons_self) (by simp)
  | a :: l, [], _, _, _, _, h, _ => absurd ((h a).mp List.mem_cons_self) (by simp)
  | a :: l, b :: m, hl, hm, nl, nm, h, an => by
    have hl := List.pairwise_cons.mp hl
    have hm := List.pairwise_cons.mp hm
    rw [List.nodup_cons] at nl nm
    have hab : a = b := by
      by_cases e : a = b
      · exact e
      · have h1 : a ∈ m := (List.mem_cons.mp ((h a).mp List.mem_cons_self)).resolve_left e
        have h2 : b ∈ l := (List.mem_cons.mp ((h b).mpr List.mem_cons_self)).resolve_left (fun z => e z.symm)
        exact an a b List.mem_cons_self (List.mem_cons_of_mem _ h2) (hl.1 b h2) (hm.1 a h1)
    subst hab
    congr 1
    refine uniq_sorted hl.2 hm.2 nl.2 nm.2 (fun p => ⟨fun hp => ?_, fun hp => ?_⟩) fun a b ha hb => an a b (List.mem_cons_of_mem _ ha) (List.mem_cons_of_mem _ hb)
    · exact (List.mem_cons.mp ((h p).mp (List.mem_cons_of_mem _ hp))).resolve_left fun z => nl.1 (z ▸ hp)
    · exact (List.mem_cons.mp ((h p).mpr (List.mem_cons_of_mem _ hp))).resolve_left fun z => nm.1 (z ▸ hp)
/-- the places where something may come -/
def cand (M : Bd) : List Pl := M.flatMap fun x => (List.range 4).map (nb x.1)
def fr (W : Wd) (M : Bd) : List Pl := ((cand M).eraseDups.filter fun p => decide (lkB M p = none ∧ fit W M p ≠ [])).mergeSort plLe
def Fr1 (W : Wd) (M : Bd) (p : Pl) : Prop := lkB M p = none ∧ fit W M p ≠ []
theorem nodup_eraseDups {α : Type} [BEq α] [LawfulBEq α] : ∀ (n : Nat) (l : List α), l.length ≤ n → l.eraseDups.Nodup
  | _, [], _ => by simp
  | 0, a :: l, h => by simp at h
  | n + 1, a :: l, h => by
    rw [List.eraseDups_cons, List.nodup_cons]
    refine ⟨?_, nodup_eraseDups n _ ?_⟩
    · rw [List.mem_eraseDups, List.mem_filter]
      rintro ⟨_, h2⟩
      simp at h2
    · have := List.length_filter_le (fun b => !b == a) l
      simp only [List.length_cons] at h
      omega
theorem fr_sorted (W : Wd) (M : Bd) : PlS (fr W M) := List.pairwise_mergeSort (le := plLe) (fun a b c h k => plLe_tr h k) plLe_tot _
theorem fr_nodup (W : Wd) (M : Bd) : (fr W M).Nodup := by
  unfold fr
  rw [(List.mergeSort_perm _ _).nodup_iff]
  exact (nodup_eraseDups _ _ (Nat.le_refl _)).filter _
theorem fr_mem {W : Wd} {M : Bd} {p : Pl} : p ∈ fr W M ↔ Fr1 W M p := by
  unfold fr
  rw [List.mem_mergeSort, List.mem_filter, List.mem_eraseDups, decide_eq_true_eq]
  refine ⟨fun h => h.2, fun h => ⟨?_, h⟩⟩
  obtain ⟨s, hs, hn⟩ := fit_near h.2
  cases e : lkB M (nb p s) with
  | none => exact absurd e hn
  | some o =>
    have := lkB_mem e
    refine List.mem_flatMap.mpr ⟨_, this, List.mem_map.mpr ⟨opp s, List.mem_range.mpr opp_lt, nb_opp p hs⟩⟩
theorem fr_eq {W : Wd} {M : Bd} {l : List Pl} (h1 : PlS l) (h2 : l.Nodup) (h3 : ∀ p, p ∈ l ↔ Fr1 W M p) : l = fr W M :=
  pls_eq h1 (fr_sorted W M) h2 (fr_nodup W M) fun p => (h3 p).trans fr_mem.symm
/-- what may come, in order -/
def may (W : Wd) (M : Bd) : List (Pl × D) := (fr W M).flatMap fun p => (fit W M p).map fun n => (p, n)
/-- the first of each place -/
def lot (W : Wd) (M : Bd) : List (Pl × D) := (fr W M).map fun p => (p, (fit W M p).headD .none)
theorem lot_keys (W : Wd) (M : Bd) : (lot W M).map (·.1) = fr W M := by
  unfold lot
  rw [List.map_map]
  exact List.map_id' _
theorem lot_mem {W : Wd} {M : Bd} {x : Pl × D} (h : x ∈ lot W M) : Fr1 W M x.1 ∧ x.2 ∈ fit W M x.1 := by
  obtain ⟨p, hp, rfl⟩ := List.mem_map.mp h
  have f := fr_mem.mp hp
  refine ⟨f, ?_⟩
  cases e : fit W M p with
  | nil => exact absurd e f.2
  | cons a r => exact List.mem_cons_self
theorem may_nil {W : Wd} {M : Bd} : may W M = [] ↔ lot W M = [] := by
  unfold may lot
  rw [List.flatMap_eq_nil_iff, List.map_eq_nil_iff]
  constructor
  · intro h
    cases e : fr W M with
    | nil => rfl
    | cons p r =>
      have hp : p ∈ fr W M := by rw [e]; exact List.mem_cons_self
      exact absurd (List.map_eq_nil_iff.mp (h p hp)) (fr_mem.mp hp).2
  · intro h p hp
    rw [h] at hp; cases hp
theorem may_mem {W : Wd} {M : Bd} {x : Pl × D} (h : x ∈ may W M) : Fr1 W M x.1 ∧ x.2 ∈ fit W M x.1 := by
  obtain ⟨p, hp, hx⟩ := List.mem_flatMap.mp h
  obtain ⟨n, hn, rfl⟩ := List.mem_map.mp hx
  exact ⟨fr_mem.mp hp, hn⟩
end TR
/-! text F7 -/
set_option Elab.async false
set_option linter.all false
set_option maxRecDepth 100000
set_option maxHeartbeats 4000000
/-! sets of tiles -/
namespace TR
open PySem PySem.Spec PyProof.Rows L2 VD
abbrev CTS (K : PySem.W.Frag) : Addr := He.ga K "TileSet"
/-- what stays as it is: a part of the heap -/
structure Frz (Z H : Hp) : Prop where
  sub : ∀ b o, Z b = some o → H b = some o
  nt : ∀ b ps, Z b ≠ some (.tbl ps)
theorem Frz.ext {K : PySem.W.Frag} {S : List Addr} {Z H H1 : Hp} (f : Frz Z H) (e : EX K S H H1) (hs : ∀ b ∈ S, Z b = none) : Frz Z H1 :=
  ⟨fun b o h => e.keep b o (f.sub b o h) (fun z => by rw [hs b z] at h; cases h) (fun ps z => f.nt b ps (by rw [← z]; exact h)), f.nt⟩
theorem Frz.ext0 {K : PySem.W.Frag} {Z H H1 : Hp} (f : Frz Z H) (e : EX K [] H H1) : Frz Z H1 := f.ext e fun b z => by cases z
theorem Frz.dt {Z H : Hp} (f : Frz Z H) {v : V} {k : D} (h : Dt Z v k) : Dt H v k := Dt.ext (fun b vs q => f.sub b _ q) _ _ h
theorem Frz.none_ {Z H : Hp} (f : Frz Z H) {b : Addr} (h : H b = none) : Z b = none := by
  cases e : Z b with
  | none => rfl
  | some o => rw [f.sub b o e] at h; cases h
def wg (W : Wd) (s : Nat) (g : Gu) : List D := W.order.filter fun n => decide (W.gl n s = g)
/-- what is asked of the data of a world -/
structure WNice (W : Wd) : Prop where
  ok : WOk W
  nm : ∀ n ∈ W.order, Nice n ∧ n.depth ≤ 6 ∧ n ≠ .none ∧ Shw n
  lb : ∀ n s, Nice (W.gl n s).1 ∧ (W.gl n s).1.depth ≤ 6
  len : W.order.length ≤ 100
  rs : W.order.Pairwise fun a b => a.data.shown.cps.toList ≤ b.data.shown.cps.toList
  ri : ∀ a ∈ W.order, ∀ b ∈ W.order, a.data.shown.cps.toList = b.data.shown.cps.toList → a = b
def TSO (K : PySem.W.Frag) (w : World) (H : Hp) (a : Addr) (W : Wd) : Prop := ∃ (dx : Addr) (tl : V) (tb on rk nbg : Addr) (d : Nat → Addr) (tes res : Es) (ges : Nat → Es),
  H a = some (.ins (CTS K) dx [("tiles", tl), ("tiles_by_name", .ref tb), ("ordered_names", .ref on), ("ranks", .ref rk), ("names_by_glue", .ref nbg)]) ∧
  (DictE w H tb tes ∧ ∀ n ∈ W.order, ∃ t, lookE tes n = some (.ref t) ∧ TileO K H t n (W.gl n)) ∧ Dt H (.ref on) (.tup W.order) ∧
  (DictE w H rk res ∧ ∀ n ∈ W.order, lookE res n = some (.int (W.order.idxOf n : Nat))) ∧
  H nbg = some (.lst [.ref (d 0), .ref (d 1), .ref (d 2), .ref (d 3)]) ∧ ∀ s, s < 4 → DictE w H (d s) (ges s) ∧ ∀ g : Gu, (lookE (ges s) (glD g) = none ∧ wg W s g = []) ∨ ∃ l vs, lookE (ges s) (glD g) = some (.ref l) ∧ H l = some (.lst vs) ∧ DtAll H vs (wg W s g)
section
variable {P : Program} {w : World} {K : PySem.W.Frag} {mg : Str → Option Value} {base : Heap} {Z H H1 : Hp} {a : Addr} {W : Wd}
theorem TileO.up {n : D} {g : Nat → Gu} (k : ∀ b o, Z b = some o → H b = some o) (h : TileO K Z a n g) : TileO K H a n g := by
  obtain ⟨dx, vn, v0, v1, v2, v3, ha, hn, h0, h1, h2, h3⟩ := h
  have d : ∀ {v : V} {x : D}, Dt Z v x → Dt H v x := fun {v x} q => Dt.ext (fun b vs q => k b _ q) _ _ q
  exact ⟨dx, vn, v0, v1, v2, v3, k _ _ ha, d hn, d h0, d h1, d h2, d h3⟩
theorem TSO.up (k : ∀ b o, Z b = some o → H b = some o) (h : TSO K w Z a W) : TSO K w H a W := by
  obtain ⟨dx, tl, tb, on, rk, nbg, d, tes, res, ges, ha, ⟨h1, h2⟩, h3, ⟨h4, h5⟩, h6, h7⟩ := h
  have kt : ∀ b vs, Z b = some (.tup vs) → H b = some (.tup vs) := fun b vs q => k b _ q
  refine ⟨dx, tl, tb, on, rk, nbg, d, tes, res, ges, k _ _ ha, ⟨h1.keep (fun o q => k _ _ q) kt, fun n hn => ?_⟩, Dt.ext kt _ _ h3, ⟨h4.keep (fun o q => k _ _ q) kt, h5⟩, k _ _ h6, fun s hs => ⟨(h7 s hs).1.keep (fun o q => k _ _ q) kt, fun g => ?_⟩⟩
  · obtain ⟨t, q1, q2⟩ := h2 n hn
    exact ⟨t, q1, q2.up k⟩
  · rcases (h7 s hs).2 g with q | ⟨l, vs, q1, q2, q3⟩
    · exact .inl q
    · exact .inr ⟨l, vs, q1, k _ _ q2, DtAll.ext kt _ _ q3⟩
theorem glD_depth {g : Gu} (h : g.1.depth ≤ 6) : (glD g).depth ≤ 8 := by
  simp only [glD, NestedKey.depth, NestedKey.depthAll]; omega
def spTileOf (K : PySem.W.Frag) (w : World) : Sp := fun vs H Q _ => ∃ a v n W Z, vs = [.ref a, v] ∧ Frz Z H ∧ TSO K w Z a W ∧ WNice W ∧ Dt H v n ∧ n ∈ W.order ∧ ∀ t, TileO K H t n (W.gl n) → Q (.ref t) H
theorem ok_TileSet_tile_of (E : Ev K mg base) : Does P w K mg base L2.CX0 1 (He.ma K (He.ga K "TileSet") "tile_of") ["self", "name"] (spTileOf K w) :=
  E.does0 (k := 0) ix_TileSet_tile_of rfl bn_TileSet_tile_of sc_TileSet_tile_of (fun _ _ _ _ ⟨_, _, _, _, _, h, _⟩ => by rw [h]; rfl) fun cdv A outer s H vs Q X hr h => by
    obtain ⟨a, v, n, W, Z, rfl, fz, ts, wn, hv, hn, q⟩ := h
    refine ⟨_, (pss_cons (ps_if (pt_cmp (pc_xnotin hr (pv 1) (pe_fld (pv 0) rfl)))
        (pss_one ps_never)
        pss_nil)
      (pss_one (ps_ret (pe_xget hr (pe_fld (pv 0) rfl) (pv 1) (fun _ _ => rfl))))), ?_⟩
    obtain ⟨dx, tl, tb, on, rk, nbg, d, tes, res, ges, ha, ⟨h1, h2⟩, h3, ⟨h4, h5⟩, h6, h7⟩ := ts.up fz.sub
    obtain ⟨t, ht, ho⟩ := h2 n hn
    have hd : n.depth ≤ 8 := (wn.nm n hn).1.dp
    refine ⟨_, rfl, _, rfl, _, _, _, _, _, rfl, ha, c_TileSet E, na_TileSet_tiles_by_name E, rfl, tb, tes, n, rfl, h1, hv, hd, _, rfl, ?_⟩
    rw [ht]
    exact iteF ⟨_, rfl, _, _, _, _, _, rfl, ha, c_TileSet E, na_TileSet_tiles_by_name E, rfl, _, rfl, tb, tes, n, _, rfl, h1, hv, hd, ht, q t ho⟩
def spWithGlue (K : PySem.W.Frag) (w : World) : Sp := fun vs H Q _ => ∃ (a : Addr) (s : Nat) (v : V) (g : Gu) (W : Wd) (Z : Hp), vs = [.ref a, .int s, v] ∧ Frz Z H ∧ TSO K w Z a W ∧ s < 4 ∧ Dt H v (glD g) ∧ g.1.depth ≤ 6 ∧
  ∀ t H1, EX K [] H H1 → Dt H1 (.ref t) (.tup (wg W s g)) → Q (.ref t) H1
theorem ok_TileSet_with_glue (E : Ev K mg base) : Does P w K mg base L2.CX0 3 (He.ma K (He.ga K "TileSet") "with_glue") ["self", "side", "glue"] (spWithGlue K w) :=
  E.does0 (k := 2) ix_TileSet_with_glue rfl bn_TileSet_with_glue sc_TileSet_with_glue (fun _ _ _ _ ⟨_, _, _, _, _, _, h, _⟩ => by rw [h]; rfl) fun cdv A outer s H vs Q X hr h => by
    obtain ⟨a, sd, v, g, W, Z, rfl, fz, ts, hs, hv, hg, q⟩ := h
    refine ⟨_, (pss_cons (ps_expr (pe_do (ok_check_side E) (hr.mono (by decide)) (by rfl) (g_check_side E) pass0 (pa_cons (pv 1) pa_nil)))
      (pss_one (ps_ret (pe_callTy call_tuple_of (by rfl) (u_tuple E) b_tuple (pa_cons (pe_xget2 hr (pe_ix ix_list (pe_fld (pv 0) rfl) (pv 1) (fun _ _ => rfl)) (pv 2) (pe_lst pa_nil) ⟨rfl, rfl, rfl, rfl⟩) pa_nil))))), ?_⟩
    refine ⟨_, rfl, _, rfl, by omega, by omega, ?_⟩
    obtain ⟨dx, tl, tb, on, rk, nbg, d, tes, res, ges, ha, ⟨h1, h2⟩, h3, ⟨h4, h5⟩, h6, h7⟩ := ts.up fz.sub
    have hx : [V.ref (d 0), .ref (d 1), .ref (d 2), .ref (d 3)][sd]? = some (.ref (d sd)) := by
      match sd, hs with
      | 0, _ | 1, _ | 2, _ | 3, _ => rfl
    refine ⟨_, rfl, _, _, _, _, _, rfl, ha, c_TileSet E, na_TileSet_names_by_glue E, rfl, _, rfl, _, _, _, _, rfl, rfl, .of h6, lstAt hx, d sd, rfl, ⟨_, (h7 sd hs).1⟩, _, rfl, Nat.zero_le _, fun p hp => ?_⟩
    have e1 : EX K [] H _ := Ext.new (o := .lst []) hp
    refine ⟨ges sd, glD g, e1.dictE (h7 sd hs).1 (by simp), e1.dt hv, glD_depth hg, ?_⟩
    rcases (h7 sd hs).2 g with ⟨q1, q2⟩ | ⟨l, vs, q1, q2, q3⟩
    · rw [q1]
      refine ⟨p, [], rfl, .inl ⟨.of upd_same, fun t ht => ?_⟩⟩
      refine q t _ (e1.andNew ht) ?_
      rw [q2]
      exact Dt.new ht .nil
    · rw [q1]
      refine ⟨l, vs, rfl, .inl ⟨.of (e1.at0 q2), fun t ht => ?_⟩⟩
      exact q t _ (e1.andNew ht) (Dt.new ht (e1.dts q3))
def spInOrder (K : PySem.W.Frag) (w : World) : Sp := fun vs H Q _ => ∃ (a l : Addr) (ys : List V) (ns : List D) (W : Wd) (Z : Hp), vs = [.ref a, .ref l] ∧ Frz Z H ∧ TSO K w Z a W ∧ WNice W ∧ H l = some (.lst ys) ∧ DtAll H ys ns ∧ ns.Nodup ∧ (∀ n ∈ ns, n ∈ W.order) ∧ LamX.Tabs (TabK K) H ∧
  ∀ t H1, EX K [] H H1 → LamX.Tabs (TabK K) H1 → Dt H1 (.ref t) (.tup (W.order.filter fun n => decide (n ∈ ns))) → Q (.ref t) H1
/-- by the ranks: what stands in order -/
theorem rank_order {W : Wd} (nd : W.order.Nodup) {ns : List D} {bs : List VN} (h1 : bs.map (·.2) = ns) (hn : ns.Nodup) (hm : ∀ n ∈ ns, n ∈ W.order) :
    (bs.mergeSort (PySem.W.dataLe false fun b : VN => .int (W.order.idxOf b.2 : Nat))).map (·.2) = W.order.filter fun n => decide (n ∈ ns) := by
  rw [PySem.W.dataLe_int (fun b : VN => ((W.order.idxOf b.2 : Nat) : Int))]
  have pm := List.mergeSort_perm bs fun a b : VN => decide (((W.order.idxOf a.2 : Nat) : Int) ≤ ((W.order.idxOf b.2 : Nat) : Int))
  have pm2 : ((bs.mergeSort fun a b : VN => decide (((W.order.idxOf a.2 : Nat) : Int) ≤ ((W.order.idxOf b.2 : Nat) : Int))).map (·.2)).Perm ns := by rw [← h1]; exact pm.map _
  have so := List.pairwise_mergeSort (le := fun a b : VN => decide (((W.order.idxOf a.2 : Nat) : Int) ≤ ((W.order.idxOf b.2 : Nat) : Int))) (fun a b c h k => by
    have h := of_decide_eq_true h
    have k := of_decide_eq_true k
    exact decide_eq_true (by omega)) (fun a b => by
    rw [Bool.or_eq_true, decide_eq_true_eq, decide_eq_true_eq]; omega) bs
  refine uniq_sorted (R := fun a b => W.order.idxOf a ≤ W.order.idxOf b) ?_ ?_ (pm2.nodup_iff.mpr hn) (nd.filter _) (fun p => ?_) ?_
  · exact List.pairwise_map.mpr (so.imp fun h => by have := of_decide_eq_true h; omega)
  · refine List.Pairwise.filter _ ?_
    rw [List.pairwise_iff_getElem]
    intro i j hi hj hij
    rw [List.Nodup.idxOf_getElem nd i hi, List.Nodup.idxOf_getElem nd j hj]
    omega
  · rw [pm2.mem_iff, List.mem_filter, decide_eq_true_eq]
    exact ⟨fun h => ⟨hm p h, h⟩, fun h => h.2⟩
  · intro a b ha hb h k
    have ha := hm a (pm2.mem_iff.mp ha)
    have hb := hm b (pm2.mem_iff.mp hb)
    have e : W.order.idxOf a = W.order.idxOf b := by omega
    have ha2 := List.getElem_idxOf (List.idxOf_lt_length_iff.mpr ha)
    have hb2 := List.getElem_idxOf (List.idxOf_lt_length_iff.mpr hb)
    rw [← ha2, ← hb2]
    simp only [e]
theorem zipVN : ∀ {ys : List V} {ns : List D}, ys.length = ns.length → (ys.zip ns).map (·.1) = ys ∧ (ys.zip ns).map (·.2) = ns
  | [], [], _ => ⟨rfl, rfl⟩
  | y :: ys, n :: ns, h => by
    obtain ⟨a, b⟩ := zipVN (ys := ys) (ns := ns) (by simpa using h)
    exact ⟨by rw [List.zip_cons_cons, List.map_cons, a], by rw [List.zip_cons_cons, List.map_cons, b]⟩
  | [], _ :: _, h => by simp at h
  | _ :: _, [], h => by simp at h
theorem dtVN {H : Hp} : ∀ {ys : List V} {ns : List D}, DtAll H ys ns → ∀ b ∈ ys.zip ns, Dt H b.1 b.2
  | _, _, .nil, b, h => by cases h
  | _, _, .cons r t, b, h => by
    rcases List.mem_cons.mp h with e | h
    · rw [e]; exact r
    · exact dtVN t b h
theorem dtVN2 {H : Hp} : ∀ {bs : List VN}, (∀ b ∈ bs, Dt H b.1 b.2) → DtAll H (bs.map (·.1)) (bs.map (·.2))
  | [], _ => .nil
  | b :: bs, h => .cons (h b List.mem_cons_self) (dtVN2 fun c hc => h c (List.mem_cons_of_mem _ hc))
/-- what the sorting by ranks leans on -/
def GRank (K : PySem.W.Frag) (w : World) (σ : L2.St) (H1 : Hp) (bs : List VN) (key : VN → PyData) : Prop := ∃ (a C dx rk : Addr) (fs : List (Str × V)) (es : Es) (rank : D → Int), σ[0]? = some (some (.ref a)) ∧ key = (fun b => .int (rank b.2)) ∧
  H1 a = some (.ins C dx fs) ∧ fs.lookup ("ranks" : Str) = some (V.ref rk) ∧ Cls K C ∧ NoAttr K C "ranks" ∧ DictE w H1 rk es ∧ ∀ b ∈ bs, Dt H1 b.1 b.2 ∧ b.2.depth ≤ 8 ∧ lookE es b.2 = some (.int (rank b.2))
theorem tabK_fst (E : Ev K mg base) {A : Addr} {q : Str} (h : (A, q) ∈ TabK K) : ∀ p ∈ TabK K, p.1 = A → p.2 = q := by
  have n := x_tabs E
  unfold TabK at h ⊢
  generalize (He.cT K ("TileSet", some "__init__")).2 = A1 at h n ⊢
  generalize (He.cT K ("TileSet", some "in_order")).2 = A2 at h n ⊢
  generalize (He.cT K ("_law_t2_world", none)).2 = A3 at h n ⊢
  generalize lamQ d_TileSet_init = q1 at h ⊢
  generalize lamQ d_TileSet_in_order = q2 at h ⊢
  generalize lamQ d_law_t2_world = q3 at h ⊢
  obtain ⟨n1, n2, n3⟩ := n
  intro p hp e
  obtain ⟨p1, p2⟩ := p
  simp only [List.mem_cons, Prod.mk.injEq, List.not_mem_nil, or_false] at h hp
  simp only at e
  subst e
  rcases h with ⟨h1, h2⟩ | ⟨h1, h2⟩ | ⟨h1, h2⟩ <;> rcases hp with ⟨h3, h4⟩ | ⟨h3, h4⟩ | ⟨h3, h4⟩ <;> simp_all
theorem ok_TileSet_in_order (E : Ev K mg base) : Does P w K mg base L2.CX0 4 (He.ma K (He.ga K "TileSet") "in_order") ["self", "names"] (spInOrder K w) :=
  E.doesC (k := 3) ix_TileSet_in_order rfl bn_TileSet_in_order sc_TileSet_in_order (fun _ _ _ _ ⟨_, _, _, _, _, _, h, _⟩ => by rw [h]; rfl) fun cdv A outer s H vs Q X hr hcd h => by
    subst hcd
    obtain ⟨a, l, ys, ns, W, Z, rfl, fz, ts, wn, hl, hy, hnd, hmem, hT, q⟩ := h
    refine ⟨_, (pss_one (ps_ret (pe_callTy call_tuple_of (by rfl) (u_tuple E) b_tuple (pa_cons (pe_sortL (T := TabK K) (G := GRank K w) (c := He.codeOf K ("TileSet", some "in_order")) (P := (He.cT K ("TileSet", some "in_order")).2) (E.tb ("TileSet", some "in_order") (by simp [tf])) rfl
      (List.mem_cons_of_mem _ List.mem_cons_self) (tabK_fst E (List.mem_cons_of_mem _ List.mem_cons_self)) (by rfl) (fun ok y hy e => ?_) hr (fun σ H1 bs key g => ?_) (by rfl) (u_sorted E) b_sorted (pa_cons (pv 1) pa_nil)) pa_nil)))), ?_⟩
    · have : y.1 = "self" := by
        have hy : y ∈ [(Str.ofString "name", NameKind.local), (Str.ofString "self", NameKind.free)] := hy
        simp only [List.mem_cons, List.not_mem_nil, or_false] at hy
        rcases hy with rfl | rfl
        · cases e
        · rfl
      rw [this]
      exact ok.has _ (.inl rfl)
    · obtain ⟨a, C, dx, rk, fs, es, rank, hσ, rfl, h1, h2, h3, h4, h5, h6⟩ := g
      refine ⟨PySem.W.AllAlike.of (enc := fun b : VN => PyData.int (rank b.2)) (fun _ _ => by simp [PySem.W.alike]), PySem.W.Sortable.others (enc := fun b : VN => PyData.int (rank b.2)) (fun b => ⟨(fun z => by cases z), fun _ z => by cases z⟩), fun b _ => by simp [PyData.depth], fun pins => ?_⟩
      exact turns_rank (x := "name") (y := "self") (fld := "ranks") (i := 0) (es := es) (rank := rank) hr rfl hσ rfl rfl (by decide) (by decide) h1 h2 h3 h4 h5 h6 rfl rfl rfl (by decide) rfl (by decide) (by decide) (fun _ _ _ _ _ _ => rfl) (fun _ => rfl)
    · have tsH := ts.up fz.sub
      obtain ⟨dx, tl, tb, on, rk, nbg, d, tes, res, ges, ha, ⟨h1, h2⟩, h3, ⟨h4, h5⟩, h6, h7⟩ := tsH
      obtain ⟨z1, z2⟩ := zipVN hy.length
      refine ⟨_, rfl, l, ys.zip ns, fun b : VN => .int (W.order.idxOf b.2 : Nat), rfl, ?_, hT, ⟨a, CTS K, dx, rk, _, res, fun n => (W.order.idxOf n : Nat), rfl, rfl, ha, rfl, c_TileSet E, na_TileSet_ranks E, h4, fun b hb => ?_⟩, fun H2 r eN dm T2 hr2 => ?_⟩
      · rw [z1]; exact .of hl
      · have hm : b.2 ∈ ns := by rw [← z2]; exact List.mem_map.mpr ⟨b, hb, rfl⟩
        exact ⟨dtVN hy b hb, (wn.nm _ (hmem _ hm)).1.dp, h5 _ (hmem _ hm)⟩
      · have e1 : EX K [] H H2 := ⟨fun b o e _ ht => eN b o e ht, fun b vs e => eN b _ e (fun _ z => by cases z), fun _ => T2, dm⟩
        refine ⟨r, _, rfl, .inl ⟨.of upd_same, fun t ht => ?_⟩⟩
        have e2 := e1.andNew (o := .lst (((ys.zip ns).mergeSort (PySem.W.dataLe false fun b : VN => .int (W.order.idxOf b.2 : Nat))).map (·.1))) hr2
        have e3 := e2.andNew (o := .tup (((ys.zip ns).mergeSort (PySem.W.dataLe false fun b : VN => .int (W.order.idxOf b.2 : Nat))).map (·.1))) ht
        have dts : DtAll H (((ys.zip ns).mergeSort (PySem.W.dataLe false fun b : VN => .int (W.order.idxOf b.2 : Nat))).map (·.1)) (W.order.filter fun n => decide (n ∈ ns)) := by
          rw [← rank_order wn.ok.nd z2 hnd hmem]
          exact dtVN2 fun b hb => dtVN hy b ((List.mergeSort_perm _ _).mem_iff.mp hb)
        exact q t _ e3 (e3.tabs hT) (Dt.new ht (e2.dts dts))
end
end TR
/-! text G7 -/
set_option Elab.async false
set_option linter.all false
set_option maxRecDepth 100000
set_option maxHeartbeats 4000000
/-! dict comprehensions over enumerate(t), over a dict; list comprehensions over enumerate's like -/
namespace TR
open PySem PySem.Spec PyProof.Rows L2 VD
/-- a turn of {k: v for ..} -/
abbrev DcBody (w : World) (g : TG) (tt : TT) (tk tv : TE) (vs : List Nat) (σ : L2.St) (D : Addr) (Nx : Hp → Prop) (x : V) (H' : Hp) : Prop :=
  g x (wipe σ vs) H' fun σ2 H2 => wipe σ2 vs = wipe σ vs ∧ tt σ2 H2 fun b H3 =>
    if b = true then tk σ2 H3 fun y H4 => tv σ2 H4 fun z H5 => ∃ es k, DictE w H5 D es ∧ Dt H5 y k ∧ k.depth ≤ 8 ∧ es.length < sizeLine ∧ ∀ H6, DictE w H6 D (putE es k y z) → Chg D H5 H6 → Nx H6 else Nx H3
theorem dcX_enumT {w : World} {K : PySem.W.Frag} {a : Addr} {xs : List V} {g : TG} {tt : TT} {tk tv : TE} {vs : List Nat} {σ : L2.St} {H0 : Hp} {D : Addr} {Qd : Hp → Prop} (Pv : Nat → Hp → Prop) (h0 : Pv 0 H0) (hl : ∀ i H, i ≤ xs.length → Pv i H → SqT K H a xs)
    (hs : ∀ i x H T, xs[i]? = some x → Pv i H → H T = none → DcBody w g tt tk tv vs σ D (Pv (i + 1)) (.ref T) (upd H T (.tup [.int (i : Nat), x]))) (hd : ∀ H, Pv xs.length H → Qd H) :
    ∃ W : Nat → Nat → Hp → Prop, (∃ m, W 0 m H0) ∧ ∀ i m H, W i m H →
      ((Iet K a).stop i H ∧ Qd H) ∨ ((Iet K a).go i H ∧ ∃ Nx : Hp → Prop, (∀ H', Nx H' → ∃ m', m' < m ∧ W (i + 1) m' H') ∧ ∀ x H', (Iet K a).yld i H x H' → DcBody w g tt tk tv vs σ D Nx x H') := by
  refine ⟨fun i m H => m = xs.length - i ∧ i ≤ xs.length ∧ Pv i H, ⟨xs.length, by simp, Nat.zero_le _, h0⟩, ?_⟩
  rintro i m H ⟨rfl, hi, p⟩
  have q := hl i H hi p
  by_cases hlt : i < xs.length
  · refine .inr ⟨⟨xs, xs[i], q, List.getElem?_eq_getElem hlt⟩, Pv (i + 1), fun H1 p1 => ⟨xs.length - (i + 1), by omega, rfl, hlt, p1⟩, fun x H1 y => ?_⟩
    obtain ⟨T, y, rfl, hT, rfl, hy⟩ := y
    exact hs i y H T (hy xs q) p hT
  · have e : i = xs.length := by omega
    subst e
    exact .inl ⟨⟨xs, q, Nat.le_refl _⟩, hd H p⟩
theorem dcX_x {w : World} {d : Addr} {u : HO} {xs : List V} {g : TG} {tt : TT} {tk tv : TE} {vs : List Nat} {σ : L2.St} {H0 : Hp} {D : Addr} {Qd : Hp → Prop} (Pv : Nat → Hp → Prop) (h0 : Pv 0 H0) (hl : ∀ i H, i ≤ xs.length → Pv i H → H d = some u)
    (hs : ∀ i x H, xs[i]? = some x → Pv i H → DcBody w g tt tk tv vs σ D (Pv (i + 1)) x H) (hd : ∀ H, Pv xs.length H → Qd H) :
    ∃ W : Nat → Nat → Hp → Prop, (∃ m, W 0 m H0) ∧ ∀ i m H, W i m H →
      ((Itx d u xs).stop i H ∧ Qd H) ∨ ((Itx d u xs).go i H ∧ ∃ Nx : Hp → Prop, (∀ H', Nx H' → ∃ m', m' < m ∧ W (i + 1) m' H') ∧ ∀ x H', (Itx d u xs).yld i H x H' → DcBody w g tt tk tv vs σ D Nx x H') := by
  refine ⟨fun i m H => m = xs.length - i ∧ i ≤ xs.length ∧ Pv i H, ⟨xs.length, by simp, Nat.zero_le _, h0⟩, ?_⟩
  rintro i m H ⟨rfl, hi, p⟩
  have q := hl i H hi p
  by_cases hlt : i < xs.length
  · refine .inr ⟨⟨q, hlt⟩, Pv (i + 1), fun H1 p1 => ⟨xs.length - (i + 1), by omega, rfl, hlt, p1⟩, fun x H1 y => ?_⟩
    obtain ⟨e, y⟩ := y
    subst e
    exact hs i x _ y p
  · have e : i = xs.length := by omega
    subst e
    exact .inl ⟨⟨q, Nat.le_refl _⟩, hd H p⟩
end TR
/-! text F8 -/
set_option Elab.async false
set_option linter.all false
set_option maxRecDepth 100000
set_option maxHeartbeats 4000000
/-! TileSet(tiles) -/
namespace TR
open PySem PySem.Spec PyProof.Rows L2 VD
section
variable {P : Program} {w : World} {K : PySem.W.Frag} {mg : Str → Option Value} {base : Heap}
theorem TileO.ext {S : List Addr} {H H1 : Hp} {t : Addr} {n : D} {g : Nat → Gu} (h : TileO K H t n g) (e : EX K S H H1) (ht : t ∉ S) : TileO K H1 t n g := by
  obtain ⟨dx, vn, v0, v1, v2, v3, ha, hn, h0, h1, h2, h3⟩ := h
  exact ⟨dx, vn, v0, v1, v2, v3, e.at_ ha ht, e.dt hn, e.dt h0, e.dt h1, e.dt h2, e.dt h3⟩
def TilesOk (K : PySem.W.Frag) (H : Hp) (ts : List Addr) (ns : List D) (W : Wd) : Prop := ts.length = ns.length ∧ ∀ (i : Nat) (t : Addr) (n : D), ts[i]? = some t → ns[i]? = some n → TileO K H t n (W.gl n)
def spTSInit (K : PySem.W.Frag) (w : World) : Sp := fun vs H Q _ => ∃ (x dx tl : Addr) (ts : List Addr) (ns : List D) (W : Wd), vs = [.ref x, .ref tl] ∧ H x = some (.ins (CTS K) dx []) ∧ Sq K H tl (ts.map V.ref) ∧ TilesOk K H ts ns W ∧ ns.Perm W.order ∧ WNice W ∧ LamX.Tabs (TabK K) H ∧
  ∀ H1, EX K [x] H H1 → LamX.Tabs (TabK K) H1 → TSO K w H1 x W → Q .non H1
/-- by repr: what stands in order -/
theorem repr_order {W : Wd} (wn : WNice W) {ns : List D} {bs : List VN} (h1 : bs.map (·.2) = ns) (pm : ns.Perm W.order) :
    (bs.mergeSort (PySem.W.dataLe false fun b : VN => .str b.2.data.shown)).map (·.2) = W.order := by
  rw [PySem.W.dataLe_str (fun b : VN => b.2.data.shown)]
  have pm2 : ((bs.mergeSort fun a b : VN => decide (a.2.data.shown.cps.toList ≤ b.2.data.shown.cps.toList)).map (·.2)).Perm W.order := by
    refine List.Perm.trans ?_ pm
    rw [← h1]
    exact (List.mergeSort_perm bs _).map _
  have so := List.pairwise_mergeSort (le := fun a b : VN => decide (a.2.data.shown.cps.toList ≤ b.2.data.shown.cps.toList)) (fun a b c h k => by
    have h := of_decide_eq_true h
    have k := of_decide_eq_true k
    exact decide_eq_true (List.le_trans h k)) (fun a b => by
    rw [Bool.or_eq_true, decide_eq_true_eq, decide_eq_true_eq]
    exact List.le_total _ _) bs
  refine uniq_sorted (R := fun a b => a.data.shown.cps.toList ≤ b.data.shown.cps.toList) (List.pairwise_map.mpr (so.imp fun h => of_decide_eq_true h)) wn.rs (pm2.nodup_iff.mpr wn.ok.nd) wn.ok.nd (fun p => pm2.mem_iff) fun a b ha hb h k => wn.ri a (pm2.mem_iff.mp ha) b (pm2.mem_iff.mp hb) (List.le_antisymm h k)
theorem lookE_mem : ∀ {es : Es} {e : D × V × V}, (es.map (·.1)).Nodup → e ∈ es → lookE es e.1 = some e.2.2
  | [], _, _, h => by cases h
  | a :: es, e, nd, h => by
    rw [List.map_cons, List.nodup_cons] at nd
    unfold lookE
    rw [List.find?_cons]
    rcases List.mem_cons.mp h with rfl | h
    · rw [decide_eq_true rfl]; rfl
    · rw [decide_eq_false (fun z => nd.1 (by rw [z]; exact List.mem_map.mpr ⟨_, h, rfl⟩))]
      exact lookE_mem nd.2 h
/-! the names by glue, while they are made -/
def wgc (W : Wd) (i j s : Nat) (g : Gu) : List D := (W.order.take (if s < j then i + 1 else i)).filter fun n => decide (W.gl n s = g)
theorem wgc_ne {W : Wd} {i j s : Nat} {g : Gu} (h : s ≠ j) : wgc W i (j + 1) s g = wgc W i j s g := by
  unfold wgc
  by_cases hs : s < j
  · rw [if_pos hs, if_pos (by omega)]
  · rw [if_neg hs, if_neg (by omega)]
theorem wgc_eq {W : Wd} {i j : Nat} {g : Gu} {n : D} (h : W.order[i]? = some n) : wgc W i (j + 1) j g = wgc W i j j g ++ (if W.gl n j = g then [n] else []) := by
  unfold wgc
  rw [if_pos (by omega), if_neg (by omega), List.take_add_one, h, List.filter_append]
  congr 1
  by_cases hg : W.gl n j = g
  · rw [if_pos hg]; simp [hg]
  · rw [if_neg hg]; simp [hg]
theorem glD_inj {g h : Gu} (e : glD g = glD h) : g = h := by
  unfold glD at e
  injection e with e
  injection e with e1 e
  injection e with e2 e
  injection e2 with e2
  exact Prod.ext e1 e2
structure NbI (K : PySem.W.Frag) (w : World) (W : Wd) (d : Nat → Addr) (H2 H4 : Hp) (ges : Nat → Es) (i j : Nat) : Prop where
  e : EX K [d 0, d 1, d 2, d 3] H2 H4
  m : ∀ s, s < 4 → DictE w H4 (d s) (ges s)
  len : ∀ s, s < 4 → (ges s).length ≤ if s < j then i + 1 else i
  lk : ∀ s, s < 4 → ∀ g : Gu, (lookE (ges s) (glD g) = none ∧ wgc W i j s g = []) ∨ ∃ l vs, lookE (ges s) (glD g) = some (.ref l) ∧ H2 l = none ∧ H4 l = some (.lst vs) ∧ DtAll H4 vs (wgc W i j s g)
  un : ∀ s t g g' l, s < 4 → t < 4 → lookE (ges s) (glD g) = some (.ref l) → lookE (ges t) (glD g') = some (.ref l) → s = t ∧ g = g'
section
variable {K : PySem.W.Frag} {w : World} {W : Wd} {d : Nat → Addr} {H2 H4 H5 : Hp} {ges : Nat → Es} {i j : Nat}
theorem NbI.ext0 (h : NbI K w W d H2 H4 ges i j) (e : EX K [] H4 H5) : NbI K w W d H2 H5 ges i j :=
  ⟨h.e.trans e.nil, fun s hs => e.dictE (h.m s hs) (by simp), h.len, fun s hs g => (h.lk s hs g).imp id fun ⟨l, vs, a, b, c, q⟩ => ⟨l, vs, a, b, e.at0 c, e.dts q⟩, h.un⟩
theorem NbI.next (h : NbI K w W d H2 H4 ges i 4) : NbI K w W d H2 H4 ges (i + 1) 0 := by
  have z : ∀ s, s < 4 → (if s < 4 then i + 1 else i) = if s < 0 then i + 1 + 1 else i + 1 := fun s hs => by rw [if_pos hs, if_neg (by omega)]
  refine ⟨h.e, h.m, fun s hs => by rw [← z s hs]; exact h.len s hs, fun s hs g => ?_, h.un⟩
  have : wgc W (i + 1) 0 s g = wgc W i 4 s g := by unfold wgc; rw [z s hs]
  rw [this]; exact h.lk s hs g
theorem d_mem (hj : j < 4) : d j ∈ [d 0, d 1, d 2, d 3] := by
  match j, hj with
  | 0, _ | 1, _ | 2, _ | 3, _ => simp
/-- one that stands: append -/
theorem NbI.app (h : NbI K w W d H2 H4 ges i j) (hj : j < 4) {n : D} {v : V} {l : Addr} {vs : List V} (hn : W.order[i]? = some n) (hv : Dt H4 v n) (hl : lookE (ges j) (glD (W.gl n j)) = some (.ref l)) (hl4 : H4 l = some (.lst vs)) :
    NbI K w W d H2 (upd H4 l (.lst (vs ++ [v]))) ges i (j + 1) := by
  have fl : H2 l = none := by
    rcases h.lk j hj (W.gl n j) with ⟨a, _⟩ | ⟨l', vs', a, b, c, q⟩
    · rw [hl] at a; cases a
    · rw [hl] at a; cases a; exact b
  have e1 : EX K [l] H4 (upd H4 l (.lst (vs ++ [v]))) := Ext.refl.lst hl4 (.inr (by simp))
  have nd : ∀ s, s < 4 → d s ≠ l := fun s hs z => by
    obtain ⟨ep, q⟩ := (h.m s hs).ob
    rw [z, hl4] at q; cases q
  refine ⟨h.e.lst hl4 (.inl fl), fun s hs => e1.dictE (h.m s hs) (by simp; exact nd s hs), fun s hs => Nat.le_trans (h.len s hs) ?_, fun s hs g => ?_, h.un⟩
  · split <;> split <;> omega
  · rcases h.lk s hs g with ⟨a, b⟩ | ⟨l', vs', a, b, c, q⟩
    · refine .inl ⟨a, ?_⟩
      by_cases hsj : s = j
      · subst hsj
        rw [wgc_eq hn, b]
        by_cases hg : W.gl n s = g
        · rw [hg, a] at hl; cases hl
        · rw [if_neg hg]; rfl
      · rw [wgc_ne hsj]; exact b
    · by_cases hll : l' = l
      · subst hll
        obtain ⟨rfl, rfl⟩ := h.un s j g _ _ hs hj a hl
        rw [hl4] at c; cases c
        refine .inr ⟨l', _, a, b, upd_same, ?_⟩
        rw [wgc_eq hn, if_pos rfl]
        exact (e1.dts q).app (.cons (e1.dt hv) .nil)
      · refine .inr ⟨l', vs', a, b, by rw [upd_ne hll]; exact c, ?_⟩
        have : wgc W i (j + 1) s g = wgc W i j s g := by
          by_cases hsj : s = j
          · subst hsj
            rw [wgc_eq hn]
            by_cases hg : W.gl n s = g
            · rw [hg, a] at hl; cases hl; exact absurd rfl hll
            · rw [if_neg hg, List.append_nil]
          · rw [wgc_ne hsj]
        rw [this]; exact e1.dts q
/-- a new one -/
theorem NbI.put (h : NbI K w W d H2 H4 ges i j) (hj : j < 4) {n : D} {v u : V} {p : Addr} (hdi : ∀ s t, s < 4 → t < 4 → d s = d t → s = t) (hn : W.order[i]? = some n) (hv : Dt H4 v n) (hl : lookE (ges j) (glD (W.gl n j)) = none) (hp : H4 p = none)
    (c5 : Chg (d j) (upd H4 p (.lst [])) H5) (m5 : DictE w H5 (d j) (putE (ges j) (glD (W.gl n j)) u (.ref p))) :
    H5 p = some (.lst []) ∧ NbI K w W d H2 (upd H5 p (.lst ([] ++ [v]))) (fun s => if s = j then putE (ges j) (glD (W.gl n j)) u (.ref p) else ges s) i (j + 1) := by
  have e1 : EX K [] H4 (upd H4 p (.lst [])) := Ext.new hp
  have m1 := e1.dictE (h.m j hj) (by simp)
  have nd : ∀ s, s < 4 → p ≠ d s := fun s hs z => by
    obtain ⟨ep, q⟩ := (h.m s hs).ob
    rw [← z, hp] at q; cases q
  have e5 : EX K [d j] H4 H5 := e1.nil.dict m1 c5 m5 (.inr (by simp))
  have hp5 : H5 p = some (.lst []) := by rw [c5 p (nd j hj)]; exact upd_same
  refine ⟨hp5, ?_⟩
  have e6 : EX K [d j] H4 (upd H5 p (.lst ([] ++ [v]))) := e5.lst hp5 (.inl hp)
  have e56 : EX K [p] H5 (upd H5 p (.lst ([] ++ [v]))) := Ext.refl.lst hp5 (.inr (by simp))
  have lkp : ∀ g, lookE (putE (ges j) (glD (W.gl n j)) u (.ref p)) (glD g) = if g = W.gl n j then some (.ref p) else lookE (ges j) (glD g) := fun g => by
    rw [lookE_put]
    by_cases hg : g = W.gl n j
    · rw [if_pos hg, if_pos (by rw [hg])]
    · rw [if_neg hg, if_neg (fun z => hg (glD_inj z))]
  have old : ∀ s g l, s < 4 → lookE (ges s) (glD g) = some (.ref l) → l ≠ p := fun s g l hs q z => by
    rcases h.lk s hs g with ⟨a, _⟩ | ⟨l', vs', a, b, c, _⟩
    · rw [q] at a; cases a
    · rw [q] at a; cases a
      rw [z, hp] at c; cases c
  refine ⟨h.e.trans (e6.mono fun b hb => by rw [List.mem_singleton.mp hb]; exact d_mem hj), fun s hs => ?_, fun s hs => ?_, fun s hs g => ?_, fun s t g g' l hs ht q1 q2 => ?_⟩
  · by_cases hsj : s = j
    · subst hsj
      simp only [if_true]
      exact e56.dictE m5 (by simp; exact fun z => nd s hs z.symm)
    · simp only [if_neg hsj]
      exact e6.dictE (h.m s hs) (by simp; exact fun z => hsj (hdi s j hs hj z))
  · by_cases hsj : s = j
    · subst hsj
      simp only [if_true]
      have := h.len s hs
      rw [if_neg (by omega)] at this
      have h2 := putE_len (es := ges s) (k := glD (W.gl n s)) (a := u) (v := V.ref p)
      rw [if_pos (by omega)]; omega
    · simp only [if_neg hsj]
      refine Nat.le_trans (h.len s hs) ?_
      split <;> split <;> omega
  · by_cases hsj : s = j
    · subst hsj
      simp only [if_true]
      rw [lkp]
      by_cases hg : g = W.gl n s
      · subst hg
        rw [if_pos rfl, wgc_eq hn, if_pos rfl]
        rcases h.lk s hs (W.gl n s) with ⟨a, b⟩ | ⟨l', vs', a, _⟩
        · rw [b]
          exact .inr ⟨p, _, rfl, h.e.fresh hp, upd_same, .cons (e6.dt hv) .nil⟩
        · rw [hl] at a; cases a
      · rw [if_neg hg, wgc_eq hn, if_neg (fun z => hg z.symm), List.append_nil]
        rcases h.lk s hs g with a | ⟨l', vs', a, b, c, q⟩
        · exact .inl a
        · exact .inr ⟨l', vs', a, b, e6.at_ c (by
            rw [List.mem_singleton]; intro z
            obtain ⟨ep, q⟩ := (h.m s hs).ob
            rw [← z, c] at q; cases q), e6.dts q⟩
    · simp only [if_neg hsj]
      rw [wgc_ne hsj]
      rcases h.lk s hs g with a | ⟨l', vs', a, b, c, q⟩
      · exact .inl a
      · exact .inr ⟨l', vs', a, b, e6.at_ c (by
            rw [List.mem_singleton]; intro z
            obtain ⟨ep, q⟩ := (h.m j hj).ob
            rw [← z, c] at q; cases q), e6.dts q⟩
  · by_cases hsj : s = j
    · subst hsj
      simp only [if_true] at q1
      rw [lkp] at q1
      by_cases htj : t = s
      · subst htj
        simp only [if_true] at q2
        rw [lkp] at q2
        by_cases hg : g = W.gl n t
        · rw [if_pos hg] at q1
          by_cases hg2 : g' = W.gl n t
          · exact ⟨rfl, by rw [hg, hg2]⟩
          · rw [if_neg hg2] at q2
            cases q1
            exact absurd rfl (old t g' _ ht q2)
        · rw [if_neg hg] at q1
          by_cases hg2 : g' = W.gl n t
          · rw [if_pos hg2] at q2; cases q2
            exact absurd rfl (old t g _ ht q1)
          · rw [if_neg hg2] at q2
            exact h.un t t g g' l hs ht q1 q2
      · simp only [if_neg htj] at q2
        by_cases hg : g = W.gl n s
        · rw [if_pos hg] at q1; cases q1
          exact absurd rfl (old t g' _ ht q2)
        · rw [if_neg hg] at q1
          exact h.un s t g g' l hs ht q1 q2
    · simp only [if_neg hsj] at q1
      by_cases htj : t = j
      · subst htj
        simp only [if_true] at q2
        rw [lkp] at q2
        by_cases hg2 : g' = W.gl n t
        · rw [if_pos hg2] at q2; cases q2
          exact absurd rfl (old s g _ hs q1)
        · rw [if_neg hg2] at q2
          exact h.un s t g g' l hs ht q1 q2
      · simp only [if_neg htj] at q2
        exact h.un s t g g' l hs ht q1 q2
end
/-- what the sorting by repr leans on -/
def GRepr (σ : L2.St) (H1 : Hp) (bs : List VN) (key : VN → PyData) : Prop := key = (fun b => .str b.2.data.shown) ∧ (∀ b ∈ bs, Dt H1 b.1 b.2) ∧ ∀ b ∈ bs, Shw b.2
theorem ok_TileSet_init (E : Ev K mg base) : DoesG P w K mg base L2.CX0 5 (He.ma K (He.ga K "TileSet") "__init__") ["self", "tiles"] (spTSInit K w) :=
  E.doesG (k := 4) ix_TileSet_init rfl bn_TileSet_init sc_TileSet_init (fun _ _ _ _ ⟨_, _, _, _, _, _, h, _⟩ => by rw [h]; rfl) fun cdv A outer s H vs Q X hr hG hcd h => by
    subst hcd
    obtain ⟨x, dx, tl, ts, ns, W, rfl, hx, htl, hts, hpm, wn, hT, q⟩ := h
    refine ⟨_, (pss_cut (fun σ H2 => ∃ (tt : Addr) (o2 o4 o5 o6 : Option V), σ = [some (.ref x), some (.ref tl), o2, none, o4, o5, o6] ∧ EX K [x] H H2 ∧ LamX.Tabs (TabK K) H2 ∧ H2 x = some (.ins (CTS K) dx [("tiles", .ref tt)]) ∧ SqT K H2 tt (ts.map V.ref)) (ps_fld (pv 0) (pe_callTy call_tuple_of (by rfl) (u_tuple E) b_tuple (pa_cons (pv 1) pa_nil)) (by rfl))
      (pss_cut (fun σ H2 => ∃ (tt tb : Addr) (o2 o4 o5 o6 : Option V), σ = [some (.ref x), some (.ref tl), o2, none, o4, o5, o6] ∧ EX K [x] H H2 ∧ LamX.Tabs (TabK K) H2 ∧ H2 x = some (.ins (CTS K) dx [("tiles", .ref tt), ("tiles_by_name", .ref tb)]) ∧ SqT K H2 tt (ts.map V.ref) ∧ H tb = none ∧ DictE w H2 tb []) (ps_fld (pv 0) pe_xnew (by rfl))
      (pss_cut (fun σ H2 => ∃ (tt tb : Addr) (tes : Es) (o2 o4 o5 o6 : Option V), σ = [some (.ref x), some (.ref tl), o2, none, o4, o5, o6] ∧ EX K [x] H H2 ∧ LamX.Tabs (TabK K) H2 ∧ H2 x = some (.ins (CTS K) dx [("tiles", .ref tt), ("tiles_by_name", .ref tb)]) ∧ H tb = none ∧ DictE w H2 tb tes ∧ tes.map (fun e => (e.1, e.2.2)) = ns.zip (ts.map V.ref)) (ps_for PassesOwn.never rfl (pi_tup (pe_fld (pv 0) rfl)) (pg_name (i := 2) sc_TileSet_init.nd rfl (by first | exact Or.inl rfl | exact Or.inr rfl))
        (pss_cons (ps_if (pt_cmp (pc_xin hr (pe_fld (pv 2) rfl) (pe_fld (pv 0) rfl)))
        (pss_one ps_never)
        pss_nil)
      (pss_one (ps_xput hr (pe_fld (pv 0) rfl) (pe_fld (pv 2) rfl) (pv 2) (by rfl)))))
      (pss_cut (fun σ H2 => ∃ (tt tb on : Addr) (tes : Es) (o2 o4 o5 o6 : Option V), σ = [some (.ref x), some (.ref tl), o2, none, o4, o5, o6] ∧ EX K [x] H H2 ∧ LamX.Tabs (TabK K) H2 ∧ H2 x = some (.ins (CTS K) dx [("tiles", .ref tt), ("tiles_by_name", .ref tb), ("ordered_names", .ref on)]) ∧ (H tb = none ∧ DictE w H2 tb tes ∧ ∀ n ∈ W.order, ∃ t, lookE tes n = some (.ref t) ∧ TileO K H2 t n (W.gl n)) ∧ Dt H2 (.ref on) (.tup W.order)) (ps_fld (pv 0) (pe_callTy call_tuple_of (by rfl) (u_tuple E) b_tuple (pa_cons (pe_sortL (T := TabK K) (G := GRepr) (c := He.codeOf K ("TileSet", some "__init__")) (P := (He.cT K ("TileSet", some "__init__")).2) (E.tb ("TileSet", some "__init__") (by simp [tf])) rfl List.mem_cons_self (tabK_fst E List.mem_cons_self) (by rfl) (fun ok y hy e => ?_) (hr.mono (by decide)) (fun σ H1 bs key g => ?_) (by rfl) (u_sorted E) b_sorted (pa_cons (pe_callTy (call_listX rfl) (by rfl) (u_list E) b_list (pa_cons (pe_fld (pv 0) rfl) pa_nil)) pa_nil)) pa_nil)) (by rfl))
      (pss_cut (fun σ H2 => ∃ (tt tb on rk : Addr) (tes res : Es) (o2 o4 o5 o6 : Option V), σ = [some (.ref x), some (.ref tl), o2, none, o4, o5, o6] ∧ EX K [x] H H2 ∧ LamX.Tabs (TabK K) H2 ∧ H2 x = some (.ins (CTS K) dx [("tiles", .ref tt), ("tiles_by_name", .ref tb), ("ordered_names", .ref on), ("ranks", .ref rk)]) ∧ (H tb = none ∧ DictE w H2 tb tes ∧ ∀ n ∈ W.order, ∃ t, lookE tes n = some (.ref t) ∧ TileO K H2 t n (W.gl n)) ∧ Dt H2 (.ref on) (.tup W.order) ∧ (H rk = none ∧ DictE w H2 rk res ∧ ∀ n ∈ W.order, lookE res n = some (.int (W.order.idxOf n : Nat)))) (ps_fld (pv 0) (pe_dcX rfl sc_TileSet_init.nd (pi_enumT (by rfl) (u_enumerate E) (pa_cons (pe_fld (pv 0) rfl) pa_nil)) (own := [("rank", 3), ("name", 4)]) (blkOk_by (N := n_TileSet_init) (sc := defScope s_TileSet_init) (by decide +kernel)) (fun _ _ _ _ _ => (pg_tupK (K := K) (n := 2) rfl rfl (pgs_cons (pg_name (i := 3) sc_TileSet_init.nd rfl (by first | exact Or.inl rfl | exact Or.inr rfl)) (pgs_cons (pg_name (i := 4) sc_TileSet_init.nd rfl (by first | exact Or.inl rfl | exact Or.inr rfl)) pgs_nil)))) (fun _ _ _ _ _ => pts_nil) (fun _ _ _ _ _ => (pv 4)) (fun _ _ _ _ _ => (pv 3)) hr.units) (by rfl))
      (pss_cut (fun σ H2 => ∃ (tt tb on rk nbg : Addr) (d : Nat → Addr) (tes res : Es) (o2 o4 o5 o6 : Option V), σ = [some (.ref x), some (.ref tl), o2, none, o4, o5, o6] ∧ EX K [x] H H2 ∧ LamX.Tabs (TabK K) H2 ∧ H2 x = some (.ins (CTS K) dx [("tiles", .ref tt), ("tiles_by_name", .ref tb), ("ordered_names", .ref on), ("ranks", .ref rk), ("names_by_glue", .ref nbg)]) ∧ (H tb = none ∧ DictE w H2 tb tes ∧ ∀ n ∈ W.order, ∃ t, lookE tes n = some (.ref t) ∧ TileO K H2 t n (W.gl n)) ∧ Dt H2 (.ref on) (.tup W.order) ∧ (H rk = none ∧ DictE w H2 rk res ∧ ∀ n ∈ W.order, lookE res n = some (.int (W.order.idxOf n : Nat))) ∧ (H nbg = none ∧ H2 nbg = some (.lst [.ref (d 0), .ref (d 1), .ref (d 2), .ref (d 3)]) ∧ (∀ s, s < 4 → H (d s) = none ∧ DictE w H2 (d s) []) ∧ (∀ s, s < 4 → d s ≠ tb ∧ d s ≠ rk) ∧ ∀ s t, s < 4 → t < 4 → d s = d t → s = t)) (ps_fld (pv 0) (pe_lst (pa_cons pe_xnew (pa_cons pe_xnew (pa_cons pe_xnew (pa_cons pe_xnew pa_nil))))) (by rfl))
      (pss_one (ps_for PassesOwn.never rfl (pi_tup (pe_fld (pv 0) rfl)) (pg_name (i := 4) sc_TileSet_init.nd rfl (by first | exact Or.inl rfl | exact Or.inr rfl))
        (pss_one (ps_for PassesOwn.never rfl (pi_range1 (by rfl) (u_range E) (pa_cons pe_int pa_nil)) (pg_name (i := 5) sc_TileSet_init.nd rfl (by first | exact Or.inl rfl | exact Or.inr rfl))
        (pss_cons (ps_set (i := 6) sc_TileSet_init.nd rfl (by first | exact Or.inl rfl | exact Or.inr rfl) (pe_xsetd hr (pe_ix ix_list (pe_fld (pv 0) rfl) (pv 5) (fun _ _ => rfl)) (pe_doM (pe_xget hr (pe_fld (pv 0) rfl) (pv 4) (fun _ _ => rfl)) (c_Tile E) (m_Tile_glue_at E) (ok_Tile_glue_at E) (hr.mono (by decide)) pass0 (pa_cons (pv 5) pa_nil)) (pe_lst pa_nil) ⟨rfl, rfl, rfl, rfl⟩))
      (pss_one (ps_expr (pe_bm PySem.F.plainAttrs_list PySem.F.slot_list_append PySem.F.type_list_append mt_append (pv 6) (pa_cons (pv 4) pa_nil))))))))))))))), ?_⟩
    · have hy : y ∈ [(Str.ofString "name", NameKind.local), (Str.ofString "repr", NameKind.globalImplicit)] := hy
      simp only [List.mem_cons, List.not_mem_nil, or_false] at hy
      rcases hy with rfl | rfl <;> cases e
    · obtain ⟨rfl, h1, h2⟩ := g
      refine ⟨PySem.W.AllAlike.of (enc := fun b : VN => PyData.str b.2.data.shown) (fun _ _ => by simp [PySem.W.alike]), PySem.W.Sortable.others (enc := fun b : VN => PyData.str b.2.data.shown) (fun b => ⟨(fun z => by cases z), fun _ z => by cases z⟩), fun b _ => by simp [PyData.depth], fun pins => ?_⟩
      exact turns_repr (x := "name") (hr.mono (by decide)) hG rfl (u_repr E) b_repr rfl rfl rfl (by decide) rfl (by decide) (fun _ _ _ _ _ _ => rfl) h1 h2
    have nx : ∀ {l : Addr}, H l = none → x ≠ l := fun h => ne_of_none hx h
    refine ⟨?_, ?_⟩
    · rcases htl with h | h
      · refine ⟨_, rfl, tl, _, rfl, .inl ⟨h, fun l hl => ⟨_, rfl, x, CTS K, dx, [], rfl, ?_, c_TileSet E, na_TileSet_tiles E, ln0, ?_⟩⟩⟩
        · rw [upd_ne (nx hl)]; exact hx
        · have e1 : EX K [x] H _ := Ext.new (o := .tup (ts.map V.ref)) hl
          have hx1 : (upd H l (.tup (ts.map V.ref))) x = some (.ins (CTS K) dx []) := by rw [upd_ne (nx hl)]; exact hx
          have e3 : EX K [x] _ _ := insUpd (C1 := CTS K) (dx1 := dx) (ys := [("tiles", .ref l)]) hx1
          have e2 := e1.trans e3
          exact ⟨l, none, none, none, none, rfl, e2, e2.tabs hT, upd_same, .of (e3.tup upd_same)⟩
      · refine ⟨_, rfl, tl, _, rfl, .inr ⟨h, ⟨_, rfl, x, CTS K, dx, [], rfl, hx, c_TileSet E, na_TileSet_tiles E, ln0, ?_⟩⟩⟩
        have e3 : EX K [x] _ _ := insUpd (C1 := CTS K) (dx1 := dx) (ys := [("tiles", .ref tl)]) hx
        refine ⟨tl, none, none, none, none, rfl, e3, e3.tabs hT, upd_same, sqtS e3 (fun b hb => ?_) h⟩
        rw [List.mem_singleton.mp hb]
        refine ⟨_, hx, fun _ z => ?_, fun _ z => ?_, fun _ _ z => ?_⟩ <;> cases z
    rintro σ H2 ⟨tt, o2, o4, o5, o6, rfl, e2, T2, hx2, htt⟩
    refine ⟨?_, ?_⟩
    · intro tb H3 htb m3 c3
      have hx3 : H3 x = some (.ins (CTS K) dx [("tiles", .ref tt)]) := c3.at_ hx2 (ne_of_none hx2 htb)
      refine ⟨_, rfl, x, CTS K, dx, [("tiles", .ref tt)], rfl, hx3, c_TileSet E, na_TileSet_tiles_by_name E, ln1, ?_⟩
      have e3 : EX K [x] H2 H3 := Ext.newC htb c3
      have e4 : EX K [x] H3 _ := insUpd (C1 := CTS K) (dx1 := dx) (ys := [("tiles", .ref tt), ("tiles_by_name", .ref tb)]) hx3
      have e5 := (e2.trans e3).trans e4
      have ntb : tb ∉ [x] := by rw [List.mem_singleton]; exact fun z => ne_of_none hx2 htb z.symm
      refine ⟨tt, tb, o2, o4, o5, o6, rfl, e5, e5.tabs hT, upd_same, ?_, e2.fresh htb, e4.dictE m3 ntb⟩
      have ns2 : NoSeq [x] H2 := fun b hb => by
        rw [List.mem_singleton.mp hb]
        refine ⟨_, hx2, fun _ z => ?_, fun _ z => ?_, fun _ _ z => ?_⟩ <;> cases z
      exact sqtS (e3.trans e4) ns2 htt
    rintro σ H2 ⟨tt, tb, o2, o4, o5, o6, rfl, e2, T2, hx2, htt, ftb, htb⟩
    have nsx : ∀ {H3 : Hp} {fs : List (Str × V)}, H3 x = some (.ins (CTS K) dx fs) → NoSeq [x] H3 := fun {H3 fs} h b hb => by
      rw [List.mem_singleton.mp hb]
      refine ⟨_, h, fun _ z => ?_, fun _ z => ?_, fun _ _ z => ?_⟩ <;> cases z
    have tNx : ∀ {t : Addr} {n : D}, TileO K H t n (W.gl n) → t ∉ [x] := fun {t n} ⟨dx', vn, v0, v1, v2, v3, h, _⟩ => by
      rw [List.mem_singleton]
      intro z
      rw [z, hx] at h
      injection h with h
      injection h with h1 h2 h3
      cases h3
    have hln : ns.length = ts.length := hts.1.symm
    have nnd : ns.Nodup := hpm.nodup_iff.mpr wn.ok.nd
    refine ⟨?_, ?_⟩
    · refine ⟨_, rfl, _, _, _, _, _, rfl, hx2, c_TileSet E, na_TileSet_tiles E, rfl, tt, rfl, ⟨_, htt⟩, ?_⟩
      refine for_tup (xs := ts.map V.ref) (fun i σ H3 => ∃ (tes : Es) (o2 : Option V), σ = [some (.ref x), some (.ref tl), o2, none, o4, o5, o6] ∧ EX K [x] H H3 ∧ H3 x = some (.ins (CTS K) dx [("tiles", .ref tt), ("tiles_by_name", .ref tb)]) ∧ SqT K H3 tt (ts.map V.ref) ∧ DictE w H3 tb tes ∧ tes.map (fun e => (e.1, e.2.2)) = (ns.zip (ts.map V.ref)).take i)
        ⟨[], o2, rfl, e2, hx2, htt, htb, by simp⟩ (fun i σ H3 _ ⟨_, _, _, _, _, h, _⟩ => h) ?_ ?_
      · rintro i v σ H3 hv ⟨tes, o2, rfl, e3, hx3, htt3, m3, hte⟩
        have hit : i < ts.length := by
          have := (List.getElem?_eq_some_iff.mp hv).1
          rwa [List.length_map] at this
        have hti : ts[i]? = some ts[i] := List.getElem?_eq_getElem hit
        have hni : ns[i]? = some (ns[i]'(by omega)) := List.getElem?_eq_getElem (by omega)
        rw [List.getElem?_map, hti] at hv
        cases hv
        generalize ns[i]'(by omega) = n at hni
        generalize ts[i] = t at hti
        have to0 := hts.2 i t n hti hni
        have to3 := to0.ext e3 (tNx to0)
        obtain ⟨dxt, vn, v0, v1, v2, v3, ht3, hvn, _⟩ := to3
        have hnm : n ∈ W.order := hpm.mem_iff.mp (List.mem_of_getElem? hni)
        have hnd : n.depth ≤ 8 := (wn.nm n hnm).1.dp
        have hkeys : tes.map (·.1) = ns.take i := by
          have := congrArg (List.map Prod.fst) hte
          rw [List.map_map] at this
          rw [show tes.map (·.1) = tes.map (Prod.fst ∘ fun e => (e.1, e.2.2)) from rfl, this, List.map_take, List.map_fst_zip (by rw [List.length_map]; omega)]
        have hno : lookE tes n = none := by
          refine lookE_none ?_
          rw [hkeys]
          intro hm
          obtain ⟨j, hj, hje⟩ := List.mem_take_iff_getElem.mp hm
          have h1 : ns[j]? = some n := by rw [List.getElem?_eq_getElem (by omega), hje]
          have := (List.getElem?_inj (by omega) nnd).mp (h1.trans hni.symm)
          omega
        refine ⟨_, rfl, _, _, _, _, _, rfl, ht3, c_Tile E, na_Tile_name E, rfl, _, rfl, _, _, _, _, _, rfl, hx3, c_TileSet E, na_TileSet_tiles_by_name E, rfl, tb, tes, n, rfl, m3, hvn, hnd, _, rfl, ?_⟩
        rw [hno]
        refine iteF ?_
        have hlt : tes.length < sizeLine := by
          have := congrArg List.length hkeys
          rw [List.length_map, List.length_take] at this
          have h2 := hpm.length_eq
          have h3 := wn.len
          rw [sizeLine_eq]; omega
        refine ⟨_, rfl, _, rfl, _, _, _, _, _, rfl, hx3, c_TileSet E, na_TileSet_tiles_by_name E, rfl, _, rfl, _, _, _, _, _, rfl, ht3, c_Tile E, na_Tile_name E, rfl, tb, tes, n, rfl, m3, hvn, hnd, hlt, fun H4 m4 c4 => ?_⟩
        have ntb : x ≠ tb := ne_of_none hx ftb
        have e4 : EX K [x] H H4 := e3.dict m3 c4 m4 (.inl ftb)
        have e34 : EX K [tb] H3 H4 := Ext.refl.dict m3 c4 m4 (.inr (by simp))
        refine ⟨_, _, rfl, e4, c4.at_ hx3 ntb, ?_, m4, ?_⟩
        · rcases htt3 with (h | ⟨o, h⟩) | h
          · exact .inl (.inl (e34.tup h))
          · exact .inl (.inr ⟨o, c4.at_ h fun z => by
              obtain ⟨ep, q⟩ := m3.ob
              rw [z, q] at h; cases h⟩)
          · exact .inr h
        · have hp : putE tes n vn (.ref t) = tes ++ [(n, vn, .ref t)] := by unfold putE; rw [hno]; rfl
          have hz : (ns.zip (ts.map V.ref))[i]? = some (n, V.ref t) := by
            rw [List.getElem?_zip_eq_some]
            exact ⟨hni, by rw [List.getElem?_map, hti]; rfl⟩
          rw [hp, List.map_append, hte, List.take_add_one, hz]; rfl
      · rintro σ H3 ⟨tes, o2, rfl, e3, hx3, htt3, m3, hte⟩
        refine ⟨tt, tb, tes, o2, o4, o5, o6, rfl, e3, e3.tabs hT, hx3, ftb, m3, ?_⟩
        rw [hte]
        exact List.take_of_length_le (by rw [List.length_zip, List.length_map]; omega)
    rintro σ H2 ⟨tt, tb, tes, o2, o4, o5, o6, rfl, e2, T2, hx2, ftb, htb, hte⟩
    have hkeys : tes.map (·.1) = ns := by
      have := congrArg (List.map Prod.fst) hte
      rw [List.map_map] at this
      rw [show tes.map (·.1) = tes.map (Prod.fst ∘ fun e => (e.1, e.2.2)) from rfl, this, List.map_fst_zip (by rw [List.length_map]; omega)]
    have hlook : ∀ n ∈ W.order, ∃ t, lookE tes n = some (.ref t) ∧ TileO K H t n (W.gl n) := by
      intro n hn
      obtain ⟨i, hi, hie⟩ := List.getElem_of_mem (hpm.mem_iff.mpr hn)
      have hni : ns[i]? = some n := by rw [List.getElem?_eq_getElem hi, hie]
      have hti : ts[i]? = some (ts[i]'(by omega)) := List.getElem?_eq_getElem (by omega)
      refine ⟨_, ?_, hts.2 i _ n hti hni⟩
      have hz : (n, V.ref (ts[i]'(by omega))) ∈ ns.zip (ts.map V.ref) := by
        refine List.mem_of_getElem? (i := i) ?_
        rw [List.getElem?_zip_eq_some]
        exact ⟨hni, by rw [List.getElem?_map, hti]; rfl⟩
      rw [← hte] at hz
      obtain ⟨e, he, hee⟩ := List.mem_map.mp hz
      obtain ⟨h1, h2⟩ := Prod.mk.inj hee
      rw [← h1, ← h2]
      exact lookE_mem htb.nd he
    refine ⟨?_, ?_⟩
    · refine ⟨_, rfl, _, _, _, _, _, rfl, hx2, c_TileSet E, na_TileSet_tiles_by_name E, rfl, tb, tes, rfl, htb, fun l hl => ?_⟩
      have e23 : EX K [] H2 _ := Ext.new (o := .lst (tes.map (·.2.1))) hl
      have dk : DtAll H2 (tes.map (·.2.1)) ns := by rw [← hkeys]; exact dts_of htb.ks
      obtain ⟨z1, z2⟩ := zipVN dk.length
      refine ⟨l, (tes.map (·.2.1)).zip ns, _, rfl, ?_, e23.tabs T2, ⟨rfl, fun b hb => e23.dt (dtVN dk b hb), fun b hb => ?_⟩, fun H4 r eN dm T4 hr4 => ?_⟩
      · rw [z1]; exact .of upd_same
      · have : b.2 ∈ ns := by rw [← z2]; exact List.mem_map.mpr ⟨b, hb, rfl⟩
        exact (wn.nm _ (hpm.mem_iff.mp this)).2.2.2
      · have e34 : EX K [] _ H4 := ⟨fun b o e _ ht => eN b o e ht, fun b vs e => eN b _ e (fun _ z => by cases z), fun _ => T4, dm⟩
        refine ⟨r, _, rfl, .inl ⟨.of upd_same, fun t ht => ?_⟩⟩
        have e45 : EX K [] H4 _ := Ext.new (o := .lst ((((tes.map (·.2.1)).zip ns).mergeSort (PySem.W.dataLe false fun b : VN => .str b.2.data.shown)).map (·.1))) hr4
        have e56 : EX K [] _ _ := Ext.new (o := .tup ((((tes.map (·.2.1)).zip ns).mergeSort (PySem.W.dataLe false fun b : VN => .str b.2.data.shown)).map (·.1))) ht
        have e26 := e23.trans (e34.trans (e45.trans e56))
        have dts : DtAll H2 ((((tes.map (·.2.1)).zip ns).mergeSort (PySem.W.dataLe false fun b : VN => .str b.2.data.shown)).map (·.1)) W.order := by
          rw [← repr_order wn z2 hpm]
          exact dtVN2 fun b hb => dtVN dk b ((List.mergeSort_perm _ _).mem_iff.mp hb)
        have hx6 := e26.at0 hx2
        refine ⟨_, rfl, x, CTS K, dx, [("tiles", .ref tt), ("tiles_by_name", .ref tb)], rfl, hx6, c_TileSet E, na_TileSet_ordered_names E, ln2, ?_⟩
        have e67 : EX K [x] _ _ := insUpd (C1 := CTS K) (dx1 := dx) (ys := [("tiles", .ref tt), ("tiles_by_name", .ref tb), ("ordered_names", .ref t)]) hx6
        have e27 := e26.nil.trans e67
        have e7 := e2.trans e27
        have ntb : tb ∉ [x] := by rw [List.mem_singleton]; exact fun z => ne_of_none hx ftb z.symm
        refine ⟨tt, tb, t, tes, o2, o4, o5, o6, rfl, e7, e7.tabs hT, upd_same, ⟨ftb, e27.dictE htb ntb, fun n hn => ?_⟩, e67.dt (Dt.new ht ((e23.trans (e34.trans e45)).dts dts))⟩
        obtain ⟨tn, h1, h2⟩ := hlook n hn
        exact ⟨tn, h1, h2.ext e7 (tNx h2)⟩
    rintro σ H2 ⟨tt, tb, on, tes, o2, o4, o5, o6, rfl, e2, T2, hx2, ⟨ftb, htb, hte⟩, hon⟩
    have nx2 : ∀ {H2 : Hp} {fs : List (Str × V)} {l : Addr}, H2 x = some (.ins (CTS K) dx fs) → H2 l = none → l ∉ [x] := fun h hl => by
      rw [List.mem_singleton]; exact fun z => ne_of_none h hl z.symm
    refine ⟨?_, ?_⟩
    · obtain ⟨onv, hon1, hon2⟩ : ∃ vs, H2 on = some (.tup vs) ∧ DtAll H2 vs W.order := by cases hon with | tup a b => exact ⟨_, a, b⟩
      have hlen := hon2.length
      refine ⟨_, rfl, _, _, _, _, _, rfl, hx2, c_TileSet E, na_TileSet_ordered_names E, rfl, on, onv, rfl, .of hon1, ?_⟩
      intro r H3 hr3 m3 c3
      refine dcX_enumT (K := K) (xs := onv) (fun i H4 => ∃ res, EX K [] H2 H4 ∧ DictE w H4 r res ∧ res.length ≤ i ∧ ∀ n, lookE res n = if n ∈ W.order.take i then some (.int (W.order.idxOf n : Nat)) else none) ⟨[], Ext.newC hr3 c3, m3, Nat.le_refl _, fun n => by simp [lookE]⟩ (fun i H4 _ ⟨_, e, _⟩ => .of (e.tup hon1)) ?_ ?_
      · rintro i v H4 T hv ⟨res, e4, m4, l4, k4⟩ hT
        have hi : i < W.order.length := by have := (List.getElem?_eq_some_iff.mp hv).1; omega
        have hni : W.order[i]? = some W.order[i] := List.getElem?_eq_getElem hi
        have hix : W.order.idxOf W.order[i] = i := List.Nodup.idxOf_getElem wn.ok.nd i hi
        have hvd : Dt H2 v W.order[i] := by
          obtain ⟨k, h1, h2⟩ := hon2.get hv
          rw [hni] at h1; cases h1; exact h2
        have hnm := List.mem_of_getElem? hni
        have htk : ∀ n, n ∈ W.order.take (i + 1) ↔ n ∈ W.order.take i ∨ n = W.order[i] := fun n => by
          rw [List.take_add_one, hni, List.mem_append]; simp
        generalize W.order[i] = n at *
        have e45 : EX K [] H4 (upd H4 T (.tup [.int (i : Nat), v])) := Ext.new hT
        have wl := wn.len
        refine ⟨_, _, rfl, .of upd_same, rfl, _, _, rfl, _, _, rfl, rfl, ⟨rfl, ?_⟩⟩
        refine ⟨_, rfl, _, rfl, res, n, e45.dictE m4 (by simp), (e4.trans e45).dt hvd, (wn.nm n hnm).1.dp, by rw [sizeLine_eq]; omega, fun H6 m6 c6 => ?_⟩
        refine ⟨_, (e4.trans e45).dict (e45.dictE m4 (by simp)) c6 m6 (.inl ?_), m6, ?_, fun j => ?_⟩
        · exact hr3
        · exact Nat.le_trans putE_len (by omega)
        · rw [lookE_put, k4]
          by_cases hj : j = n
          · rw [if_pos hj, if_pos ((htk j).mpr (.inr hj)), hj, hix]
          · rw [if_neg hj]
            by_cases hk : j ∈ W.order.take i
            · rw [if_pos hk, if_pos ((htk j).mpr (.inl hk))]
            · rw [if_neg hk, if_neg (fun z => ((htk j).mp z).elim hk hj)]
      · rintro H4 ⟨res, e4, m4, l4, k4⟩
        have hx4 := e4.at0 hx2
        have e45 : EX K [x] _ _ := insUpd (C1 := CTS K) (dx1 := dx) (ys := [("tiles", .ref tt), ("tiles_by_name", .ref tb), ("ordered_names", .ref on), ("ranks", .ref r)]) hx4
        refine ⟨_, rfl, x, CTS K, dx, _, rfl, hx4, c_TileSet E, na_TileSet_ranks E, ln3, ?_⟩
        have e25 := e4.nil.trans e45
        have e5 := e2.trans e25
        have frk : H r = none := e2.fresh hr3
        refine ⟨tt, tb, on, r, tes, res, o2, o4, o5, o6, rfl, e5, e5.tabs hT, upd_same, ⟨ftb, e25.dictE htb (nx2 hx ftb), fun n hn => ?_⟩, e25.dt hon, ⟨frk, e45.dictE m4 (nx2 hx frk), fun n hn => ?_⟩⟩
        · obtain ⟨t, h1, h2⟩ := hlook n hn
          obtain ⟨t2, h3, h4⟩ := hte n hn
          exact ⟨t2, h3, h4.ext e25 (by
            obtain ⟨dx', vn, v0, v1, v2, v3, h, _⟩ := h4
            rw [List.mem_singleton]; intro z; rw [z, hx2] at h
            injection h with h
            injection h with h1 h2 h3
            cases h3)⟩
        · rw [k4, if_pos]
          rw [hlen, List.take_of_length_le (Nat.le_refl _)]; exact hn
    rintro σ H2 ⟨tt, tb, on, rk, tes, res, o2, o4, o5, o6, rfl, e2, T2, hx2, ⟨ftb, htb, hte⟩, hon, ⟨frk, hrk, hre⟩⟩
    refine ⟨?_, ?_⟩
    · intro a1 H3 ha1 m3 c3 a2 H4 ha2 m4 c4 a3 H5 ha3 m5 c5 a4 H6 ha4 m6 c6
      have e3 : EX K [] H2 H3 := Ext.newC ha1 c3
      have e4 : EX K [] H3 H4 := Ext.newC ha2 c4
      have e5 : EX K [] H4 H5 := Ext.newC ha3 c5
      have e6 : EX K [] H5 H6 := Ext.newC ha4 c6
      refine ⟨sz4, fun nbg hn => ?_⟩
      have e7 : EX K [] H6 _ := Ext.new (o := .lst [.ref a1, .ref a2, .ref a3, .ref a4]) hn
      have e27 := e3.trans (e4.trans (e5.trans (e6.trans e7)))
      have hx7 := e27.at0 hx2
      refine ⟨_, rfl, x, CTS K, dx, _, rfl, hx7, c_TileSet E, na_TileSet_names_by_glue E, ln4, ?_⟩
      have e78 : EX K [x] _ _ := insUpd (C1 := CTS K) (dx1 := dx) (ys := [("tiles", .ref tt), ("tiles_by_name", .ref tb), ("ordered_names", .ref on), ("ranks", .ref rk), ("names_by_glue", .ref nbg)]) hx7
      have e28 := e27.nil.trans e78
      have e8 := e2.trans e28
      have n12 : a1 ≠ a2 := by obtain ⟨_, h⟩ := m3.ob; exact ne_of_none h ha2
      have n13 : a1 ≠ a3 := by obtain ⟨_, h⟩ := (e4.dictE m3 (by simp)).ob; exact ne_of_none h ha3
      have n14 : a1 ≠ a4 := by obtain ⟨_, h⟩ := ((e4.trans e5).dictE m3 (by simp)).ob; exact ne_of_none h ha4
      have n23 : a2 ≠ a3 := by obtain ⟨_, h⟩ := m4.ob; exact ne_of_none h ha3
      have n24 : a2 ≠ a4 := by obtain ⟨_, h⟩ := (e5.dictE m4 (by simp)).ob; exact ne_of_none h ha4
      have n34 : a3 ≠ a4 := by obtain ⟨_, h⟩ := m5.ob; exact ne_of_none h ha4
      have f1 : H2 a1 = none := ha1
      have f2 : H2 a2 = none := e3.fresh ha2
      have f3 : H2 a3 = none := (e3.trans e4).fresh ha3
      have f4 : H2 a4 = none := (e3.trans (e4.trans e5)).fresh ha4
      have f5 : H2 nbg = none := (e3.trans (e4.trans (e5.trans e6))).fresh hn
      refine ⟨tt, tb, on, rk, nbg, fun s => match s with | 0 => a1 | 1 => a2 | 2 => a3 | _ => a4, tes, res, o2, o4, o5, o6, rfl, e8, e8.tabs hT, upd_same, ⟨ftb, e28.dictE htb (nx2 hx ftb), fun n hn => ?_⟩, e28.dt hon, ⟨frk, e28.dictE hrk (nx2 hx frk), hre⟩, ⟨e2.fresh f5, ?_, ?_, ?_, ?_⟩⟩
      · obtain ⟨t2, h3, h4⟩ := hte n hn
        exact ⟨t2, h3, h4.ext e28 (by
            obtain ⟨dx', vn, v0, v1, v2, v3, h, _⟩ := h4
            rw [List.mem_singleton]; intro z; rw [z, hx2] at h
            injection h with h
            injection h with h1 h2 h3
            cases h3)⟩
      · rw [upd_ne (fun z => nx2 hx2 f5 (by rw [z]; simp))]; exact upd_same
      · intro s hs
        match s, hs with
        | 0, _ => exact ⟨e2.fresh f1, ((e4.trans (e5.trans (e6.trans e7))).nil.trans e78).dictE m3 (nx2 hx2 f1)⟩
        | 1, _ => exact ⟨e2.fresh f2, ((e5.trans (e6.trans e7)).nil.trans e78).dictE m4 (nx2 hx2 f2)⟩
        | 2, _ => exact ⟨e2.fresh f3, ((e6.trans e7).nil.trans e78).dictE m5 (nx2 hx2 f3)⟩
        | 3, _ => exact ⟨e2.fresh f4, (e7.nil.trans e78).dictE m6 (nx2 hx2 f4)⟩
      · have g1 : ∀ a : Addr, H2 a = none → a ≠ tb ∧ a ≠ rk := fun a ha => by
          obtain ⟨_, h⟩ := htb.ob
          obtain ⟨_, h'⟩ := hrk.ob
          exact ⟨fun z => ne_of_none h ha z.symm, fun z => ne_of_none h' ha z.symm⟩
        intro s hs
        match s, hs with
        | 0, _ => exact g1 _ f1
        | 1, _ => exact g1 _ f2
        | 2, _ => exact g1 _ f3
        | 3, _ => exact g1 _ f4
      · intro s t hs ht h
        match s, t, hs, ht with
        | 0, 0, _, _ | 1, 1, _, _ | 2, 2, _, _ | 3, 3, _, _ => rfl
        | 0, 1, _, _ => exact absurd h n12
        | 0, 2, _, _ => exact absurd h n13
        | 0, 3, _, _ => exact absurd h n14
        | 1, 2, _, _ => exact absurd h n23
        | 1, 3, _, _ => exact absurd h n24
        | 2, 3, _, _ => exact absurd h n34
        | 1, 0, _, _ => exact absurd h.symm n12
        | 2, 0, _, _ => exact absurd h.symm n13
        | 3, 0, _, _ => exact absurd h.symm n14
        | 2, 1, _, _ => exact absurd h.symm n23
        | 3, 1, _, _ => exact absurd h.symm n24
        | 3, 2, _, _ => exact absurd h.symm n34
    rintro σ H2 ⟨tt, tb, on, rk, nbg, d, tes, res, o2, o4, o5, o6, rfl, e2, T2, hx2, ⟨ftb, htb, hte⟩, hon, ⟨frk, hrk, hre⟩, ⟨fnb, hnb, hds, hdtr, hdi⟩⟩
    obtain ⟨onv, hon1, hon2⟩ : ∃ vs, H2 on = some (.tup vs) ∧ DtAll H2 vs W.order := by cases hon with | tup a b => exact ⟨_, a, b⟩
    have hlen := hon2.length
    have wl := wn.len
    have nds : ∀ {b : Addr} {o : HO}, H2 b = some o → (∀ s, s < 4 → d s ≠ b) → b ∉ [d 0, d 1, d 2, d 3] := fun _ h => by
      simp only [List.mem_cons, List.not_mem_nil, or_false, not_or]
      exact ⟨fun z => h 0 (by omega) z.symm, fun z => h 1 (by omega) z.symm, fun z => h 2 (by omega) z.symm, fun z => h 3 (by omega) z.symm⟩
    have dob : ∀ s, s < 4 → ∃ es ep, H2 (d s) = some (DO w (d s) es ep) := fun s hs => ⟨_, (hds s hs).2.ob⟩
    have nxd : x ∉ [d 0, d 1, d 2, d 3] := nds hx2 fun s hs z => by
      rw [← z, (hds s hs).1] at hx; cases hx
    have nnb : nbg ∉ [d 0, d 1, d 2, d 3] := nds hnb fun s hs z => by
      obtain ⟨es, ep, q⟩ := dob s hs
      rw [z, hnb] at q; cases q
    have ntb : tb ∉ [d 0, d 1, d 2, d 3] := nds htb.ob.choose_spec fun s hs z => (hdtr s hs).1 z
    have nrk : rk ∉ [d 0, d 1, d 2, d 3] := nds hrk.ob.choose_spec fun s hs z => (hdtr s hs).2 z
    have I0 : NbI K w W d H2 H2 (fun _ => []) 0 0 := ⟨.refl, fun s hs => (hds s hs).2, fun s hs => Nat.zero_le _, fun s hs g => .inl ⟨rfl, by unfold wgc; simp⟩, fun s t g g' l _ _ h => by cases h⟩
    refine ⟨_, rfl, _, _, _, _, _, rfl, hx2, c_TileSet E, na_TileSet_ordered_names E, rfl, on, rfl, ⟨onv, .of hon1⟩, ?_⟩
    refine for_tup (xs := onv) (fun i σ H4 => ∃ (o4 o5 o6 : Option V) (ges : Nat → Es), σ = [some (.ref x), some (.ref tl), o2, none, o4, o5, o6] ∧ NbI K w W d H2 H4 ges i 0) ⟨o4, o5, o6, _, rfl, I0⟩ (fun i σ H4 _ ⟨_, _, _, _, _, h⟩ => .of (h.e.tup hon1)) ?_ ?_
    · rintro i v σ H4 hv ⟨o4, o5, o6, ges, rfl, I⟩
      have hi : i < W.order.length := by have := (List.getElem?_eq_some_iff.mp hv).1; omega
      have hni : W.order[i]? = some W.order[i] := List.getElem?_eq_getElem hi
      have hvd : Dt H2 v W.order[i] := by
        obtain ⟨k, h1, h2⟩ := hon2.get hv
        rw [hni] at h1; cases h1; exact h2
      have hnm := List.mem_of_getElem? hni
      generalize W.order[i] = n at *
      obtain ⟨t, ht, hto⟩ := hte n hnm
      have ntt : t ∉ [d 0, d 1, d 2, d 3] := by
        obtain ⟨dx', vn, v0, v1, v2, v3, h, _⟩ := hto
        exact nds h fun s hs z => by
          obtain ⟨es, ep, q⟩ := dob s hs
          rw [z, h] at q; cases q
      refine ⟨4, rfl, by omega, by omega, ?_⟩
      refine for_range (fun j σ H5 => ∃ (o5 o6 : Option V) (ges : Nat → Es), σ = [some (.ref x), some (.ref tl), o2, none, some v, o5, o6] ∧ NbI K w W d H2 H5 ges i j) ⟨o5, o6, ges, rfl, I⟩ ?_ ?_
      · rintro j σ H5 hj ⟨o5, o6, ges, rfl, I5⟩
        have hx5 := I5.e.at_ hx2 nxd
        have hnb5 := I5.e.at_ hnb nnb
        have hdj : [V.ref (d 0), .ref (d 1), .ref (d 2), .ref (d 3)][j]? = some (.ref (d j)) := by
          match j, hj with
          | 0, _ | 1, _ | 2, _ | 3, _ => rfl
        have hdj : atI [V.ref (d 0), .ref (d 1), .ref (d 2), .ref (d 3)] (0 + (j : Int)) = some (.ref (d j)) := by rw [Int.zero_add]; exact lstAt hdj
        have hnd : n.depth ≤ 8 := (wn.nm n hnm).1.dp
        have htb5 := I5.e.dictE htb ntb
        have hto5 := hto.ext I5.e ntt
        refine ⟨_, rfl, _, _, _, _, _, rfl, hx5, c_TileSet E, na_TileSet_names_by_glue E, rfl, _, rfl, _, _, _, _, rfl, rfl, .of hnb5, hdj, d j, rfl, ⟨_, I5.m j hj⟩, ?_⟩
        refine ⟨_, rfl, _, _, _, _, _, rfl, hx5, c_TileSet E, na_TileSet_tiles_by_name E, rfl, _, rfl, tb, tes, n, _, rfl, htb5, I5.e.dt hvd, hnd, ht, ?_⟩
        obtain ⟨dxt, vnt, v0, v1, v2, v3, hat, _⟩ := id hto5
        refine ⟨t, _, _, rfl, hat, rfl, _, rfl, t, n, W.gl n, j, (by rw [Int.zero_add]; rfl), hto5, hj, fun u H6 e6 hu => ?_⟩
        refine ⟨Nat.zero_le _, fun p hp => ?_⟩
        have I6 := I5.ext0 e6
        have e7 : EX K [] H6 _ := Ext.new (o := .lst []) hp
        have I7 := I6.ext0 e7
        have hgd : (glD (W.gl n j)).depth ≤ 8 := glD_depth (wn.lb n j).2
        have hl7 := I7.len j hj
        rw [if_neg (by omega)] at hl7
        refine ⟨ges j, glD (W.gl n j), I7.m j hj, e7.dt hu, hgd, by rw [sizeLine_eq]; omega, fun vl hvl => ?_, fun hno H8 m8 c8 => ?_⟩
        · obtain ⟨l, vs, q1, q2, q3, q4⟩ := (I7.lk j hj (W.gl n j)).resolve_left (fun z => by rw [hvl] at z; cases z.1)
          rw [hvl] at q1; cases q1
          have hvs := q4.length
          have : (wgc W i j j (W.gl n j)).length ≤ W.order.length := Nat.le_trans (List.length_filter_le _ _) (by rw [List.length_take]; omega)
          exact ⟨_, rfl, tyl q3, _, rfl, _, vs, _, rfl, rfl, q3, by rw [sizeLine_eq]; omega, _, _, ges, rfl, I7.app hj hni (I7.e.dt hvd) hvl q3⟩
        · obtain ⟨q3, I8⟩ := I6.put hj hdi hni (I6.e.dt hvd) hno hp c8 m8
          exact ⟨_, rfl, tyl q3, _, rfl, _, [], _, rfl, rfl, q3, by rw [sizeLine_eq]; exact Nat.zero_lt_succ _, _, _, _, rfl, I8⟩
      · rintro σ H5 ⟨o5, o6, ges, rfl, I5⟩
        exact ⟨_, _, _, ges, rfl, I5.next⟩
    · rintro σ H4 ⟨o4, o5, o6, ges, rfl, I⟩
      have e4 : EX K [x] H H4 := e2.then_ I.e fun b hb => by
        simp only [List.mem_cons, List.not_mem_nil, or_false] at hb
        rcases hb with z | z | z | z <;> rw [z] <;> exact .inl (hds _ (by omega)).1
      refine q H4 e4 (e4.tabs hT) ⟨dx, .ref tt, tb, on, rk, nbg, d, tes, res, ges, I.e.at_ hx2 nxd, ⟨I.e.dictE htb ntb, fun n hn => ?_⟩, I.e.dt hon, ⟨I.e.dictE hrk nrk, hre⟩, I.e.at_ hnb nnb, fun s hs => ⟨I.m s hs, fun g => ?_⟩⟩
      · obtain ⟨t, ht, hto⟩ := hte n hn
        refine ⟨t, ht, hto.ext I.e ?_⟩
        obtain ⟨dx', vn, v0, v1, v2, v3, h, _⟩ := hto
        exact nds h fun s hs z => by
          obtain ⟨es, ep, q⟩ := dob s hs
          rw [z, h] at q; cases q
      · have : wgc W onv.length 0 s g = wg W s g := by
          unfold wgc wg
          rw [if_neg (by omega), hlen, List.take_of_length_le (Nat.le_refl _)]
        rw [← this]
        exact (I.lk s hs g).imp id fun ⟨l, vs, a, b, c, q⟩ => ⟨l, vs, a, c, q⟩
end
end TR
/-! text M1 -/
set_option Elab.async false
set_option linter.all false
set_option maxRecDepth 100000
set_option maxHeartbeats 4000000
/-! what a place is shown, and the bonds as a sum -/
namespace TR
open PySem VD
/-- one side's show -/
def sho (W : Wd) (M : Bd) (p : Pl) (s : Nat) : List (Nat × Gu) := match lkB M (nb p s) with
  | none => []
  | some o => [(s, W.gl o (opp s))]
def shl (W : Wd) (M : Bd) (p : Pl) (k : Nat) : List (Nat × Gu) := (List.range k).flatMap (sho W M p)
def tl (W : Wd) (L : List (Nat × Gu)) (n : D) : Int := (L.map fun x => if W.gl n x.1 = x.2 then x.2.2 else 0).sum
section
variable {W : Wd} {M : Bd} {p : Pl} {n : D} {L : List (Nat × Gu)}
theorem shl_succ {k : Nat} : shl W M p (k + 1) = shl W M p k ++ sho W M p k := by
  unfold shl; rw [List.range_succ, List.flatMap_append]; simp
theorem tl_app {L2 : List (Nat × Gu)} : tl W (L ++ L2) n = tl W L n + tl W L2 n := by
  unfold tl; rw [List.map_append, List.sum_append]
theorem tl_sho {s : Nat} : tl W (sho W M p s) n = bd W M p n s := by
  cases e : lkB M (nb p s) with
  | none =>
    have h1 : sho W M p s = [] := by unfold sho; rw [e]
    have h2 : bd W M p n s = 0 := by unfold bd; rw [e]
    rw [h1, h2]; rfl
  | some o =>
    have h1 : sho W M p s = [(s, W.gl o (opp s))] := by unfold sho; rw [e]
    have h2 : bd W M p n s = if W.gl n s = W.gl o (opp s) then (W.gl n s).2 else 0 := by unfold bd; rw [e]
    rw [h1, h2]
    simp only [tl, List.map_cons, List.map_nil, List.sum_cons, List.sum_nil, Int.add_zero]
    by_cases h : W.gl n s = W.gl o (opp s)
    · rw [if_pos h, if_pos h, h]
    · rw [if_neg h, if_neg h]
theorem bonds_tl : bonds W M p n = tl W (shl W M p 4) n := by
  rw [shl_succ, shl_succ, shl_succ, shl_succ, tl_app, tl_app, tl_app, tl_app, tl_sho, tl_sho, tl_sho, tl_sho]
  unfold bonds
  have : tl W (shl W M p 0) n = 0 := rfl
  omega
theorem shl_mem {x : Nat × Gu} : ∀ {k : Nat}, x ∈ shl W M p k → x.1 < k ∧ ∃ o, lkB M (nb p x.1) = some o ∧ x.2 = W.gl o (opp x.1)
  | 0, h => by cases h
  | k + 1, h => by
    rw [shl_succ, List.mem_append] at h
    rcases h with h | h
    · obtain ⟨a, b⟩ := shl_mem h
      exact ⟨by omega, b⟩
    · unfold sho at h
      split at h
      · cases h
      · rename_i o e
        rw [List.mem_singleton] at h
        subst h
        exact ⟨by show k < k + 1; omega, o, e, rfl⟩
theorem shl_len : ∀ {k : Nat}, (shl W M p k).length ≤ k
  | 0 => Nat.le_refl _
  | k + 1 => by
    rw [shl_succ, List.length_append]
    have h1 : (shl W M p k).length ≤ k := shl_len
    have h2 : (sho W M p k).length ≤ 1 := by unfold sho; split <;> simp
    omega
theorem tl_nonneg (w : WOk W) (h : ∀ x ∈ L, 0 ≤ x.2.2) : 0 ≤ tl W L n := by
  induction L with
  | nil => exact Int.le_refl _
  | cons a L ih =>
    have e : tl W (a :: L) n = (if W.gl n a.1 = a.2 then a.2.2 else 0) + tl W L n := rfl
    have h1 := ih fun x hx => h x (List.mem_cons_of_mem _ hx)
    have h2 := h a List.mem_cons_self
    rw [e]
    split <;> omega
end
theorem nodup_len {α : Type} [BEq α] [LawfulBEq α] : ∀ {l m : List α}, l.Nodup → (∀ x ∈ l, x ∈ m) → l.length ≤ m.length
  | [], _, _, _ => Nat.zero_le _
  | a :: l, m, nd, h => by
    rw [List.nodup_cons] at nd
    have ha : a ∈ m := h a List.mem_cons_self
    have := nodup_len (l := l) (m := m.erase a) nd.2 fun x hx => (List.mem_erase_of_ne (fun z => nd.1 (by rw [← z]; exact hx))).mpr (h x (List.mem_cons_of_mem _ hx))
    rw [List.length_erase_of_mem ha] at this
    have h0 := List.length_pos_of_mem ha
    simp only [List.length_cons]; omega
theorem cand_len (M : Bd) : (cand M).length = 4 * M.length := by
  unfold cand
  induction M with
  | nil => rfl
  | cons a M ih => rw [List.flatMap_cons, List.length_append, ih]; simp; omega
theorem fr1_cand {W : Wd} {M : Bd} {p : Pl} (h : Fr1 W M p) : p ∈ cand M := by
  obtain ⟨s, hs, hn⟩ := fit_near h.2
  cases e : lkB M (nb p s) with
  | none => exact absurd e hn
  | some o => exact List.mem_flatMap.mpr ⟨_, lkB_mem e, List.mem_map.mpr ⟨opp s, List.mem_range.mpr opp_lt, nb_opp p hs⟩⟩
/-- without p -/
def drB (M : Bd) (p : Pl) : Bd := M.filter fun x => decide (x.1 ≠ p)
theorem lkB_drop {M : Bd} {p q : Pl} : lkB (drB M p) q = if q = p then none else lkB M q := by
  induction M with
  | nil => simp [drB, lkB]
  | cons a M ih =>
    unfold drB at ih ⊢
    rw [List.filter_cons]
    by_cases h : a.1 = p
    · rw [if_neg (by simp [h]), ih, lkB_cons]
      by_cases hq : q = p
      · rw [if_pos hq, if_pos hq]
      · rw [if_neg hq, if_neg hq, if_neg (fun z => hq (by rw [← z, h]))]
    · rw [if_pos (by simp [h]), lkB_cons, lkB_cons, ih]
      by_cases hq : a.1 = q
      · rw [if_pos hq, if_neg (by rw [← hq]; exact h), if_pos hq]
      · rw [if_neg hq, if_neg hq]
theorem bal_drop {M : Bd} {p : Pl} : dropA (bal M) (plD p) = bal (drB M p) := by
  unfold dropA bal drB
  rw [List.filter_map]
  congr 1
  refine List.filter_congr fun x _ => ?_
  show decide (plD x.1 ≠ plD p) = decide (x.1 ≠ p)
  by_cases h : x.1 = p
  · rw [h]; simp
  · rw [decide_eq_true h]; exact decide_eq_true (fun z => h (plD_inj z))
theorem bal_put {M : Bd} {p : Pl} {n : D} (h : lkB M p = none) : putA (bal M) (plD p) n = bal (M ++ [(p, n)]) := by
  rw [putA_new (by rw [lkA_bal]; exact h)]
  unfold bal
  rw [List.map_append]; rfl
/-- what `coming` says of a place -/
def due (W : Wd) (M : Bd) (p : Pl) : Option D := if lkB M p = none ∧ fit W M p ≠ [] then some (.tup (fit W M p)) else none
theorem due_some {W : Wd} {M : Bd} {p : Pl} (h : Fr1 W M p) : due W M p = some (.tup (fit W M p)) := if_pos h
theorem due_none {W : Wd} {M : Bd} {p : Pl} (h : ¬ Fr1 W M p) : due W M p = none := if_neg h
theorem due_congr {W : Wd} {M N : Bd} {p : Pl} (h0 : lkB M p = lkB N p) (h : ∀ s, s < 4 → lkB M (nb p s) = lkB N (nb p s)) : due W M p = due W N p := by
  unfold due; rw [h0, fit_congr h]
/-- a bed that differs at p only: what may come elsewhere is as it was -/
theorem due_far {W : Wd} {M N : Bd} {p q : Pl} (h : ∀ r, r ≠ p → lkB M r = lkB N r) (hq : q ≠ p) (hn : ∀ s, s < 4 → q ≠ nb p s) : due W M q = due W N q :=
  due_congr (h q hq) fun s hs => h _ fun z => hn (opp s) opp_lt (by rw [← z, nb_opp q hs])
end TR
/-! text F9 -/
set_option Elab.async false
set_option linter.all false
set_option maxRecDepth 100000
set_option maxHeartbeats 4000000
/-! beds -/
namespace TR
open PySem PySem.Spec PyProof.Rows L2 VD
abbrev CBed (K : PySem.W.Frag) : Addr := He.ga K "Bed"
structure BA where
  b : Addr
  dx : Addr
  ts : Addr
  ly : Addr
  cm : Addr
  vp : V
  vn : V
def BedO (K : PySem.W.Frag) (H : Hp) (B : BA) : Prop := H B.b = some (.ins (CBed K) B.dx [("tile_set", .ref B.ts), ("seed_place", B.vp), ("seed_name", B.vn), ("lying", .ref B.ly), ("coming", .ref B.cm)])
/-- what may come, but for the places of `bad` -/
def ComI (w : World) (H : Hp) (d : Addr) (W : Wd) (M : Bd) (bad : List Pl) : Prop := ∃ cal : AL, DictA w H d cal ∧ (∀ k ∈ cal.map (·.1), ∃ p, k = plD p) ∧ ∀ p, p ∉ bad → lkA cal (plD p) = due W M p
structure BedI (K : PySem.W.Frag) (w : World) (Z H : Hp) (B : BA) (W : Wd) (M : Bd) (sd : Pl) (bad : List Pl) : Prop where
  o : BedO K H B
  fz : Frz Z H
  ts : TSO K w Z B.ts W
  wn : WNice W
  ly : DictA w H B.ly (bal M)
  cm : ComI w H B.cm W M bad
  ne : B.ly ≠ B.cm
  zly : Z B.ly = none
  zcm : Z B.cm = none
  vp : Dt H B.vp (plD sd)
  vn : ∃ n, Dt H B.vn n ∧ n ∈ W.order
  mo : ∀ x ∈ M, x.2 ∈ W.order
  len : M.length ≤ 1000
section
variable {P : Program} {w : World} {K : PySem.W.Frag} {mg : Str → Option Value} {base : Heap} {Z H H1 : Hp} {B : BA} {W : Wd} {M : Bd} {sd : Pl} {bad : List Pl}
theorem ComI.ext {d : Addr} {S : List Addr} (h : ComI w H d W M bad) (e : EX K S H H1) (hd : d ∉ S) : ComI w H1 d W M bad := let ⟨cal, a, b, f⟩ := h; ⟨cal, a.ext e hd, b, f⟩
theorem ComI.len {cal : AL} (nd : (cal.map (·.1)).Nodup) (hk : ∀ k ∈ cal.map (·.1), ∃ p, k = plD p) (h : ∀ p, p ∉ bad → lkA cal (plD p) = due W M p) : cal.length ≤ bad.length + 4 * M.length := by
  have := nodup_len (l := cal.map (·.1)) (m := (bad ++ cand M).map plD) nd fun k hkm => by
    obtain ⟨p, rfl⟩ := hk k hkm
    refine List.mem_map.mpr ⟨p, ?_, rfl⟩
    by_cases hb : p ∈ bad
    · exact List.mem_append.mpr (.inl hb)
    · refine List.mem_append.mpr (.inr (fr1_cand (W := W) ?_))
      by_cases hf : Fr1 W M p
      · exact hf
      · have h2 := h p hb
        rw [due_none hf] at h2
        exact absurd hkm (lkA_none.mp h2)
  rw [List.length_map, List.length_map, List.length_append, cand_len] at this
  exact this
theorem BedI.ext {S : List Addr} (h : BedI K w Z H B W M sd bad) (e : EX K S H H1) (hz : ∀ b ∈ S, Z b = none) (h1 : B.b ∉ S) (h2 : B.ly ∉ S) (h3 : B.cm ∉ S) : BedI K w Z H1 B W M sd bad :=
  ⟨e.at_ h.o h1, h.fz.ext e hz, h.ts, h.wn, h.ly.ext e h2, h.cm.ext e h3, h.ne, h.zly, h.zcm, e.dt h.vp, let ⟨n, a, b⟩ := h.vn; ⟨n, e.dt a, b⟩, h.mo, h.len⟩
theorem BedI.ext0 (h : BedI K w Z H B W M sd bad) (e : EX K [] H H1) : BedI K w Z H1 B W M sd bad := h.ext e (by simp) (by simp) (by simp) (by simp)
theorem BedI.order (h : BedI K w Z H B W M sd bad) {p : Pl} {n : D} (q : lkB M p = some n) : n ∈ W.order := h.mo _ (lkB_mem q)
theorem BedI.nlt (h : BedI K w Z H B W M sd bad) : (bal M).length = M.length := by unfold bal; rw [List.length_map]
theorem plD_d {p : Pl} : (plD p).depth ≤ 8 := by simp [plD, NestedKey.depth, NestedKey.depthAll]
theorem TSO.obj {a : Addr} (h : TSO K w H a W) : ∃ dx fs, H a = some (.ins (CTS K) dx fs) ∧ fs.lookup ("tile_of" : Str) = none ∧ fs.lookup ("with_glue" : Str) = none ∧ fs.lookup ("in_order" : Str) = none := by
  obtain ⟨dx, tl, tb, on, rk, nbg, d, tes, res, ges, h, _⟩ := h
  exact ⟨_, _, h, rfl, rfl, rfl⟩
theorem BedI.tsH (h : BedI K w Z H B W M sd bad) : TSO K w H B.ts W := h.ts.up h.fz.sub
theorem and_opp {i : Nat} (h : i < 4) : Builtin.bitAnd ((0 : Int) + i + 2) 3 = (opp i : Nat) ∧ Builtin.bitAnd ((i : Int) + 2) 3 = (opp i : Nat) := by
  match i, h with
  | 0, _ | 1, _ | 2, _ | 3, _ => exact ⟨rfl, rfl⟩
def shD (x : Nat × Gu) : D := .tup [.num x.1, glD x.2]
def spShown (K : PySem.W.Frag) (w : World) : Sp := fun vs H Q _ => ∃ (B : BA) (v : V) (p : Pl) (W : Wd) (Z : Hp) (M : Bd) (sd : Pl) (bad : List Pl), vs = [.ref B.b, v] ∧ BedI K w Z H B W M sd bad ∧ Dt H v (plD p) ∧
  ∀ l ys H1, EX K [] H H1 → H1 l = some (.lst ys) → DtAll H1 ys ((shl W M p 4).map shD) → Q (.ref l) H1
theorem ok_Bed_shown_glues (E : Ev K mg base) : Does P w K mg base L2.CX0 5 (He.ma K (He.ga K "Bed") "shown_glues") ["self", "place"] (spShown K w) :=
  E.does0 (k := 4) ix_Bed_shown_glues rfl bn_Bed_shown_glues sc_Bed_shown_glues (fun _ _ _ _ ⟨_, _, _, _, _, _, _, _, h, _⟩ => by rw [h]; rfl) fun cdv A outer s H vs Q X hr h => by
    obtain ⟨B, v, p, W, Z, M, sd, bad, rfl, I, hv, q⟩ := h
    refine ⟨_, (pss_cons (ps_set (i := 2) sc_Bed_shown_glues.nd rfl (by first | exact Or.inl rfl | exact Or.inr rfl) (pe_lst pa_nil))
      (pss_cons (ps_for PassesOwn.never rfl (pi_enumT (by rfl) (u_enumerate E) (pa_cons (pe_do (ok_beside E) (hr.mono (by decide)) (by rfl) (g_beside E) pass0 (pa_cons (pv 1) pa_nil)) pa_nil)) (pg_tupK (K := K) (n := 2) rfl rfl (pgs_cons (pg_name (i := 3) sc_Bed_shown_glues.nd rfl (by first | exact Or.inl rfl | exact Or.inr rfl)) (pgs_cons (pg_name (i := 4) sc_Bed_shown_glues.nd rfl (by first | exact Or.inl rfl | exact Or.inr rfl)) pgs_nil)))
        (pss_one (ps_if (pt_cmp (pc_xin hr (pv 4) (pe_fld (pv 0) rfl)))
        (pss_cons (ps_set (i := 5) sc_Bed_shown_glues.nd rfl (by first | exact Or.inl rfl | exact Or.inr rfl) (pe_doM (pe_fld (pv 0) rfl) (c_TileSet E) (m_TileSet_tile_of E) (ok_TileSet_tile_of E) (hr.mono (by decide)) pass0 (pa_cons (pe_xget hr (pe_fld (pv 0) rfl) (pv 4) (fun _ _ => rfl)) pa_nil)))
      (pss_one (ps_expr (pe_bm PySem.F.plainAttrs_list PySem.F.slot_list_append PySem.F.type_list_append mt_append (pv 2) (pa_cons (pe_tup (pa_cons (pv 3) (pa_cons (pe_doM (pv 5) (c_Tile E) (m_Tile_glue_at E) (ok_Tile_glue_at E) (hr.mono (by decide)) pass0 (pa_cons (pe_op op_and (pe_op op_add (pv 3) pe_int) pe_int) pa_nil)) pa_nil))) pa_nil)))))
        pss_nil)))
      (pss_one (ps_ret (pv 2))))), ?_⟩
    refine ⟨Nat.zero_le _, fun l hl => ?_⟩
    have e1 : EX K [] H _ := Ext.new (o := .lst []) hl
    refine ⟨_, rfl, v, p, rfl, e1.dt hv, fun t H2 e2 ht => ?_⟩
    obtain ⟨t', x, y, z, u, e, ht2, hx, hy, hz, hu⟩ := tup4 ht
    cases e
    have e12 := e1.trans e2
    have hl2 := e2.at0 (upd_same : (upd H l (.lst [])) l = some (.lst []))
    refine ⟨t, [x, y, z, u], rfl, .of ht2, ?_⟩
    have hel : ∀ (i : Nat) (c : V), [x, y, z, u][i]? = some c → i < 4 ∧ Dt H2 c (plD (nb p i)) := by
      intro i c h
      match i, h with
      | 0, h => cases h; exact ⟨by omega, hx⟩
      | 1, h => cases h; exact ⟨by omega, hy⟩
      | 2, h => cases h; exact ⟨by omega, hz⟩
      | 3, h => cases h; exact ⟨by omega, hu⟩
    refine for_enumT (xs := [x, y, z, u]) (fun i σ H3 => ∃ (o3 o4 o5 : Option V) (ys : List V), σ = [some (.ref B.b), some v, some (.ref l), o3, o4, o5] ∧ EX K [l] H2 H3 ∧ H3 l = some (.lst ys) ∧ DtAll H3 ys ((shl W M p i).map shD))
      ⟨none, none, none, [], rfl, .refl, hl2, .nil⟩ (fun i σ H3 _ ⟨_, _, _, _, _, e, _⟩ => .of (e.tup ht2)) ?_ ?_
    · rintro i c σ H3 T hc ⟨o3, o4, o5, ys, rfl, e3, hl3, hy3⟩ hT
      obtain ⟨hi, hcd⟩ := hel i c hc
      have e34 : EX K [l] H3 (upd H3 T (.tup [.int (i : Nat), c])) := Ext.new hT
      have I3 := ((I.ext0 e12).ext e3 (fun b hb => by rw [List.mem_singleton.mp hb]; exact I.fz.none_ hl) (by
        rw [List.mem_singleton]; exact ne_of_none I.o hl) (by
        rw [List.mem_singleton]; obtain ⟨o, h⟩ := I.ly.some; exact ne_of_none h hl) (by
        rw [List.mem_singleton]; obtain ⟨c, h, _⟩ := I.cm; obtain ⟨o, h⟩ := h.some; exact ne_of_none h hl)).ext0 (Ext.new (o := .tup [.int (i : Nat), c]) hT)
      have hl4 := (Ext.new (T := TabK K) (S := []) (o := .tup [.int (i : Nat), c]) hT).at0 hl3
      have hc4 := e34.dt (e3.dt hcd)
      have hy4 := e34.dts hy3
      obtain ⟨es, hes, hps⟩ := I3.ly
      refine ⟨_, _, rfl, .of upd_same, rfl, _, _, rfl, _, _, rfl, rfl, ?_⟩
      refine ⟨_, rfl, _, rfl, _, _, _, _, _, rfl, I3.o, c_Bed E, na_Bed_lying E, rfl, B.ly, es, plD (nb p i), rfl, hes, hc4, plD_d, _, rfl, ?_⟩
      rcases hps.look (plD (nb p i)) with ⟨k1, k2⟩ | ⟨n, vn, k1, k2, k3⟩
      · rw [k2]
        refine iteF ?_
        rw [lkA_bal] at k1
        refine ⟨_, _, _, ys, rfl, e3.trans e34, hl4, ?_⟩
        rw [shl_succ, show sho W M p i = [] by unfold sho; rw [k1], List.append_nil]
        exact hy4
      · rw [k2]
        rw [lkA_bal] at k1
        have hno := I.order k1
        refine iteT ?_
        obtain ⟨dxs, fs, hts, lk1, lk2, lk3⟩ := I3.tsH.obj
        refine ⟨_, rfl, _, _, _, _, _, rfl, I3.o, c_Bed E, na_Bed_tile_set E, rfl, _, _, _, rfl, hts, lk1, ?_⟩
        refine ⟨_, rfl, _, _, _, _, _, rfl, I3.o, c_Bed E, na_Bed_lying E, rfl, _, rfl, B.ly, es, plD (nb p i), _, rfl, hes, hc4, plD_d, k2, ?_⟩
        refine ⟨B.ts, vn, n, W, Z, rfl, I3.fz, I3.ts, I3.wn, k3, hno, fun t hto => ?_⟩
        obtain ⟨dxt, vnt, v0, v1, v2, v3, hat, _⟩ := id hto
        refine ⟨_, rfl, tyl hl4, _, rfl, _, rfl, t, _, _, rfl, hat, rfl, _, rfl, _, _, rfl, rfl, _, _, rfl, rfl, ?_⟩
        refine ⟨t, n, W.gl n, opp i, congrArg (fun z => [V.ref t, V.int z]) (and_opp hi).2, hto, opp_lt, fun g H5 e5 hg => ?_⟩
        refine ⟨sz2, fun u hu => ?_⟩
        have e6 : EX K [] H5 _ := Ext.new (o := .tup [.int (i : Nat), g]) hu
        have e46 := e5.trans e6
        have hl6 := e46.at0 hl4
        have hys := hy4.length
        rw [List.length_map] at hys
        have hsl := shl_len (W := W) (M := M) (p := p) (k := i)
        refine ⟨l, ys, _, rfl, rfl, hl6, by rw [sizeLine_eq]; omega, ?_⟩
        have e7 : EX K [l] _ _ := (e46.nil (S := [l])).lst (ys := ys ++ [.ref u]) hl6 (.inr (by simp))
        have e67 : EX K [l] _ (upd _ l (.lst (ys ++ [.ref u]))) := Ext.refl.lst hl6 (.inr (by simp))
        refine ⟨_, _, _, ys ++ [.ref u], rfl, (e3.trans e34).trans e7, upd_same, ?_⟩
        rw [shl_succ, show sho W M p i = [(i, W.gl n (opp i))] by unfold sho; rw [k1], List.map_append]
        exact (e7.dts hy4).app (.cons (e67.dt (Dt.new hu (.cons (.int _) (.cons hg .nil)))) .nil)
    · rintro σ H3 ⟨o3, o4, o5, ys, rfl, e3, hl3, hy3⟩
      refine ⟨_, rfl, q l ys H3 ?_ hl3 hy3⟩
      exact e12.then1 e3 (.inl hl)
end
end TR
/-! text FA -/
set_option Elab.async false
set_option linter.all false
set_option maxRecDepth 100000
set_option maxHeartbeats 4000000
/-! beds: bonds, check_empty -/
namespace TR
open PySem PySem.Spec PyProof.Rows L2 VD
section
variable {P : Program} {w : World} {K : PySem.W.Frag} {mg : Str → Option Value} {base : Heap} {Z H H1 : Hp} {B : BA} {W : Wd} {M : Bd} {sd : Pl} {bad : List Pl}
theorem eqD2 {x y : V} {a b : D} {Q : VK} (h1 : Dt H x a) (h2 : Dt H y b) (n1 : Nice a) (n2 : Nice b) (q : Q (.bl (decide (a = b))) H) : rEqD K x y H Q :=
  ⟨a.data, b.data, Dt.dp _ _ h1, Dt.dp _ _ h2, shaped_data n1, shaped_data n2, by rw [eqv_dec]; exact q⟩
theorem neD2 {x y : V} {a b : D} {Q : VK} (h1 : Dt H x a) (h2 : Dt H y b) (n1 : Nice a) (n2 : Nice b) (q : Q (.bl (decide (a ≠ b))) H) : rNeD K x y H Q :=
  ⟨a.data, b.data, Dt.dp _ _ h1, Dt.dp _ _ h2, shaped_data n1, shaped_data n2, by rw [eqv_dec, ← decide_not]; exact q⟩
theorem glD_nice {g : Gu} (h : Nice g.1) (h6 : g.1.depth ≤ 6) : Nice (glD g) := by
  refine ⟨glD_depth h6, ?_⟩
  have := h.ly
  simp [glD, NestedKey.data, NestedKey.datas, PyData.canLay0, PyData.canLayAll0, this]
theorem plD_nice {p : Pl} : Nice (plD p) := ⟨plD_d, by simp [plD, NestedKey.data, NestedKey.datas, PyData.canLay0, PyData.canLayAll0]⟩
theorem BedI.gl (h : BedI K w Z H B W M sd bad) (n : D) (s : Nat) : Nice (glD (W.gl n s)) := glD_nice (h.wn.lb n s).1 (h.wn.lb n s).2
theorem BedI.nm (h : BedI K w Z H B W M sd bad) {n : D} (hn : n ∈ W.order) : Nice n := (h.wn.nm n hn).1
def spBonds (K : PySem.W.Frag) (w : World) : Sp := fun vs H Q _ => ∃ (B : BA) (v vn : V) (p : Pl) (n : D) (W : Wd) (Z : Hp) (M : Bd) (sd : Pl) (bad : List Pl), vs = [.ref B.b, v, vn] ∧ BedI K w Z H B W M sd bad ∧ Dt H v (plD p) ∧ Dt H vn n ∧ n ∈ W.order ∧
  ∀ H1, EX K [] H H1 → Q (.int (bonds W M p n)) H1
theorem shD_tup {v : V} {x : Nat × Gu} (h : Dt H v (shD x)) : ∃ t u, v = .ref t ∧ H t = some (.tup [.int x.1, u]) ∧ Dt H u (glD x.2) := by
  obtain ⟨t, a, u, h1, h2, h3, h4⟩ := tup2 h
  rw [dt_int h3] at h2
  exact ⟨t, u, h1, h2, h4⟩
theorem tl_take {L : List (Nat × Gu)} {i : Nat} {x : Nat × Gu} {n : D} (h : L[i]? = some x) : tl W (L.take (i + 1)) n = tl W (L.take i) n + if W.gl n x.1 = x.2 then x.2.2 else 0 := by
  rw [List.take_add_one, h, tl_app]
  congr 1
  simp [tl]
theorem ok_Bed_bonds (E : Ev K mg base) : Does P w K mg base L2.CX0 6 (He.ma K (He.ga K "Bed") "bonds") ["self", "place", "name"] (spBonds K w) :=
  E.does0 (k := 5) ix_Bed_bonds rfl bn_Bed_bonds sc_Bed_bonds (fun _ _ _ _ ⟨_, _, _, _, _, _, _, _, _, _, h, _⟩ => by rw [h]; rfl) fun cdv A outer s H vs Q X hr h => by
    obtain ⟨B, v, vn, p, n, W, Z, M, sd, bad, rfl, I, hv, hvn, hn, q⟩ := h
    refine ⟨_, (pss_cons (ps_expr (pe_do (ok_check_place E) (hr.mono (by decide)) (by rfl) (g_check_place E) pass0 (pa_cons (pv 1) pa_nil)))
      (pss_cons (ps_set (i := 3) sc_Bed_bonds.nd rfl (by first | exact Or.inl rfl | exact Or.inr rfl) (pe_doM (pe_fld (pv 0) rfl) (c_TileSet E) (m_TileSet_tile_of E) (ok_TileSet_tile_of E) (hr.mono (by decide)) pass0 (pa_cons (pv 2) pa_nil)))
      (pss_cons (ps_set (i := 4) sc_Bed_bonds.nd rfl (by first | exact Or.inl rfl | exact Or.inr rfl) pe_int)
      (pss_cons (ps_for PassesOwn.never rfl (pi_list (pe_doM (pv 0) (c_Bed E) (m_Bed_shown_glues E) (ok_Bed_shown_glues E) (hr.mono (by decide)) pass0 (pa_cons (pv 1) pa_nil))) (pg_tupK (K := K) (n := 2) rfl rfl (pgs_cons (pg_name (i := 5) sc_Bed_bonds.nd rfl (by first | exact Or.inl rfl | exact Or.inr rfl)) (pgs_cons (pg_tupK (K := K) (n := 2) rfl rfl (pgs_cons (pg_name (i := 6) sc_Bed_bonds.nd rfl (by first | exact Or.inl rfl | exact Or.inr rfl)) (pgs_cons (pg_name (i := 7) sc_Bed_bonds.nd rfl (by first | exact Or.inl rfl | exact Or.inr rfl)) pgs_nil))) pgs_nil)))
        (pss_one (ps_if (pt_cmpR (op_eqD hr.units) (pe_doM (pv 3) (c_Tile E) (m_Tile_glue_at E) (ok_Tile_glue_at E) (hr.mono (by decide)) pass0 (pa_cons (pv 5) pa_nil)) (pe_tup (pa_cons (pv 6) (pa_cons (pv 7) pa_nil))) (nomark _))
        (pss_one (ps_aug (i := 4) sc_Bed_bonds.nd rfl (by first | exact Or.inl rfl | exact Or.inr rfl) (pv 7) ip_add))
        pss_nil)))
      (pss_one (ps_ret (pv 4))))))), ?_⟩
    obtain ⟨dxs, fs, hts, lk1, lk2, lk3⟩ := I.tsH.obj
    refine ⟨_, rfl, v, p, rfl, hv, ?_⟩
    refine ⟨_, rfl, _, _, _, _, _, rfl, I.o, c_Bed E, na_Bed_tile_set E, rfl, _, _, _, rfl, hts, lk1, _, rfl, ?_⟩
    refine ⟨B.ts, vn, n, W, Z, rfl, I.fz, I.ts, I.wn, hvn, hn, fun t hto => ?_⟩
    refine ⟨_, rfl, B.b, _, _, rfl, I.o, rfl, _, rfl, ?_⟩
    refine ⟨B, v, p, W, Z, M, sd, bad, rfl, I, hv, fun l ys H2 e2 hl hy => ?_⟩
    refine ⟨l, rfl, ⟨ys, .of hl⟩, ?_⟩
    have hto2 : TileO K H2 t n (W.gl n) := hto.ext e2 (by simp)
    have hlen := hy.length
    rw [List.length_map] at hlen
    refine for_list (fun i σ H3 => ∃ (o5 o6 o7 : Option V), σ = [some (.ref B.b), some v, some vn, some (.ref t), some (.int (tl W ((shl W M p 4).take i) n)), o5, o6, o7] ∧ EX K [] H2 H3)
      ⟨none, none, none, rfl, .refl⟩ (fun i σ H3 _ ⟨_, _, _, _, e⟩ => .of (e.at0 hl)) ?_ ?_
    · rintro i c σ H3 hc ⟨o5, o6, o7, rfl, e3⟩
      obtain ⟨k, hk, hcd⟩ := hy.get hc
      obtain ⟨x, hx, rfl⟩ := Option.map_eq_some_iff.mp (by rw [← List.getElem?_map]; exact hk)
      obtain ⟨tc, u, rfl, htc, hu⟩ := shD_tup (e3.dt hcd)
      obtain ⟨tg, lb, rfl, htg, hlb⟩ := gl_tup hu
      obtain ⟨hx1, o, ho1, ho2⟩ := shl_mem (List.mem_of_getElem? hx)
      refine ⟨_, _, rfl, .of htc, rfl, _, _, rfl, _, _, rfl, ⟨_, _, rfl, .of htg, rfl, _, _, rfl, _, _, rfl, rfl, rfl, ?_⟩⟩
      obtain ⟨dxt, vnt, v0, v1, v2, v3, hat, _⟩ := id (hto2.ext e3 (by simp))
      refine ⟨_, rfl, t, _, _, rfl, hat, rfl, _, rfl, t, n, W.gl n, x.1, rfl, hto2.ext e3 (by simp), hx1, fun g H5 e5 hg => ?_⟩
      refine ⟨_, rfl, _, rfl, sz2, fun u' hu' => ?_⟩
      have e6 : EX K [] H5 _ := Ext.new (o := .tup [lb, .int x.2.2]) hu'
      refine eqD2 (e6.dt hg) (Dt.new (ks := [x.2.1, .num x.2.2]) hu' (.cons (e5.dt hlb) (.cons (.int _) .nil))) (I.gl n x.1) (by rw [ho2]; exact I.gl o _) ⟨_, rfl, ?_⟩
      have e36 := e3.trans (e5.trans e6)
      have htk := tl_take (W := W) (n := n) hx
      by_cases hg2 : W.gl n x.1 = x.2
      · rw [if_pos hg2] at htk
        rw [decide_eq_true (by rw [hg2]; rfl)]
        refine iteT ⟨_, rfl, _, rfl, _, _, rfl, rfl, ?_⟩
        refine ⟨some (.int x.1), some lb, some (.int x.2.2), ?_, e36⟩
        rw [htk]; rfl
      · rw [if_neg hg2, Int.add_zero] at htk
        rw [show decide (glD (W.gl n x.1) = NestedKey.tup [x.2.1, .num x.2.2]) = false from decide_eq_false (fun z => hg2 (glD_inj z))]
        refine iteF ?_
        refine ⟨some (.int x.1), some lb, some (.int x.2.2), ?_, e36⟩
        rw [htk]; rfl
    · rintro σ H3 ⟨o5, o6, o7, rfl, e3⟩
      have ht : (shl W M p 4).take ys.length = shl W M p 4 := by rw [hlen, List.take_length]
      rw [ht, ← bonds_tl]
      exact ⟨_, rfl, q H3 (e2.trans e3)⟩
def spChkE (K : PySem.W.Frag) (w : World) : Sp := fun vs H Q _ => ∃ (B : BA) (v vn : V) (p : Pl) (n : D) (W : Wd) (Z : Hp) (M : Bd) (sd : Pl) (bad : List Pl), vs = [.ref B.b, v, vn] ∧ BedI K w Z H B W M sd bad ∧ Dt H v (plD p) ∧ Dt H vn n ∧ n ∈ W.order ∧ lkB M p = none ∧
  Q .non H
theorem ok_Bed_check_empty (E : Ev K mg base) : Does P w K mg base L2.CX0 4 (He.ma K (He.ga K "Bed") "check_empty") ["self", "place", "name"] (spChkE K w) :=
  E.does0 (k := 3) ix_Bed_check_empty rfl bn_Bed_check_empty sc_Bed_check_empty (fun _ _ _ _ ⟨_, _, _, _, _, _, _, _, _, _, h, _⟩ => by rw [h]; rfl) fun cdv A outer s H vs Q X hr h => by
    obtain ⟨B, v, vn, p, n, W, Z, M, sd, bad, rfl, I, hv, hvn, hn, hp, q⟩ := h
    refine ⟨_, (pss_cons (ps_expr (pe_do (ok_check_place E) (hr.mono (by decide)) (by rfl) (g_check_place E) pass0 (pa_cons (pv 1) pa_nil)))
      (pss_cons (ps_expr (pe_doM (pe_fld (pv 0) rfl) (c_TileSet E) (m_TileSet_tile_of E) (ok_TileSet_tile_of E) (hr.mono (by decide)) pass0 (pa_cons (pv 2) pa_nil)))
      (pss_one (ps_if (pt_cmp (pc_xin hr (pv 1) (pe_fld (pv 0) rfl)))
        (pss_one ps_never)
        pss_nil)))), ?_⟩
    obtain ⟨dxs, fs, hts, lk1, lk2, lk3⟩ := I.tsH.obj
    obtain ⟨es, hes, hps⟩ := I.ly
    refine ⟨_, rfl, v, p, rfl, hv, ?_⟩
    refine ⟨_, rfl, _, _, _, _, _, rfl, I.o, c_Bed E, na_Bed_tile_set E, rfl, _, _, _, rfl, hts, lk1, _, rfl, ?_⟩
    refine ⟨B.ts, vn, n, W, Z, rfl, I.fz, I.ts, I.wn, hvn, hn, fun t hto => ?_⟩
    refine ⟨_, rfl, _, rfl, _, _, _, _, _, rfl, I.o, c_Bed E, na_Bed_lying E, rfl, B.ly, es, plD p, rfl, hes, hv, plD_d, _, rfl, ?_⟩
    rw [hps.none_ (by rw [lkA_bal]; exact hp)]
    exact iteF q
end
end TR
/-! text C3 -/
set_option Elab.async false
set_option linter.all false
set_option maxRecDepth 100000
set_option maxHeartbeats 4000000
/-! rules for blocks: the module and the world are named -/
namespace TR
open PySem PySem.Spec PyProof.Rows L2 VD
section
variable {X : Cx} {K : PySem.W.Frag} {w : World} {e o i : Expr} {f : Str} {pos : Pos} {ta td ty : TE} {k : Nat}
theorem pe_fldK (hK : X.K = K) (he : PE X e ta) (hb : attributeBase e f X.env (eval e X.env) = eval e X.env) : PE X (.Attribute e f pos) (tFld K ta f) := by subst hK; exact pe_fld he hb
theorem pe_xgetZ (hw : X.w = w) (ho : PE X o td) (hi : PE X i ty) (hs : NoSl i) (hr : Room k X.A) : PE X (.Subscript o i pos) (tXGet w td ty) := by subst hw; exact pe_xget hr ho hi hs
theorem pc_xinZ (hw : X.w = w) (hi : PE X i ty) (ho : PE X o td) (hr : Room k X.A) : PC X .In i o (tXIn w ty td) := by subst hw; exact pc_xin hr hi ho
theorem pc_xnotinZ (hw : X.w = w) (hi : PE X i ty) (ho : PE X o td) (hr : Room k X.A) : PC X .NotIn i o (tXNotIn w ty td) := by subst hw; exact pc_xnotin hr hi ho
theorem ix_tupK (hK : X.K = K) : IxR X (rIxT K) := by subst hK; exact ix_tup
theorem ix_listK (hK : X.K = K) : IxR X (rIxL K) := by subst hK; exact ix_list
theorem ix_seqK (hK : X.K = K) : IxR X (rIx K) := by subst hK; exact ix_seq
theorem op_inDK (hK : X.K = K) (hu : X.A.units + 65 < cLine) : OpR X (compareOp .In) (rInD K) := by subst hK; exact op_inD hu
theorem op_notInDK (hK : X.K = K) (hu : X.A.units + 65 < cLine) : OpR X (compareOp .NotIn) (rNotInD K) := by subst hK; exact op_notInD hu
theorem op_eqDK (hK : X.K = K) (hu : X.A.units + 64 < cLine) : OpR X (compareOp .Eq) (rEqD K) := by subst hK; exact op_eqD hu
theorem pi_tupK {tg l : Expr} {tl : TE} (hK : X.K = K) (hl : PE X l tl) : PI X tg l (iTup K tl) := by subst hK; exact pi_tup hl
theorem pi_listK {tg l : Expr} {tl : TE} (hK : X.K = K) (hl : PE X l tl) : PI X tg l (iList K tl) := by subst hK; exact pi_list hl
end
end TR
/-! text FB -/
set_option Elab.async false
set_option linter.all false
set_option maxRecDepth 100000
set_option maxHeartbeats 4000000
/-! beds: fitting -/
namespace TR
open PySem PySem.Spec PyProof.Rows L2 VD
section
variable {P : Program} {w : World} {K : PySem.W.Frag} {mg : Str → Option Value} {base : Heap} {Z H H1 : Hp} {B : BA} {W : Wd} {M : Bd} {sd : Pl} {bad : List Pl}
theorem wg_mem {n : D} {i : Nat} {g : Gu} : n ∈ wg W i g ↔ n ∈ W.order ∧ W.gl n i = g := by
  unfold wg; rw [List.mem_filter, decide_eq_true_eq]
def TotI (W : Wd) (es : Es) (f : D → Int) : Prop := ∀ n, lookE es n = if n ∈ W.order ∧ 0 < f n then some (.int (f n)) else none
theorem TotI.congr {es : Es} {f g : D → Int} (h : TotI W es f) (e : ∀ n ∈ W.order, f n = g n) : TotI W es g := fun n => by
  rw [h n]
  by_cases hn : n ∈ W.order
  · rw [e n hn]
  · rw [if_neg (fun z => hn z.1), if_neg (fun z => hn z.1)]
theorem TotI.key {es : Es} {f : D → Int} (h : TotI W es f) (nd : (es.map (·.1)).Nodup) {e : D × V × V} (he : e ∈ es) : e.1 ∈ W.order ∧ e.2.2 = .int (f e.1) ∧ 0 < f e.1 := by
  have h1 := lookE_mem nd he
  have h2 := h e.1
  rw [h1] at h2
  by_cases c : e.1 ∈ W.order ∧ 0 < f e.1
  · rw [if_pos c] at h2
    exact ⟨c.1, Option.some.inj h2, c.2⟩
  · rw [if_neg c] at h2; cases h2
theorem TotI.len {es : Es} {f : D → Int} (h : TotI W es f) (nd : (es.map (·.1)).Nodup) : es.length ≤ W.order.length := by
  have := nodup_len nd (m := W.order) fun x hx => by
    obtain ⟨e, he, rfl⟩ := List.mem_map.mp hx
    exact (h.key nd he).1
  rwa [List.length_map] at this
theorem TotI.put {es : Es} {f : D → Int} (h : TotI W es f) {n : D} {a : V} {g : Int} (hn : n ∈ W.order) (hg : 0 < g) (h0 : 0 ≤ f n) : TotI W (putE es n a (.int (f n + g))) (fun m => f m + if m = n then g else 0) := fun m => by
  rw [lookE_put]
  by_cases hm : m = n
  · subst hm
    simp only [if_true]
    rw [if_pos ⟨hn, by omega⟩]
  · rw [if_neg hm, h m]
    simp only [if_neg hm, Int.add_zero]
theorem TotI.get {es : Es} {f : D → Int} (h : TotI W es f) {n : D} (hn : n ∈ W.order) (h0 : 0 ≤ f n) : (lookE es n).getD (.int 0) = .int (f n) := by
  rw [h n]
  by_cases hp : 0 < f n
  · rw [if_pos ⟨hn, hp⟩]; rfl
  · rw [if_neg (fun z => hp z.2), show f n = 0 by omega]; rfl
def spFit (K : PySem.W.Frag) (w : World) : Sp := fun vs H Q _ => ∃ (B : BA) (v : V) (p : Pl) (W : Wd) (Z : Hp) (M : Bd) (sd : Pl) (bad : List Pl), vs = [.ref B.b, v] ∧ BedI K w Z H B W M sd bad ∧ Dt H v (plD p) ∧ LamX.Tabs (TabK K) H ∧
  ∀ t H1, EX K [] H H1 → LamX.Tabs (TabK K) H1 → Dt H1 (.ref t) (.tup (fit W M p)) → Q (.ref t) H1
theorem ok_Bed_fitting (E : Ev K mg base) : Does P w K mg base L2.CX0 6 (He.ma K (He.ga K "Bed") "fitting") ["self", "place"] (spFit K w) :=
  E.does0 (k := 5) ix_Bed_fitting rfl bn_Bed_fitting sc_Bed_fitting (fun _ _ _ _ ⟨_, _, _, _, _, _, _, _, h, _⟩ => by rw [h]; rfl) fun cdv A outer s H vs Q X hr h => by
    obtain ⟨B, v, p, W, Z, M, sd, bad, rfl, I, hv, hT, q⟩ := h
    refine ⟨_, (pss_cons (ps_expr (pe_do (ok_check_place E) (hr.mono (by decide)) (by rfl) (g_check_place E) pass0 (pa_cons (pv 1) pa_nil)))
      (pss_cons (ps_set (i := 2) sc_Bed_fitting.nd rfl (by first | exact Or.inl rfl | exact Or.inr rfl) pe_xnew)
      (pss_cut (fun σ H2 => ∃ (d : Addr) (es : Es) (o3 o4 o5 : Option V), σ = [some (.ref B.b), some v, some (.ref d), o3, o4, o5] ∧ EX K [] H H2 ∧ DictE w H2 d es ∧ TotI W es (bonds W M p)) (ps_for PassesOwn.never rfl (pi_list (pe_doM (pv 0) (c_Bed E) (m_Bed_shown_glues E) (ok_Bed_shown_glues E) (hr.mono (by decide)) pass0 (pa_cons (pv 1) pa_nil))) (pg_tupK (K := K) (n := 2) rfl rfl (pgs_cons (pg_name (i := 3) sc_Bed_fitting.nd rfl (by first | exact Or.inl rfl | exact Or.inr rfl)) (pgs_cons (pg_name (i := 4) sc_Bed_fitting.nd rfl (by first | exact Or.inl rfl | exact Or.inr rfl)) pgs_nil)))
        (pss_one (ps_if (pt_cmpR op_gt (pe_ix ix_tup (pv 4) pe_int (fun _ _ => rfl)) pe_int (nomark _))
        (pss_one (ps_for PassesOwn.never rfl (pi_tup (pe_doM (pe_fld (pv 0) rfl) (c_TileSet E) (m_TileSet_with_glue E) (ok_TileSet_with_glue E) (hr.mono (by decide)) pass0 (pa_cons (pv 3) (pa_cons (pv 4) pa_nil)))) (pg_name (i := 5) sc_Bed_fitting.nd rfl (by first | exact Or.inl rfl | exact Or.inr rfl))
        (pss_one (ps_xput hr (pv 2) (pv 5) (pe_op op_add (pe_xget2 hr (pv 2) (pv 5) pe_int ⟨rfl, rfl, rfl, rfl⟩) (pe_ix ix_tup (pv 4) pe_int (fun _ _ => rfl))) (by rfl)))))
        pss_nil)))
      (pss_one (ps_ret (pe_doM (pe_fld (pv 0) rfl) (c_TileSet E) (m_TileSet_in_order E) (ok_TileSet_in_order E) (hr.mono (by decide)) pass0 (pa_cons (pe_lc rfl sc_Bed_fitting.nd (pi_x (pv 2)) (own := [("name", 5)]) (blkOk_by (N := n_Bed_fitting) (sc := defScope s_Bed_fitting) (by decide +kernel)) (fun _ _ _ _ _ => (pg_name (i := 5) sc_Bed_fitting.nd rfl (by first | exact Or.inl rfl | exact Or.inr rfl))) (fun _ _ _ _ _ => (pts_one (pt_cmpR op_ge (pe_xgetZ (w := w) rfl (pv 2) (pv 5) (fun _ _ => rfl) hr) pe_int (nomark _)))) (fun _ _ _ _ _ => (pv 5))) pa_nil))))))), ?_⟩
    refine ⟨_, rfl, v, p, rfl, hv, ?_⟩
    intro d H1 hd m1 c1
    have e1 : EX K [] H H1 := Ext.newC hd c1
    have I1 := I.ext0 e1
    have nn : ∀ n i, 0 ≤ tl W ((shl W M p 4).take i) n := fun n i => tl_nonneg I.wn.ok fun x hx => by
      obtain ⟨_, o, _, h⟩ := shl_mem (List.mem_of_mem_take hx)
      rw [h]; exact I.wn.ok.lo _ _
    refine ⟨?_, ?_⟩
    · refine ⟨_, rfl, B.b, _, _, rfl, I1.o, rfl, _, rfl, ?_⟩
      refine ⟨B, v, p, W, Z, M, sd, bad, rfl, I1, e1.dt hv, fun l ys H2 e2 hl hy => ?_⟩
      refine ⟨l, rfl, ⟨ys, .of hl⟩, ?_⟩
      have hlen := hy.length
      rw [List.length_map] at hlen
      have m2 : DictE w H2 d [] := e2.dictE m1 (by simp)
      refine for_list (fun i σ H3 => ∃ (o3 o4 o5 : Option V) (es : Es), σ = [some (.ref B.b), some v, some (.ref d), o3, o4, o5] ∧ EX K [d] H2 H3 ∧ DictE w H3 d es ∧ TotI W es (tl W ((shl W M p 4).take i)))
        ⟨none, none, none, [], rfl, .refl, m2, fun n => ?_⟩ (fun i σ H3 _ ⟨_, _, _, _, _, e, _⟩ => .of (e.at_ hl ?_)) ?_ ?_
      · rw [if_neg (fun z => by have := z.2; simp [tl] at this)]; rfl
      · rw [List.mem_singleton]; intro z
        obtain ⟨ep, h⟩ := m2.ob
        rw [← z, hl] at h; cases h
      · rintro i c σ H3 hc ⟨o3, o4, o5, es, rfl, e3, m3, t3⟩
        obtain ⟨k, hk, hcd⟩ := hy.get hc
        obtain ⟨x, hx, rfl⟩ := Option.map_eq_some_iff.mp (by rw [← List.getElem?_map]; exact hk)
        obtain ⟨tc, u, rfl, htc, hu⟩ := shD_tup (e3.dt hcd)
        have hug := hu
        obtain ⟨tg, lb, rfl, htg, hlb⟩ := gl_tup hu
        obtain ⟨hx1, o, ho1, ho2⟩ := shl_mem (List.mem_of_getElem? hx)
        have I3 : BedI K w Z H3 B W M sd bad := (I1.ext0 e2).ext e3 (fun b hb => by rw [List.mem_singleton.mp hb]; exact I.fz.none_ hd) (by
          rw [List.mem_singleton]; exact ne_of_none I.o hd) (by
          rw [List.mem_singleton]; obtain ⟨o, h⟩ := I.ly.some; exact ne_of_none h hd) (by
          rw [List.mem_singleton]; obtain ⟨c, h, _⟩ := I.cm; obtain ⟨o, h⟩ := h.some; exact ne_of_none h hd)
        obtain ⟨dxs, fs, hts, lk1, lk2, lk3⟩ := I3.tsH.obj
        have htk : ∀ n, tl W ((shl W M p 4).take (i + 1)) n = tl W ((shl W M p 4).take i) n + if W.gl n x.1 = x.2 then x.2.2 else 0 := fun n => tl_take hx
        have hx0 : 0 ≤ x.2.2 := by rw [ho2]; exact I.wn.ok.lo _ _
        refine ⟨_, _, rfl, .of htc, rfl, _, _, rfl, _, _, rfl, rfl, ?_⟩
        refine ⟨_, rfl, _, _, _, _, rfl, rfl, .of htg, atI1, _, _, rfl, rfl, _, rfl, ?_⟩
        by_cases hpos : 0 < x.2.2
        · rw [decide_eq_true hpos]
          refine iteT ?_
          refine ⟨_, rfl, _, _, _, _, _, rfl, I3.o, c_Bed E, na_Bed_tile_set E, rfl, _, _, _, rfl, hts, lk2, _, rfl, _, rfl, ?_⟩
          refine ⟨B.ts, x.1, _, x.2, W, Z, rfl, I3.fz, I3.ts, hx1, hug, by rw [ho2]; exact (I.wn.lb o _).2, fun t H4 e4 ht4 => ?_⟩
          obtain ⟨vs, hvs, hvd⟩ : ∃ vs, H4 t = some (.tup vs) ∧ DtAll H4 vs (wg W x.1 x.2) := by cases ht4 with | tup a b => exact ⟨_, a, b⟩
          have hvl := hvd.length
          refine ⟨t, rfl, ⟨vs, .of hvs⟩, ?_⟩
          refine for_tup (xs := vs) (fun j σ H5 => ∃ (o5 : Option V) (es : Es), σ = [some (.ref B.b), some v, some (.ref d), some (.int x.1), some (.ref tg), o5] ∧ EX K [d] H4 H5 ∧ DictE w H5 d es ∧ TotI W es (fun n => tl W ((shl W M p 4).take i) n + if n ∈ (wg W x.1 x.2).take j then x.2.2 else 0))
            ⟨o5, es, rfl, .refl, e4.dictE m3 (by simp), t3.congr fun n _ => by simp⟩ (fun j σ H5 _ ⟨_, _, _, e, _⟩ => .of (e.tup hvs)) ?_ ?_
          · rintro j cn σ H5 hcn ⟨o5, es, rfl, e5, m5, t5⟩
            obtain ⟨n, hn, hcnd⟩ := hvd.get hcn
            have hnw := List.mem_of_getElem? hn
            have hno : n ∈ W.order := (List.mem_filter.mp hnw).1
            have hcn5 := e5.dt hcnd
            have htg5 := (e4.nil.trans e5).tup htg
            have wnd : (wg W x.1 x.2).Nodup := I.wn.ok.nd.filter _
            have hnt : n ∉ (wg W x.1 x.2).take j := by
              intro hm
              obtain ⟨j', hj', hje⟩ := List.mem_take_iff_getElem.mp hm
              have h1 : (wg W x.1 x.2)[j']? = some n := by rw [List.getElem?_eq_getElem (by omega), hje]
              have := (List.getElem?_inj (by omega) wnd).mp (h1.trans hn.symm)
              omega
            have hf0 : 0 ≤ tl W ((shl W M p 4).take i) n + if n ∈ (wg W x.1 x.2).take j then x.2.2 else 0 := by
              have := nn n i
              split <;> omega
            have hlt := t5.len m5.nd
            have wl := I.wn.len
            refine ⟨_, rfl, d, rfl, ⟨_, m5⟩, _, rfl, es, n, m5, hcn5, (I.nm hno).dp, ?_⟩
            rw [t5.get hno hf0]
            refine ⟨_, rfl, _, _, _, _, rfl, rfl, .of htg5, atI1, _, _, rfl, rfl, _, rfl, _, rfl, d, es, n, rfl, m5, hcn5, (I.nm hno).dp, by rw [sizeLine_eq]; omega, fun H6 m6 c6 => ?_⟩
            refine ⟨_, _, rfl, e5.dict m5 c6 m6 (.inr (by simp)), m6, (t5.put hno hpos hf0).congr fun m hm => ?_⟩
            have htj : m ∈ (wg W x.1 x.2).take (j + 1) ↔ m ∈ (wg W x.1 x.2).take j ∨ m = n := by rw [List.take_add_one, hn, List.mem_append]; simp
            by_cases hmn : m = n
            · subst hmn
              rw [if_neg hnt, if_pos rfl, if_pos (htj.mpr (.inr rfl))]; omega
            · rw [if_neg hmn]
              by_cases hmj : m ∈ (wg W x.1 x.2).take j
              · rw [if_pos hmj, if_pos (htj.mpr (.inl hmj))]; omega
              · rw [if_neg hmj, if_neg (fun z => (htj.mp z).elim hmj hmn)]; omega
          · rintro σ H5 ⟨o5, es, rfl, e5, m5, t5⟩
            refine ⟨_, _, _, es, rfl, e3.trans (e4.nil.trans e5), m5, t5.congr fun n hn => ?_⟩
            rw [htk n, hvl, List.take_length]
            congr 1
            by_cases hg : W.gl n x.1 = x.2
            · rw [if_pos hg, if_pos (wg_mem.mpr ⟨hn, hg⟩)]
            · rw [if_neg hg, if_neg (fun z => hg (wg_mem.mp z).2)]
        · rw [decide_eq_false hpos]
          refine iteF ⟨_, _, _, es, rfl, e3, m3, t3.congr fun n _ => ?_⟩
          rw [htk n, show x.2.2 = 0 by omega]
          split <;> omega
      · rintro σ H3 ⟨o3, o4, o5, es, rfl, e3, m3, t3⟩
        refine ⟨d, es, o3, o4, o5, rfl, (e1.trans e2).then1 e3 (.inl hd), m3, t3.congr fun n _ => ?_⟩
        rw [hlen, List.take_length, ← bonds_tl]
    · rintro σ H2 ⟨d, es, o3, o4, o5, rfl, e2, m2, t2⟩
      have I2 := I.ext0 e2
      obtain ⟨dxs, fs, hts, lk1, lk2, lk3⟩ := I2.tsH.obj
      have hlen := t2.len m2.nd
      have wl := I.wn.len
      have hks : (es.map (·.1)).length = es.length := List.length_map _
      refine ⟨_, rfl, _, _, _, _, _, rfl, I2.o, c_Bed E, na_Bed_tile_set E, rfl, _, _, _, rfl, hts, lk3, ?_⟩
      refine ⟨_, rfl, d, es, rfl, m2, fun u hu l hl => ?_⟩
      have e3 : EX K [] H2 _ := Ext.new (o := .lst []) hl
      refine lc_x (xs := es.map (·.2.1)) (fun i H3 => ∃ acc, EX K [] H2 H3 ∧ H3 l = some (.lst acc) ∧ DtAll H3 acc (((es.map (·.1)).take i).filter fun n => decide (2 ≤ bonds W M p n)))
        ⟨[], e3, upd_same, .nil⟩ (fun i H3 _ ⟨_, e, _⟩ => ?_) ?_ ?_
      · obtain ⟨ep, h⟩ := m2.ob
        rw [h] at hu; cases hu
        exact e.at0 h
      · rintro i c H3 hc ⟨acc, e3, hl3, ha3⟩
        rw [List.getElem?_map] at hc
        obtain ⟨en, hen, rfl⟩ := Option.map_eq_some_iff.mp hc
        have hem := List.mem_of_getElem? hen
        obtain ⟨k1, k2, k3⟩ := t2.key m2.nd hem
        have hlk := lookE_mem m2.nd hem
        have m3 := e3.dictE m2 (by simp)
        have hcd := (m2.ks en hem)
        have hki : (es.map (·.1))[i]? = some en.1 := by rw [List.getElem?_map, hen]; rfl
        have hac := ha3.length
        have hac2 := List.length_filter_le (fun n => decide (2 ≤ bonds W M p n)) ((es.map (·.1)).take i)
        rw [List.length_take] at hac2
        refine ⟨rfl, _, rfl, _, rfl, d, es, en.1, _, rfl, m3, e3.dt hcd.1, hcd.2, hlk, ?_⟩
        rw [k2]
        refine ⟨_, _, rfl, rfl, _, rfl, ?_⟩
        rw [List.take_add_one, hki, List.filter_append]
        by_cases hb : 2 ≤ bonds W M p en.1
        · rw [show decide (bonds W M p en.1 ≥ 2) = true from decide_eq_true hb]
          refine iteT ⟨_, rfl, acc, hl3, by rw [sizeLine_eq]; omega, acc ++ [en.2.1], ?_, upd_same, ?_⟩
          · exact e3.lst hl3 (.inl hl)
          · have e4 : EX K [l] H3 (upd H3 l (.lst (acc ++ [en.2.1]))) := Ext.refl.lst hl3 (.inr (by simp))
            refine (e4.dts ha3).app ?_
            rw [show ((some en.1).toList.filter fun n => decide (2 ≤ bonds W M p n)) = [en.1] by simp [hb]]
            exact .cons (e4.dt (e3.dt hcd.1)) .nil
        · rw [show decide (bonds W M p en.1 ≥ 2) = false from decide_eq_false hb]
          refine iteF ⟨acc, e3, hl3, ?_⟩
          rw [show ((some en.1).toList.filter fun n => decide (2 ≤ bonds W M p n)) = [] by simp; omega, List.append_nil]
          exact ha3
      · rintro H3 ⟨acc, e3, hl3, ha3⟩
        rw [List.length_map, ← hks, List.take_length] at ha3
        have e23 := e2.trans e3
        have I3 := I.ext0 e23
        refine ⟨B.ts, l, acc, _, W, Z, rfl, I3.fz, I3.ts, I3.wn, hl3, ha3, m2.nd.filter _, fun n hn => ?_, e23.tabs hT, fun t H4 e4 T4 ht4 => q t H4 (e23.trans e4) T4 ?_⟩
        · obtain ⟨e, he, rfl⟩ := List.mem_map.mp (List.mem_filter.mp hn).1
          exact (t2.key m2.nd he).1
        · have : fit W M p = W.order.filter fun n => decide (n ∈ (es.map (·.1)).filter fun n => decide (2 ≤ bonds W M p n)) := by
            unfold fit
            refine List.filter_congr fun n hn => ?_
            have fm : n ∈ (es.map (·.1)).filter (fun n => decide (2 ≤ bonds W M p n)) ↔ n ∈ es.map (·.1) ∧ 2 ≤ bonds W M p n := by rw [List.mem_filter, decide_eq_true_eq]
            rw [decide_eq_decide, fm]
            exact ⟨fun hb => ⟨lookE_some (by rw [t2 n, if_pos ⟨hn, by omega⟩]), hb⟩, fun h => h.2⟩
          rw [this]; exact ht4
end
end TR
/-! text FC -/
set_option Elab.async false
set_option linter.all false
set_option maxRecDepth 100000
set_option maxHeartbeats 4000000
/-! beds: lay -/
namespace TR
open PySem PySem.Spec PyProof.Rows L2 VD
/-- the places that a change at p may touch -/
def pls (p : Pl) : List Pl := [p, nb p 0, nb p 1, nb p 2, nb p 3]
theorem pls_far {W : Wd} {M N : Bd} {p q : Pl} (h : ∀ r, r ≠ p → lkB M r = lkB N r) (hq : q ∉ pls p) : due W M q = due W N q := by
  unfold pls at hq
  simp only [List.mem_cons, List.not_mem_nil, or_false, not_or] at hq
  obtain ⟨h0, h1, h2, h3, h4⟩ := hq
  refine due_far h h0 fun s hs => ?_
  match s, hs with
  | 0, _ => exact h1
  | 1, _ => exact h2
  | 2, _ => exact h3
  | 3, _ => exact h4
theorem putA_keys {al : AL} {k x j : D} (h : j ∈ (putA al k x).map (·.1)) : j ∈ al.map (·.1) ∨ j = k := by
  obtain ⟨a, ha, rfl⟩ := List.mem_map.mp h
  unfold putA at ha
  split at ha
  · obtain ⟨b, hb, rfl⟩ := List.mem_map.mp ha
    refine .inl (List.mem_map.mpr ⟨b, hb, ?_⟩)
    split <;> rfl
  · rcases List.mem_append.mp ha with ha | ha
    · exact .inl (List.mem_map.mpr ⟨a, ha, rfl⟩)
    · rw [List.mem_singleton.mp ha]; exact .inr rfl
theorem dropA_keys {al : AL} {k j : D} (h : j ∈ (dropA al k).map (·.1)) : j ∈ al.map (·.1) := by
  obtain ⟨a, ha, rfl⟩ := List.mem_map.mp h
  exact List.mem_map.mpr ⟨a, (List.mem_filter.mp ha).1, rfl⟩
theorem cm_next {W : Wd} {M : Bd} {L : List Pl} {i : Nat} {q : Pl} {cal cal2 : AL} (h : L[i]? = some q) (f : ∀ r, r ∉ L.drop i → lkA cal (plD r) = due W M r) (g : ∀ r, r ≠ q → lkA cal2 (plD r) = lkA cal (plD r)) (e : lkA cal2 (plD q) = due W M q) :
    ∀ r, r ∉ L.drop (i + 1) → lkA cal2 (plD r) = due W M r := fun r hr => by
  by_cases z : r = q
  · rw [z]; exact e
  · rw [g r z]
    refine f r fun hm => ?_
    obtain ⟨hi, rfl⟩ := List.getElem?_eq_some_iff.mp h
    rw [List.drop_eq_getElem_cons hi] at hm
    exact (List.mem_cons.mp hm).elim z hr
section
variable {P : Program} {w : World} {K : PySem.W.Frag} {mg : Str → Option Value} {base : Heap} {Z H H1 H2 : Hp} {B : BA} {W : Wd} {M : Bd} {sd : Pl} {bad : List Pl}
/-- a change of what lies -/
theorem BedI.lyPut (I : BedI K w Z H B W M sd []) {es : Es} {y v : V} {p : Pl} {n : D} (hes : DictE w H B.ly es) (hps : Ps H es (bal M)) (hv : Dt H v n) (hn : n ∈ W.order) (hp : lkB M p = none) (hl : M.length < 1000)
    (m2 : DictE w H1 B.ly (putE es (plD p) y v)) (c : Chg B.ly H H1) : EX K [B.ly, B.cm] H H1 ∧ BedI K w Z H1 B W (M ++ [(p, n)]) sd (pls p) := by
  have e : EX K [B.ly] H H1 := Ext.refl.dict hes c m2 (.inr (by simp))
  have nb1 : B.b ∉ [B.ly] := by
    rw [List.mem_singleton]; intro z
    obtain ⟨ep, q⟩ := hes.ob
    have := I.o
    unfold BedO at this
    rw [z, q] at this; cases this
  refine ⟨e.mono (by simp), e.at_ I.o nb1, I.fz.ext e (by simp; exact I.zly), I.ts, I.wn, ?_, ?_, I.ne, I.zly, I.zcm, e.dt I.vp, let ⟨n, a, b⟩ := I.vn; ⟨n, e.dt a, b⟩, ?_, ?_⟩
  · have := DictA.put hes hps hv m2 c
    rw [bal_put hp] at this
    exact this
  · obtain ⟨cal, a, b, f⟩ := I.cm
    refine ⟨cal, a.ext e (by simp; exact fun z => I.ne z.symm), b, fun q hq => ?_⟩
    rw [f q (by simp)]
    refine pls_far (fun r hr => ?_) hq
    rw [lkB_append, lkB_cons, if_neg (fun z => hr z.symm)]
    simp [lkB]
  · intro x hx
    rcases List.mem_append.mp hx with hx | hx
    · exact I.mo x hx
    · rw [List.mem_singleton.mp hx]; exact hn
  · rw [List.length_append]; simp; omega
theorem BedI.lyDrop (I : BedI K w Z H B W M sd []) {es : Es} {p : Pl} (hes : DictE w H B.ly es) (hps : Ps H es (bal M)) 
    (m2 : DictE w H1 B.ly (dropE es (plD p))) (c : Chg B.ly H H1) : EX K [B.ly, B.cm] H H1 ∧ BedI K w Z H1 B W (drB M p) sd (pls p) := by
  have e : EX K [B.ly] H H1 := Ext.refl.dict hes c m2 (.inr (by simp))
  have nb1 : B.b ∉ [B.ly] := by
    rw [List.mem_singleton]; intro z
    obtain ⟨ep, q⟩ := hes.ob
    have := I.o
    unfold BedO at this
    rw [z, q] at this; cases this
  refine ⟨e.mono (by simp), e.at_ I.o nb1, I.fz.ext e (by simp; exact I.zly), I.ts, I.wn, ?_, ?_, I.ne, I.zly, I.zcm, e.dt I.vp, let ⟨n, a, b⟩ := I.vn; ⟨n, e.dt a, b⟩, ?_, ?_⟩
  · have := DictA.drop hes hps m2 c
    rw [bal_drop] at this
    exact this
  · obtain ⟨cal, a, b, f⟩ := I.cm
    refine ⟨cal, a.ext e (by simp; exact fun z => I.ne z.symm), b, fun q hq => ?_⟩
    rw [f q (by simp)]
    refine pls_far (fun r hr => ?_) hq
    rw [lkB_drop, if_neg hr]
  · intro x hx
    exact I.mo x (List.mem_filter.mp hx).1
  · exact Nat.le_trans (List.length_filter_le _ _) I.len
/-- a change of what may come -/
theorem BedI.cmSet (I : BedI K w Z H B W M sd bad) {bad2 : List Pl} {cal2 : AL} (e : EX K [B.cm] H H1) (a : DictA w H1 B.cm cal2) (b : ∀ k ∈ cal2.map (·.1), ∃ p, k = plD p) (f : ∀ p, p ∉ bad2 → lkA cal2 (plD p) = due W M p) : BedI K w Z H1 B W M sd bad2 := by
  have nb1 : B.b ∉ [B.cm] := by
    rw [List.mem_singleton]; intro z
    obtain ⟨cal, ⟨es, hes, _⟩, _⟩ := I.cm
    obtain ⟨ep, q⟩ := hes.ob
    have := I.o
    unfold BedO at this
    rw [z, q] at this; cases this
  exact ⟨e.at_ I.o nb1, I.fz.ext e (by simp; exact I.zcm), I.ts, I.wn, I.ly.ext e (by simp; exact I.ne), ⟨cal2, a, b, f⟩, I.ne, I.zly, I.zcm, e.dt I.vp, let ⟨n, a, b⟩ := I.vn; ⟨n, e.dt a, b⟩, I.mo, I.len⟩
def spLay (K : PySem.W.Frag) (w : World) : Sp := fun vs H Q _ => ∃ (B : BA) (v vn : V) (p : Pl) (W : Wd) (Z : Hp) (M M' : Bd) (sd : Pl), vs = [.ref B.b, v, vn] ∧ BedI K w Z H B W M sd [] ∧ Dt H v (plD p) ∧ LamX.Tabs (TabK K) H ∧
  ((∃ n, Dt H vn n ∧ n ∈ W.order ∧ lkB M p = none ∧ M.length < 1000 ∧ M' = M ++ [(p, n)]) ∨ (vn = .non ∧ lkB M p ≠ none ∧ M' = drB M p)) ∧
  ∀ H1, EX K [B.ly, B.cm] H H1 → LamX.Tabs (TabK K) H1 → BedI K w Z H1 B W M' sd [] → Q .non H1
theorem ok_Bed_lay (E : Ev K mg base) : Does P w K mg base L2.CX0 7 (He.ma K (He.ga K "Bed") "lay") ["self", "place", "name"] (spLay K w) :=
  E.does0 (k := 6) ix_Bed_lay rfl bn_Bed_lay sc_Bed_lay (fun _ _ _ _ ⟨_, _, _, _, _, _, _, _, _, h, _⟩ => by rw [h]; rfl) fun cdv A outer s H vs Q X hr h => by
    obtain ⟨B, v, vn, p, W, Z, M, M', sd, rfl, I, hv, hT, hc, q⟩ := h
    refine ⟨_, (pss_cut (fun σ H2 => σ = [some (.ref B.b), some v, some vn, none, none] ∧ EX K [B.ly, B.cm] H H2 ∧ BedI K w Z H2 B W M' sd (pls p)) (ps_if (pt_cmp (pc_isN (pv 2)))
        (pss_one (ps_xdel hr (pe_fld (pv 0) rfl) (pv 1)))
        (pss_one (ps_xput hr (pe_fld (pv 0) rfl) (pv 1) (pv 2) (by rfl))))
      (pss_one (ps_for PassesOwn.never rfl (pi_tup (pe_tup (pa_cons (pv 1) (StX.pa_star (pe_do (ok_beside E) (hr.mono (by decide)) (by rfl) (g_beside E) pass0 (pa_cons (pv 1) pa_nil)) pa_nil)))) (pg_name (i := 3) sc_Bed_lay.nd rfl (by first | exact Or.inl rfl | exact Or.inr rfl))
        (pss_cons (ps_set (i := 4) sc_Bed_lay.nd rfl (by first | exact Or.inl rfl | exact Or.inr rfl) (pe_ifExp (pt_cmp (pc_xin hr (pv 3) (pe_fld (pv 0) rfl))) (pe_tup pa_nil) (pe_doM (pv 0) (c_Bed E) (m_Bed_fitting E) (ok_Bed_fitting E) (hr.mono (by decide)) pass0 (pa_cons (pv 3) pa_nil))))
      (pss_one (ps_if (pt_truth (pv 4) (fun _ => rfl))
        (pss_one (ps_xput hr (pe_fld (pv 0) rfl) (pv 3) (pv 4) (by rfl)))
        (pss_one (ps_if (pt_cmp (pc_xin hr (pv 3) (pe_fld (pv 0) rfl)))
        (pss_one (ps_xdel hr (pe_fld (pv 0) rfl) (pv 3)))
        pss_nil)))))))), ?_⟩
    obtain ⟨es, hes, hps⟩ := I.ly
    have hel := hps.length
    have hml := I.len
    rw [I.nlt] at hel
    refine ⟨?_, ?_⟩
    · rcases hc with ⟨n, hvn, hno, hp, hml2, rfl⟩ | ⟨rfl, hp, rfl⟩
      · refine ⟨_, rfl, _, rfl, ?_⟩
        rw [show decide (vn = V.non) = false from decide_eq_false fun z => by
          rw [z] at hvn
          exact (I.wn.nm n hno).2.2.1 (by cases hvn; rfl)]
        refine iteF ⟨_, rfl, _, rfl, _, _, _, _, _, rfl, I.o, c_Bed E, na_Bed_lying E, rfl, _, rfl, B.ly, es, plD p, rfl, hes, hv, plD_d, by rw [sizeLine_eq]; omega, fun H4 m4 c4 => ?_⟩
        obtain ⟨a, b⟩ := I.lyPut hes hps hvn hno hp hml2 m4 c4
        exact ⟨rfl, a, b⟩
      · refine ⟨_, rfl, _, rfl, ?_⟩
        refine iteT ⟨_, rfl, _, _, _, _, _, rfl, I.o, c_Bed E, na_Bed_lying E, rfl, _, rfl, B.ly, es, plD p, rfl, hes, hv, plD_d, ?_, fun H4 m4 c4 => ?_⟩
        · rw [hps.isSome, lkA_bal]
          cases e : lkB M p with
          | none => exact absurd e hp
          | some _ => rfl
        · obtain ⟨a, b⟩ := I.lyDrop hes hps m4 c4
          exact ⟨rfl, a, b⟩
    · rintro σ H2 ⟨rfl, e2, I2⟩
      refine ⟨_, rfl, _, rfl, v, p, rfl, e2.dt hv, fun t H3 e3 ht => ?_⟩
      obtain ⟨t', x, y, z, u, e, ht3, hx, hy, hz, hu⟩ := tup4 ht
      cases e
      refine ⟨t, [x, y, z, u], rfl, .inl (.of ht3), sz5, fun T hT2 => ?_⟩
      have e4 : EX K [] H3 (upd H3 T (.tup [v, x, y, z, u])) := Ext.new hT2
      have hT4 : (upd H3 T (.tup [v, x, y, z, u])) T = some (.tup [v, x, y, z, u]) := upd_same
      have e24 := e3.trans e4
      refine ⟨T, rfl, ⟨_, .of hT4⟩, ?_⟩
      have hel : ∀ (i : Nat) (c : V), [v, x, y, z, u][i]? = some c → ∃ r, (pls p)[i]? = some r ∧ Dt (upd H3 T (.tup [v, x, y, z, u])) c (plD r) := by
        intro i c h
        match i, h with
        | 0, h => cases h; exact ⟨_, rfl, e24.dt (e2.dt hv)⟩
        | 1, h => cases h; exact ⟨_, rfl, e4.dt hx⟩
        | 2, h => cases h; exact ⟨_, rfl, e4.dt hy⟩
        | 3, h => cases h; exact ⟨_, rfl, e4.dt hz⟩
        | 4, h => cases h; exact ⟨_, rfl, e4.dt hu⟩
      refine for_tup (xs := [v, x, y, z, u]) (fun i σ H5 => ∃ (o3 o4 : Option V), σ = [some (.ref B.b), some v, some vn, o3, o4] ∧ EX K [B.ly, B.cm] (upd H3 T (.tup [v, x, y, z, u])) H5 ∧ BedI K w Z H5 B W M' sd ((pls p).drop i))
        ⟨none, none, rfl, .refl, I2.ext0 e24⟩ (fun i σ H5 _ ⟨_, _, _, e, _⟩ => .of (e.tup hT4)) ?_ ?_
      · rintro i c σ H5 hc ⟨o3, o4, rfl, e5, I5⟩
        obtain ⟨r, hr1, hcd⟩ := hel i c hc
        have hcd5 := e5.dt hcd
        obtain ⟨es5, hes5, hps5⟩ := I5.ly
        have hdl : ((pls p).drop i).length ≤ 5 := by rw [List.length_drop]; show 5 - i ≤ 5; omega
        refine ⟨_, rfl, _, rfl, _, _, _, _, _, rfl, I5.o, c_Bed E, na_Bed_lying E, rfl, B.ly, es5, plD r, rfl, hes5, hcd5, plD_d, _, rfl, ?_⟩
        rw [hps5.isSome, lkA_bal]
        cases hlk : lkB M' r
        case' none =>
          refine iteF ⟨_, rfl, _, _, _, rfl, I5.o, rfl, _, rfl, B, c, r, W, Z, M', sd, _, rfl, I5, hcd5, (((e2.trans e24.nil).trans e5)).tabs hT, fun tn H6 e6 T6 htn => ?_⟩
          obtain ⟨vs, hvs, hvd⟩ : ∃ vs, H6 tn = some (.tup vs) ∧ DtAll H6 vs (fit W M' r) := by cases htn with | tup a b => exact ⟨_, a, b⟩
          obtain ⟨ns, hns⟩ : ∃ ns, ns = fit W M' r := ⟨_, rfl⟩
          rw [← hns] at hvd
          have hdue : due W M' r = if ns = [] then none else some (.tup ns) := by
            rw [hns]; unfold due
            by_cases hf : fit W M' r = []
            · rw [if_pos hf, if_neg (fun z => z.2 hf)]
            · rw [if_neg hf, if_pos ⟨hlk, hf⟩]
        case' some n0 =>
          refine iteT ⟨Nat.zero_le _, fun tn htn => ?_⟩
          have e60 : EX K [] H5 (upd H5 tn (.tup [])) := Ext.new htn
          have hvs0 : (upd H5 tn (.tup [])) tn = some (.tup []) := upd_same
          generalize upd H5 tn (.tup []) = H6 at e60 hvs0
          obtain ⟨e6, vs, hvs, ns, hvd, hns⟩ : EX K [] H5 H6 ∧ ∃ vs, H6 tn = some (.tup vs) ∧ ∃ ns, DtAll H6 vs ns ∧ ns = [] := ⟨e60, _, hvs0, _, .nil, rfl⟩
          have hdue : due W M' r = if ns = [] then none else some (.tup ns) := by
            rw [hns, if_pos rfl]; unfold due
            rw [if_neg (fun z => by rw [hlk] at z; cases z.1)]
        all_goals
          have I6 := I5.ext0 e6
          obtain ⟨cal, ⟨ces, hces, hcps⟩, hck, hcf⟩ := I6.cm
          have hcl := ComI.len (DictA.nd ⟨ces, hces, hcps⟩) hck hcf
          have hcl2 := hcps.length
          have hml6 := I6.len
          have hcd6 := e6.dt hcd5
          have hvl := hvd.length
          by_cases hn : ns = []
          · subst hn
            rw [if_pos rfl] at hdue
            obtain rfl : vs = [] := List.length_eq_zero_iff.mp (by rw [hvl]; rfl)
            refine ⟨_, rfl, false, .inr (.inl ⟨[], .of hvs, rfl⟩), iteF ?_⟩
            refine ⟨_, rfl, _, rfl, _, _, _, _, _, rfl, I6.o, c_Bed E, na_Bed_coming E, rfl, B.cm, ces, plD r, rfl, hces, hcd6, plD_d, _, rfl, ?_⟩
            by_cases hs : (lookE ces (plD r)).isSome = true
            · rw [hs]
              refine iteT ⟨_, rfl, _, _, _, _, _, rfl, I6.o, c_Bed E, na_Bed_coming E, rfl, _, rfl, B.cm, ces, plD r, rfl, hces, hcd6, plD_d, hs, fun H7 m7 c7 => ?_⟩
              have e7 : EX K [B.cm] H6 H7 := Ext.refl.dict hces c7 m7 (.inr (by simp))
              exact ⟨_, _, rfl, (e5.trans e6.nil).trans (e7.mono (by simp)), I6.cmSet e7 (DictA.drop hces hcps m7 c7) (fun k hk => hck k (dropA_keys hk)) (cm_next hr1 hcf (fun r' hr' => by rw [lkA_drop, if_neg (fun z => hr' (plD_inj z))]) (by rw [lkA_drop, if_pos rfl, hdue]))⟩
            · rw [Bool.not_eq_true] at hs
              rw [hs]
              refine iteF ⟨_, _, rfl, e5.trans e6.nil, I6.cmSet .refl ⟨ces, hces, hcps⟩ hck (cm_next hr1 hcf (fun _ _ => rfl) ?_)⟩
              rw [hdue]
              rw [hcps.isSome] at hs
              cases hx : lkA cal (plD r) with
              | none => rfl
              | some _ => rw [hx] at hs; cases hs
          · rw [if_neg hn] at hdue
            have hvn : vs ≠ [] := fun z => hn (List.length_eq_zero_iff.mp (by rw [← hvl, z]; rfl))
            refine ⟨_, rfl, true, .inr (.inl ⟨vs, .of hvs, ?_⟩), iteT ?_⟩
            · cases vs with
              | nil => exact absurd rfl hvn
              | cons _ _ => rfl
            refine ⟨_, rfl, _, rfl, _, _, _, _, _, rfl, I6.o, c_Bed E, na_Bed_coming E, rfl, _, rfl, B.cm, ces, plD r, rfl, hces, hcd6, plD_d, by rw [sizeLine_eq]; omega, fun H7 m7 c7 => ?_⟩
            have e7 : EX K [B.cm] H6 H7 := Ext.refl.dict hces c7 m7 (.inr (by simp))
            exact ⟨_, _, rfl, (e5.trans e6.nil).trans (e7.mono (by simp)), I6.cmSet e7 (DictA.put hces hcps (.tup hvs hvd) m7 c7) (fun k hk => (putA_keys hk).elim (hck k) fun z => ⟨r, z⟩) (cm_next hr1 hcf (fun r' hr' => by rw [lkA_put, if_neg (fun z => hr' (plD_inj z))]) (by rw [lkA_put, if_pos rfl, hdue]))⟩
      · rintro σ H5 ⟨o3, o4, rfl, e5, I5⟩
        have I5 : BedI K w Z H5 B W M' sd [] := I5
        exact q H5 ((e2.trans e24.nil).trans e5) (((e2.trans e24.nil).trans e5).tabs hT) I5
end
end TR
/-! text FD -/
set_option Elab.async false
set_option linter.all false
set_option maxRecDepth 100000
set_option maxHeartbeats 4000000
/-! beds: come, slip, a new bed -/
namespace TR
open PySem PySem.Spec PyProof.Rows L2 VD
section
variable {P : Program} {w : World} {K : PySem.W.Frag} {mg : Str → Option Value} {base : Heap} {Z H H1 H2 : Hp} {B : BA} {W : Wd} {M : Bd} {sd : Pl} {bad : List Pl}
def spCome (K : PySem.W.Frag) (w : World) : Sp := fun vs H Q _ => ∃ (B : BA) (v vn : V) (p : Pl) (n : D) (W : Wd) (Z : Hp) (M : Bd) (sd : Pl), vs = [.ref B.b, v, vn] ∧ BedI K w Z H B W M sd [] ∧ Dt H v (plD p) ∧ LamX.Tabs (TabK K) H ∧
  Dt H vn n ∧ n ∈ W.order ∧ lkB M p = none ∧ M.length < 1000 ∧ 2 ≤ bonds W M p n ∧ ∀ H1, EX K [B.ly, B.cm] H H1 → LamX.Tabs (TabK K) H1 → BedI K w Z H1 B W (M ++ [(p, n)]) sd [] → Q .non H1
theorem ok_Bed_come (E : Ev K mg base) : Does P w K mg base L2.CX0 8 (He.ma K (He.ga K "Bed") "come") ["self", "place", "name"] (spCome K w) :=
  E.does0 (k := 7) ix_Bed_come rfl bn_Bed_come sc_Bed_come (fun _ _ _ _ ⟨_, _, _, _, _, _, _, _, _, h, _⟩ => by rw [h]; rfl) fun cdv A outer s H vs Q X hr h => by
    obtain ⟨B, v, vn, p, n, W, Z, M, sd, rfl, I, hv, hT, hvn, hn, hp, hl, hb, q⟩ := h
    refine ⟨_, (pss_cons (ps_expr (pe_doM (pv 0) (c_Bed E) (m_Bed_check_empty E) (ok_Bed_check_empty E) (hr.mono (by decide)) pass0 (pa_cons (pv 1) (pa_cons (pv 2) pa_nil))))
      (pss_cons (ps_set (i := 3) sc_Bed_come.nd rfl (by first | exact Or.inl rfl | exact Or.inr rfl) (pe_doM (pv 0) (c_Bed E) (m_Bed_bonds E) (ok_Bed_bonds E) (hr.mono (by decide)) pass0 (pa_cons (pv 1) (pa_cons (pv 2) pa_nil))))
      (pss_cons (ps_if (pt_cmpR op_lt (pv 3) pe_int (nomark _))
        (pss_one ps_never)
        pss_nil)
      (pss_one (ps_expr (pe_doM (pv 0) (c_Bed E) (m_Bed_lay E) (ok_Bed_lay E) (hr.mono (by decide)) pass0 (pa_cons (pv 1) (pa_cons (pv 2) pa_nil)))))))), ?_⟩
    refine ⟨_, rfl, B.b, _, _, rfl, I.o, rfl, _, rfl, _, rfl, B, v, vn, p, n, W, Z, M, sd, [], rfl, I, hv, hvn, hn, hp, ?_⟩
    refine ⟨_, rfl, B.b, _, _, rfl, I.o, rfl, _, rfl, _, rfl, B, v, vn, p, n, W, Z, M, sd, [], rfl, I, hv, hvn, hn, fun H2 e2 => ?_⟩
    have I2 := I.ext0 e2
    refine ⟨_, rfl, _, _, rfl, rfl, _, rfl, ?_⟩
    rw [show decide (bonds W M p n < 2) = false from decide_eq_false (by omega)]
    refine iteF ⟨_, rfl, B.b, _, _, rfl, I2.o, rfl, _, rfl, _, rfl, B, v, vn, p, W, Z, M, _, sd, rfl, I2, e2.dt hv, e2.tabs hT, .inl ⟨n, e2.dt hvn, hn, hp, hl, rfl⟩, fun H3 e3 T3 I3 => ?_⟩
    exact q H3 (e2.nil.trans e3) T3 I3
def spSlip (K : PySem.W.Frag) (w : World) : Sp := fun vs H Q _ => ∃ (B : BA) (v vn : V) (p : Pl) (n : D) (W : Wd) (Z : Hp) (M : Bd) (sd : Pl), vs = [.ref B.b, v, vn] ∧ BedI K w Z H B W M sd [] ∧ Dt H v (plD p) ∧ LamX.Tabs (TabK K) H ∧
  Dt H vn n ∧ n ∈ W.order ∧ lkB M p = none ∧ M.length < 1000 ∧ ∀ H1, EX K [B.ly, B.cm] H H1 → LamX.Tabs (TabK K) H1 → BedI K w Z H1 B W (M ++ [(p, n)]) sd [] → Q .non H1
theorem ok_Bed_slip (E : Ev K mg base) : Does P w K mg base L2.CX0 8 (He.ma K (He.ga K "Bed") "slip") ["self", "place", "name"] (spSlip K w) :=
  E.does0 (k := 7) ix_Bed_slip rfl bn_Bed_slip sc_Bed_slip (fun _ _ _ _ ⟨_, _, _, _, _, _, _, _, _, h, _⟩ => by rw [h]; rfl) fun cdv A outer s H vs Q X hr h => by
    obtain ⟨B, v, vn, p, n, W, Z, M, sd, rfl, I, hv, hT, hvn, hn, hp, hl, q⟩ := h
    refine ⟨_, (pss_cons (ps_expr (pe_doM (pv 0) (c_Bed E) (m_Bed_check_empty E) (ok_Bed_check_empty E) (hr.mono (by decide)) pass0 (pa_cons (pv 1) (pa_cons (pv 2) pa_nil))))
      (pss_one (ps_expr (pe_doM (pv 0) (c_Bed E) (m_Bed_lay E) (ok_Bed_lay E) (hr.mono (by decide)) pass0 (pa_cons (pv 1) (pa_cons (pv 2) pa_nil)))))), ?_⟩
    refine ⟨_, rfl, B.b, _, _, rfl, I.o, rfl, _, rfl, _, rfl, B, v, vn, p, n, W, Z, M, sd, [], rfl, I, hv, hvn, hn, hp, ?_⟩
    refine ⟨_, rfl, B.b, _, _, rfl, I.o, rfl, _, rfl, _, rfl, B, v, vn, p, W, Z, M, _, sd, rfl, I, hv, hT, .inl ⟨n, hvn, hn, hp, hl, rfl⟩, fun H3 e3 T3 I3 => q H3 e3 T3 I3⟩
def spBedInit (K : PySem.W.Frag) (w : World) : Sp := fun vs H Q _ => ∃ (x dx ts : Addr) (vp vn : V) (n : D) (W : Wd) (Z : Hp) (sd : Pl), vs = [.ref x, .ref ts, vp, vn] ∧ H x = some (.ins (CBed K) dx []) ∧ Frz Z H ∧ Z x = none ∧ TSO K w Z ts W ∧ WNice W ∧ Dt H vp (plD sd) ∧ Dt H vn n ∧ n ∈ W.order ∧ LamX.Tabs (TabK K) H ∧
  ∀ ly cm H1, EX K [x] H H1 → LamX.Tabs (TabK K) H1 → H ly = none → H cm = none → BedI K w Z H1 ⟨x, dx, ts, ly, cm, vp, vn⟩ W [(sd, n)] sd [] → Q .non H1
theorem ok_Bed_init (E : Ev K mg base) : Does P w K mg base L2.CX0 8 (He.ma K (He.ga K "Bed") "__init__") ["self", "tile_set", "seed_place", "seed_name"] (spBedInit K w) :=
  E.does0 (k := 7) ix_Bed_init rfl bn_Bed_init sc_Bed_init (fun _ _ _ _ ⟨_, _, _, _, _, _, _, _, _, h, _⟩ => by rw [h]; rfl) fun cdv A outer s H vs Q X hr h => by
    obtain ⟨x, dx, ts, vp, vn, n, W, Z, sd, rfl, hx, fz, zx, ts', wn, hvp, hvn, hn, hT, q⟩ := h
    refine ⟨_, (pss_cons (ps_expr (pe_do (ok_check_place E) (hr.mono (by decide)) (by rfl) (g_check_place E) pass0 (pa_cons (pv 2) pa_nil)))
      (pss_cons (ps_expr (pe_doM (pv 1) (c_TileSet E) (m_TileSet_tile_of E) (ok_TileSet_tile_of E) (hr.mono (by decide)) pass0 (pa_cons (pv 3) pa_nil)))
      (pss_cons (ps_fld (pv 0) (pv 1) (by rfl))
      (pss_cons (ps_fld (pv 0) (pv 2) (by rfl))
      (pss_cons (ps_fld (pv 0) (pv 3) (by rfl))
      (pss_cons (ps_fld (pv 0) pe_xnew (by rfl))
      (pss_cons (ps_fld (pv 0) pe_xnew (by rfl))
      (pss_one (ps_expr (pe_doM (pv 0) (c_Bed E) (m_Bed_lay E) (ok_Bed_lay E) (hr.mono (by decide)) pass0 (pa_cons (pv 2) (pa_cons (pv 3) pa_nil)))))))))))), ?_⟩
    obtain ⟨dxs, fs, hts, lk1, lk2, lk3⟩ := (ts'.up fz.sub).obj
    refine ⟨_, rfl, vp, sd, rfl, hvp, ?_⟩
    refine ⟨_, rfl, _, _, _, rfl, hts, lk1, _, rfl, ts, vn, n, W, Z, rfl, fz, ts', wn, hvn, hn, fun t hto => ?_⟩
    refine ⟨_, rfl, _, rfl, x, CBed K, dx, [], rfl, hx, c_Bed E, na_Bed_tile_set E, ln0, ?_⟩
    have e1 := insUpd (K := K) (H := H) (C1 := CBed K) (dx1 := dx) (ys := [("tile_set", .ref ts)]) hx
    refine ⟨_, rfl, _, rfl, x, CBed K, dx, [("tile_set", .ref ts)], rfl, upd_same, c_Bed E, na_Bed_seed_place E, ln1, ?_⟩
    refine ⟨_, rfl, _, rfl, x, CBed K, dx, [("tile_set", .ref ts), ("seed_place", vp)], rfl, upd_same, c_Bed E, na_Bed_seed_name E, ln2, ?_⟩
    have e3 : EX K [x] H _ := (e1.trans (insUpd (K := K) (C1 := CBed K) (dx1 := dx) (ys := [("tile_set", .ref ts), ("seed_place", vp)]) upd_same)).trans (insUpd (K := K) (C1 := CBed K) (dx1 := dx) (ys := [("tile_set", .ref ts), ("seed_place", vp), ("seed_name", vn)]) upd_same)
    have hx3 : (upd (upd (upd H x (.ins (CBed K) dx [("tile_set", .ref ts)])) x (.ins (CBed K) dx [("tile_set", .ref ts), ("seed_place", vp)])) x (.ins (CBed K) dx [("tile_set", .ref ts), ("seed_place", vp), ("seed_name", vn)])) x = some (.ins (CBed K) dx [("tile_set", .ref ts), ("seed_place", vp), ("seed_name", vn)]) := upd_same
    intro ly H4 hly m4 c4
    have e4 : EX K [] _ H4 := Ext.newC hly c4
    have hxl : x ≠ ly := ne_of_none hx3 hly
    have hx4 := e4.at0 hx3
    refine ⟨_, rfl, x, CBed K, dx, _, rfl, hx4, c_Bed E, na_Bed_lying E, ln3, ?_⟩
    have e5 := e4.nil.trans (insUpd (K := K) (C1 := CBed K) (dx1 := dx) (ys := [("tile_set", .ref ts), ("seed_place", vp), ("seed_name", vn), ("lying", .ref ly)]) hx4)
    have m5 : DictE w (upd H4 x (.ins (CBed K) dx [("tile_set", .ref ts), ("seed_place", vp), ("seed_name", vn), ("lying", .ref ly)])) ly [] := (insUpd (K := K) hx4).dictE m4 (by simp; exact fun z => hxl z.symm)
    have hx5 : (upd H4 x (.ins (CBed K) dx [("tile_set", .ref ts), ("seed_place", vp), ("seed_name", vn), ("lying", .ref ly)])) x = some (.ins (CBed K) dx [("tile_set", .ref ts), ("seed_place", vp), ("seed_name", vn), ("lying", .ref ly)]) := upd_same
    intro cm H6 hcm m6 c6
    have e6 : EX K [] _ H6 := Ext.newC hcm c6
    have hxc : x ≠ cm := ne_of_none hx5 hcm
    have hlc : ly ≠ cm := by obtain ⟨ep, h⟩ := m5.ob; exact ne_of_none h hcm
    have hx6 := e6.at0 hx5
    have m56 := e6.dictE m5 (by simp)
    refine ⟨_, rfl, x, CBed K, dx, _, rfl, hx6, c_Bed E, na_Bed_coming E, ln4, ?_⟩
    have e7 := insUpd (K := K) (C1 := CBed K) (dx1 := dx) (ys := [("tile_set", .ref ts), ("seed_place", vp), ("seed_name", vn), ("lying", .ref ly), ("coming", .ref cm)]) hx6
    have eA : EX K [x] H _ := ((e3.trans e5).trans e6.nil).trans e7
    have hly0 : H ly = none := e3.fresh hly
    have hcm0 : H cm = none := (e3.trans e5).fresh hcm
    have hx7 : (upd H6 x (.ins (CBed K) dx [("tile_set", .ref ts), ("seed_place", vp), ("seed_name", vn), ("lying", .ref ly), ("coming", .ref cm)])) x = some (.ins (CBed K) dx [("tile_set", .ref ts), ("seed_place", vp), ("seed_name", vn), ("lying", .ref ly), ("coming", .ref cm)]) := upd_same
    have I : BedI K w Z _ ⟨x, dx, ts, ly, cm, vp, vn⟩ W [] sd [] := ⟨hx7, fz.ext eA (by simp; exact zx), ts', wn, DictA.nil (e7.dictE m56 (by simp; exact fun z => hxl z.symm)),
      ⟨[], DictA.nil (e7.dictE m6 (by simp; exact fun z => hxc z.symm)), (by intro k hk; cases hk), fun p _ => by
        rw [due_none (fun z => by
          obtain ⟨s, hs, h⟩ := fit_near z.2
          exact h rfl)]; rfl⟩,
      hlc, fz.none_ hly0, fz.none_ hcm0, eA.dt hvp, ⟨n, eA.dt hvn, hn⟩, (by intro x hx; cases hx), by simp⟩
    refine ⟨_, rfl, x, _, _, rfl, hx7, rfl, _, rfl, _, rfl, ⟨x, dx, ts, ly, cm, vp, vn⟩, vp, vn, sd, W, Z, [], _, sd, rfl, I, eA.dt hvp, eA.tabs hT, .inl ⟨n, eA.dt hvn, hn, rfl, by simp, rfl⟩, fun H8 e8 T8 I8 => ?_⟩
    exact q ly cm H8 (eA.then_ e8 (by simp; exact ⟨.inl hly0, .inl hcm0⟩)) T8 hly0 hcm0 I8
end
end TR
/-! text M2 -/
set_option Elab.async false
set_option linter.all false
set_option maxRecDepth 100000
set_option maxHeartbeats 4000000
/-! rounds: the plain law -/
namespace TR
open PySem VD
def st (W : Wd) (M : Bd) : Nat → Bd
  | 0 => M
  | k + 1 => st W M k ++ lot W (st W M k)
def rnds (W : Wd) (M : Bd) (k : Nat) : List (List (Pl × D)) := (List.range k).map fun j => lot W (st W M j)
structure Run (W : Wd) (M : Bd) (most : Int) (k : Nat) : Prop where
  ne : ∀ j, j < k → lot W (st W M j) ≠ []
  le : ∀ j, j < k → ((st W M (j + 1)).length : Int) ≤ most
def Done (W : Wd) (M : Bd) (k : Nat) : Prop := lot W (st W M k) = []
def Over (W : Wd) (M : Bd) (most : Int) (k : Nat) : Prop := lot W (st W M k) ≠ [] ∧ most < (st W M (k + 1)).length
section
variable {W : Wd} {M N : Bd} {most : Int} {k j : Nat} {p : Pl} {n : D}
theorem Run.zero : Run W M most 0 := ⟨fun _ h => by omega, fun _ h => by omega⟩
theorem Run.succ (h : Run W M most k) (h1 : lot W (st W M k) ≠ []) (h2 : ((st W M (k + 1)).length : Int) ≤ most) : Run W M most (k + 1) :=
  ⟨fun j hj => (Nat.lt_succ_iff_lt_or_eq.mp hj).elim (h.ne j) fun q => by rw [q]; exact h1, fun j hj => (Nat.lt_succ_iff_lt_or_eq.mp hj).elim (h.le j) fun q => by rw [q]; exact h2⟩
theorem end_lt (h : Run W M most k) (e : Done W M j ∨ Over W M most j) : k ≤ j := by
  by_cases q : j < k
  · rcases e with e | ⟨_, e⟩
    · exact absurd e (h.ne j q)
    · have := h.le j q; omega
  · omega
theorem end_uniq (h1 : Run W M most k) (e1 : Done W M k ∨ Over W M most k) (h2 : Run W M most j) (e2 : Done W M j ∨ Over W M most j) : k = j :=
  Nat.le_antisymm (end_lt h1 e2) (end_lt h2 e1)
theorem st_len (h : ∀ j, j < k → lot W (st W M j) ≠ []) : M.length + k ≤ (st W M k).length := by
  induction k with
  | zero => exact Nat.le_refl _
  | succ k ih =>
    have h1 := ih fun j hj => h j (by omega)
    have h2 := List.length_pos_iff.mpr (h k (by omega))
    show _ ≤ (st W M k ++ lot W (st W M k)).length
    rw [List.length_append]; omega
theorem Run.bound (h : Run W M most k) : k = 0 ∨ ((M.length + k : Nat) : Int) ≤ most := by
  match k, h with
  | 0, _ => exact .inl rfl
  | k + 1, h =>
    have h1 := st_len h.ne
    have h2 := h.le k (by omega)
    exact .inr (by omega)
theorem Run.len_le (h : Run W M most k) (h0 : M.length ≤ 1000) (hm : most ≤ 1000) : (st W M k).length ≤ 1000 := by
  match k, h with
  | 0, _ => exact h0
  | k + 1, h => have h2 := h.le k (by omega); omega
theorem st_sub : Sub (st W M k) (st W M (k + 1)) := Sub.app _ _
theorem st_sub_le {i : Nat} (h : i ≤ k) : Sub (st W M i) (st W M k) := by
  induction k with
  | zero => rw [Nat.le_zero.mp h]; exact Sub.refl _
  | succ k ih =>
    rcases Nat.lt_or_eq_of_le h with q | rfl
    · exact (ih (by omega)).trans st_sub
    · exact Sub.refl _
theorem lot_lk : lkB (lot W M) p = if lkB M p = none ∧ fit W M p ≠ [] then some ((fit W M p).headD .none) else none := by
  by_cases h : Fr1 W M p
  · rw [if_pos (show lkB M p = none ∧ fit W M p ≠ [] from h)]
    refine lkB_of_mem (by rw [lot_keys]; exact fr_nodup W M) ?_
    exact List.mem_map.mpr ⟨p, fr_mem.mpr h, rfl⟩
  · rw [if_neg (show ¬ (lkB M p = none ∧ fit W M p ≠ []) from h), lkB_none, lot_keys, fr_mem]
    exact h
theorem st_keys (h : (M.map (·.1)).Nodup) : ((st W M k).map (·.1)).Nodup := by
  induction k with
  | zero => exact h
  | succ k ih =>
    show ((st W M k ++ lot W (st W M k)).map (·.1)).Nodup
    rw [List.map_append, List.nodup_append, lot_keys]
    refine ⟨ih, fr_nodup _ _, fun a ha b hb z => ?_⟩
    subst z
    exact lkB_none.mp (fr_mem.mp hb).1 ha
theorem st_mem_order (h : ∀ x ∈ M, x.2 ∈ W.order) : ∀ x ∈ st W M k, x.2 ∈ W.order := by
  induction k with
  | zero => exact h
  | succ k ih =>
    intro x hx
    rcases List.mem_append.mp hx with hx | hx
    · exact ih x hx
    · exact (fit_mem.mp (lot_mem hx).2).1
/-- the levels: two bonds with those below, and not with those below the one ahead -/
theorem level_now {x : Pl × D} (h : x ∈ lot W (st W M k)) : 2 ≤ bonds W (st W M k) x.1 x.2 := (fit_mem.mp (lot_mem h).2).2
theorem level_ahead {x : Pl × D} (h : x ∈ lot W (st W M (k + 1))) : bonds W (st W M k) x.1 x.2 < 2 := by
  obtain ⟨⟨h1, h2⟩, h3⟩ := lot_mem h
  by_cases q : 2 ≤ bonds W (st W M k) x.1 x.2
  · exfalso
    have hf : x.2 ∈ fit W (st W M k) x.1 := fit_mem.mpr ⟨(fit_mem.mp h3).1, q⟩
    have h0 : lkB (st W M k) x.1 = none := by
      cases e : lkB (st W M k) x.1 with
      | none => rfl
      | some m => rw [st_sub _ _ e] at h1; cases h1
    have : lkB (st W M (k + 1)) x.1 = some ((fit W (st W M k) x.1).headD .none) := by
      show lkB (st W M k ++ lot W (st W M k)) x.1 = _
      rw [lkB_append, h0, lot_lk, if_pos ⟨h0, List.ne_nil_of_mem hf⟩]; rfl
    rw [this] at h1; cases h1
  · omega
/-- what came since -/
theorem came (h : lkB (st W M k) p = some n) (h0 : lkB M p = none) : ∃ j, j < k ∧ (p, n) ∈ lot W (st W M j) := by
  induction k with
  | zero => rw [show st W M 0 = M from rfl, h0] at h; cases h
  | succ k ih =>
    cases e : lkB (st W M k) p with
    | some m =>
      have := st_sub (W := W) (M := M) _ _ e
      rw [h] at this
      cases this
      obtain ⟨j, hj, q⟩ := ih e
      exact ⟨j, by omega, q⟩
    | none =>
      refine ⟨k, by omega, ?_⟩
      have h1 : lkB (st W M k ++ lot W (st W M k)) p = some n := h
      rw [lkB_append, e] at h1
      exact lkB_mem h1
theorem st_const (h : lot W (st W M k) = []) : ∀ j, st W M (k + j) = st W M k
  | 0 => rfl
  | j + 1 => by
    show st W M (k + j) ++ lot W (st W M (k + j)) = _
    rw [st_const h j, h, List.append_nil]
theorem st_const0 (h : lot W M = []) : st W M k = M := by
  have := st_const (W := W) (M := M) (k := 0) h k
  rw [Nat.zero_add] at this; exact this
end
/-! ### no rivals: each tile has one place -/
structure Own (W : Wd) (loc : D → Pl) : Prop where
  inj : ∀ n ∈ W.order, ∀ m ∈ W.order, loc n = loc m → n = m
  u : ∀ n ∈ W.order, ∀ m ∈ W.order, ∀ s, s < 4 → W.gl n s = W.gl m (opp s) → 0 < (W.gl n s).2 → loc m = nb (loc n) s
def Prp (W : Wd) (loc : D → Pl) (M : Bd) : Prop := ∀ x ∈ M, x.2 ∈ W.order ∧ x.1 = loc x.2
section
variable {W : Wd} {loc : D → Pl} {M N F S : Bd} {most : Int} {k j : Nat} {p : Pl} {n m : D}
theorem fit_own (w : WOk W) (o : Own W loc) (hM : Prp W loc M) (h : n ∈ fit W M p) : p = loc n := by
  obtain ⟨hn, hb⟩ := fit_mem.mp h
  have : ∃ s, s < 4 ∧ 0 < bd W M p n s := by
    by_cases h0 : 0 < bd W M p n 0
    · exact ⟨0, by omega, h0⟩
    by_cases h1 : 0 < bd W M p n 1
    · exact ⟨1, by omega, h1⟩
    by_cases h2 : 0 < bd W M p n 2
    · exact ⟨2, by omega, h2⟩
    by_cases h3 : 0 < bd W M p n 3
    · exact ⟨3, by omega, h3⟩
    unfold bonds at hb
    omega
  obtain ⟨s, hs, hp⟩ := this
  cases e : lkB M (nb p s) with
  | none =>
    have : bd W M p n s = 0 := by unfold bd; rw [e]
    omega
  | some q =>
    have hbd : bd W M p n s = if W.gl n s = W.gl q (opp s) then (W.gl n s).2 else 0 := by unfold bd; rw [e]
    by_cases hg : W.gl n s = W.gl q (opp s)
    · rw [hbd, if_pos hg] at hp
      obtain ⟨h1, h2⟩ := hM _ (lkB_mem e)
      have h3 := o.u n hn q h1 s hs hg hp
      have h4 : nb p s = nb (loc n) s := by rw [← h3]; exact h2
      have := congrArg (fun z => nb z (opp s)) h4
      simp only [nb_opp _ hs] at this
      exact this
    · rw [hbd, if_neg hg] at hp; omega
theorem fit_one (w : WOk W) (o : Own W loc) (hM : Prp W loc M) (h : n ∈ fit W M p) (h2 : m ∈ fit W M p) : n = m :=
  o.inj n (fit_mem.mp h).1 m (fit_mem.mp h2).1 ((fit_own w o hM h).symm.trans (fit_own w o hM h2))
theorem head_own (w : WOk W) (o : Own W loc) (hM : Prp W loc M) (h : n ∈ fit W M p) : (fit W M p).headD .none = n := by
  refine fit_one w o hM ?_ h
  cases e : fit W M p with
  | nil => rw [e] at h; cases h
  | cons a r => exact List.mem_cons_self
theorem may_own (w : WOk W) (o : Own W loc) (hM : Prp W loc M) (h : (p, n) ∈ may W M) : (p, n) ∈ lot W M := by
  obtain ⟨h1, h2⟩ := may_mem h
  exact List.mem_map.mpr ⟨p, fr_mem.mpr h1, by rw [head_own w o hM h2]⟩
theorem lot_prp (w : WOk W) (o : Own W loc) (hM : Prp W loc M) : Prp W loc (lot W M) := fun x hx => by
  obtain ⟨h1, h2⟩ := lot_mem hx
  exact ⟨(fit_mem.mp h2).1, fit_own w o hM h2⟩
theorem Prp.app (h : Prp W loc M) (h2 : Prp W loc N) : Prp W loc (M ++ N) := fun x hx => (List.mem_append.mp hx).elim (h x) (h2 x)
theorem st_prp (w : WOk W) (o : Own W loc) (hM : Prp W loc M) : Prp W loc (st W M k) := by
  induction k with
  | zero => exact hM
  | succ k ih => exact ih.app (lot_prp w o ih)
theorem prp_name (o : Own W loc) (hM : Prp W loc M) (hN : Prp W loc N) (h : lkB M p = some n) (h2 : lkB N p = some m) : n = m := by
  obtain ⟨a, b⟩ := hM _ (lkB_mem h)
  obtain ⟨c, d⟩ := hN _ (lkB_mem h2)
  exact o.inj n a m c (b.symm.trans d)
/-- what fits the lesser bed lies in the greater or may come there -/
theorem fit_up (w : WOk W) (o : Own W loc) (hM : Prp W loc M) (hN : Prp W loc N) (hs : Sub M N) (h : n ∈ fit W M p) : lkB (N ++ lot W N) p = some n := by
  have hp := fit_own w o hM h
  obtain ⟨h1, h2⟩ := fit_mem.mp h
  have h3 : n ∈ fit W N p := fit_mem.mpr ⟨h1, Int.le_trans h2 (bonds_mono w hs)⟩
  rw [lkB_append]
  cases e : lkB N p with
  | some m =>
    obtain ⟨a, b⟩ := hN _ (lkB_mem e)
    have : m = n := o.inj m a n h1 (b.symm.trans hp)
    rw [this]; rfl
  | none =>
    rw [lot_lk, if_pos ⟨e, List.ne_nil_of_mem h3⟩, head_own w o hN h3]; rfl
theorem step_mono (w : WOk W) (o : Own W loc) (hM : Prp W loc M) (hN : Prp W loc N) (hs : Sub M N) : Sub (M ++ lot W M) (N ++ lot W N) := fun p n h => by
  rw [lkB_append] at h
  cases e : lkB M p with
  | some m =>
    rw [e] at h; cases h
    exact Sub.app _ _ _ _ (hs _ _ e)
  | none =>
    rw [e] at h
    have hx := lkB_mem (M := lot W M) h
    exact fit_up w o hM hN hs (lot_mem hx).2
theorem st_mono (w : WOk W) (o : Own W loc) (hM : Prp W loc M) (hN : Prp W loc N) (hs : Sub M N) : Sub (st W M k) (st W N k) := by
  induction k with
  | zero => exact hs
  | succ k ih => exact step_mono w o (st_prp w o hM) (st_prp w o hN) ih
/-- what is closed holds all that grows in it -/
theorem st_in (w : WOk W) (o : Own W loc) (hM : Prp W loc M) (hF : Prp W loc F) (hs : Sub M F) (hc : lot W F = []) : Sub (st W M k) F := by
  have := st_mono (k := k) w o hM hF hs
  rw [st_const0 hc] at this
  exact this
theorem sub_len (hM : (M.map (·.1)).Nodup) (hs : Sub M N) : M.length ≤ N.length := by
  have := nodup_len (l := M.map (·.1)) (m := N.map (·.1)) hM fun p hp => by
    obtain ⟨x, hx, rfl⟩ := List.mem_map.mp hp
    have := hs _ _ (lkB_of_mem hM hx)
    exact List.mem_map.mpr ⟨_, lkB_mem this, rfl⟩
  rw [List.length_map, List.length_map] at this
  exact this
theorem prp_len (hn : (M.map (·.1)).Nodup) (hM : Prp W loc M) : M.length ≤ W.order.length := by
  have := nodup_len (l := M.map (·.1)) (m := W.order.map loc) hn fun p hp => by
    obtain ⟨x, hx, rfl⟩ := List.mem_map.mp hp
    obtain ⟨a, b⟩ := hM x hx
    exact List.mem_map.mpr ⟨_, a, b.symm⟩
  rw [List.length_map, List.length_map] at this
  exact this
/-- the whole bed F grows from the seed S in K rounds -/
structure Grown (W : Wd) (loc : D → Pl) (S F : Bd) (K : Nat) : Prop where
  w : WOk W
  o : Own W loc
  s : Prp W loc S
  f : F = st W S K
  c : lot W F = []
structure Part (W : Wd) (loc : D → Pl) (S F M : Bd) : Prop where
  p : Prp W loc M
  lo : Sub S M
  hi : Sub M F
theorem Grown.fp (g : Grown W loc S F k) : Prp W loc F := by rw [g.f]; exact st_prp g.w g.o g.s
theorem Grown.up (g : Grown W loc S F k) (m : Part W loc S F M) : Sub (st W M j) F := st_in g.w g.o m.p g.fp m.hi g.c
theorem Grown.full (g : Grown W loc S F k) (m : Part W loc S F M) : Sub F (st W M k) := by
  have := st_mono (k := k) g.w g.o g.s m.p m.lo
  rwa [← g.f] at this
theorem Grown.done (g : Grown W loc S F k) (m : Part W loc S F M) : lot W (st W M k) = [] := by
  cases e : lot W (st W M k) with
  | nil => rfl
  | cons x r =>
    exfalso
    have hx : x ∈ lot W (st W M k) := by rw [e]; exact List.mem_cons_self
    obtain ⟨⟨h1, h2⟩, h3⟩ := lot_mem hx
    have := fit_up g.w g.o (st_prp g.w g.o m.p) g.fp (g.up m) h3
    rw [g.c, List.append_nil] at this
    rw [g.full m _ _ this] at h1
    cases h1
theorem Grown.rounds_le (g : Grown W loc S F k) (m : Part W loc S F M) (h : Run W M most j) : j ≤ k := end_lt h (.inl (g.done m))
theorem Grown.not_over (g : Grown W loc S F k) (m : Part W loc S F M) (hn : (M.map (·.1)).Nodup) (hl : (F.length : Int) ≤ most) : ¬ Over W M most j := fun h => by
  have h1 := sub_len (st_keys (W := W) (k := j + 1) hn) (g.up m)
  have := h.2
  omega
/-- the end of M is F -/
theorem Grown.end_ (g : Grown W loc S F k) (m : Part W loc S F M) (h : Run W M most j) (d : Done W M j) : Sub F (st W M j) := by
  have h1 := g.rounds_le m h
  have h2 := st_const (W := W) (M := M) (k := j) d (k - j)
  rw [show j + (k - j) = k by omega] at h2
  rw [← h2]; exact g.full m
/-- a step brings no tile sooner than its round -/
theorem Grown.step (g : Grown W loc S F k) (m : Part W loc S F M) {X : Bd} {t e : Nat} (h1 : Sub M X) (h2 : Sub X (st W M t)) (hX : Prp W loc X) (d : Done W M e) (h : (p, n) ∈ may W X) :
    lkB (st W M (t + 1)) p = some n ∧ ∃ i, i ≤ t ∧ i < e ∧ (p, n) ∈ lot W (st W M i) := by
  obtain ⟨⟨h3, _⟩, h4⟩ := may_mem h
  have h5 : lkB (st W M (t + 1)) p = some n := fit_up g.w g.o hX (st_prp g.w g.o m.p) h2 h4
  refine ⟨h5, ?_⟩
  have h0 : lkB M p = none := by
    cases e : lkB M p with
    | none => rfl
    | some q => rw [h1 _ _ e] at h3; cases h3
  obtain ⟨i, hi, q⟩ := came h5 h0
  refine ⟨i, by omega, ?_, q⟩
  by_cases hie : i < e
  · exact hie
  · have h6 := st_const (W := W) (M := M) (k := e) d (i - e)
    rw [show e + (i - e) = i by omega] at h6
    rw [h6, d] at q
    cases q
/-- the lesser hole: no place has a greater round -/
theorem Grown.lesser (g : Grown W loc S F k) (m : Part W loc S F M) (l : Part W loc S F N) (hs : Sub M N) {e : Nat} (h : Run W M most e) (d : Done W M e) (hq : (p, n) ∈ lot W (st W N j)) :
    ∃ i, j ≤ i ∧ i < e ∧ (p, n) ∈ lot W (st W M i) := by
  obtain ⟨⟨h1, _⟩, h2⟩ := lot_mem hq
  have h3 : lkB (st W N (j + 1)) p = some n := fit_up g.w g.o (st_prp g.w g.o l.p) (st_prp g.w g.o l.p) (Sub.refl _) h2
  have h4 := g.end_ m h d _ _ (g.up l _ _ h3)
  have h0 : lkB M p = none := by
    cases e : lkB M p with
    | none => rfl
    | some q => rw [st_sub_le (Nat.zero_le j) _ _ (hs _ _ e)] at h1; cases h1
  obtain ⟨i, hi, q⟩ := came h4 h0
  refine ⟨i, ?_, hi, q⟩
  by_cases hij : j ≤ i
  · exact hij
  · exfalso
    have h5 : lkB (st W M (i + 1)) p = some n := fit_up g.w g.o (st_prp g.w g.o m.p) (st_prp g.w g.o m.p) (Sub.refl _) (lot_mem q).2
    have h6 := st_sub_le (W := W) (M := N) (show i + 1 ≤ j by omega) _ _ (st_mono g.w g.o m.p l.p hs _ _ h5)
    rw [h6] at h1; cases h1
end
end TR
/-! text N0 -/
set_option Elab.async false
set_option linter.all false
set_option maxRecDepth 100000
set_option maxHeartbeats 4000000
/-! turns with any body; places in order -/
namespace TR
open PySem PySem.Spec PyProof.Rows L2 VD
section
variable {K : PySem.W.Frag} {Bo : (Hp → Prop) → V → Hp → Prop} {Qd : Hp → Prop} {H0 : Hp} {a : Addr} {xs : List V}
theorem wk_list (Pv : Nat → Hp → Prop) (h0 : Pv 0 H0) (hl : ∀ i H, i ≤ xs.length → Pv i H → SqL K H a xs) (hs : ∀ i x H, xs[i]? = some x → Pv i H → Bo (Pv (i + 1)) x H) (hd : ∀ H, Pv xs.length H → Qd H) :
    ∃ W : Nat → Nat → Hp → Prop, (∃ m, W 0 m H0) ∧ ∀ i m H, W i m H →
      ((Itl K a).stop i H ∧ Qd H) ∨ ((Itl K a).go i H ∧ ∃ Nx : Hp → Prop, (∀ H', Nx H' → ∃ m', m' < m ∧ W (i + 1) m' H') ∧ ∀ x H', (Itl K a).yld i H x H' → Bo Nx x H') := by
  refine ⟨fun i m H => m = xs.length - i ∧ i ≤ xs.length ∧ Pv i H, ⟨xs.length, by simp, Nat.zero_le _, h0⟩, ?_⟩
  rintro i m H ⟨rfl, hi, p⟩
  have q := hl i H hi p
  by_cases hlt : i < xs.length
  · refine .inr ⟨⟨xs, xs[i], q, by simp [hlt]⟩, Pv (i + 1), fun H' p' => ⟨xs.length - (i + 1), by omega, rfl, hlt, p'⟩, fun x H' y => ?_⟩
    obtain ⟨e, y⟩ := y
    subst e
    exact hs i x _ (y xs q) p
  · have e : i = xs.length := by omega
    subst e
    exact .inl ⟨⟨xs, q, Nat.le_refl _⟩, hd H p⟩
theorem wk_tup (Pv : Nat → Hp → Prop) (h0 : Pv 0 H0) (hl : ∀ i H, i ≤ xs.length → Pv i H → SqT K H a xs) (hs : ∀ i x H, xs[i]? = some x → Pv i H → Bo (Pv (i + 1)) x H) (hd : ∀ H, Pv xs.length H → Qd H) :
    ∃ W : Nat → Nat → Hp → Prop, (∃ m, W 0 m H0) ∧ ∀ i m H, W i m H →
      ((Itt K a).stop i H ∧ Qd H) ∨ ((Itt K a).go i H ∧ ∃ Nx : Hp → Prop, (∀ H', Nx H' → ∃ m', m' < m ∧ W (i + 1) m' H') ∧ ∀ x H', (Itt K a).yld i H x H' → Bo Nx x H') := by
  refine ⟨fun i m H => m = xs.length - i ∧ i ≤ xs.length ∧ Pv i H, ⟨xs.length, by simp, Nat.zero_le _, h0⟩, ?_⟩
  rintro i m H ⟨rfl, hi, p⟩
  have q := hl i H hi p
  by_cases hlt : i < xs.length
  · refine .inr ⟨⟨xs, xs[i], q, by simp [hlt]⟩, Pv (i + 1), fun H' p' => ⟨xs.length - (i + 1), by omega, rfl, hlt, p'⟩, fun x H' y => ?_⟩
    obtain ⟨e, y⟩ := y
    subst e
    exact hs i x _ (y xs q) p
  · have e : i = xs.length := by omega
    subst e
    exact .inl ⟨⟨xs, q, Nat.le_refl _⟩, hd H p⟩
end
def srt (l : List Pl) : List Pl := l.mergeSort plLe
theorem srt_perm (l : List Pl) : (srt l).Perm l := List.mergeSort_perm _ _
theorem srt_mem {l : List Pl} {p : Pl} : p ∈ srt l ↔ p ∈ l := (srt_perm l).mem_iff
theorem srt_len {l : List Pl} : (srt l).length = l.length := (srt_perm l).length_eq
theorem srt_nd {l : List Pl} (h : l.Nodup) : (srt l).Nodup := (srt_perm l).nodup_iff.mpr h
theorem srt_sorted (l : List Pl) : PlS (srt l) := List.pairwise_mergeSort (le := plLe) (fun a b c h k => plLe_tr h k) plLe_tot l
theorem srt_eq {l m : List Pl} (h : l.Nodup) (k : m.Nodup) (e : ∀ p, p ∈ l ↔ p ∈ m) : srt l = srt m :=
  pls_eq (srt_sorted l) (srt_sorted m) (srt_nd h) (srt_nd k) fun p => by rw [srt_mem, srt_mem]; exact e p
theorem sort_pv {bs : List PV} (h : (bs.map (·.2)).Nodup) : (bs.mergeSort pvLe).map (·.2) = srt (bs.map (·.2)) := by
  have pm : ((bs.mergeSort pvLe).map (·.2)).Perm (bs.map (·.2)) := (List.mergeSort_perm bs pvLe).map _
  refine pls_eq ?_ (srt_sorted _) (pm.nodup_iff.mpr h) (srt_nd h) fun p => by rw [srt_mem]; exact pm.mem_iff
  exact List.pairwise_map.mpr (List.pairwise_mergeSort (le := pvLe) (fun a b c h k => plLe_tr (a := a.2) (b := b.2) (c := c.2) h k) (fun a b => plLe_tot a.2 b.2) bs)
theorem dts_pv {H : Hp} : ∀ {bs : List PV}, (∀ b ∈ bs, Dt H b.1 (plD b.2)) → DtAll H (bs.map (·.1)) ((bs.map (·.2)).map plD)
  | [], _ => .nil
  | b :: bs, h => .cons (h b List.mem_cons_self) (dts_pv fun c hc => h c (List.mem_cons_of_mem _ hc))
theorem pv_of {H : Hp} : ∀ {vs : List V} {ps : List Pl}, DtAll H vs (ps.map plD) → ∃ bs : List PV, bs.map (·.1) = vs ∧ bs.map (·.2) = ps ∧ ∀ b ∈ bs, Dt H b.1 (plD b.2)
  | [], [], _ => ⟨[], rfl, rfl, fun b hb => by cases hb⟩
  | v :: vs, p :: ps, .cons h t => by
    obtain ⟨bs, a, b, c⟩ := pv_of t
    refine ⟨(v, p) :: bs, by rw [List.map_cons, a], by rw [List.map_cons, b], fun x hx => ?_⟩
    rcases List.mem_cons.mp hx with rfl | hx
    · exact h
    · exact c x hx
/-- the keys of a dict of places -/
theorem keys_pl {ks : List D} (h : ∀ k ∈ ks, ∃ p, k = plD p) : ∃ ps : List Pl, ks = ps.map plD := by
  induction ks with
  | nil => exact ⟨[], rfl⟩
  | cons k ks ih =>
    obtain ⟨p, rfl⟩ := h k List.mem_cons_self
    obtain ⟨ps, rfl⟩ := ih fun x hx => h x (List.mem_cons_of_mem _ hx)
    exact ⟨p :: ps, rfl⟩
theorem plD_mem {ps : List Pl} {p : Pl} : plD p ∈ ps.map plD ↔ p ∈ ps := by
  constructor
  · intro h
    obtain ⟨q, hq, e⟩ := List.mem_map.mp h
    rw [← plD_inj e]; exact hq
  · intro h
    exact List.mem_map.mpr ⟨p, h, rfl⟩
theorem plD_nd {ps : List Pl} : (ps.map plD).Nodup → ps.Nodup := fun h => (List.pairwise_map.mp h).imp fun {a b} hne e => hne (by rw [e])
/-- sorted(list(d)) -/
theorem DictA.sorted {w : World} {H : Hp} {d : Addr} {al : AL} {ps : List Pl} (h : DictA w H d al) (hk : al.map (·.1) = ps.map plD) : ∃ (es : Es) (bs : List PV), DictE w H d es ∧ Ps H es al ∧ bs.map (·.1) = es.map (·.2.1) ∧ (∀ b ∈ bs, Dt H b.1 (plD b.2)) ∧
    DtAll H ((bs.mergeSort pvLe).map (·.1)) ((srt ps).map plD) ∧ es.length = ps.length := by
  obtain ⟨es, he, hp⟩ := h
  have hks := hp.keys
  rw [hk] at hks
  have hd := dts_of he.ks
  rw [hks] at hd
  obtain ⟨bs, a, b, c⟩ := pv_of hd
  refine ⟨es, bs, he, hp, a, c, ?_, ?_⟩
  · have hn : (bs.map (·.2)).Nodup := by
      rw [b]
      have := he.nd
      rw [hks] at this
      exact plD_nd this
    have := dts_pv (H := H) (bs := bs.mergeSort pvLe) fun x hx => c x ((List.mergeSort_perm _ _).mem_iff.mp hx)
    rw [sort_pv hn, b] at this
    exact this
  · have := congrArg List.length hks
    rw [List.length_map, List.length_map] at this
    exact this
/-- pairs -/
def pairD (x : Pl × D) : D := .tup [plD x.1, x.2]
def prs (M : Bd) : List (Pl × D) := (srt (M.map (·.1))).map fun p => (p, (lkB M p).getD .none)
def lotD (l : List (Pl × D)) : D := .tup (l.map pairD)
theorem BedI.nd {w : World} {K : PySem.W.Frag} {Z H : Hp} {B : BA} {W : Wd} {M : Bd} {sd : Pl} {bad : List Pl} (h : BedI K w Z H B W M sd bad) : (M.map (·.1)).Nodup := by
  have := h.ly.nd
  rw [bal_keys] at this
  exact plD_nd this
end TR
/-! text FE -/
set_option Elab.async false
set_option linter.all false
set_option maxRecDepth 100000
set_option maxHeartbeats 4000000
/-! beds: places, pairs, how_many, may_come -/
namespace TR
open PySem PySem.Spec PyProof.Rows L2 VD
section
variable {P : Program} {w : World} {K : PySem.W.Frag} {mg : Str → Option Value} {base : Heap} {Z H H1 H2 : Hp} {B : BA} {W : Wd} {M : Bd} {sd : Pl} {bad : List Pl}
def spPlaces (K : PySem.W.Frag) (w : World) : Sp := fun vs H Q _ => ∃ (B : BA) (W : Wd) (Z : Hp) (M : Bd) (sd : Pl), vs = [.ref B.b] ∧ BedI K w Z H B W M sd [] ∧
  ∀ t H1, EX K [] H H1 → Dt H1 (.ref t) (.tup ((srt (M.map (·.1))).map plD)) → Q (.ref t) H1
theorem ok_Bed_places (E : Ev K mg base) : Does P w K mg base L2.CX0 1 (He.ma K (He.ga K "Bed") "places") ["self"] (spPlaces K w) :=
  E.does0 (k := 0) ix_Bed_places rfl bn_Bed_places sc_Bed_places (fun _ _ _ _ ⟨_, _, _, _, _, h, _⟩ => by rw [h]; rfl) fun cdv A outer s H vs Q X hr h => by
    obtain ⟨B, W, Z, M, sd, rfl, I, q⟩ := h
    refine ⟨_, (pss_one (ps_ret (pe_callTy call_tuple_of (by rfl) (u_tuple E) b_tuple (pa_cons (pe_callB (cr_sortPl hr.units) (by rfl) (u_sorted E) b_sorted (pa_cons (pe_callTy (call_listX rfl) (by rfl) (u_list E) b_list (pa_cons (pe_fld (pv 0) rfl) pa_nil)) pa_nil)) pa_nil)))), ?_⟩
    obtain ⟨es, bs, he, hp, hb1, hb2, hds, hln⟩ := I.ly.sorted bal_keys
    refine ⟨_, rfl, _, _, _, _, _, rfl, I.o, c_Bed E, na_Bed_lying E, rfl, B.ly, es, rfl, he, fun l hl => ?_⟩
    have e1 : EX K [] H (upd H l (.lst (es.map (·.2.1)))) := Ext.new hl
    refine ⟨l, bs, rfl, .of (by rw [hb1]; exact upd_same), fun b hb => e1.dt (hb2 b hb), fun l2 hl2 => ?_⟩
    have e2 : EX K [] H (upd (upd H l (.lst (es.map (·.2.1)))) l2 (.lst ((bs.mergeSort pvLe).map (·.1)))) := e1.andNew hl2
    refine ⟨l2, _, rfl, .inl ⟨.of upd_same, fun t ht => ?_⟩⟩
    have e3 := e2.andNew (o := .tup ((bs.mergeSort pvLe).map (·.1))) ht
    exact q t _ e3 (Dt.new ht (e2.dts hds))
def spPairs (K : PySem.W.Frag) (w : World) : Sp := fun vs H Q _ => ∃ (B : BA) (W : Wd) (Z : Hp) (M : Bd) (sd : Pl), vs = [.ref B.b] ∧ BedI K w Z H B W M sd [] ∧
  ∀ t H1, EX K [] H H1 → Dt H1 (.ref t) (lotD (prs M)) → Q (.ref t) H1
theorem ok_Bed_pairs (E : Ev K mg base) : Does P w K mg base L2.CX0 1 (He.ma K (He.ga K "Bed") "pairs") ["self"] (spPairs K w) :=
  E.does0 (k := 0) ix_Bed_pairs rfl bn_Bed_pairs sc_Bed_pairs (fun _ _ _ _ ⟨_, _, _, _, _, h, _⟩ => by rw [h]; rfl) fun cdv A outer s H vs Q X hr h => by
    obtain ⟨B, W, Z, M, sd, rfl, I, q⟩ := h
    refine ⟨_, (pss_one (ps_ret (pe_callTy call_tuple_of (by rfl) (u_tuple E) b_tuple (pa_cons (pe_lc rfl sc_Bed_pairs.nd (pi_list (pe_callB (cr_sortPl hr.units) (by rfl) (u_sorted E) b_sorted (pa_cons (pe_callTy (call_listX rfl) (by rfl) (u_list E) b_list (pa_cons (pe_fld (pv 0) rfl) pa_nil)) pa_nil))) (own := [("place", 1)]) (blkOk_by (N := n_Bed_pairs) (sc := defScope s_Bed_pairs) (by decide +kernel)) (fun _ _ _ _ _ => (pg_name (i := 1) sc_Bed_pairs.nd rfl (by first | exact Or.inl rfl | exact Or.inr rfl))) (fun _ _ _ _ _ => pts_nil) (fun _ _ _ _ _ => (pe_tup (pa_cons (pv 1) (pa_cons (pe_xgetZ (w := w) rfl (pe_fldK (K := K) rfl (pv 0) rfl) (pv 1) (fun _ _ => rfl) hr) pa_nil))))) pa_nil)))), ?_⟩
    obtain ⟨es, bs, he, hp, hb1, hb2, hds, hln⟩ := I.ly.sorted bal_keys
    refine ⟨_, rfl, _, _, _, _, _, rfl, I.o, c_Bed E, na_Bed_lying E, rfl, B.ly, es, rfl, he, fun l hl => ?_⟩
    have e1 : EX K [] H (upd H l (.lst (es.map (·.2.1)))) := Ext.new hl
    refine ⟨l, bs, rfl, .of (by rw [hb1]; exact upd_same), fun b hb => e1.dt (hb2 b hb), fun l2 hl2 => ?_⟩
    have e2 : EX K [] H (upd (upd H l (.lst (es.map (·.2.1)))) l2 (.lst ((bs.mergeSort pvLe).map (·.1)))) := e1.andNew hl2
    have hl22 : (upd (upd H l (.lst (es.map (·.2.1)))) l2 (.lst ((bs.mergeSort pvLe).map (·.1)))) l2 = some (.lst ((bs.mergeSort pvLe).map (·.1))) := upd_same
    generalize upd (upd H l (.lst (es.map (·.2.1)))) l2 (.lst ((bs.mergeSort pvLe).map (·.1))) = H2 at e2 hl22
    refine ⟨l2, rfl, ⟨_, .of hl22⟩, fun l3 hl3 => ?_⟩
    have e3 : EX K [] H2 (upd H2 l3 (.lst [])) := Ext.new hl3
    have hpl : (prs M).length = M.length := by unfold prs; rw [List.length_map, srt_len, List.length_map]
    have hml := I.len
    refine wk_list (xs := (bs.mergeSort pvLe).map (·.1)) (fun i H5 => ∃ acc, EX K [] H2 H5 ∧ H5 l3 = some (.lst acc) ∧ DtAll H5 acc (((prs M).take i).map pairD))
      ⟨[], e3, upd_same, .nil⟩ (fun i H5 _ ⟨_, e, _⟩ => .of (e.at0 hl22)) ?_ ?_
    · rintro i c H5 hc ⟨acc, e5, hl5, ha5⟩
      obtain ⟨k, hk, hcd⟩ := hds.get hc
      obtain ⟨p, hp1, rfl⟩ := Option.map_eq_some_iff.mp (by rw [← List.getElem?_map]; exact hk)
      have hpm : p ∈ M.map (·.1) := srt_mem.mp (List.mem_of_getElem? hp1)
      obtain ⟨n, hlk⟩ : ∃ n, lkB M p = some n := by
        cases e : lkB M p with
        | none => exact absurd hpm (lkB_none.mp e)
        | some n => exact ⟨n, rfl⟩
      have e35 := e2.trans e5
      have I5 := I.ext0 e35
      obtain ⟨vn, hv1, hv2⟩ := (hp.ext e35.tups).some_ (x := n) (by rw [lkA_bal]; exact hlk)
      have hcd5 := e35.dt hcd
      refine ⟨rfl, ?_⟩
      refine ⟨_, rfl, _, rfl, _, _, _, _, _, rfl, I5.o, c_Bed E, na_Bed_lying E, rfl, _, rfl, B.ly, es, plD p, vn, rfl, e35.dictE he (by simp), hcd5, plD_d, hv1, sz2, fun T hT => ?_⟩
      have e6 : EX K [] H5 (upd H5 T (.tup [c, vn])) := Ext.new hT
      have hac := ha5.length
      rw [List.length_map, List.length_take] at hac
      refine ⟨acc, e6.at0 hl5, by rw [sizeLine_eq]; omega, acc ++ [.ref T], (e5.trans e6).lst (e6.at0 hl5) (.inl hl3), upd_same, ?_⟩
      have hpi : (prs M)[i]? = some (p, n) := by unfold prs; rw [List.getElem?_map, hp1, Option.map_some, hlk]; rfl
      rw [List.take_add_one, hpi, List.map_append]
      have e67 : EX K [l3] (upd H5 T (.tup [c, vn])) (upd (upd H5 T (.tup [c, vn])) l3 (.lst (acc ++ [.ref T]))) := Ext.refl.lst (e6.at0 hl5) (.inr (by simp))
      exact (e67.dts (e6.dts ha5)).app (.cons (e67.dt (Dt.new hT (.cons hcd5 (.cons hv2 .nil)))) .nil)
    · rintro H5 ⟨acc, e5, hl5, ha5⟩
      have hlen : ((bs.mergeSort pvLe).map (·.1)).length = (prs M).length := by
        have := hds.length
        rw [this]; unfold prs; rw [List.length_map, List.length_map]
      rw [hlen, List.take_length] at ha5
      refine ⟨l3, acc, rfl, .inl ⟨.of hl5, fun t ht => ?_⟩⟩
      exact q t _ ((e2.trans e5).andNew ht) (Dt.new ht ha5)
def spHowMany (K : PySem.W.Frag) (w : World) : Sp := fun vs H Q _ => ∃ (B : BA) (W : Wd) (Z : Hp) (M : Bd) (sd : Pl), vs = [.ref B.b] ∧ BedI K w Z H B W M sd [] ∧ Q (.int M.length) H
theorem ok_Bed_how_many (E : Ev K mg base) : Does P w K mg base L2.CX0 1 (He.ma K (He.ga K "Bed") "how_many") ["self"] (spHowMany K w) :=
  E.does0 (k := 0) ix_Bed_how_many rfl bn_Bed_how_many sc_Bed_how_many (fun _ _ _ _ ⟨_, _, _, _, _, h, _⟩ => by rw [h]; rfl) fun cdv A outer s H vs Q X hr h => by
    obtain ⟨B, W, Z, M, sd, rfl, I, q⟩ := h
    refine ⟨_, (pss_one (ps_ret (pe_callB call_lenX (by rfl) (u_len E) b_len (pa_cons (pe_fld (pv 0) rfl) pa_nil)))), ?_⟩
    obtain ⟨es, he, hp⟩ := I.ly
    refine ⟨_, rfl, _, _, _, _, _, rfl, I.o, c_Bed E, na_Bed_lying E, rfl, B.ly, es, rfl, he, ?_⟩
    rw [hp.length, I.nlt]
    exact q
end
end TR
/-! text FG -/
set_option Elab.async false
set_option linter.all false
set_option maxRecDepth 100000
set_option maxHeartbeats 4000000
/-! beds: may_come, twin, cut -/
namespace TR
open PySem PySem.Spec PyProof.Rows L2 VD
theorem flat_len {α β : Type} {f : α → List β} {c : Nat} : ∀ {l : List α}, (∀ x ∈ l, (f x).length ≤ c) → (l.flatMap f).length ≤ c * l.length
  | [], _ => by simp
  | a :: l, h => by
    have h1 := flat_len (f := f) (c := c) (l := l) fun x hx => h x (List.mem_cons_of_mem _ hx)
    have h2 := h a List.mem_cons_self
    rw [List.flatMap_cons, List.length_append, List.length_cons, Nat.mul_succ]; omega
theorem nd_take {al : AL} {i : Nat} {a : D × D} (nd : (al.map (·.1)).Nodup) (h : al[i]? = some a) : lkA (al.take i) a.1 = none := by
  rw [lkA_none]
  intro hm
  rw [List.map_take] at hm
  obtain ⟨j, hj, hje⟩ := List.mem_take_iff_getElem.mp hm
  have h1 : (al.map (·.1))[j]? = some a.1 := by rw [List.getElem?_eq_getElem (by omega), hje]
  have h2 : (al.map (·.1))[i]? = some a.1 := by rw [List.getElem?_map, h]; rfl
  have := (List.getElem?_inj (by omega) nd).mp (h1.trans h2.symm)
  omega
theorem Ps.at {H : Hp} : ∀ {es : Es} {al : AL} {i : Nat} {e : D × V × V}, Ps H es al → es[i]? = some e → ∃ a, al[i]? = some a ∧ e.1 = a.1 ∧ Dt H e.2.2 a.2
  | _, _, _, _, .nil, h => by cases h
  | _, _, 0, _, .cons p _, h => by cases h; exact ⟨_, rfl, p⟩
  | _, _, i + 1, _, .cons _ t, h => Ps.at (i := i) t h
theorem fit_len {W : Wd} {M : Bd} {p : Pl} : (fit W M p).length ≤ W.order.length := List.length_filter_le _ _
theorem fr_len {W : Wd} {M : Bd} : (fr W M).length ≤ 4 * M.length := by
  have := nodup_len (fr_nodup W M) fun p hp => fr1_cand (fr_mem.mp hp)
  rwa [cand_len] at this
section
variable {P : Program} {w : World} {K : PySem.W.Frag} {mg : Str → Option Value} {base : Heap} {Z H H1 H2 : Hp} {B : BA} {W : Wd} {M : Bd} {sd : Pl} {bad : List Pl}
/-- a new dict like one that stands -/
def spMay (K : PySem.W.Frag) (w : World) : Sp := fun vs H Q _ => ∃ (B : BA) (W : Wd) (Z : Hp) (M : Bd) (sd : Pl), vs = [.ref B.b] ∧ BedI K w Z H B W M sd [] ∧
  ∀ t H1, EX K [] H H1 → Dt H1 (.ref t) (lotD (may W M)) → Q (.ref t) H1
theorem ok_Bed_may_come (E : Ev K mg base) : Does P w K mg base L2.CX0 1 (He.ma K (He.ga K "Bed") "may_come") ["self"] (spMay K w) :=
  E.does0 (k := 0) ix_Bed_may_come rfl bn_Bed_may_come sc_Bed_may_come (fun _ _ _ _ ⟨_, _, _, _, _, h, _⟩ => by rw [h]; rfl) fun cdv A outer s H vs Q X hr h => by
    obtain ⟨B, W, Z, M, sd, rfl, I, q⟩ := h
    refine ⟨_, (pss_one (ps_ret (pe_callTy call_tuple_of (by rfl) (u_tuple E) b_tuple (pa_cons (pe_lc2 rfl sc_Bed_may_come.nd (pi_list (pe_callB (cr_sortPl hr.units) (by rfl) (u_sorted E) b_sorted (pa_cons (pe_callTy (call_listX rfl) (by rfl) (u_list E) b_list (pa_cons (pe_fld (pv 0) rfl) pa_nil)) pa_nil))) (own := [("place", 1), ("name", 2)]) (vs1 := [2]) (blkOk_by (N := n_Bed_may_come) (sc := defScope s_Bed_may_come) (by decide +kernel)) (by decide) (fun _ _ _ _ _ => (pg_name (i := 1) sc_Bed_may_come.nd rfl (by first | exact Or.inl rfl | exact Or.inr rfl))) (fun _ _ _ _ _ => pts_nil) (fun _ _ _ _ _ => (pi_tupK (K := K) rfl (pe_xgetZ (w := w) rfl (pe_fldK (K := K) rfl (pv 0) rfl) (pv 1) (fun _ _ => rfl) hr))) (fun _ _ _ _ _ => (pg_name (i := 2) sc_Bed_may_come.nd rfl (by first | exact Or.inl rfl | exact Or.inr rfl))) (fun _ _ _ _ _ => pts_nil) (fun _ _ _ _ _ => (pe_tup (pa_cons (pv 1) (pa_cons (pv 2) pa_nil))))) pa_nil)))), ?_⟩
    obtain ⟨cal, hcm, hck, hcf⟩ := id I.cm
    obtain ⟨ps, hps⟩ := keys_pl hck
    have hfr : srt ps = fr W M := by
      have hnd := hcm.nd
      rw [hps] at hnd
      refine fr_eq (srt_sorted _) (srt_nd (plD_nd hnd)) fun p => ?_
      rw [srt_mem, ← plD_mem, ← hps]
      constructor
      · intro hm
        by_cases hf : Fr1 W M p
        · exact hf
        · have := hcf p (by simp)
          rw [due_none hf] at this
          exact absurd hm (lkA_none.mp this)
      · intro hf
        have := hcf p (by simp)
        rw [due_some hf] at this
        by_cases hm : plD p ∈ cal.map (·.1)
        · exact hm
        · rw [lkA_none.mpr hm] at this; cases this
    obtain ⟨es, bs, he, hp, hb1, hb2, hds, hln⟩ := hcm.sorted hps
    rw [hfr] at hds
    refine ⟨_, rfl, _, _, _, _, _, rfl, I.o, c_Bed E, na_Bed_coming E, rfl, B.cm, es, rfl, he, fun l hl => ?_⟩
    have e1 : EX K [] H (upd H l (.lst (es.map (·.2.1)))) := Ext.new hl
    refine ⟨l, bs, rfl, .of (by rw [hb1]; exact upd_same), fun b hb => e1.dt (hb2 b hb), fun l2 hl2 => ?_⟩
    have e2 : EX K [] H (upd (upd H l (.lst (es.map (·.2.1)))) l2 (.lst ((bs.mergeSort pvLe).map (·.1)))) := e1.andNew hl2
    have hl22 : (upd (upd H l (.lst (es.map (·.2.1)))) l2 (.lst ((bs.mergeSort pvLe).map (·.1)))) l2 = some (.lst ((bs.mergeSort pvLe).map (·.1))) := upd_same
    generalize upd (upd H l (.lst (es.map (·.2.1)))) l2 (.lst ((bs.mergeSort pvLe).map (·.1))) = H2 at e2 hl22
    refine ⟨l2, rfl, ⟨_, .of hl22⟩, fun l3 hl3 => ?_⟩
    have e3 : EX K [] H2 (upd H2 l3 (.lst [])) := Ext.new hl3
    have hml := I.len
    have hwl := I.wn.len
    have hfl := fr_len (W := W) (M := M)
    have hdl : _ = (fr W M).length := hds.length.trans (List.length_map _)
    refine wk_list (xs := (bs.mergeSort pvLe).map (·.1)) (fun i H5 => ∃ acc, EX K [] H2 H5 ∧ H5 l3 = some (.lst acc) ∧ DtAll H5 acc ((((fr W M).take i).flatMap fun p => (fit W M p).map fun n => (p, n)).map pairD))
      ⟨[], e3, upd_same, .nil⟩ (fun i H5 _ ⟨_, e, _⟩ => .of (e.at0 hl22)) ?_ ?_
    · rintro i c H5 hc ⟨acc, e5, hl5, ha5⟩
      obtain ⟨k, hk, hcd⟩ := hds.get hc
      obtain ⟨p, hp1, rfl⟩ := Option.map_eq_some_iff.mp (by rw [← List.getElem?_map]; exact hk)
      have hi : i < (fr W M).length := by
        have := (List.getElem?_eq_some_iff.mp hp1).1; omega
      have hpf := fr_mem.mp (List.mem_of_getElem? hp1)
      have e25 := e2.trans e5
      have I5 := I.ext0 e25
      obtain ⟨v, hv1, hv2⟩ := (hp.ext e25.tups).some_ (x := .tup (fit W M p)) (by rw [hcf p (by simp), due_some hpf])
      obtain ⟨t, vs, rfl, hvs, hvd⟩ : ∃ t vs, v = .ref t ∧ H5 t = some (.tup vs) ∧ DtAll H5 vs (fit W M p) := by cases hv2 with | tup a b => exact ⟨_, _, rfl, a, b⟩
      have hcd5 := e25.dt hcd
      refine ⟨rfl, ?_⟩
      refine ⟨_, rfl, _, _, _, _, _, rfl, I5.o, c_Bed E, na_Bed_coming E, rfl, _, rfl, B.cm, es, plD p, _, rfl, e25.dictE he (by simp), hcd5, plD_d, hv1, t, rfl, ⟨vs, .of hvs⟩, ?_⟩
      have hvl := hvd.length
      refine wk_tup (xs := vs) (fun j H6 => ∃ acc, EX K [] H2 H6 ∧ EX K [l3] H5 H6 ∧ H6 l3 = some (.lst acc) ∧ DtAll H6 acc (((((fr W M).take i).flatMap fun p => (fit W M p).map fun n => (p, n)) ++ ((fit W M p).take j).map fun n => (p, n)).map pairD))
        ⟨acc, e5, .refl, hl5, by simpa using ha5⟩ (fun j H6 _ ⟨_, _, e, _⟩ => .of (e.tup hvs)) ?_ ?_
      · rintro j d H6 hd ⟨acc6, e6, e56, hl6, ha6⟩
        obtain ⟨n, hn, hdd⟩ := hvd.get hd
        have hj : j < (fit W M p).length := (List.getElem?_eq_some_iff.mp hn).1
        have hfl2 := fit_len (W := W) (M := M) (p := p)
        have hac := ha6.length
        have hb3 := flat_len (c := 100) (f := fun p => (fit W M p).map fun n => (p, n)) (l := (fr W M).take i) fun x _ => by
          rw [List.length_map]
          have := fit_len (W := W) (M := M) (p := x)
          omega
        rw [List.length_take] at hb3
        rw [List.length_map, List.length_append, List.length_map, List.length_take] at hac
        refine ⟨rfl, ?_⟩
        refine ⟨_, rfl, _, rfl, sz2, fun T hT => ?_⟩
        have e7 : EX K [] H6 (upd H6 T (.tup [c, d])) := Ext.new hT
        have e78 : EX K [l3] (upd H6 T (.tup [c, d])) (upd (upd H6 T (.tup [c, d])) l3 (.lst (acc6 ++ [.ref T]))) := Ext.refl.lst (e7.at0 hl6) (.inr (by simp))
        refine ⟨acc6, e7.at0 hl6, by rw [sizeLine_eq]; omega, acc6 ++ [.ref T], (e6.trans e7).lst (e7.at0 hl6) (.inl hl3), (e56.trans e7.nil).trans e78, upd_same, ?_⟩
        rw [show ∀ A : List (Pl × D), (A ++ ((fit W M p).take (j + 1)).map fun n => (p, n)).map pairD = (A ++ ((fit W M p).take j).map fun n => (p, n)).map pairD ++ [pairD (p, n)] from fun A => by rw [List.take_add_one, hn]; simp]
        exact (e78.dts (e7.dts ha6)).app (.cons (e78.dt (Dt.new hT (.cons (e56.dt hcd5) (.cons (e56.dt hdd) .nil)))) .nil)
      · rintro H6 ⟨acc6, e6, e56, hl6, ha6⟩
        refine ⟨acc6, e6, hl6, ?_⟩
        rw [hvl, List.take_length] at ha6
        rw [List.take_add_one, hp1, List.flatMap_append]
        simpa using ha6
    · rintro H5 ⟨acc, e5, hl5, ha5⟩
      rw [hdl, List.take_length] at ha5
      refine ⟨l3, acc, rfl, .inl ⟨.of hl5, fun t ht => ?_⟩⟩
      exact q t _ ((e2.trans e5).andNew ht) (Dt.new ht ha5)
def spTwin (K : PySem.W.Frag) (w : World) : Sp := fun vs H Q _ => ∃ (B : BA) (W : Wd) (Z : Hp) (M : Bd) (sd : Pl), vs = [.ref B.b] ∧ BedI K w Z H B W M sd [] ∧ LamX.Tabs (TabK K) H ∧
  ∀ (C : BA) H1, EX K [] H H1 → LamX.Tabs (TabK K) H1 → BedI K w Z H1 C W M sd [] → H C.b = none → H C.ly = none → H C.cm = none → C.ts = B.ts → C.vp = B.vp → C.vn = B.vn → Q (.ref C.b) H1
theorem ok_Bed_twin (E : Ev K mg base) : Does P w K mg base L2.CX0 10 (He.ma K (He.ga K "Bed") "twin") ["self"] (spTwin K w) :=
  E.does0 (k := 9) ix_Bed_twin rfl bn_Bed_twin sc_Bed_twin (fun _ _ _ _ ⟨_, _, _, _, _, h, _⟩ => by rw [h]; rfl) fun cdv A outer s H vs Q X hr h => by
    obtain ⟨B, W, Z, M, sd, rfl, I, hT, q⟩ := h
    refine ⟨_, (pss_cons (ps_set (i := 1) sc_Bed_twin.nd rfl (by first | exact Or.inl rfl | exact Or.inr rfl) (pe_doMk (mk_Bed E) (ok_Bed_init E) (hr.mono (by decide)) (by rfl) (g_Bed E) pass0 (pa_cons (pe_fld (pv 0) rfl) (pa_cons (pe_fld (pv 0) rfl) (pa_cons (pe_fld (pv 0) rfl) pa_nil)))))
      (pss_cons (ps_fld (pv 1) (pe_dcX rfl sc_Bed_twin.nd (pi_x (pe_fld (pv 0) rfl)) (own := [("place", 2)]) (blkOk_by (N := n_Bed_twin) (sc := defScope s_Bed_twin) (by decide +kernel)) (fun _ _ _ _ _ => (pg_name (i := 2) sc_Bed_twin.nd rfl (by first | exact Or.inl rfl | exact Or.inr rfl))) (fun _ _ _ _ _ => pts_nil) (fun _ _ _ _ _ => (pv 2)) (fun _ _ _ _ _ => (pe_xgetZ (w := w) rfl (pe_fldK (K := K) rfl (pv 0) rfl) (pv 2) (fun _ _ => rfl) hr)) hr.units) (by rfl))
      (pss_cons (ps_fld (pv 1) (pe_dcX rfl sc_Bed_twin.nd (pi_x (pe_fld (pv 0) rfl)) (own := [("place", 2)]) (blkOk_by (N := n_Bed_twin) (sc := defScope s_Bed_twin) (by decide +kernel)) (fun _ _ _ _ _ => (pg_name (i := 2) sc_Bed_twin.nd rfl (by first | exact Or.inl rfl | exact Or.inr rfl))) (fun _ _ _ _ _ => pts_nil) (fun _ _ _ _ _ => (pv 2)) (fun _ _ _ _ _ => (pe_xgetZ (w := w) rfl (pe_fldK (K := K) rfl (pv 0) rfl) (pv 2) (fun _ _ => rfl) hr)) hr.units) (by rfl))
      (pss_one (ps_ret (pv 1)))))), ?_⟩
    refine ⟨_, rfl, _, _, _, _, _, rfl, I.o, c_Bed E, na_Bed_tile_set E, rfl, _, rfl, _, _, _, _, _, rfl, I.o, c_Bed E, na_Bed_seed_place E, rfl, _, rfl, _, _, _, _, _, rfl, I.o, c_Bed E, na_Bed_seed_name E, rfl, ?_⟩
    intro x dx hx hdx hne
    have e1 : EX K [] H (upd (upd H dx (.own x)) x (.ins (CBed K) dx [])) := (Ext.new hdx).trans (Ext.new (by rw [upd_ne (fun z => hne z.symm)]; exact hx))
    obtain ⟨n, hn1, hn2⟩ := I.vn
    refine ⟨x, dx, B.ts, B.vp, B.vn, n, W, Z, sd, rfl, upd_same, I.fz.ext0 e1, I.fz.none_ hx, I.ts, I.wn, e1.dt I.vp, e1.dt hn1, hn2, e1.tabs hT, fun ly cm H2 e2 T2 hly hcm I2 => ⟨rfl, ?_⟩⟩
    have e12 : EX K [] H H2 := e1.then1 e2 (.inl hx)
    clear e2
    have IB := I.ext0 e12
    obtain ⟨es, he, hp⟩ := IB.ly
    have hesl := hp.length
    have hml := I.len
    rw [I.nlt] at hesl
    have hbnd := IB.ly.nd
    refine ⟨_, rfl, _, _, _, _, _, rfl, IB.o, c_Bed E, na_Bed_lying E, rfl, B.ly, es, rfl, he, fun u hu D H3 hD m3 c3 => ?_⟩
    have e3 : EX K [] H2 H3 := Ext.newC hD c3
    refine dcX_x (xs := es.map (·.2.1)) (fun i H5 => EX K [] H2 H5 ∧ DictA w H5 D ((bal M).take i)) ⟨e3, DictA.nil m3⟩ (fun i H5 _ ⟨e, _⟩ => ?_) ?_ ?_
    · obtain ⟨ep, h⟩ := he.ob
      rw [h] at hu; cases hu
      exact e.at0 h
    · rintro i c H5 hc ⟨e5, es5, m5, p5⟩
      rw [List.getElem?_map] at hc
      obtain ⟨en, hen, rfl⟩ := Option.map_eq_some_iff.mp hc
      obtain ⟨a, ha, hk, hv⟩ := hp.at hen
      have hem := List.mem_of_getElem? hen
      have hlk := lookE_mem he.nd hem
      have hcd := he.ks en hem
      have hi : i < (bal M).length := (List.getElem?_eq_some_iff.mp ha).1
      rw [I.nlt] at hi
      have h5l := p5.length
      rw [List.length_take] at h5l
      refine ⟨rfl, ?_⟩
      refine ⟨_, rfl, _, rfl, _, _, _, _, _, rfl, (IB.ext0 e5).o, c_Bed E, na_Bed_lying E, rfl, _, rfl, B.ly, es, en.1, _, rfl, e5.dictE he (by simp), e5.dt hcd.1, hcd.2, hlk, es5, en.1, m5, e5.dt hcd.1, hcd.2, by rw [sizeLine_eq]; omega, fun H6 m6 c6 => ?_⟩
      refine ⟨e5.dict m5 c6 m6 (.inl hD), ?_⟩
      have := DictA.put m5 p5 (e5.dt hv) m6 c6
      rw [hk, putA_new (nd_take hbnd ha)] at this
      rw [List.take_add_one, ha]
      exact this
    · rintro H5 ⟨e5, m5⟩
      rw [List.length_map, hp.length, List.take_length] at m5
      have I5 := I2.ext0 e5
      refine ⟨_, rfl, x, CBed K, dx, _, rfl, I5.o, c_Bed E, na_Bed_lying E, ln5, ?_⟩
      have e6 := insUpd (K := K) (C1 := CBed K) (dx1 := dx) (ys := [("tile_set", .ref B.ts), ("seed_place", B.vp), ("seed_name", B.vn), ("lying", .ref D), ("coming", .ref cm)]) I5.o
      have hDx : x ≠ D := ne_of_none I2.o hD
      have zx : Z x = none := I.fz.none_ hx
      have zD : Z D = none := IB.fz.none_ hD
      have c1 : B.b ≠ x := ne_of_none I.o hx
      have c2 : B.ly ≠ x := by obtain ⟨o, h⟩ := I.ly.some; exact ne_of_none h hx
      have c3' : B.cm ≠ x := by obtain ⟨c, h, _⟩ := I.cm; obtain ⟨o, h⟩ := h.some; exact ne_of_none h hx
      let H6 : Hp := (upd H5 x (.ins (CBed K) dx [("tile_set", .ref B.ts), ("seed_place", B.vp), ("seed_name", B.vn), ("lying", .ref D), ("coming", .ref cm)]))
      have IB6 : BedI K w Z H6 B W M sd [] := (IB.ext0 e5).ext e6 (by simp; exact zx) (by simp; exact c1) (by simp; exact c2) (by simp; exact c3')
      have hx6 : H6 x = some (.ins (CBed K) dx [("tile_set", .ref B.ts), ("seed_place", B.vp), ("seed_name", B.vn), ("lying", .ref D), ("coming", .ref cm)]) := upd_same
      have mD6 : DictA w H6 D (bal M) := m5.ext e6 (by simp; exact fun z => hDx z.symm)
      have e26 : EX K [x] H2 H6 := e5.nil.trans e6
      have e06 : EX K [] H H6 := e12.then1 e26 (.inl hx)
      clear e26 e6
      obtain ⟨cal, ⟨ces, hces, hcps⟩, hck, hcf⟩ := id IB6.cm
      have hcl := ComI.len (DictA.nd ⟨ces, hces, hcps⟩) hck hcf
      have hcl2 := hcps.length
      have hcnd : (cal.map (·.1)).Nodup := DictA.nd ⟨ces, hces, hcps⟩
      simp only [List.length_nil, Nat.zero_add] at hcl
      refine ⟨_, rfl, _, _, _, _, _, rfl, IB6.o, c_Bed E, na_Bed_coming E, rfl, B.cm, ces, rfl, hces, fun u hu D2 H7 hD2 m7 c7 => ?_⟩
      have e7 : EX K [] H6 H7 := Ext.newC hD2 c7
      refine dcX_x (xs := ces.map (·.2.1)) (fun i H5 => EX K [] H6 H5 ∧ DictA w H5 D2 (cal.take i)) ⟨e7, DictA.nil m7⟩ (fun i H5 _ ⟨e, _⟩ => ?_) ?_ ?_
      · obtain ⟨ep, h⟩ := hces.ob
        cases h.symm.trans hu
        exact e.at0 h
      · rintro i c H5 hc ⟨e5, es5, m5, p5⟩
        rw [List.getElem?_map] at hc
        obtain ⟨en, hen, rfl⟩ := Option.map_eq_some_iff.mp hc
        obtain ⟨a, ha, hk, hv⟩ := hcps.at hen
        have hem := List.mem_of_getElem? hen
        have hlk := lookE_mem hces.nd hem
        have hcd := hces.ks en hem
        have hi : i < cal.length := (List.getElem?_eq_some_iff.mp ha).1
        have h5l := p5.length
        rw [List.length_take] at h5l
        refine ⟨rfl, ?_⟩
        refine ⟨_, rfl, _, rfl, _, _, _, _, _, rfl, (IB6.ext0 e5).o, c_Bed E, na_Bed_coming E, rfl, _, rfl, B.cm, ces, en.1, _, rfl, e5.dictE hces (by simp), e5.dt hcd.1, hcd.2, hlk, es5, en.1, m5, e5.dt hcd.1, hcd.2, by rw [sizeLine_eq]; omega, fun H6 m6 c6 => ?_⟩
        refine ⟨e5.dict m5 c6 m6 (.inl hD2), ?_⟩
        have := DictA.put m5 p5 (e5.dt hv) m6 c6
        rw [hk, putA_new (nd_take hcnd ha)] at this
        rw [List.take_add_one, ha]
        exact this
      · rintro H8 ⟨e8, m8⟩
        rw [List.length_map, hcps.length, List.take_length] at m8
        refine ⟨_, rfl, x, CBed K, dx, _, rfl, e8.at0 hx6, c_Bed E, na_Bed_coming E, ln5, ?_⟩
        have e9 := insUpd (K := K) (C1 := CBed K) (dx1 := dx) (ys := [("tile_set", .ref B.ts), ("seed_place", B.vp), ("seed_name", B.vn), ("lying", .ref D), ("coming", .ref D2)]) (e8.at0 hx6)
        have hx9 : (upd H8 x (.ins (CBed K) dx [("tile_set", .ref B.ts), ("seed_place", B.vp), ("seed_name", B.vn), ("lying", .ref D), ("coming", .ref D2)])) x = some (.ins (CBed K) dx [("tile_set", .ref B.ts), ("seed_place", B.vp), ("seed_name", B.vn), ("lying", .ref D), ("coming", .ref D2)]) := upd_same
        have e09 : EX K [] H _ := e06.then1 (e8.nil.trans e9) (.inl hx)
        have hDD : D ≠ D2 := by obtain ⟨o, h⟩ := mD6.some; exact ne_of_none h hD2
        have hxD2 : x ≠ D2 := ne_of_none hx6 hD2
        have I9 := (IB6.ext0 e8).ext e9 (by simp; exact zx) (by simp; exact c1) (by simp; exact c2) (by simp; exact c3')
        refine ⟨_, rfl, q ⟨x, dx, B.ts, D, D2, B.vp, B.vn⟩ _ e09 (e09.tabs hT) ⟨hx9, I9.fz, I9.ts, I9.wn, (mD6.ext e8 (by simp)).ext e9 (by simp; exact fun z => hDx z.symm), ⟨cal, m8.ext e9 (by simp; exact fun z => hxD2 z.symm), hck, hcf⟩, hDD, zD, IB6.fz.none_ hD2, I9.vp, I9.vn, I9.mo, I9.len⟩ hx ?_ ?_ rfl rfl rfl⟩
        · exact e12.fresh hD
        · exact e06.fresh hD2
end
end TR
/-! text FH -/
set_option Elab.async false
set_option linter.all false
set_option maxRecDepth 100000
set_option maxHeartbeats 4000000
/-! beds: cut -/
namespace TR
open PySem PySem.Spec PyProof.Rows L2 VD
theorem upd2 {H : Hp} {a : Addr} {o u : HO} : upd (upd H a o) a u = upd H a u := by
  funext b
  by_cases h : b = a
  · rw [h, upd_same, upd_same]
  · rw [upd_ne h, upd_ne h, upd_ne h]
def unpk (x : Addr × List Int) : AP := (x.1, (x.2.headD 0, (x.2.drop 1).headD 0))
theorem unpk_pk (p : AP) : unpk (pk p) = p := rfl
theorem perm_pk {L2 : List (Addr × List Int)} {l : List AP} (h : L2.Perm (l.map pk)) : ∃ l' : List AP, l'.Perm l ∧ L2 = l'.map pk := by
  refine ⟨L2.map unpk, ?_, ?_⟩
  · have := h.map unpk
    rw [List.map_map, show unpk ∘ pk = id from rfl, List.map_id] at this
    exact this
  · rw [List.map_map]
    have : ∀ x ∈ L2, (pk ∘ unpk) x = x := fun x hx => by
      obtain ⟨p, _, rfl⟩ := List.mem_map.mp (h.mem_iff.mp hx)
      rfl
    rw [List.map_congr_left this]; exact (List.map_id' _).symm
def drs (M : Bd) (ps : List Pl) : Bd := ps.foldl drB M
theorem lkB_drs {q : Pl} : ∀ {ps : List Pl} {M : Bd}, lkB (drs M ps) q = if q ∈ ps then none else lkB M q
  | [], M => by simp [drs]
  | p :: ps, M => by
    show lkB (drs (drB M p) ps) q = _
    rw [lkB_drs, lkB_drop]
    by_cases h1 : q ∈ ps
    · rw [if_pos h1, if_pos (List.mem_cons_of_mem _ h1)]
    · rw [if_neg h1]
      by_cases h2 : q = p
      · rw [if_pos h2, if_pos (by rw [h2]; exact List.mem_cons_self)]
      · rw [if_neg h2, if_neg (fun z => (List.mem_cons.mp z).elim h2 h1)]
theorem drs_succ {M : Bd} {ps : List Pl} {i : Nat} {p : Pl} (h : ps[i]? = some p) : drs M (ps.take (i + 1)) = drB (drs M (ps.take i)) p := by
  unfold drs
  rw [List.take_add_one, h, List.foldl_append]; rfl
theorem nd_take1 {α : Type} {l : List α} {i : Nat} {a : α} (nd : l.Nodup) (h : l[i]? = some a) : a ∉ l.take i := by
  intro hm
  obtain ⟨j, hj, hje⟩ := List.mem_take_iff_getElem.mp hm
  have h1 : l[j]? = some a := by rw [List.getElem?_eq_getElem (by omega), hje]
  have := (List.getElem?_inj (by omega) nd).mp (h1.trans h.symm)
  omega
section
variable {P : Program} {w : World} {K : PySem.W.Frag} {mg : Str → Option Value} {base : Heap} {Z H H1 H2 : Hp} {B : BA} {W : Wd} {M : Bd} {sd : Pl} {bad : List Pl}
def spCut (K : PySem.W.Frag) (w : World) : Sp := fun vs H Q _ => ∃ (B : BA) (l : Addr) (us : List V) (ps : List Pl) (W : Wd) (Z : Hp) (M : Bd) (sd : Pl), vs = [.ref B.b, .ref l] ∧ BedI K w Z H B W M sd [] ∧ H l = some (.lst us) ∧ DtAll H us (ps.map plD) ∧ ps.length ≤ 60 ∧ (∀ p ∈ ps, lkB M p ≠ none ∧ p ≠ sd) ∧ LamX.Tabs (TabK K) H ∧
  ∀ ps' i H1, EX K [B.ly, B.cm] H H1 → LamX.Tabs (TabK K) H1 → ps'.Nodup → (∀ q, q ∈ ps' ↔ q ∈ ps) → BedI K w Z H1 B W (drs M ps') sd [] → Q (.int i) H1
theorem ok_Bed_cut (E : Ev K mg base) : Does P w K mg base L2.CX0 8 (He.ma K (He.ga K "Bed") "cut") ["self", "places"] (spCut K w) :=
  E.does0 (k := 7) ix_Bed_cut rfl bn_Bed_cut sc_Bed_cut (fun _ _ _ _ ⟨_, _, _, _, _, _, _, _, h, _⟩ => by rw [h]; rfl) fun cdv A outer s H vs Q X hr h => by
    obtain ⟨B, l, us, ps, W, Z, M, sd, rfl, I, hl, hd, hlen, hin, hT, q⟩ := h
    refine ⟨_, (pss_cons (ps_for PassesOwn.never rfl (pi_list (pv 1)) (pg_name (i := 2) sc_Bed_cut.nd rfl (by first | exact Or.inl rfl | exact Or.inr rfl))
        (pss_one (ps_if (PW.pt (pw_or (pt_not (pt_val (pe_do (ok_is_place E) (hr.mono (by decide)) (by rfl) (g_is_place E) pass0 (pa_cons (pv 2) pa_nil)))) (pw_or1 (pt_cmpR (op_eqD hr.units) (pv 2) (pe_fld (pv 0) rfl) (nomark _)))))
        (pss_one ps_never)
        pss_nil)))
      (pss_cons (ps_set (i := 3) sc_Bed_cut.nd rfl (by first | exact Or.inl rfl | exact Or.inr rfl) (pe_callB (cr_sortSetP rfl hr.units) (by rfl) (u_sorted E) b_sorted (pa_cons (pe_scP rfl sc_Bed_cut.nd (pi_list (pv 1)) (own := [("place", 2)]) (blkOk_by (N := n_Bed_cut) (sc := defScope s_Bed_cut) (by decide +kernel)) (fun _ _ _ _ _ => (pg_name (i := 2) sc_Bed_cut.nd rfl (by first | exact Or.inl rfl | exact Or.inr rfl))) (fun _ _ _ _ _ => (pts_one (pt_cmp (pc_xinZ (w := w) rfl (pv 2) (pe_fldK (K := K) rfl (pv 0) rfl) hr)))) (fun _ _ _ _ _ => (pv 2)) hr.units) pa_nil)))
      (pss_cons (ps_for PassesOwn.never rfl (pi_list (pv 3)) (pg_name (i := 2) sc_Bed_cut.nd rfl (by first | exact Or.inl rfl | exact Or.inr rfl))
        (pss_one (ps_expr (pe_doM (pv 0) (c_Bed E) (m_Bed_lay E) (ok_Bed_lay E) (hr.mono (by decide)) pass0 (pa_cons (pv 2) (pa_cons pe_non pa_nil))))))
      (pss_one (ps_ret (pe_callB call_len_seq (by rfl) (u_len E) b_len (pa_cons (pv 3) pa_nil))))))), ?_⟩
    have hul := hd.length
    rw [List.length_map] at hul
    refine ⟨_, rfl, l, rfl, ⟨us, .of hl⟩, ?_⟩
    refine for_list (fun i σ H3 => ∃ o2, σ = [some (.ref B.b), some (.ref l), o2, none] ∧ H3 = H) ⟨none, rfl, rfl⟩ (fun i σ H3 _ ⟨_, _, e⟩ => .of (by rw [e]; exact hl)) ?_ ?_
    · rintro i c σ H3 hc ⟨o2, rfl, rfl⟩
      obtain ⟨k, hk, hcd⟩ := hd.get hc
      obtain ⟨p, hp1, rfl⟩ := Option.map_eq_some_iff.mp (by rw [← List.getElem?_map]; exact hk)
      refine ⟨_, rfl, c, p, rfl, hcd, _, rfl, iteF ?_⟩
      refine ⟨_, rfl, _, rfl, _, _, _, _, _, rfl, I.o, c_Bed E, na_Bed_seed_place E, rfl, eqD2 hcd I.vp plD_nice plD_nice ⟨_, rfl, ?_⟩⟩
      rw [decide_eq_false fun z => (hin p (List.mem_of_getElem? hp1)).2 (plD_inj z)]
      exact iteF ⟨_, rfl, rfl⟩
    · rintro σ H3 ⟨o2, rfl, rfl⟩
      refine ⟨_, rfl, l, rfl, ⟨us, .of hl⟩, fun T hT2 => ?_⟩
      obtain ⟨es, hes, hps⟩ := I.ly
      refine wk_list (xs := us) (fun i H5 => ∃ L : List AP, H5 = upd H3 T (SetTO P w T (L.map pk)) ∧ (∀ x ∈ L, Dt H3 (.ref x.1) (plD x.2)) ∧ L.length ≤ i ∧ ∀ r, r ∈ L.map (·.2) ↔ r ∈ ps.take i)
        ⟨[], rfl, (by intro x hx; cases hx), Nat.le_refl _, fun r => by simp⟩ (fun i H5 _ ⟨_, e, _⟩ => .of (by rw [e, upd_ne (ne_of_none hl hT2)]; exact hl)) ?_ ?_
      · rintro i c H5 hc ⟨L, rfl, hL, hLl, hLm⟩
        obtain ⟨k, hk, hcd⟩ := hd.get hc
        obtain ⟨p, hp1, rfl⟩ := Option.map_eq_some_iff.mp (by rw [← List.getElem?_map]; exact hk)
        have hi : i < ps.length := (List.getElem?_eq_some_iff.mp hp1).1
        have e5 : EX K [] H3 (upd H3 T (SetTO P w T (L.map pk))) := Ext.new hT2
        have hcd5 := e5.dt hcd
        have hpl := (hin p (List.mem_of_getElem? hp1)).1
        refine ⟨rfl, _, rfl, _, rfl, _, _, _, _, _, rfl, e5.at0 I.o, c_Bed E, na_Bed_lying E, rfl, B.ly, es, plD p, rfl, e5.dictE hes (by simp), hcd5, plD_d, _, rfl, ?_⟩
        have hs : (lookE es (plD p)).isSome = true := by
          rw [hps.isSome, lkA_bal]
          cases e : lkB M p with
          | none => exact absurd e hpl
          | some _ => rfl
        rw [hs]
        obtain ⟨tc, rfl, htc⟩ := pl_tup hcd
        refine iteT ⟨_, rfl, tc, L.map pk, [p.1, p.2], rfl, upd_same, fun x hx => ?_, .of (e5.tup htc), by rw [List.length_map]; omega, fun L2 h1 h2 => ?_⟩
        · obtain ⟨y, hy, rfl⟩ := List.mem_map.mp hx
          obtain ⟨ty, ey, hty⟩ := pl_tup (hL y hy)
          cases ey
          exact .of (e5.tup hty)
        · rw [upd2]
          have htk : ∀ r, r ∈ ps.take (i + 1) ↔ r ∈ ps.take i ∨ r = p := fun r => by rw [List.take_add_one, hp1, List.mem_append]; simp
          by_cases hm : p ∈ L.map (·.2)
          · have : [p.1, p.2] ∈ (L.map pk).map (·.2) := by
              obtain ⟨y, hy, rfl⟩ := List.mem_map.mp hm
              exact List.mem_map.mpr ⟨pk y, List.mem_map.mpr ⟨y, hy, rfl⟩, rfl⟩
            rw [h1 this]
            refine ⟨L, rfl, hL, by omega, fun r => ?_⟩
            rw [hLm, htk]
            refine ⟨.inl, fun h => h.elim id fun z => by rw [z]; exact (hLm p).mp hm⟩
          · have : [p.1, p.2] ∉ (L.map pk).map (·.2) := fun z => by
              obtain ⟨x, hx, e⟩ := List.mem_map.mp z
              obtain ⟨y, hy, rfl⟩ := List.mem_map.mp hx
              have e1 : y.2.1 = p.1 := (List.cons.inj e).1
              have e2 : y.2.2 = p.2 := (List.cons.inj (List.cons.inj e).2).1
              exact hm (List.mem_map.mpr ⟨y, hy, Prod.ext e1 e2⟩)
            obtain ⟨l', pm, rfl⟩ := perm_pk (l := (tc, p) :: L) (h2 this)
            refine ⟨l', rfl, fun x hx => ?_, by rw [pm.length_eq, List.length_cons]; omega, fun r => ?_⟩
            · rcases List.mem_cons.mp (pm.mem_iff.mp hx) with rfl | hx
              · exact hcd
              · exact hL x hx
            · rw [(pm.map (·.2)).mem_iff, List.map_cons, List.mem_cons, hLm, htk]
              exact ⟨fun h => h.elim .inr .inl, fun h => h.elim .inr .inl⟩
      · rintro H5 ⟨L, rfl, hL, hLl, hLm⟩
        have e5 : EX K [] H3 (upd H3 T (SetTO P w T (L.map pk))) := Ext.new hT2
        refine ⟨T, L, rfl, upd_same, fun x hx => e5.dt (hL x hx), fun L' g pm nd ll so hg => ?_⟩
        have e6 : EX K [] H3 (upd (upd H3 T (SetTO P w T (L.map pk))) g (.lst (L'.map fun q => V.ref q.1))) := e5.andNew hg
        have hg6 : (upd (upd H3 T (SetTO P w T (L.map pk))) g (.lst (L'.map fun q => V.ref q.1))) g = some (.lst (L'.map fun q => V.ref q.1)) := upd_same
        generalize upd (upd H3 T (SetTO P w T (L.map pk))) g (.lst (L'.map fun q => V.ref q.1)) = H6 at e6 hg6
        have hps2 : ∀ q, q ∈ L'.map (·.2) ↔ q ∈ ps := fun r => by
          rw [(pm.map (·.2)).mem_iff, hLm, hul, List.take_length]
        have I6 := I.ext0 e6
        have hg0 : H3 g = none := e5.fresh hg
        refine ⟨_, rfl, g, rfl, ⟨_, .of hg6⟩, ?_⟩
        refine for_list (xs := L'.map fun q => V.ref q.1) (fun i σ H7 => ∃ o2, σ = [some (.ref B.b), some (.ref l), o2, some (.ref g)] ∧ EX K [B.ly, B.cm] H6 H7 ∧ BedI K w Z H7 B W (drs M ((L'.map (·.2)).take i)) sd [])
          ⟨_, rfl, .refl, I6⟩ (fun i σ H7 _ ⟨_, _, e, _⟩ => .of (e.at_ hg6 ?_)) ?_ ?_
        · have n1 : g ≠ B.ly := by obtain ⟨o, h⟩ := I.ly.some; exact fun z => ne_of_none h hg0 z.symm
          have n2 : g ≠ B.cm := by obtain ⟨c, h, _⟩ := I.cm; obtain ⟨o, h⟩ := h.some; exact fun z => ne_of_none h hg0 z.symm
          simp [n1, n2]
        · rintro i c σ H7 hc ⟨o2, rfl, e7, I7⟩
          rw [List.getElem?_map] at hc
          obtain ⟨x, hx, rfl⟩ := Option.map_eq_some_iff.mp hc
          have hxd := e7.dt (e6.dt (hL x (pm.mem_iff.mp (List.mem_of_getElem? hx))))
          have hx2 : (L'.map (·.2))[i]? = some x.2 := by rw [List.getElem?_map, hx]; rfl
          have hxp := (hps2 x.2).mp (List.mem_of_getElem? hx2)
          refine ⟨_, rfl, B.b, _, _, rfl, I7.o, rfl, _, rfl, B, _, .non, x.2, W, Z, _, _, sd, rfl, I7, hxd, (e6.nil.trans e7).tabs hT, .inr ⟨rfl, ?_, rfl⟩, fun H8 e8 T8 I8 => ?_⟩
          · rw [lkB_drs, if_neg (nd_take1 nd hx2)]
            exact (hin _ hxp).1
          · refine ⟨_, rfl, e7.trans e8, ?_⟩
            rw [drs_succ hx2]; exact I8
        · rintro σ H7 ⟨o2, rfl, e7, I7⟩
          rw [List.length_map, ← List.length_map (f := fun q : AP => q.2), List.take_length] at I7
          have hg7 := e7.at_ hg6 (by
            have n1 : g ≠ B.ly := by obtain ⟨o, h⟩ := I.ly.some; exact fun z => ne_of_none h hg0 z.symm
            have n2 : g ≠ B.cm := by obtain ⟨c, h, _⟩ := I.cm; obtain ⟨o, h⟩ := h.some; exact fun z => ne_of_none h hg0 z.symm
            simp [n1, n2])
          refine ⟨_, rfl, g, _, rfl, .inl (.of hg7), ?_⟩
          exact q _ _ H7 (e6.nil.trans e7) ((e6.nil.trans e7).tabs hT) nd hps2 I7
end
end TR
/-! text FI -/
set_option Elab.async false
set_option linter.all false
set_option maxRecDepth 100000
set_option maxHeartbeats 4000000
/-! errors; check_most; first_each -/
namespace TR
open PySem PySem.Spec PyProof.Rows L2 VD
/-- a heap that differs at two new places only -/
theorem Ext.two {T : List (Addr × Str)} {S : List Addr} {H H1 : Hp} {a d : Addr} (ha : H a = none) (hd : H d = none) (h : ∀ b, b ≠ a → b ≠ d → H1 b = H b) : Ext T S H H1 := by
  have k : ∀ b o, H b = some o → H1 b = some o := fun b o e => by rw [h b (ne_of_none e ha) (ne_of_none e hd)]; exact e
  refine ⟨fun b o e _ _ => k b o e, fun b vs e => k b _ e, fun t => t.ext k, fun b e => ?_⟩
  by_cases z : b = a
  · rw [z]; exact ha
  · by_cases z2 : b = d
    · rw [z2]; exact hd
    · rw [h b z z2] at e; exact e
/-! ### data that can be told equal -/
def Lq (m : Nat) (x : D) : Prop := x.depth ≤ m ∧ x.data.canLay0 = true
theorem Lq.of {m : Nat} {x : D} (h : Nice x) (d : x.depth ≤ m) : Lq m x := ⟨d, h.ly⟩
theorem Lq.mono {m n : Nat} {x : D} (h : Lq m x) (e : m ≤ n) : Lq n x := ⟨Nat.le_trans h.1 e, h.2⟩
theorem lq_all {m : Nat} : ∀ {ks : List D}, (∀ k ∈ ks, Lq m k) → NestedKey.depthAll ks ≤ m ∧ PyData.canLayAll0 (NestedKey.datas ks) = true
  | [], _ => ⟨by simp [NestedKey.depthAll], by simp [NestedKey.datas, PyData.canLayAll0]⟩
  | k :: ks, h => by
    obtain ⟨a, b⟩ := lq_all fun x hx => h x (List.mem_cons_of_mem _ hx)
    obtain ⟨c, d⟩ := h k List.mem_cons_self
    refine ⟨?_, ?_⟩
    · simp only [NestedKey.depthAll]; omega
    · simp only [NestedKey.datas, PyData.canLayAll0, d, b, Bool.and_self]
theorem lq_tup {m : Nat} {ks : List D} (h : ∀ k ∈ ks, Lq m k) : Lq (m + 1) (.tup ks) := by
  obtain ⟨a, b⟩ := lq_all h
  refine ⟨?_, ?_⟩
  · simp only [NestedKey.depth]; omega
  · simp only [NestedKey.data, PyData.canLay0, b]
theorem Lq.shaped {m : Nat} {x : D} (h : Lq m x) (e : m ≤ 64) : SeqAt.shaped x.data = true := by
  show (x.data.canLay0 && decide (x.data.depth ≤ 64)) = true
  rw [h.2, depth_data, decide_eq_true (Nat.le_trans h.1 e)]; rfl
theorem eqD3 {K : PySem.W.Frag} {H : Hp} {x y : V} {a b : D} {m n : Nat} {Q : VK} (h1 : Dt H x a) (h2 : Dt H y b) (n1 : Lq m a) (n2 : Lq n b) (e1 : m ≤ 64) (e2 : n ≤ 64) (q : Q (.bl (decide (a = b))) H) : rEqD K x y H Q :=
  ⟨a.data, b.data, Dt.dp _ _ h1, Dt.dp _ _ h2, n1.shaped e1, n2.shaped e2, by rw [eqv_dec]; exact q⟩
theorem neD3 {K : PySem.W.Frag} {H : Hp} {x y : V} {a b : D} {m n : Nat} {Q : VK} (h1 : Dt H x a) (h2 : Dt H y b) (n1 : Lq m a) (n2 : Lq n b) (e1 : m ≤ 64) (e2 : n ≤ 64) (q : Q (.bl (decide (a ≠ b))) H) : rNeD K x y H Q :=
  ⟨a.data, b.data, Dt.dp _ _ h1, Dt.dp _ _ h2, n1.shaped e1, n2.shaped e2, by rw [eqv_dec, ← decide_not]; exact q⟩
theorem plD_lq {p : Pl} : Lq 2 (plD p) := by
  refine ⟨?_, plD_nice.ly⟩
  simp [plD, NestedKey.depth, NestedKey.depthAll]
/-! ### the first of each place -/
def stepF (acc : List (Pl × D)) (x : Pl × D) : List (Pl × D) := if acc.getLast?.map (·.1) = some x.1 then acc else acc ++ [x]
def firsts (l : List (Pl × D)) : List (Pl × D) := l.foldl stepF []
theorem stepF_same {p : Pl} {acc : List (Pl × D)} (h : acc.getLast?.map (·.1) = some p) : ∀ ns : List D, (ns.map fun n => (p, n)).foldl stepF acc = acc
  | [] => rfl
  | n :: ns => by
    rw [List.map_cons, List.foldl_cons, show stepF acc (p, n) = acc from if_pos h]
    exact stepF_same h ns
theorem firsts_flat {f : Pl → List D} : ∀ {ps : List Pl} {acc : List (Pl × D)}, ps.Nodup → (∀ p ∈ ps, f p ≠ [] ∧ acc.getLast?.map (·.1) ≠ some p) →
    (ps.flatMap fun p => (f p).map fun n => (p, n)).foldl stepF acc = acc ++ ps.map fun p => (p, (f p).headD .none)
  | [], acc, _, _ => by simp
  | p :: ps, acc, nd, h => by
    rw [List.nodup_cons] at nd
    obtain ⟨h1, h2⟩ := h p List.mem_cons_self
    rw [List.flatMap_cons, List.foldl_append]
    cases e : f p with
    | nil => exact absurd e h1
    | cons n ns =>
      have h3 : ((acc ++ [(p, n)]).getLast?).map (·.1) = some p := by simp
      rw [List.map_cons, List.foldl_cons, show stepF acc (p, n) = acc ++ [(p, n)] from if_neg h2, stepF_same h3, firsts_flat nd.2 fun q hq => ⟨(h q (List.mem_cons_of_mem _ hq)).1, fun z => by
        rw [h3] at z
        exact nd.1 (by rw [Option.some.inj z]; exact hq)⟩]
      simp [e]
theorem firsts_may {W : Wd} {M : Bd} : firsts (may W M) = lot W M := by
  have := firsts_flat (f := fit W M) (ps := fr W M) (acc := []) (fr_nodup W M) fun p hp => ⟨(fr_mem.mp hp).2, by simp⟩
  exact this
theorem firsts_len {l : List (Pl × D)} : (firsts l).length ≤ l.length := by
  have : ∀ (l acc : List (Pl × D)), (l.foldl stepF acc).length ≤ acc.length + l.length := by
    intro l
    induction l with
    | nil => intro acc; exact Nat.le_refl _
    | cons x l ih =>
      intro acc
      rw [List.foldl_cons]
      refine Nat.le_trans (ih _) ?_
      have : (stepF acc x).length ≤ acc.length + 1 := by unfold stepF; split <;> simp
      rw [List.length_cons]; omega
  have := this l []
  unfold firsts
  simpa using this
theorem pair_tup {H : Hp} {v : V} {x : Pl × D} (h : Dt H v (pairD x)) : ∃ t y z, v = .ref t ∧ H t = some (.tup [y, z]) ∧ Dt H y (plD x.1) ∧ Dt H z x.2 := tup2 h
section
variable {X : Cx} {CX : CXT} {k : Nat} {C fI : Addr} {ps : List Str} {sp : Sp} {x : Str} {e : Expr} {es : List Expr} {ta : TA} {p pos : Pos}
theorem pmk_do (T : OexC X.K C ∧ PySem.W.findIn X.K (.ref C) "__init__" = some (some (.ref fI)) ∧ PySem.W.typeIn X.K (.ref fI) = some (.type "function")) (F : Does X.prog X.w X.K X.mg X.base CX k fI ps sp) (hr : Room (k + 1) X.A) (hx : Passes CX X (fun _ _ _ => False)) (hg : Gl X x) (hm : X.mg x = some (.ref C)) (ha : PA X (e :: es) ta)
    (hdb : (x == ("__debug__" : Str)) = false := by decide) (he : starEach (e :: es) X.env = (false, eval e X.env) :: starEach es X.env := by rfl) (hpl : (backTo pos (starEach es X.env)).any (·.1) = false := by rfl) : PMk X (.Call (.Name x p) (e :: es) [] pos) (tMkO C sp [] ta) :=
  let ⟨_, _, h1, h2⟩ := F
  pmk_oex T.1 T.2.1 T.2.2 h1 hr h2 .nil hx hg hm ha hdb he hpl
end
section
variable {P : Program} {w : World} {K : PySem.W.Frag} {mg : Str → Option Value} {base : Heap} {Z H H1 H2 : Hp} {B : BA} {W : Wd} {M : Bd} {sd : Pl} {bad : List Pl}
def spBadInit (K : PySem.W.Frag) : Sp := fun vs H Q _ => ∃ (a : Addr) (v1 v2 : V), vs = [.ref a, v1, v2] ∧ H a = some (exo a (He.ga K "BadNumber") none) ∧
  ∀ dx H2, H dx = none → dx ≠ a → H2 a = some (exo a (He.ga K "BadNumber") (some dx)) → H2 dx = some (exd dx [("number", v2), ("what", v1)]) → (∀ b, b ≠ a → b ≠ dx → H2 b = H b) → Q .non H2
theorem ok_BadNumber_init (E : Ev K mg base) : Does P w K mg base L2.CX0 1 (He.ma K (He.ga K "BadNumber") "__init__") ["self", "what", "number"] (spBadInit K) :=
  E.does0 (k := 0) ix_BadNumber_init rfl bn_BadNumber_init sc_BadNumber_init (fun _ _ _ _ ⟨_, _, _, h, _⟩ => by rw [h]; rfl) fun cdv A outer s H vs Q X hr h => by
    obtain ⟨a, v1, v2, rfl, ha, q⟩ := h
    refine ⟨_, pss_cons (ps_ost (pv 0) (pv 1)) (pss_one (ps_ost (pv 0) (pv 2))), ?_⟩
    refine ⟨_, rfl, _, rfl, a, _, rfl, (x_BadNumber E).1, na_BadNumber_what E, .inl ⟨ha, fun dx hdx hne => ?_⟩⟩
    refine ⟨_, rfl, _, rfl, a, _, rfl, (x_BadNumber E).1, na_BadNumber_number E, .inr ⟨dx, _, upd_same, by rw [upd_ne hne]; exact upd_same, by simp, ?_⟩⟩
    refine q dx _ hdx hne (by rw [upd_ne (fun z => hne z.symm)]; exact upd_same) upd_same fun b h1 h2 => ?_
    rw [upd_ne h2, upd_ne h1, upd_ne h2]
def spTooInit (K : PySem.W.Frag) : Sp := fun vs H Q _ => ∃ (a : Addr) (v1 v2 v3 : V), vs = [.ref a, v1, v2, v3] ∧ H a = some (exo a (He.ga K "TooMany") none) ∧
  ∀ dx H2, H dx = none → dx ≠ a → H2 a = some (exo a (He.ga K "TooMany") (some dx)) → H2 dx = some (exd dx [("limit", v3), ("many", v2), ("what", v1)]) → (∀ b, b ≠ a → b ≠ dx → H2 b = H b) → Q .non H2
theorem ok_TooMany_init (E : Ev K mg base) : Does P w K mg base L2.CX0 1 (He.ma K (He.ga K "TooMany") "__init__") ["self", "what", "many", "limit"] (spTooInit K) :=
  E.does0 (k := 0) ix_TooMany_init rfl bn_TooMany_init sc_TooMany_init (fun _ _ _ _ ⟨_, _, _, _, h, _⟩ => by rw [h]; rfl) fun cdv A outer s H vs Q X hr h => by
    obtain ⟨a, v1, v2, v3, rfl, ha, q⟩ := h
    refine ⟨_, pss_cons (ps_ost (pv 0) (pv 1)) (pss_cons (ps_ost (pv 0) (pv 2)) (pss_one (ps_ost (pv 0) (pv 3)))), ?_⟩
    refine ⟨_, rfl, _, rfl, a, _, rfl, (x_TooMany E).1, na_TooMany_what E, .inl ⟨ha, fun dx hdx hne => ?_⟩⟩
    have hne2 : a ≠ dx := fun z => hne z.symm
    refine ⟨_, rfl, _, rfl, a, _, rfl, (x_TooMany E).1, na_TooMany_many E, .inr ⟨dx, _, upd_same, by rw [upd_ne hne]; exact upd_same, by simp, ?_⟩⟩
    refine ⟨_, rfl, _, rfl, a, _, rfl, (x_TooMany E).1, na_TooMany_limit E, .inr ⟨dx, _, by rw [upd_ne hne2]; exact upd_same, upd_same, by simp, ?_⟩⟩
    refine q dx _ hdx hne (by rw [upd_ne hne2, upd_ne hne2]; exact upd_same) upd_same fun b h1 h2 => ?_
    rw [upd_ne h2, upd_ne h2, upd_ne h1, upd_ne h2]
def spCkMost (K : PySem.W.Frag) : Sp := fun vs H Q E => ∃ v, vs = [v] ∧ ((∃ i : Int, v = .int i ∧ 0 ≤ i ∧ Q .non H) ∨
  (Pln H v ∧ (∀ i, v = .int i → i < 0) ∧ ∀ d H1, EX K [] H H1 → H d = none → H1 d = some (.xd [("number", v), ("what", .str "most")]) → E (.ref (He.ga K "BadNumber")) (some d) H1))
theorem ok_check_most (E : Ev K mg base) : Does P w K mg base (L2.CX P w) 3 (He.ga K "check_most") ["most"] (spCkMost K) :=
  E.does (k := 2) ix_check_most rfl bn_check_most sc_check_most (fun _ _ _ _ ⟨_, h, _⟩ => by rw [h]; rfl) fun cdv A outer s H vs Q X hr h => by
    obtain ⟨v, rfl, h⟩ := h
    refine ⟨_, (pss_one (ps_if (PW.pt (pw_or (pt_not (pt_val (pe_do (ok_is_integer E) (hr.mono (by decide)) (by rfl) (g_is_integer E) pass0 (pa_cons (pv 0) pa_nil)))) (pw_or1 (pt_cmpR op_lt (pv 0) pe_int (nomark _)))))
        (pss_one (ps_raise rfl (takes_of rfl rfl rfl rfl) (pmk_do (x_BadNumber E) (ok_BadNumber_init E) (hr.mono (by decide)) pass0 (by rfl) (g_BadNumber E) (pa_cons pe_str (pa_cons (pv 0) pa_nil)))))
        pss_nil)), ?_⟩
    have raise : (∀ d H1, EX K [] H H1 → H d = none → H1 d = some (.xd [("number", v), ("what", .str "most")]) → X (.ref (He.ga K "BadNumber")) (some d) H1) → ∀ a, H a = none → spBadInit K (.ref a :: ([.str "most", v] ++ [])) (upd H a (exo a (He.ga K "BadNumber") none))
        (fun v H2 => v = .non ∧ ∃ (d : Addr) (fs : List (Str × V)), H2 a = some (exo a (He.ga K "BadNumber") (some d)) ∧ H2 d = some (exd d fs) ∧ H d = none ∧ X (.ref (He.ga K "BadNumber")) (some d) (upd (del H2 a) d (.xd fs))) (fun _ _ _ => False) := by
      intro q a ha
      refine ⟨a, _, _, rfl, upd_same, fun dx H2 hdx hne h1 h2 h3 => ⟨rfl, dx, _, h1, h2, ?_, ?_⟩⟩
      · rw [upd_ne hne] at hdx; exact hdx
      · have hdx0 : H dx = none := by rw [upd_ne hne] at hdx; exact hdx
        refine q dx _ (Ext.two ha hdx0 fun b b1 b2 => ?_) hdx0 upd_same
        rw [upd_ne b2, del_ne b1, h3 b b1 b2, upd_ne b1]
    rcases h with ⟨i, rfl, h0, q⟩ | ⟨hp, hn, q⟩
    · refine ⟨_, rfl, _, rfl, True.intro, _, rfl, iteF ?_⟩
      refine ⟨_, rfl, _, _, rfl, rfl, _, rfl, ?_⟩
      rw [show decide (i < 0) = false from decide_eq_false (by omega)]
      exact iteF q
    · refine ⟨_, rfl, _, rfl, hp, _, rfl, ?_⟩
      cases v with
      | int i =>
        refine iteF ?_
        refine ⟨_, rfl, _, _, rfl, rfl, _, rfl, ?_⟩
        rw [show decide (i < 0) = true from decide_eq_true (hn i rfl)]
        refine iteT ⟨_, rfl, by show 2 ≤ 1000; omega, raise q⟩
      | _ => exact iteT (iteT ⟨_, rfl, by show 2 ≤ 1000; omega, raise q⟩)
def spFirst (K : PySem.W.Frag) : Sp := fun vs H Q _ => ∃ (v : V) (l : List (Pl × D)) (m : Nat), vs = [v] ∧ Dt H v (lotD l) ∧ l.length ≤ 1000000 ∧
  ∀ t H1, EX K [] H H1 → Dt H1 (.ref t) (lotD (firsts l)) → Q (.ref t) H1
theorem ok_first_each (E : Ev K mg base) : Does P w K mg base L2.CX0 1 (He.ga K "first_each") ["pairs"] (spFirst K) :=
  E.does0 (k := 0) ix_first_each rfl bn_first_each sc_first_each (fun _ _ _ _ ⟨_, _, _, h, _⟩ => by rw [h]; rfl) fun cdv A outer s H vs Q X hr h => by
    obtain ⟨v, ls, m, rfl, hv, hlen, q⟩ := h
    refine ⟨_, (pss_cons (ps_set (i := 1) sc_first_each.nd rfl (by first | exact Or.inl rfl | exact Or.inr rfl) (pe_lst pa_nil))
      (pss_cons (ps_for PassesOwn.never rfl (pi_tup (pv 0)) (pg_tupK (K := K) (n := 2) rfl rfl (pgs_cons (pg_name (i := 2) sc_first_each.nd rfl (by first | exact Or.inl rfl | exact Or.inr rfl)) (pgs_cons (pg_name (i := 3) sc_first_each.nd rfl (by first | exact Or.inl rfl | exact Or.inr rfl)) pgs_nil)))
        (pss_one (ps_if (PW.pt (pw_or (pt_not (pt_truth (pv 1) (fun _ => rfl))) (pw_or1 (pt_cmpR (op_neD hr.units) (pe_ix ix_tup (pe_ix ix_list (pv 1) (pe_un un_neg pe_int) (fun _ _ => rfl)) pe_int (fun _ _ => rfl)) (pv 2) (nomark _)))))
        (pss_one (ps_expr (pe_bm PySem.F.plainAttrs_list PySem.F.slot_list_append PySem.F.type_list_append mt_append (pv 1) (pa_cons (pe_tup (pa_cons (pv 2) (pa_cons (pv 3) pa_nil))) pa_nil))))
        pss_nil)))
      (pss_one (ps_ret (pe_callTy call_tuple_of (by rfl) (u_tuple E) b_tuple (pa_cons (pv 1) pa_nil)))))), ?_⟩
    obtain ⟨t, us, rfl, ht, hd⟩ : ∃ t us, v = .ref t ∧ H t = some (.tup us) ∧ DtAll H us (ls.map pairD) := by cases hv with | tup a b => exact ⟨_, _, rfl, a, b⟩
    have hul := hd.length
    rw [List.length_map] at hul
    refine ⟨Nat.zero_le _, fun l hl => ?_⟩
    have e1 : EX K [] H (upd H l (.lst [])) := Ext.new hl
    refine ⟨_, rfl, t, rfl, ⟨us, .of (e1.tup ht)⟩, ?_⟩
    refine for_tup (xs := us) (fun i σ H5 => ∃ o2 o3 acc, σ = [some (.ref t), some (.ref l), o2, o3] ∧ EX K [] H H5 ∧ H5 l = some (.lst acc) ∧ DtAll H5 acc (((ls.take i).foldl stepF []).map pairD))
      ⟨none, none, [], rfl, e1, upd_same, .nil⟩ (fun i σ H5 _ ⟨_, _, _, _, e, _⟩ => .of (e.tup ht)) ?_ ?_
    · rintro i c σ H5 hc ⟨o2, o3, acc, rfl, e5, hl5, ha5⟩
      obtain ⟨k, hk, hcd⟩ := hd.get hc
      obtain ⟨x, hx, rfl⟩ := Option.map_eq_some_iff.mp (by rw [← List.getElem?_map]; exact hk)
      obtain ⟨tc, y, z, rfl, htc, hy, hz⟩ := pair_tup (e5.dt hcd)
      have hi : i < ls.length := (List.getElem?_eq_some_iff.mp hx).1
      have hal := ha5.length
      have hfl : ((ls.take i).foldl stepF []).length ≤ (ls.take i).length := firsts_len
      rw [List.length_map] at hal
      rw [List.length_take] at hfl
      have hst : (ls.take (i + 1)).foldl stepF [] = stepF ((ls.take i).foldl stepF []) x := by rw [List.take_add_one, hx, List.foldl_append]; rfl
      have app : ∀ (H6 : Hp) (u : Addr), H5 u = none → stepF ((ls.take i).foldl stepF []) x = (ls.take i).foldl stepF [] ++ [x] → ∃ o2' o3' acc', [some (V.ref t), some (.ref l), some y, some z] = [some (V.ref t), some (.ref l), o2', o3'] ∧ EX K [] H (upd (upd H5 u (.tup [y, z])) l (.lst (acc ++ [.ref u]))) ∧ (upd (upd H5 u (.tup [y, z])) l (.lst (acc ++ [.ref u]))) l = some (.lst acc') ∧ DtAll (upd (upd H5 u (.tup [y, z])) l (.lst (acc ++ [.ref u]))) acc' (((ls.take (i + 1)).foldl stepF []).map pairD) := by
        intro _ u hu hs
        have e6 : EX K [] H5 (upd H5 u (.tup [y, z])) := Ext.new hu
        have e67 : EX K [l] (upd H5 u (.tup [y, z])) (upd (upd H5 u (.tup [y, z])) l (.lst (acc ++ [.ref u]))) := Ext.refl.lst (e6.at0 hl5) (.inr (by simp))
        refine ⟨_, _, _, rfl, (e5.trans e6).lst (e6.at0 hl5) (.inl hl), upd_same, ?_⟩
        rw [hst, hs, List.map_append]
        exact (e67.dts (e6.dts ha5)).app (.cons (e67.dt (Dt.new hu (.cons hy (.cons hz .nil)))) .nil)
      refine ⟨_, _, rfl, .of htc, rfl, _, _, rfl, _, _, rfl, rfl, ?_⟩
      rcases List.eq_nil_or_concat acc with hacc | ⟨pre, lv, hacc⟩
      · subst hacc
        have h0 : (ls.take i).foldl stepF [] = [] := List.length_eq_zero_iff.mp (by rw [← hal]; rfl)
        refine ⟨_, rfl, false, .inl ⟨[], .of hl5, rfl⟩, iteT (iteT ?_)⟩
        refine ⟨_, rfl, tyl hl5, _, rfl, _, rfl, sz2, fun u hu => ?_⟩
        have e6 : EX K [] H5 (upd H5 u (.tup [y, z])) := Ext.new hu
        refine ⟨l, _, _, rfl, rfl, e6.at0 hl5, by simp [sizeLine_eq], ?_⟩
        exact app H5 u hu (by rw [h0]; exact if_neg (by simp))
      · rw [List.concat_eq_append] at hacc
        subst hacc
        obtain ⟨k, hk, hlv⟩ := ha5.get (i := pre.length) (v := lv) (by simp)
        obtain ⟨lx, hlx, rfl⟩ := Option.map_eq_some_iff.mp (by rw [← List.getElem?_map]; exact hk)
        have hgl : ((ls.take i).foldl stepF []).getLast? = some lx := by
          rw [List.getLast?_eq_getElem?, ← hal]
          simpa using hlx
        obtain ⟨tl, yl, zl, rfl, htl, hyl, hzl⟩ := pair_tup hlv
        refine ⟨_, rfl, true, .inl ⟨_, .of hl5, by simp⟩, iteF ?_⟩
        refine ⟨_, rfl, _, rfl, l, _, _, .ref tl, rfl, rfl, .of hl5, atI_last _ _, tl, _, 0, _, rfl, rfl, .of htl, atI0, _, rfl, neD3 hyl hy plD_lq plD_lq (by decide) (by decide) ⟨_, rfl, ?_⟩⟩
        by_cases hp : lx.1 = x.1
        · rw [show decide (plD lx.1 ≠ plD x.1) = false from decide_eq_false (fun z => z (by rw [hp]))]
          refine iteF ⟨_, _, _, rfl, e5, hl5, ?_⟩
          rw [hst, show stepF ((ls.take i).foldl stepF []) x = (ls.take i).foldl stepF [] from if_pos (by rw [hgl]; exact congrArg some hp)]
          exact ha5
        · rw [show decide (plD lx.1 ≠ plD x.1) = true from decide_eq_true (fun z => hp (plD_inj z))]
          refine iteT ⟨_, rfl, tyl hl5, _, rfl, _, rfl, sz2, fun u hu => ?_⟩
          have e6 : EX K [] H5 (upd H5 u (.tup [y, z])) := Ext.new hu
          refine ⟨l, _, _, rfl, rfl, e6.at0 hl5, by rw [sizeLine_eq]; omega, ?_⟩
          exact app H5 u hu (if_neg (by rw [hgl]; exact fun z => hp (Option.some.inj z)))
    · rintro σ H5 ⟨o2, o3, acc, rfl, e5, hl5, ha5⟩
      rw [hul, List.take_length] at ha5
      refine ⟨_, rfl, l, acc, rfl, .inl ⟨.of hl5, fun u hu => ?_⟩⟩
      exact q u _ (e5.andNew hu) (Dt.new hu ha5)
end
end TR
/-! text FJ -/
set_option Elab.async false
set_option linter.all false
set_option maxRecDepth 100000
set_option maxHeartbeats 4000000
/-! rounds_of, settle -/
namespace TR
open PySem PySem.Spec PyProof.Rows L2 VD
theorem lotD_lq {W : Wd} (wn : WNice W) {l : List (Pl × D)} (h : ∀ x ∈ l, x.2 ∈ W.order) : Lq 8 (lotD l) := by
  refine lq_tup (m := 7) fun k hk => ?_
  obtain ⟨x, hx, rfl⟩ := List.mem_map.mp hk
  obtain ⟨a, b, _⟩ := wn.nm _ (h x hx)
  refine lq_tup (m := 6) fun j hj => ?_
  simp only [List.mem_cons, List.not_mem_nil, or_false] at hj
  rcases hj with rfl | rfl
  · exact plD_lq.mono (by omega)
  · exact Lq.of a b
theorem lot_order {W : Wd} {M : Bd} : ∀ x ∈ lot W M, x.2 ∈ W.order := fun x hx => (fit_mem.mp (lot_mem hx).2).1
theorem may_len {W : Wd} {M : Bd} : (may W M).length ≤ W.order.length * (4 * M.length) := by
  unfold may
  have h1 := flat_len (c := W.order.length) (f := fun p => (fit W M p).map fun n => (p, n)) (l := fr W M) fun x _ => by
    rw [List.length_map]; exact fit_len
  exact Nat.le_trans h1 (Nat.mul_le_mul_left _ fr_len)
theorem lot_inj {W : Wd} {M : Bd} : lotD (lot W M) = .tup [] ↔ lot W M = [] := by
  unfold lotD
  constructor
  · intro h
    injection h with h
    exact List.map_eq_nil_iff.mp h
  · intro h; rw [h]; rfl
/-- laying a lot tile by tile -/
theorem lot_fits {W : Wd} {M : Bd} (w : WOk W) {i : Nat} {x : Pl × D} (h : (lot W M)[i]? = some x) : lkB (M ++ (lot W M).take i) x.1 = none ∧ 2 ≤ bonds W (M ++ (lot W M).take i) x.1 x.2 ∧ x.2 ∈ W.order ∧ i < (lot W M).length := by
  have hm := List.mem_of_getElem? h
  obtain ⟨⟨h1, h2⟩, h3⟩ := lot_mem hm
  obtain ⟨h4, h5⟩ := fit_mem.mp h3
  refine ⟨?_, Int.le_trans h5 (bonds_mono w (Sub.app _ _)), h4, (List.getElem?_eq_some_iff.mp h).1⟩
  rw [lkB_append, h1]
  have : lkB ((lot W M).take i) x.1 = none := by
    rw [lkB_none, List.map_take, lot_keys]
    refine nd_take1 (fr_nodup W M) ?_
    rw [← lot_keys, List.getElem?_map, h]; rfl
  rw [this]; rfl
section
variable {P : Program} {w : World} {K : PySem.W.Frag} {mg : Str → Option Value} {base : Heap} {Z H H1 H2 : Hp} {B : BA} {W : Wd} {M : Bd} {sd : Pl} {bad : List Pl}
/-- the errors of rounds_of and settle -/
def ErrB (K : PySem.W.Frag) (H : Hp) (v : V) (E : XK) : Prop := ∀ d H1, EX K [] H H1 → H1 d = some (.xd [("number", v), ("what", .str "most")]) → E (.ref (He.ga K "BadNumber")) (some d) H1
def ErrT (K : PySem.W.Frag) (H : Hp) (many most : Int) (E : XK) : Prop := ∀ d H1, EX K [] H H1 → H1 d = some (.xd [("limit", .int most), ("many", .int many), ("what", .str "tiles")]) → E (.ref (He.ga K "TooMany")) (some d) H1
theorem too_made {most many : Int} {E : XK} (q : ErrT K H many most E) : ∀ a, H a = none → spTooInit K (.ref a :: ([.str "tiles", .int many, .int most] ++ [])) (upd H a (exo a (He.ga K "TooMany") none))
    (fun v H2 => v = .non ∧ ∃ (d : Addr) (fs : List (Str × V)), H2 a = some (exo a (He.ga K "TooMany") (some d)) ∧ H2 d = some (exd d fs) ∧ H d = none ∧ E (.ref (He.ga K "TooMany")) (some d) (upd (del H2 a) d (.xd fs))) (fun _ _ _ => False) := by
  intro a ha
  refine ⟨a, _, _, _, rfl, upd_same, fun dx H2 hdx hne h1 h2 h3 => ?_⟩
  have hdx0 : H dx = none := by rw [upd_ne hne] at hdx; exact hdx
  refine ⟨rfl, dx, _, h1, h2, hdx0, q dx _ (Ext.two ha hdx0 fun b b1 b2 => ?_) upd_same⟩
  rw [upd_ne b2, del_ne b1, h3 b b1 b2, upd_ne b1]
def rndD (l : List (List (Pl × D))) : D := .tup (l.map lotD)
def spRounds (K : PySem.W.Frag) (w : World) : Sp := fun vs H Q E => ∃ (B : BA) (v : V) (W : Wd) (Z : Hp) (M : Bd) (sd : Pl), vs = [.ref B.b, v] ∧ BedI K w Z H B W M sd [] ∧ LamX.Tabs (TabK K) H ∧
  ((Pln H v ∧ (∀ i, v = .int i → i < 0) ∧ ErrB K H v E) ∨
   (∃ most : Int, v = .int most ∧ 0 ≤ most ∧ most ≤ 900 ∧ M.length ≤ 900 ∧
    (∀ k t H1, Run W M most k → Done W M k → EX K [] H H1 → LamX.Tabs (TabK K) H1 → Dt H1 (.ref t) (rndD (rnds W M k)) → Q (.ref t) H1) ∧
    (∀ k, Run W M most k → Over W M most k → ErrT K H (st W M (k + 1)).length most E)))
theorem ok_rounds_of (E : Ev K mg base) : Does P w K mg base (L2.CX P w) 11 (He.ga K "rounds_of") ["bed", "most"] (spRounds K w) :=
  E.does (k := 10) ix_rounds_of rfl bn_rounds_of sc_rounds_of (fun _ _ _ _ ⟨_, _, _, _, _, _, h, _⟩ => by rw [h]; rfl) fun cdv A outer s H vs Q X hr h => by
    obtain ⟨B, v, W, Z, M, sd, rfl, I, hT, h⟩ := h
    refine ⟨_, (pss_cons (ps_expr (pe_do (ok_check_most E) (hr.mono (by decide)) (by rfl) (g_check_most E) (passes_call (takes_of rfl rfl rfl rfl) (fun _ _ _ _ h => h)) (pa_cons (pv 1) pa_nil)))
      (pss_cons (ps_par (i := 2) (j := 3) rfl sc_rounds_of.nd rfl rfl (by decide) rfl rfl (pa_cons (pe_doM0 (pv 0) (c_Bed E) (m_Bed_twin E) (ok_Bed_twin E) (hr.mono (by decide)) pass0) (pa_cons (pe_lst pa_nil) pa_nil)) (by rfl))
      (pss_one (ps_while (L2.passes_of rfl) (pt_val pe_bl)
        (pss_cons (ps_set (i := 4) sc_rounds_of.nd rfl (by first | exact Or.inl rfl | exact Or.inr rfl) (pe_do (ok_first_each E) (hr.mono (by decide)) (by rfl) (g_first_each E) pass0 (pa_cons (pe_doM0 (pv 2) (c_Bed E) (m_Bed_may_come E) (ok_Bed_may_come E) (hr.mono (by decide)) pass0) pa_nil)))
      (pss_cons (ps_if (pt_cmpR (op_eqD hr.units) (pv 4) (pe_tup pa_nil) (nomark _))
        (pss_one (ps_ret (pe_callTy call_tuple_of (by rfl) (u_tuple E) b_tuple (pa_cons (pv 3) pa_nil))))
        pss_nil)
      (pss_cons (ps_set (i := 5) sc_rounds_of.nd rfl (by first | exact Or.inl rfl | exact Or.inr rfl) (pe_op op_add (pe_doM0 (pv 2) (c_Bed E) (m_Bed_how_many E) (ok_Bed_how_many E) (hr.mono (by decide)) pass0) (pe_callB call_len_seq (by rfl) (u_len E) b_len (pa_cons (pv 4) pa_nil))))
      (pss_cons (ps_if (pt_cmpR op_gt (pv 5) (pv 1) (nomark _))
        (pss_one (ps_raise rfl (takes_of rfl rfl rfl rfl) (pmk_do (x_TooMany E) (ok_TooMany_init E) (hr.mono (by decide)) pass0 (by rfl) (g_TooMany E) (pa_cons pe_str (pa_cons (pv 5) (pa_cons (pv 1) pa_nil))))))
        pss_nil)
      (pss_cons (ps_for (L2.passes_of rfl) rfl (pi_tup (pv 4)) (pg_tupK (K := K) (n := 2) rfl rfl (pgs_cons (pg_name (i := 6) sc_rounds_of.nd rfl (by first | exact Or.inl rfl | exact Or.inr rfl)) (pgs_cons (pg_name (i := 7) sc_rounds_of.nd rfl (by first | exact Or.inl rfl | exact Or.inr rfl)) pgs_nil)))
        (pss_one (ps_expr (pe_doM (pv 2) (c_Bed E) (m_Bed_come E) (ok_Bed_come E) (hr.mono (by decide)) pass0 (pa_cons (pv 6) (pa_cons (pv 7) pa_nil))))))
      (pss_one (ps_expr (pe_bm PySem.F.plainAttrs_list PySem.F.slot_list_append PySem.F.type_list_append mt_append (pv 3) (pa_cons (pv 4) pa_nil))))))))))))), ?_⟩
    rcases h with ⟨hp, hn, q⟩ | ⟨most, rfl, h0, h9, hM9, q1, q2⟩
    · exact ⟨_, rfl, v, rfl, .inr ⟨hp, hn, fun d H1 e1 _ h1 => q d H1 e1 h1⟩⟩
    · refine ⟨_, rfl, _, rfl, .inl ⟨most, rfl, h0, ?_⟩⟩
      refine ⟨_, rfl, B.b, _, _, rfl, I.o, rfl, B, W, Z, M, sd, rfl, I, hT, fun C H1 e1 T1 I1 hb hly hcm _ _ _ => ?_⟩
      refine ⟨Nat.zero_le _, fun l hl => ?_⟩
      refine ⟨_, _, rfl, ?_⟩
      have eF : EX K [] H _ := e1.andNew (o := .lst []) hl
      have hl0 : H l = none := e1.fresh hl
      have IC := I1.ext0 (Ext.new (T := TabK K) (S := []) (o := .lst []) hl)
      refine ⟨fun m σ H5 => ∃ k o4 o5 o6 o7 acc, m = 2000 - k ∧ σ = [some (.ref B.b), some (.int most), some (.ref C.b), some (.ref l), o4, o5, o6, o7] ∧ Run W M most k ∧ EX K [] H H5 ∧ BedI K w Z H5 C W (st W M k) sd [] ∧ H5 l = some (.lst acc) ∧ DtAll H5 acc ((rnds W M k).map lotD),
        ⟨_, 0, none, none, none, none, [], rfl, rfl, .zero, eF, IC, upd_same, .nil⟩, ?_⟩
      rintro m σ H5 ⟨k, o4, o5, o6, o7, acc, rfl, rfl, run, e5, I5, hl5, ha5⟩
      have hk9 : k ≤ 900 := by rcases run.bound with z | z <;> omega
      have hsl : (st W M k).length ≤ 900 := by
        match k, run with
        | 0, _ => exact hM9
        | k + 1, run => have h2 := run.le k (by omega); omega
      have hwn := I5.wn
      refine ⟨_, rfl, iteT ⟨fun σ H5 => ∃ o4 o5 o6 o7 acc, σ = [some (.ref B.b), some (.int most), some (.ref C.b), some (.ref l), o4, o5, o6, o7] ∧ Run W M most (k + 1) ∧ EX K [] H H5 ∧ BedI K w Z H5 C W (st W M (k + 1)) sd [] ∧ H5 l = some (.lst acc) ∧ DtAll H5 acc ((rnds W M (k + 1)).map lotD),
        fun σ' H' ⟨o4, o5, o6, o7, acc, a, b, c, d, e, f⟩ => ⟨_, by omega, k + 1, o4, o5, o6, o7, acc, rfl, a, b, c, d, e, f⟩, ?_⟩⟩
      refine ⟨_, rfl, C.b, _, _, rfl, I5.o, rfl, C, W, Z, st W M k, sd, rfl, I5, fun t H6 e6 ht => ?_⟩
      have hml : (may W (st W M k)).length ≤ 1000000 := by
        have h1 := may_len (W := W) (M := st W M k)
        have h2 : W.order.length * (4 * (st W M k).length) ≤ 100 * (4 * 900) := Nat.mul_le_mul hwn.len (Nat.mul_le_mul_left _ hsl)
        omega
      refine ⟨_, may W (st W M k), 0, rfl, ht, hml, fun t2 H7 e7 ht2 => ?_⟩
      rw [firsts_may] at ht2
      have e57 := e6.trans e7
      have I7 := I5.ext0 e57
      refine ⟨_, rfl, Nat.zero_le _, fun t0 h0 => ?_⟩
      have e8 : EX K [] H7 (upd H7 t0 (.tup [])) := Ext.new h0
      have ht8 := e8.dt ht2
      refine eqD3 ht8 (Dt.new (ks := []) h0 .nil) (lotD_lq hwn lot_order) (lq_tup (m := 0) fun k hk => by cases hk) (by decide) (by decide) ⟨_, rfl, ?_⟩
      have e58 := e57.trans e8
      have I8 := I5.ext0 e58
      have hl8 := e58.at0 hl5
      have ha8 := e58.dts ha5
      have e08 := e5.trans e58
      clear e8 e58
      generalize upd H7 t0 (.tup []) = H8 at *
      by_cases hlot : lot W (st W M k) = []
      · rw [show decide (lotD (lot W (st W M k)) = NestedKey.tup []) = true from decide_eq_true (lot_inj.mpr hlot)]
        refine iteT ⟨_, rfl, l, acc, rfl, .inl ⟨.of hl8, fun u hu => ?_⟩⟩
        have e9 := e08.andNew (o := .tup acc) hu
        exact q1 k u _ run hlot e9 (e9.tabs hT) (Dt.new hu ha8)
      · rw [show decide (lotD (lot W (st W M k)) = NestedKey.tup []) = false from decide_eq_false fun z => hlot (lot_inj.mp z)]
        refine iteF ?_
        obtain ⟨us, hus, hud⟩ : ∃ us, H8 t2 = some (.tup us) ∧ DtAll H8 us ((lot W (st W M k)).map pairD) := by cases ht8 with | tup a b => exact ⟨_, a, b⟩
        have hul := hud.length
        rw [List.length_map] at hul
        refine ⟨_, rfl, C.b, _, _, rfl, I8.o, rfl, C, W, Z, st W M k, sd, rfl, I8, _, rfl, t2, us, rfl, .inr (.of hus), _, _, rfl, rfl, ?_⟩
        refine ⟨_, rfl, _, rfl, _, _, rfl, rfl, _, rfl, ?_⟩
        have hsum : ((st W M k).length : Int) + (us.length : Int) = ((st W M (k + 1)).length : Int) := by
          show _ = ((st W M k ++ lot W (st W M k)).length : Int)
          rw [List.length_append, hul]; omega
        rw [hsum]
        by_cases hov : most < (st W M (k + 1)).length
        · rw [show decide (((st W M (k + 1)).length : Int) > most) = true from decide_eq_true hov]
          refine iteT ⟨_, rfl, _, rfl, by show 3 ≤ 1000; omega, too_made fun d H9 e9 h9 => q2 k run ⟨hlot, hov⟩ d H9 (e08.trans e9) (by rw [hsum] at h9; exact h9)⟩
        · rw [show decide (((st W M (k + 1)).length : Int) > most) = false from decide_eq_false hov]
          refine iteF ?_
          have hsl2 : (st W M (k + 1)).length ≤ 900 := by omega
          have hln : (st W M (k + 1)).length = (st W M k).length + (lot W (st W M k)).length := by
            show (st W M k ++ lot W (st W M k)).length = _
            rw [List.length_append]
          refine ⟨_, rfl, t2, rfl, ⟨us, .of hus⟩, ?_⟩
          refine for_tup (xs := us) (fun i σ H9 => ∃ o6 o7, σ = [some (.ref B.b), some (.int most), some (.ref C.b), some (.ref l), some (.ref t2), some (.int (st W M (k + 1)).length), o6, o7] ∧ EX K [C.ly, C.cm] H8 H9 ∧ BedI K w Z H9 C W (st W M k ++ (lot W (st W M k)).take i) sd [])
            ⟨o6, o7, by rw [← hsum]; rfl, .refl, by rw [List.take_zero, List.append_nil]; exact I8⟩ (fun i σ H9 _ ⟨_, _, _, e, _⟩ => .of (e.tup hus)) ?_ ?_
          · rintro i c σ H9 hc ⟨o6, o7, rfl, e9, I9⟩
            obtain ⟨kd, hk, hcd⟩ := hud.get hc
            obtain ⟨x, hx, rfl⟩ := Option.map_eq_some_iff.mp (by rw [← List.getElem?_map]; exact hk)
            obtain ⟨tc, y, z, rfl, htc, hy, hz⟩ := pair_tup (e9.dt hcd)
            obtain ⟨f1, f2, f3, f4⟩ := lot_fits hwn.ok hx
            refine ⟨_, _, rfl, .of htc, rfl, _, _, rfl, _, _, rfl, rfl, ?_⟩
            refine ⟨_, rfl, C.b, _, _, rfl, I9.o, rfl, _, rfl, _, rfl, C, y, z, x.1, x.2, W, Z, _, sd, rfl, I9, hy, (e08.nil.trans e9).tabs hT, hz, f3, f1, ?_, f2, fun H10 e10 T10 I10 => ?_⟩
            · rw [List.length_append, List.length_take]; omega
            · refine ⟨_, _, rfl, e9.trans e10, ?_⟩
              rw [List.take_add_one, hx, ← List.append_assoc]
              exact I10
          · rintro σ H9 ⟨o6, o7, rfl, e9, I9⟩
            rw [hul, List.take_length] at I9
            have n1 : l ≠ C.ly := by obtain ⟨o, h⟩ := I1.ly.some; exact fun z => ne_of_none h hl z.symm
            have n2 : l ≠ C.cm := by obtain ⟨c, h, _⟩ := I1.cm; obtain ⟨o, h⟩ := h.some; exact fun z => ne_of_none h hl z.symm
            have hl9 := e9.at_ hl8 (by simp [n1, n2])
            have hal := ha5.length
            rw [List.length_map, rnds, List.length_map, List.length_range] at hal
            refine ⟨_, rfl, tyl hl9, _, rfl, l, acc, _, rfl, rfl, hl9, by rw [sizeLine_eq]; omega, ?_⟩
            have e10 : EX K [l] H9 (upd H9 l (.lst (acc ++ [.ref t2]))) := Ext.refl.lst hl9 (.inr (by simp))
            have e09 : EX K [] H H9 := e08.then_ e9 (by simp; exact ⟨hly, hcm⟩)
            refine ⟨_, _, _, _, _, rfl, run.succ hlot (by omega), e09.then1 e10 (.inl hl0), I9.ext e10 (by simp; exact I1.fz.none_ hl) ?_ ?_ ?_, upd_same, ?_⟩
            · simp; exact fun z => ne_of_none I1.o hl z
            · simp; exact fun z => n1 z.symm
            · simp; exact fun z => n2 z.symm
            · unfold rnds
              rw [List.range_succ, List.map_append, List.map_append]
              exact ((e10.dts (e9.dts ha8))).app (.cons (e10.dt (e9.dt ht8)) .nil)
def spSettle (K : PySem.W.Frag) (w : World) : Sp := fun vs H Q E => ∃ (B : BA) (v : V) (W : Wd) (Z : Hp) (M : Bd) (sd : Pl), vs = [.ref B.b, v] ∧ BedI K w Z H B W M sd [] ∧ LamX.Tabs (TabK K) H ∧
  ((Pln H v ∧ (∀ i, v = .int i → i < 0) ∧ ErrB K H v E) ∨
   (∃ most : Int, v = .int most ∧ 0 ≤ most ∧ most ≤ 900 ∧ M.length ≤ 900 ∧
    (∀ k H1, Run W M most k → Done W M k → EX K [B.ly, B.cm] H H1 → LamX.Tabs (TabK K) H1 → BedI K w Z H1 B W (st W M k) sd [] → Q (.int ((st W M k).length - M.length)) H1) ∧
    (∀ k, Run W M most k → Over W M most k → ErrT K H (st W M (k + 1)).length most E)))
theorem ok_settle (E : Ev K mg base) : Does P w K mg base (L2.CX P w) 12 (He.ga K "settle") ["bed", "most"] (spSettle K w) :=
  E.does (k := 11) ix_settle rfl bn_settle sc_settle (fun _ _ _ _ ⟨_, _, _, _, _, _, h, _⟩ => by rw [h]; rfl) fun cdv A outer s H vs Q X hr h => by
    obtain ⟨B, v, W, Z, M, sd, rfl, I, hT, h⟩ := h
    refine ⟨_, (pss_cons (ps_set (i := 2) sc_settle.nd rfl (by first | exact Or.inl rfl | exact Or.inr rfl) pe_int)
      (pss_cons (ps_for (L2.passes_of rfl) rfl (pi_tup (pe_do (ok_rounds_of E) (hr.mono (by decide)) (by rfl) (g_rounds_of E) (passes_call (takes_of rfl rfl rfl rfl) (fun _ _ _ _ h => h)) (pa_cons (pv 0) (pa_cons (pv 1) pa_nil)))) (pg_name (i := 3) sc_settle.nd rfl (by first | exact Or.inl rfl | exact Or.inr rfl))
        (pss_one (ps_for (L2.passes_of rfl) rfl (pi_tup (pv 3)) (pg_tupK (K := K) (n := 2) rfl rfl (pgs_cons (pg_name (i := 4) sc_settle.nd rfl (by first | exact Or.inl rfl | exact Or.inr rfl)) (pgs_cons (pg_name (i := 5) sc_settle.nd rfl (by first | exact Or.inl rfl | exact Or.inr rfl)) pgs_nil)))
        (pss_cons (ps_expr (pe_doM (pv 0) (c_Bed E) (m_Bed_come E) (ok_Bed_come E) (hr.mono (by decide)) pass0 (pa_cons (pv 4) (pa_cons (pv 5) pa_nil))))
      (pss_one (ps_aug (i := 2) sc_settle.nd rfl (by first | exact Or.inl rfl | exact Or.inr rfl) pe_int ip_add))))))
      (pss_one (ps_ret (pv 2))))), ?_⟩
    rcases h with ⟨hp, hn, q⟩ | ⟨most, rfl, h0, h9, hM9, q1, q2⟩
    · exact ⟨_, rfl, _, rfl, B, v, W, Z, M, sd, rfl, I, hT, .inl ⟨hp, hn, q⟩⟩
    · refine ⟨_, rfl, _, rfl, B, _, W, Z, M, sd, rfl, I, hT, .inr ⟨most, rfl, h0, h9, hM9, fun k t H1 run done e1 T1 ht => ?_, q2⟩⟩
      obtain ⟨us, hus, hud⟩ : ∃ us, H1 t = some (.tup us) ∧ DtAll H1 us ((rnds W M k).map lotD) := by cases ht with | tup a b => exact ⟨_, a, b⟩
      have I1 := I.ext0 e1
      have hwn := I1.wn
      have hul := hud.length
      rw [List.length_map, rnds, List.length_map, List.length_range] at hul
      have hst : ∀ j, j ≤ k → (st W M j).length ≤ 900 := fun j hj => by
        match j, hj with
        | 0, _ => exact hM9
        | j + 1, hj => have h2 := run.le j (by omega); omega
      refine ⟨t, rfl, ⟨us, .of hus⟩, ?_⟩
      refine for_tup (xs := us) (fun j σ H5 => ∃ o3 o4 o5, σ = [some (.ref B.b), some (.int most), some (.int ((st W M j).length - M.length)), o3, o4, o5] ∧ EX K [B.ly, B.cm] H1 H5 ∧ BedI K w Z H5 B W (st W M j) sd [])
        ⟨none, none, none, by rw [show ((st W M 0).length : Int) - M.length = 0 from Int.sub_self _]; rfl, .refl, I1⟩ (fun j σ H5 _ ⟨_, _, _, _, e, _⟩ => .of (e.tup hus)) ?_ ?_
      · rintro j c σ H5 hc ⟨o3, o4, o5, rfl, e5, I5⟩
        obtain ⟨kd, hk, hcd⟩ := hud.get hc
        obtain ⟨ll, hll, rfl⟩ := Option.map_eq_some_iff.mp (by rw [← List.getElem?_map]; exact hk)
        have hj : j < k := by
          have := (List.getElem?_eq_some_iff.mp hll).1
          rw [rnds, List.length_map, List.length_range] at this; exact this
        have hlj : ll = lot W (st W M j) := by
          rw [rnds, List.getElem?_map, List.getElem?_range hj] at hll
          exact (Option.some.inj hll).symm
        subst hlj
        obtain ⟨t2, ws, rfl, hws, hwd⟩ : ∃ t2 ws, c = .ref t2 ∧ H5 t2 = some (.tup ws) ∧ DtAll H5 ws ((lot W (st W M j)).map pairD) := by
          have := e5.dt hcd
          cases this with | tup a b => exact ⟨_, _, rfl, a, b⟩
        have hwl := hwd.length
        rw [List.length_map] at hwl
        have hln : (st W M (j + 1)).length = (st W M j).length + (lot W (st W M j)).length := by
          show (st W M j ++ lot W (st W M j)).length = _
          rw [List.length_append]
        have h90 := hst (j + 1) (by omega)
        refine ⟨_, rfl, t2, rfl, ⟨ws, .of hws⟩, ?_⟩
        refine for_tup (xs := ws) (fun i σ H9 => ∃ o4 o5, σ = [some (.ref B.b), some (.int most), some (.int ((st W M j).length - M.length + i)), some (.ref t2), o4, o5] ∧ EX K [B.ly, B.cm] H5 H9 ∧ BedI K w Z H9 B W (st W M j ++ (lot W (st W M j)).take i) sd [])
          ⟨o4, o5, by rw [show (((st W M j).length : Int) - M.length + (0 : Nat)) = (st W M j).length - M.length by omega]; rfl, .refl, by rw [List.take_zero, List.append_nil]; exact I5⟩ (fun i σ H9 _ ⟨_, _, _, e, _⟩ => .of (e.tup hws)) ?_ ?_
        · rintro i c σ H9 hc ⟨o6, o7, rfl, e9, I9⟩
          obtain ⟨kd, hk, hcd⟩ := hwd.get hc
          obtain ⟨x, hx, rfl⟩ := Option.map_eq_some_iff.mp (by rw [← List.getElem?_map]; exact hk)
          obtain ⟨tc, y, z, rfl, htc, hy, hz⟩ := pair_tup (e9.dt hcd)
          obtain ⟨f1, f2, f3, f4⟩ := lot_fits hwn.ok hx
          refine ⟨_, _, rfl, .of htc, rfl, _, _, rfl, _, _, rfl, rfl, ?_⟩
          refine ⟨_, rfl, B.b, _, _, rfl, I9.o, rfl, _, rfl, _, rfl, B, y, z, x.1, x.2, W, Z, _, sd, rfl, I9, hy, ((e1.nil.trans e5).trans e9).tabs hT, hz, f3, f1, ?_, f2, fun H10 e10 T10 I10 => ?_⟩
          · rw [List.length_append, List.length_take]; omega
          · refine ⟨_, rfl, _, _, rfl, rfl, some y, some z, ?_, e9.trans e10, ?_⟩
            · rw [show (((st W M j).length : Int) - M.length + ((i + 1 : Nat) : Int)) = (st W M j).length - M.length + i + 1 by omega]; rfl
            · rw [List.take_add_one, hx, ← List.append_assoc]
              exact I10
        · rintro σ H9 ⟨o6, o7, rfl, e9, I9⟩
          rw [hwl, List.take_length] at I9
          refine ⟨some (.ref t2), o6, o7, ?_, e5.trans e9, I9⟩
          rw [hwl, show (((st W M (j + 1)).length : Int) - M.length) = (st W M j).length - M.length + (lot W (st W M j)).length by omega]
      · rintro σ H5 ⟨o3, o4, o5, rfl, e5, I5⟩
        rw [hul] at I5 ⊢
        exact ⟨_, rfl, q1 k H5 run done (e1.nil.trans e5) ((e1.nil.trans e5).tabs hT) I5⟩
end
end TR
/-! text C4 -/
set_option Elab.async false
set_option linter.all false
set_option maxRecDepth 100000
set_option maxHeartbeats 4000000
/-! several clauses, each with a name -/
namespace TR
open PySem PySem.Spec PyProof.Rows L2 VD
abbrev ClS := Value × Nat × (Addr → Value → Option Addr → TS)
def unn (D : Ends) (i : Nat) : Ends := { nx := fun σ H => D.nx (σ.set i none) H, rt := D.rt, bk := fun σ H => D.bk (σ.set i none) H, ct := fun σ H => D.ct (σ.set i none) H }
def wAsM (K : PySem.W.Frag) (Wo : WX) (D : Ends) : List ClS → WX
  | [] => Wo
  | (c, i, ts) :: r => fun cls d σ H => ∃ b, PySem.W.exmOne K cls c = some b ∧ (b = true → ∀ a, H a = none → ts a cls d (unn D i) (σ.set i (some (.ref a))) H) ∧ (b = false → wAsM K Wo D r cls d σ H)
inductive HdAs (X : Cx) : List ExceptHandler → List ClS → Prop
  | nil : HdAs X [] []
  | cons {x n : Str} {c : Value} {i : Nat} {ts : Addr → Value → Option Addr → TS} {b0 : Stmt} {su : List Stmt} {p1 p2 : Pos} {hds : List ExceptHandler} {l : List ClS} (nm : Names X x c) (hi : X.N[i]? = some n) (hl : X.env.kindOf n = some .local)
      (hsu : ∀ (a : Addr) (oe : Obj) (cls : Value) (d : Option Addr) (pn : List (Addr × Obj)), Zc cls d oe → (∃ vs, oe.data = .fields vs) → PSs (X.suite a ((a, oe) :: pn)) (b0 :: su) (ts a cls d)) (r : HdAs X hds l) :
      HdAs X (.ExceptHandler (some (.Name x p1)) (some n) (b0 :: su) p2 :: hds) ((c, i, ts) :: l)
section
variable {X : Cx} {bd : List Stmt} {h0 : ExceptHandler} {hds : List ExceptHandler} {l : List ClS} {ps : Pos} {tb : WX → TS} {Wo : WX}
theorem ps_try_asM (hst : X.stack = X.env :: X.outer) (hfr : X.env.frame = some X.env.locals) (hN : X.N.Nodup) (tk : Takes X Wo)
    (hb : ∀ (W : WX) (pn : List (Addr × Obj)) (xe : Value → Shared → Prop), Takes (X.tr pn xe) W → PassesOwn (model X.prog X.w) X.A X.env xe → PSs (X.tr pn xe) bd (tb W))
    (hh : HdAs X (h0 :: hds) l) : PS X (.Try bd (h0 :: hds) [] [] ps) (fun D σ H => tb (wAsM X.K Wo D l) D σ H) := by
  refine ⟨fun pins s σ H D I w0 => ?_⟩
  have kx := I.ok
  have hA : X.A.frames = some (X.env :: X.outer) := by rw [kx.frames, hst]
  refine wpAny_Try_except (wpAny_mono ((hb (wAsM X.K Wo D l) (X.pn ++ pins) (fun e z1 => wpAny (model X.prog X.w) X.A (noteFrame e X.env) (fun _ z2 => wpAny (model X.prog X.w) X.A (setFlight e none) (fun _ z3 =>
    wpAny (model X.prog X.w) X.A (handleBy e X.env (h0 :: hds)) (SP X pins D) X.xe z3) X.xe z2) X.xe z1) (fun u s1 xx => ?_) PassesOwn.looking).run [] s σ H D (I.toTry _) w0) (fun fl s1 hs1 => ?_) fun e z1 he => he)
  · obtain ⟨a, B, sI, q1, σ1, H1, cls, d, rfl, I', nb, up, sk, na, os, ag, w⟩ := xx
    have J : Inv X pins σ1 H1 sI := I'.ofTry kx
    rw [show (X.tr (X.pn ++ pins) _).stack = X.stack from rfl, hst] at sk
    show wpAny (model X.prog X.w) X.A (noteFrame (.ref a) X.env) _ _ _
    refine Sky.land Zc.steady hA hfr sk fun g3 f3 u3 => ?_
    have J3 : Inv X pins σ1 H1 { s1 with heap := g3 } := J.landed nb f3.1 (up.trans u3) os ag
    obtain ⟨o3, v3, oa3, za3, da3⟩ := f3.there
    have nfr : a ∉ frs (X.env :: X.outer) := fun hm => by
      obtain ⟨_, o', e', hn⟩ := f3.2.2.1.mem hm
      rw [oa3] at e'; cases e'
      exact hn _ da3
    have nL : a ≠ X.env.locals := fun z => nfr (List.mem_filterMap.mpr ⟨_, List.mem_cons_self, hfr.trans (by rw [z])⟩)
    have nF : a ∉ X.fs := fun hm => by
      obtain ⟨e, m1, m2⟩ := List.mem_filterMap.mp hm
      exact nfr (List.mem_filterMap.mpr ⟨e, List.mem_cons_of_mem _ m1, m2⟩)
    have S3 := J3.suite oa3 da3 na nL nF
    suffices go : ∀ {hs' : List ExceptHandler} {l' : List ClS}, HdAs X hs' l' → wAsM X.K Wo D l' cls d σ1 H1 → wpAny (model X.prog X.w) X.A (handleBy (.ref a) X.env hs') (SP X pins D) X.xe { s1 with heap := g3 } from go hh w
    intro hs' l' hk
    induction hk with
    | nil =>
      intro w
      obtain ⟨_, _, _, oe, vs, T, oT, t', he, hz, hd, r1, _⟩ := id f3
      apply wpAny_handleBy_nil
      unfold PySem.passOn
      refine wpAny_bind (wpAny_field he hd r1 ?_)
      rw [if_neg (by simp : ¬ ((Value.ref T == Value.none) = true))]
      have last : wpAny (model X.prog X.w) X.A (setFlight (.ref a) X.env.frame) (fun _ z4 => wpAny (model X.prog X.w) X.A (throw (.ref a) : Sem Flow) (SP X pins D) X.xe z4) X.xe { s1 with heap := g3 } := by
        rw [hfr]
        exact HandSPX.setFlight_upZ f3 fun g4 hg u4 => wpAny_throw (tk _ _ ⟨a, B, sI, pins, σ1, H1, cls, d, rfl, J, nb, (up.trans u3).trans u4, .inr (.inr (by rw [hst]; exact hg)), na, os, ag, w⟩)
      first
        | exact wpAny_bind (wpAny_pure (wpAny_bind last))
        | exact wpAny_bind last
    | @cons x n c i ts b0 su p1 p2 hds2 l2 nm hi hl hsu r ih =>
      intro w
      obtain ⟨b, hb1, yes, no⟩ := w
      refine wpAny_handleBy_cons (codeAny_handlers_test ?_) (by intro q; cases q)
      have LT : PySem.W.Looks (model X.prog X.w) g3 (typeOf (.ref a)) cls := fun A Q E s k q => wpAny_typeOf_ref (k _ _ oa3) (by rw [za3.1]; exact q)
      have LM := PySem.W.exm_one (M := model X.prog X.w) J3.kIn LT hb1
      have tst : ∀ {Q : Value → Shared → Prop} {E : Value → Shared → Prop}, Q c { s1 with heap := g3 } → wpAny (model X.prog X.w) (X.A.mark (some (.ref a))) (eval (.Name x p1) X.env) Q E { s1 with heap := g3 } := fun {Q E} q => by
        obtain ⟨y1, y2, y3 | ⟨y3, y4, y5⟩⟩ := nm
        · exact ld_glob (X := X.suite a ((a, o3) :: (X.pn ++ pins))) S3 y1 y3 q y2
        · exact ld_blt (X := X.suite a ((a, o3) :: (X.pn ++ pins))) S3 y1 y3 y4 q y5 y2
      refine tst (LM.here ?_)
      cases b with
      | true =>
        refine codeAny_handlers_suite_as (HandSPX.lands_againZ f3 fun g4 f4 u4 => ?_)
        have J4 : Inv X pins σ1 H1 { s1 with heap := g4 } := J.landed nb f4.1 ((up.trans u3).trans u4) os ag
        obtain ⟨o4, v4, oa4, za4, da4⟩ := f4.there
        refine store_ok (X := X.suite a ((a, o4) :: (X.pn ++ pins))) (v := .ref a) (J4.suite oa4 da4 na nL nF) hN hi (.inl hl) rfl (fun s5 S5 => ?_) (.inr hl)
        refine wpAny_mono ((hsu a o4 cls d (X.pn ++ pins) za4 ⟨_, da4⟩).run [] s5 _ H1 _ S5 (yes rfl a na)) (fun fl s6 q6 => ?_) (fun _ _ z => False.elim z)
        have fin : ∀ {σ6 : L2.St} {H6 : Hp} {Q : Shared → Prop}, Inv (X.suite a ((a, o4) :: (X.pn ++ pins))) [] σ6 H6 s6 → (∀ s7, Inv X pins (σ6.set i none) H6 s7 → Q s7) →
            wpAny (model X.prog X.w) X.A (do bindName X.env n .none; unbindBehindTheSuite X.env n p2) (fun _ s7 => Q s7) X.xe s6 := fun {σ6 H6 Q} S6 hq => gone_ok (S6.unsuite kx) hN hi hl hq
        cases fl with
        | next => exact let ⟨_, _, S6, y⟩ := q6; fin S6 fun s7 J7 => ⟨_, _, J7, y⟩
        | brk => exact let ⟨_, _, S6, y⟩ := q6; fin S6 fun s7 J7 => ⟨_, _, J7, y⟩
        | cont => exact let ⟨_, _, S6, y⟩ := q6; fin S6 fun s7 J7 => ⟨_, _, J7, y⟩
        | ret u => exact let ⟨_, _, _, S6, r6, y⟩ := q6; fin S6 fun s7 J7 => ⟨_, _, _, J7, r6, y⟩
      | false => exact ih (no rfl)
  · cases fl with
    | next => exact let ⟨σ', H', J', q⟩ := hs1; wpAny_execs_nil ⟨σ', H', J'.ofTry kx, q⟩
    | brk => exact let ⟨σ', H', J', q⟩ := hs1; ⟨σ', H', J'.ofTry kx, q⟩
    | cont => exact let ⟨σ', H', J', q⟩ := hs1; ⟨σ', H', J'.ofTry kx, q⟩
    | ret u => exact let ⟨v, σ', H', J', r, q⟩ := hs1; ⟨v, σ', H', J'.ofTry kx, r, q⟩
end
section
variable {X : Cx} {CX : CXT} {k : Nat} {f C : Addr} {ps : List Str} {sp : Sp} {E : XK} {x m : Str} {p pos apos : Pos} {e o : Expr} {es : List Expr} {ta : TE} {t : TA} {P : Program} {w : World} {K : PySem.W.Frag} {mg : Str → Option Value} {base : Heap}
/-- calls in a block: all is named -/
theorem pe_doN (eP : X.prog = P) (ew : X.w = w) (eK : X.K = K) (em : X.mg = mg) (eb : X.base = base) (F : Does P w K mg base CX k f ps sp) (hr : Room k X.A) (hg : Gl X x) (hm : mg x = some (.ref f)) (hx : Passes CX X E) (ha : PA X (e :: es) t) (hdb : (x == ("__debug__" : Str)) = false := by decide)
    (he : starEach (e :: es) X.env = (false, eval e X.env) :: starEach es X.env := by rfl) (hpl : (backTo pos (starEach es X.env)).any (·.1) = false := by rfl) : PE X (.Call (.Name x p) (e :: es) [] pos) (tCall sp [] E t) := by
  subst eP ew eK em eb
  exact pe_do F hr hg hm hx ha hdb he hpl
end
theorem call_len_seqK {X : Cx} {K : PySem.W.Frag} (hK : X.K = K) : CallR X (.builtin "len") (fun xs H Q => ∃ (q : Addr) (ys : List V), xs = [V.ref q] ∧ (SqL K H q ys ∨ SqT K H q ys) ∧ Q (V.int ys.length) H) := by
  subst hK
  exact call_len_seq
theorem mt_countDK {X : Cx} {K : PySem.W.Frag} (hK : X.K = K) (hu : X.A.units + 65 < cLine) : MtR X "list.count" (rCountD K) := by
  subst hK
  exact mt_countD hu
section
variable {X : Cx} {K : PySem.W.Frag} {T name : String} {id : String} {r : V → List V → Hp → VK → Prop} {o e : Expr} {es : List Expr} {to : TE} {t : TA} {nm : Str} {apos cpos : Pos}
theorem pe_bmK (hK : X.K = K) (pa : PlainAttrs T) (slot : PySem.Slot T nm id) (hty : typeOf (.builtin id) = pure (.type "method_descriptor")) (hm : MtR X id r) (ho : PE X o to) (ha : PA X (e :: es) t)
    (h1 : attributeBase o nm X.env (eval o X.env) = eval o X.env := by rfl)
    (h2 : ((backTo cpos (starEach (e :: es) X.env)).all (fun x => !x.1) && (backToKw cpos (keywordEach [] X.env)).all (fun x => x.1.isSome) && decide ((e :: es).length + ([] : List Keyword).length + (if ([] : List Keyword).isEmpty then 0 else 1) < 30)) = true := by rfl)
    (h3 : (apos.endLine == cpos.line) = true := by rfl) (h4 : starEach (e :: es) X.env = (false, eval e X.env) :: starEach es X.env := by rfl) (h5 : (backTo cpos (starEach es X.env)).any (·.1) = false := by rfl) :
    PE X (.Call (.Attribute o nm apos) (e :: es) [] cpos) (tBM K T r to t) := by
  subst hK
  exact pe_bm pa slot hty hm ho ha h1 h2 h3 h4 h5
end
theorem sl_listK {X : Cx} {K : PySem.W.Frag} (hK : X.K = K) : SlR X (rSlL K) := by
  subst hK
  exact sl_list
/-- a cut whose word is chosen in the proof -/
def tCutE (t u : TS) : TS := fun D σ H => ∃ Pv : L2.St → Hp → Prop, t { D with nx := Pv } σ H ∧ ∀ σ' H', Pv σ' H' → u D σ' H'
theorem pss_cutE {X : Cx} {st : Stmt} {rest : List Stmt} {t u : TS} (h1 : PS X st t) (h2 : PSs X rest u) : PSs X (st :: rest) (tCutE t u) := by
  refine ⟨fun pins s σ H D I ⟨Pv, w1, w2⟩ => ?_⟩
  refine wpAny_execs_cons (thn (h1.run pins s σ H { D with nx := Pv } I w1) fun f s1 q => ?_)
  cases f with
  | next => exact let ⟨σ', H', I', q⟩ := q; h2.run pins s1 σ' H' D I' (w2 σ' H' q)
  | ret v => exact q
  | brk => exact q
  | cont => exact q
theorem call_list_ofK {X : Cx} {K : PySem.W.Frag} (hK : X.K = K) : CallR X (.type "list") (fun xs H Q => ∃ (q : Addr) (ys : List V), xs = [.ref q] ∧ (SqL K H q ys ∨ SqT K H q ys) ∧ ∀ l, H l = none → Q (.ref l) (upd H l (.lst ys))) := by
  subst hK
  exact call_list_of
end TR
/-! text FK -/
set_option Elab.async false
set_option linter.all false
set_option maxRecDepth 100000
set_option maxHeartbeats 4000000
/-! asked -/
namespace TR
open PySem PySem.Spec PyProof.Rows L2 VD
section
variable {X : Cx} {W : WX} {k : Nat} {f : Addr} {ps : List Str} {sp : Sp} {x : Str} {p pos : Pos} {e : Expr} {es : List Expr} {t : TA}
theorem pe_doS {P : Program} {w : World} {K : PySem.W.Frag} {mg : Str → Option Value} {base : Heap} (eP : X.prog = P) (ew : X.w = w) (eK : X.K = K) (em : X.mg = mg) (eb : X.base = base) (F : Does P w K mg base (L2.CX P w) k f ps sp) (hr : Room k X.A) (hg : Gl X x) (hm : mg x = some (.ref f)) (tk : Takes X W) (ha : PA X (e :: es) t) (hdb : (x == ("__debug__" : Str)) = false := by decide)
    (he : starEach (e :: es) X.env = (false, eval e X.env) :: starEach es X.env := by rfl) (hpl : (backTo pos (starEach es X.env)).any (·.1) = false := by rfl) : PE X (.Call (.Name x p) (e :: es) [] pos) (tCallS sp (WE W) t) := by
  subst eP ew eK em eb
  obtain ⟨kp, _, h1, h2⟩ := F
  exact pe_callS h1 hr hg hm kp h2 (fun σ => passAt tk σ) ha hdb he hpl
end
section
variable {P : Program} {w : World} {K : PySem.W.Frag} {mg : Str → Option Value} {base : Heap} {Z H H1 H2 : Hp} {B : BA} {W : Wd} {M : Bd} {sd : Pl} {bad : List Pl}
def spAsked (K : PySem.W.Frag) (w : World) : Sp := fun vs H Q _ => ∃ (wh : Int) (B : BA) (v : V) (W : Wd) (Z : Hp) (M : Bd) (sd : Pl), vs = [.int wh, .ref B.b, v] ∧ BedI K w Z H B W M sd [] ∧ LamX.Tabs (TabK K) H ∧
  ((Pln H v ∧ (∀ i, v = .int i → i < 0) ∧ ∀ t H1, EX K [] H H1 → LamX.Tabs (TabK K) H1 → H1 t = some (.tup [.str "bad", .str "most", v]) → Q (.ref t) H1) ∨
   (∃ most : Int, v = .int most ∧ 0 ≤ most ∧ most ≤ 900 ∧ M.length ≤ 900 ∧
    (wh = 0 → ∀ k t u H1, Run W M most k → Done W M k → EX K [] H H1 → LamX.Tabs (TabK K) H1 → Dt H1 u (rndD (rnds W M k)) → H1 t = some (.tup [.str "told", u]) → Q (.ref t) H1) ∧
    (wh ≠ 0 → ∀ k t H1, Run W M most k → Done W M k → EX K [B.ly, B.cm] H H1 → LamX.Tabs (TabK K) H1 → BedI K w Z H1 B W (st W M k) sd [] → H1 t = some (.tup [.str "told", .int ((st W M k).length - M.length)]) → Q (.ref t) H1) ∧
    (∀ k t H1, Run W M most k → Over W M most k → EX K [] H H1 → LamX.Tabs (TabK K) H1 → H1 t = some (.tup [.str "many", .str "tiles", .int (st W M (k + 1)).length, .int most]) → Q (.ref t) H1)))
theorem ok_law_t2_asked (E : Ev K mg base) : Does P w K mg base L2.CX0 13 (He.ga K "_law_t2_asked") ["_law_what", "_law_bed", "_law_most"] (spAsked K w) :=
  E.does0 (k := 12) ix_law_t2_asked rfl bn_law_t2_asked sc_law_t2_asked (fun _ _ _ _ ⟨_, _, _, _, _, _, _, h, _⟩ => by rw [h]; rfl) fun cdv A outer s H vs Q X hr h => by
    obtain ⟨wh, B, v, W, Z, M, sd, rfl, I, hT, h⟩ := h
    refine ⟨_, (pss_cons (ps_set (i := 3) sc_law_t2_asked.nd rfl (by first | exact Or.inl rfl | exact Or.inr rfl) pe_non)
      (pss_cons (ps_try_asM rfl rfl sc_law_t2_asked.nd takes_none5
        (fun W pn xe tk hp => pss_one (ps_set (i := 3) sc_law_t2_asked.nd rfl (.inl rfl) (pe_tup (pa_cons pe_str (pa_cons (pe_ifExp (pt_cmpR op_eq (pv 0) pe_int (nomark _)) (pe_doS (W := W) (P := P) (w := w) (K := K) (mg := mg) (base := base) rfl rfl rfl rfl rfl (ok_rounds_of E) (hr.mono (by decide)) (by rfl) (g_rounds_of E) tk (pa_cons (pv 1) (pa_cons (pv 2) pa_nil))) (pe_doS (W := W) (P := P) (w := w) (K := K) (mg := mg) (base := base) rfl rfl rfl rfl rfl (ok_settle E) (hr.mono (by decide)) (by rfl) (g_settle E) tk (pa_cons (pv 1) (pa_cons (pv 2) pa_nil)))) pa_nil)))))
        (.cons (c := .ref (He.ga K "BadNumber")) (i := 4) ⟨by rfl, by decide, .inl (g_BadNumber E)⟩ rfl rfl (fun a oe cls d pn hz hf => pss_one (ps_set (i := 3) sc_law_t2_asked.nd rfl (.inl rfl) (pe_tup (pa_cons pe_str (pa_cons (pe_xf (xf_BadNumber E) (na_BadNumber_what E) hz hf (pv 4)) (pa_cons (pe_xf (xf_BadNumber E) (na_BadNumber_number E) hz hf (pv 4)) pa_nil))))))
        (.cons (c := .ref (He.ga K "TooMany")) (i := 4) ⟨by rfl, by decide, .inl (g_TooMany E)⟩ rfl rfl (fun a oe cls d pn hz hf => pss_one (ps_set (i := 3) sc_law_t2_asked.nd rfl (.inl rfl) (pe_tup (pa_cons pe_str (pa_cons (pe_xf (xf_TooMany E) (na_TooMany_what E) hz hf (pv 4)) (pa_cons (pe_xf (xf_TooMany E) (na_TooMany_many E) hz hf (pv 4)) (pa_cons (pe_xf (xf_TooMany E) (na_TooMany_limit E) hz hf (pv 4)) pa_nil)))))))
        .nil)))
      (pss_one (ps_ret (pv 3))))), ?_⟩
    refine ⟨_, rfl, rfl, _, rfl, ?_⟩
    rcases h with ⟨hp, hn, q⟩ | ⟨most, rfl, h0, h9, hM9, q1, q2, q3⟩
    · by_cases hw : wh = 0
      · subst hw
        refine iteT ⟨_, rfl, _, rfl, B, v, W, Z, M, sd, rfl, I, hT, .inl ⟨hp, hn, fun d H1 e1 h1 => ⟨true, exm_BadNumber_BadNumber E, fun _ a ha => ?_, fun z => by cases z⟩⟩⟩
        refine ⟨_, rfl, rfl, rfl, d, _, _, rfl, h1, rfl, _, rfl, rfl, rfl, d, _, _, rfl, h1, rfl, sz3, fun t ht => ?_⟩
        exact ⟨_, rfl, q t _ (e1.andNew ht) ((e1.andNew ht).tabs hT) upd_same⟩
      · rw [show decide (V.int wh = V.int 0) = false from decide_eq_false fun z => hw (V.int.inj z)]
        refine iteF ⟨_, rfl, _, rfl, B, v, W, Z, M, sd, rfl, I, hT, .inl ⟨hp, hn, fun d H1 e1 h1 => ⟨true, exm_BadNumber_BadNumber E, fun _ a ha => ?_, fun z => by cases z⟩⟩⟩
        refine ⟨_, rfl, rfl, rfl, d, _, _, rfl, h1, rfl, _, rfl, rfl, rfl, d, _, _, rfl, h1, rfl, sz3, fun t ht => ?_⟩
        exact ⟨_, rfl, q t _ (e1.andNew ht) ((e1.andNew ht).tabs hT) upd_same⟩
    · by_cases hw : wh = 0
      · subst hw
        refine iteT ⟨_, rfl, _, rfl, B, _, W, Z, M, sd, rfl, I, hT, .inr ⟨most, rfl, h0, h9, hM9, fun k t H1 run done e1 T1 ht => ?_, fun k run ov d H1 e1 h1 => ⟨false, exm_TooMany_BadNumber E, (fun z => by cases z), fun _ => ⟨true, exm_TooMany_TooMany E, fun _ a ha => ?_, fun z => by cases z⟩⟩⟩⟩
        · refine ⟨sz2, fun u hu => ?_⟩
          have e2 : EX K [] H1 (upd H1 u (.tup [.str "told", .ref t])) := Ext.new hu
          exact ⟨_, rfl, q1 rfl k u _ _ run done (e1.trans e2) (e2.tabs T1) (e2.dt ht) upd_same⟩
        · refine ⟨_, rfl, rfl, rfl, d, _, _, rfl, h1, rfl, _, rfl, rfl, rfl, d, _, _, rfl, h1, rfl, _, rfl, rfl, rfl, d, _, _, rfl, h1, rfl, sz4, fun t ht => ?_⟩
          exact ⟨_, rfl, q3 k t _ run ov (e1.andNew ht) ((e1.andNew ht).tabs hT) upd_same⟩
      · rw [show decide (V.int wh = V.int 0) = false from decide_eq_false fun z => hw (V.int.inj z)]
        refine iteF ⟨_, rfl, _, rfl, B, _, W, Z, M, sd, rfl, I, hT, .inr ⟨most, rfl, h0, h9, hM9, fun k H1 run done e1 T1 I1 => ?_, fun k run ov d H1 e1 h1 => ⟨false, exm_TooMany_BadNumber E, (fun z => by cases z), fun _ => ⟨true, exm_TooMany_TooMany E, fun _ a ha => ?_, fun z => by cases z⟩⟩⟩⟩
        · refine ⟨sz2, fun u hu => ?_⟩
          have e2 : EX K [] H1 (upd H1 u (.tup [.str "told", .int ((st W M k).length - M.length)])) := Ext.new hu
          exact ⟨_, rfl, q2 hw k u _ run done (e1.trans e2.nil) (e2.tabs T1) (I1.ext0 e2) upd_same⟩
        · refine ⟨_, rfl, rfl, rfl, d, _, _, rfl, h1, rfl, _, rfl, rfl, rfl, d, _, _, rfl, h1, rfl, _, rfl, rfl, rfl, d, _, _, rfl, h1, rfl, sz4, fun t ht => ?_⟩
          exact ⟨_, rfl, q3 k t _ run ov (e1.andNew ht) ((e1.andNew ht).tabs hT) upd_same⟩
end
end TR
/-! text FL -/
set_option Elab.async false
set_option linter.all false
set_option maxRecDepth 100000
set_option maxHeartbeats 4000000
/-! the law's own walk: bonds, fitting -/
namespace TR
open PySem PySem.Spec PyProof.Rows L2 VD
def kindD (W : Wd) (n : D) : D := .tup [glD (W.gl n 0), glD (W.gl n 1), glD (W.gl n 2), glD (W.gl n 3)]
def OD (g od cl : Addr) (sn sd : V) : List (Key × V) := [(.inr "glues", .ref g), (.inr "seed_name", sn), (.inr "order", .ref od), (.inr "seed", sd), (.inr "cells", .ref cl)]
structure OwA where
  g : Addr
  od : Addr
  cl : Addr
  sn : V
  sd : V
/-- what the law wrote of the world -/
structure OwnI (w : World) (H : Hp) (o : Addr) (A : OwA) (W : Wd) (sn : D) (sd : Pl) (cs : List Pl) : Prop where
  o : H o = some (.dK (OD A.g A.od A.cl A.sn A.sd))
  g : ∃ ges, DictE w H A.g ges ∧ ∀ n ∈ W.order, ∃ v, lookE ges n = some v ∧ Dt H v (kindD W n)
  od : ∃ us, H A.od = some (.lst us) ∧ DtAll H us W.order
  cl : ∃ us, H A.cl = some (.lst us) ∧ DtAll H us (cs.map plD)
  hsn : Dt H A.sn sn
  hsd : Dt H A.sd (plD sd)
  so : sn ∈ W.order
theorem OwnI.up {w : World} {Z H : Hp} {o : Addr} {A : OwA} {W : Wd} {sn : D} {sd : Pl} {cs : List Pl} (k : ∀ b o, Z b = some o → H b = some o) (h : OwnI w Z o A W sn sd cs) : OwnI w H o A W sn sd cs := by
  have kt : ∀ b vs, Z b = some (.tup vs) → H b = some (.tup vs) := fun b vs q => k b _ q
  obtain ⟨a, ⟨ges, b1, b2⟩, ⟨us, c1, c2⟩, ⟨ws, d1, d2⟩, e, f, g⟩ := h
  exact ⟨k _ _ a, ⟨ges, b1.keep (fun o q => k _ _ q) kt, fun n hn => let ⟨v, q1, q2⟩ := b2 n hn; ⟨v, q1, Dt.ext kt _ _ q2⟩⟩, ⟨us, k _ _ c1, DtAll.ext kt _ _ c2⟩, ⟨ws, k _ _ d1, DtAll.ext kt _ _ d2⟩, Dt.ext kt _ _ e, Dt.ext kt _ _ f, g⟩
/-- the law's bed at d -/
structure LwI (w : World) (Z H : Hp) (o d : Addr) (W : Wd) (M : Bd) : Prop where
  fz : Frz Z H
  ow : ∃ A sn sd cs, OwnI w Z o A W sn sd cs
  wn : WNice W
  ly : DictA w H d (bal M)
  zd : Z d = none
  mo : ∀ x ∈ M, x.2 ∈ W.order
  len : M.length ≤ 1000
section
variable {P : Program} {w : World} {K : PySem.W.Frag} {mg : Str → Option Value} {base : Heap} {Z H H1 H2 : Hp} {B : BA} {W : Wd} {M : Bd} {sd : Pl} {bad : List Pl} {o d : Addr}
theorem LwI.ext {S : List Addr} (h : LwI w Z H o d W M) (e : EX K S H H1) (hz : ∀ b ∈ S, Z b = none) (hd : d ∉ S) : LwI w Z H1 o d W M :=
  ⟨h.fz.ext e hz, h.ow, h.wn, h.ly.ext e hd, h.zd, h.mo, h.len⟩
theorem LwI.ext0 (h : LwI w Z H o d W M) (e : EX K [] H H1) : LwI w Z H1 o d W M := h.ext e (by simp) (by simp)
theorem LwI.order (h : LwI w Z H o d W M) {p : Pl} {n : D} (q : lkB M p = some n) : n ∈ W.order := h.mo _ (lkB_mem q)
theorem LwI.gl (h : LwI w Z H o d W M) (n : D) (s : Nat) : Nice (glD (W.gl n s)) := glD_nice (h.wn.lb n s).1 (h.wn.lb n s).2
theorem LwI.nlt (h : LwI w Z H o d W M) : (bal M).length = M.length := by unfold bal; rw [List.length_map]
theorem LwI.nd (h : LwI w Z H o d W M) : (M.map (·.1)).Nodup := by
  have := h.ly.nd
  rw [bal_keys] at this
  exact plD_nd this
theorem LwI.own (h : LwI w Z H o d W M) : ∃ A sn sd cs, OwnI w H o A W sn sd cs := let ⟨A, sn, sd, cs, q⟩ := h.ow; ⟨A, sn, sd, cs, q.up h.fz.sub⟩
theorem kind_at {v : V} {n : D} {s : Nat} (h : Dt H v (kindD W n)) (hs : s < 4) : ∃ t xs g, v = .ref t ∧ H t = some (.tup xs) ∧ xs[s]? = some g ∧ Dt H g (glD (W.gl n s)) := by
  obtain ⟨t, x, y, z, u, e, ht, hx, hy, hz, hu⟩ := tup4 h
  match s, hs with
  | 0, _ => exact ⟨t, _, x, e, ht, rfl, hx⟩
  | 1, _ => exact ⟨t, _, y, e, ht, rfl, hy⟩
  | 2, _ => exact ⟨t, _, z, e, ht, rfl, hz⟩
  | 3, _ => exact ⟨t, _, u, e, ht, rfl, hu⟩
theorem opp_mod {i : Nat} : ((0 : Int) + (i : Int) + 2) % 4 = ((opp i : Nat) : Int) := by unfold opp; omega
theorem dt_non {v : V} {n : D} (h : Dt H v n) (hn : n ≠ .none) : v ≠ .non := fun z => by
  rw [z] at h; cases h; exact hn rfl
def spLBonds (K : PySem.W.Frag) (w : World) : Sp := fun vs H Q _ => ∃ (o d : Addr) (v vn : V) (p : Pl) (n : D) (W : Wd) (Z : Hp) (M : Bd), vs = [.ref o, .ref d, v, vn] ∧ LwI w Z H o d W M ∧ Dt H v (plD p) ∧ Dt H vn n ∧ n ∈ W.order ∧
  ∀ H1, EX K [] H H1 → Q (.int (bonds W M p n)) H1
theorem ok_law_t2_bonds (E : Ev K mg base) : Does P w K mg base L2.CX0 2 (He.ga K "_law_t2_bonds") ["_law_own", "_law_bed", "_law_place", "_law_name"] (spLBonds K w) :=
  E.does0 (k := 1) ix_law_t2_bonds rfl bn_law_t2_bonds sc_law_t2_bonds (fun _ _ _ _ ⟨_, _, _, _, _, _, _, _, _, h, _⟩ => by rw [h]; rfl) fun cdv A outer s H vs Q X hr h => by
    obtain ⟨o, d, v, vn, p, n, W, Z, M, rfl, I, hv, hvn, hn, q⟩ := h
    refine ⟨_, (pss_cons (ps_set (i := 4) sc_law_t2_bonds.nd rfl (by first | exact Or.inl rfl | exact Or.inr rfl) pe_int)
      (pss_cons (ps_for PassesOwn.never rfl (pi_range1 (by rfl) (u_range E) (pa_cons pe_int pa_nil)) (pg_name (i := 5) sc_law_t2_bonds.nd rfl (by first | exact Or.inl rfl | exact Or.inr rfl))
        (pss_cons (ps_set (i := 6) sc_law_t2_bonds.nd rfl (by first | exact Or.inl rfl | exact Or.inr rfl) (pe_xget1 hr (pv 1) (pe_do (ok_law_t2_next E) (hr.mono (by decide)) (by rfl) (g_law_t2_next E) pass0 (pa_cons (pv 2) (pa_cons (pv 5) pa_nil))) ⟨rfl, rfl, rfl, rfl⟩))
      (pss_one (ps_if (pt_cmp (pc_notN (pv 6)))
        (pss_cons (ps_set (i := 7) sc_law_t2_bonds.nd rfl (by first | exact Or.inl rfl | exact Or.inr rfl) (pe_ix ix_tup (pe_xget hr (pe_dget (hu_of hr) (pv 0) pe_str (fun _ _ => rfl)) (pv 3) (fun _ _ => rfl)) (pv 5) (fun _ _ => rfl)))
      (pss_one (ps_if (pt_cmpR (op_eqD hr.units) (pv 7) (pe_ix ix_tup (pe_xget hr (pe_dget (hu_of hr) (pv 0) pe_str (fun _ _ => rfl)) (pv 6) (fun _ _ => rfl)) (pe_op op_mod (pe_callTy call_int1 (by rfl) (u_int E) b_int (pa_cons (pe_op op_add (pv 5) pe_int) pa_nil)) pe_int) (fun _ _ => rfl)) (nomark _))
        (pss_one (ps_set (i := 4) sc_law_t2_bonds.nd rfl (by first | exact Or.inl rfl | exact Or.inr rfl) (pe_op op_add (pv 4) (pe_ix ix_tup (pv 7) pe_int (fun _ _ => rfl)))))
        pss_nil)))
        pss_nil))))
      (pss_one (ps_ret (pv 4))))), ?_⟩
    refine ⟨4, rfl, by omega, by omega, ?_⟩
    refine for_range (fun i σ H3 => ∃ o5 o6 o7, σ = [some (.ref o), some (.ref d), some v, some vn, some (.int (tl W (shl W M p i) n)), o5, o6, o7] ∧ EX K [] H H3) ⟨none, none, none, rfl, .refl⟩ ?_ ?_
    · rintro i σ H3 hi ⟨o5, o6, o7, rfl, e3⟩
      have hi4 : i < 4 := hi
      have htl : tl W (shl W M p (i + 1)) n = tl W (shl W M p i) n + bd W M p n i := by rw [shl_succ, tl_app, tl_sho]
      obtain ⟨es0, hes0, hps0⟩ := I.ly
      refine ⟨_, rfl, d, rfl, ⟨es0, e3.dictE hes0 (by simp)⟩, _, rfl, _, rfl, v, p, i, by rw [Int.zero_add]; rfl, e3.dt hv, hi4, fun t H4 e4 ht => ?_⟩
      have e34 := e3.trans e4
      have I4 := I.ext0 e34
      have hps := hps0.ext e34.tups
      refine ⟨es0, plD (nb p i), e34.dictE hes0 (by simp), ht, plD_d, ?_⟩
      obtain ⟨A, sn, sd, cs, O⟩ := I4.own
      obtain ⟨ges, hg1, hg2⟩ := O.g
      rcases hps.look (plD (nb p i)) with ⟨k1, k2⟩ | ⟨no, vo, k1, k2, k3⟩
      · rw [k2]
        rw [lkA_bal] at k1
        refine ⟨_, rfl, _, rfl, iteF ?_⟩
        refine ⟨some (.int (0 + (i : Int))), some .non, o7, ?_, e34⟩
        rw [htl, show bd W M p n i = 0 by unfold bd; rw [k1], Int.add_zero]; rfl
      · rw [k2]
        rw [lkA_bal] at k1
        have hno := I4.order k1
        have hvo := dt_non k3 (I4.wn.nm no hno).2.2.1
        refine ⟨_, rfl, _, rfl, ?_⟩
        rw [show (!decide ((some vo).getD V.non = V.non)) = true by rw [decide_eq_false (show ¬ (some vo).getD V.non = V.non from hvo)]; rfl]
        refine iteT ?_
        obtain ⟨vk, hk1, hk2⟩ := hg2 n hn
        obtain ⟨tk, xs, g, rfl, htk, hxs, hgd⟩ := kind_at hk2 hi4
        have hbd : bd W M p n i = if W.gl n i = W.gl no (opp i) then (W.gl n i).2 else 0 := by unfold bd; rw [k1]
        refine ⟨_, rfl, _, _, rfl, pget O.o "glues" rfl, _, rfl, A.g, ges, n, _, rfl, hg1, e34.dt hvn, ?_, hk1, ?_⟩
        · have := (I4.wn.nm n hn).2.1; omega
        refine ⟨_, rfl, _, _, _, _, rfl, rfl, .of htk, by rw [Int.zero_add]; exact atI_nat hxs, ?_⟩
        obtain ⟨vk2, hk3, hk4⟩ := hg2 no hno
        obtain ⟨tk2, xs2, g2, rfl, htk2, hxs2, hgd2⟩ := kind_at (s := opp i) hk4 opp_lt
        refine ⟨_, rfl, _, rfl, _, _, rfl, pget O.o "glues" rfl, _, rfl, A.g, ges, no, _, rfl, hg1, k3, ?_, hk3, ?_⟩
        · have := (I4.wn.nm no hno).2.1; omega
        refine ⟨_, rfl, _, _, rfl, rfl, .inl ⟨_, rfl, _, _, rfl, rfl, (by decide : (0 : Int) < 4), _, _, _, _, rfl, rfl, .of htk2, by rw [opp_mod]; exact atI_nat hxs2, ?_⟩⟩
        refine eqD2 hgd hgd2 (I4.gl n i) (I4.gl no _) ⟨_, rfl, ?_⟩
        obtain ⟨tg, lb, rfl, htg, hlb⟩ := gl_tup hgd
        by_cases hg : W.gl n i = W.gl no (opp i)
        · rw [show decide (glD (W.gl n i) = glD (W.gl no (opp i))) = true from decide_eq_true (by rw [hg])]
          refine iteT ⟨_, rfl, _, rfl, _, _, _, _, rfl, rfl, .of htg, atI1, _, _, rfl, rfl, ?_⟩
          refine ⟨some (.int (0 + (i : Int))), some vo, some (.ref tg), ?_, e34⟩
          rw [htl, hbd, if_pos hg]; rfl
        · rw [show decide (glD (W.gl n i) = glD (W.gl no (opp i))) = false from decide_eq_false fun z => hg (glD_inj z)]
          refine iteF ?_
          refine ⟨some (.int (0 + (i : Int))), some vo, some (.ref tg), ?_, e34⟩
          rw [htl, hbd, if_neg hg, Int.add_zero]; rfl
    · rintro σ H3 ⟨o5, o6, o7, rfl, e3⟩
      refine ⟨_, rfl, ?_⟩
      show Q (.int (tl W (shl W M p 4) n)) H3
      rw [← bonds_tl]
      exact q H3 e3
/-- the strengths shown -/
def shs (W : Wd) (M : Bd) (p : Pl) (k : Nat) : List Int := (List.range k).flatMap fun s => match lkB M (nb p s) with
  | none => []
  | some o => [(W.gl o (opp s)).2]
theorem shs_succ {W : Wd} {M : Bd} {p : Pl} {k : Nat} : shs W M p (k + 1) = shs W M p k ++ (match lkB M (nb p k) with | none => [] | some o => [(W.gl o (opp k)).2]) := by
  unfold shs; rw [List.range_succ, List.flatMap_append]; simp
theorem shs_sum {W : Wd} {M : Bd} {p : Pl} : ∀ k, (shs W M p k).sum = ((List.range k).map (sh W M p)).sum
  | 0 => rfl
  | k + 1 => by
    rw [shs_succ, List.sum_append, shs_sum k, List.range_succ, List.map_append, List.sum_append]
    congr 1
    cases e : lkB M (nb p k) with
    | none => simp [sh, e]
    | some o => simp [sh, e]
theorem shs_len {W : Wd} {M : Bd} {p : Pl} : ∀ k, (shs W M p k).length ≤ k
  | 0 => Nat.le_refl _
  | k + 1 => by
    have := shs_len (W := W) (M := M) (p := p) k
    rw [shs_succ, List.length_append]
    cases lkB M (nb p k) <;> simp <;> omega
theorem fit_few {W : Wd} {M : Bd} {p : Pl} (w : WOk W) (h : (shs W M p 4).sum < 2) : fit W M p = [] := by
  rw [shs_sum] at h
  have h : (((0 + sh W M p 0) + sh W M p 1) + sh W M p 2) + sh W M p 3 < 2 := by
    simp [List.range_succ] at h
    omega
  refine List.filter_eq_nil_iff.mpr fun n _ hn => ?_
  have hn := of_decide_eq_true hn
  unfold bonds at hn
  have h0 := bd_le_sh (M := M) (p := p) (n := n) (s := 0) w
  have h1 := bd_le_sh (M := M) (p := p) (n := n) (s := 1) w
  have h2 := bd_le_sh (M := M) (p := p) (n := n) (s := 2) w
  have h3 := bd_le_sh (M := M) (p := p) (n := n) (s := 3) w
  omega
def spLFit (K : PySem.W.Frag) (w : World) : Sp := fun vs H Q _ => ∃ (o d : Addr) (v : V) (p : Pl) (W : Wd) (Z : Hp) (M : Bd), vs = [.ref o, .ref d, v] ∧ LwI w Z H o d W M ∧ Dt H v (plD p) ∧
  ∀ l us H1, EX K [] H H1 → H l = none → H1 l = some (.lst us) → DtAll H1 us (fit W M p) → Q (.ref l) H1
theorem ok_law_t2_fitting (E : Ev K mg base) : Does P w K mg base L2.CX0 3 (He.ga K "_law_t2_fitting") ["_law_own", "_law_bed", "_law_place"] (spLFit K w) :=
  E.does0 (k := 2) ix_law_t2_fitting rfl bn_law_t2_fitting sc_law_t2_fitting (fun _ _ _ _ ⟨_, _, _, _, _, _, _, h, _⟩ => by rw [h]; rfl) fun cdv A outer s H vs Q X hr h => by
    obtain ⟨o, d, v, p, W, Z, M, rfl, I, hv, q⟩ := h
    refine ⟨_, (pss_cons (ps_set (i := 3) sc_law_t2_fitting.nd rfl (by first | exact Or.inl rfl | exact Or.inr rfl) (pe_lst pa_nil))
      (pss_cons (ps_for PassesOwn.never rfl (pi_range1 (by rfl) (u_range E) (pa_cons pe_int pa_nil)) (pg_name (i := 4) sc_law_t2_fitting.nd rfl (by first | exact Or.inl rfl | exact Or.inr rfl))
        (pss_cons (ps_set (i := 5) sc_law_t2_fitting.nd rfl (by first | exact Or.inl rfl | exact Or.inr rfl) (pe_xget1 hr (pv 1) (pe_do (ok_law_t2_next E) (hr.mono (by decide)) (by rfl) (g_law_t2_next E) pass0 (pa_cons (pv 2) (pa_cons (pv 4) pa_nil))) ⟨rfl, rfl, rfl, rfl⟩))
      (pss_one (ps_if (pt_cmp (pc_notN (pv 5)))
        (pss_one (ps_expr (pe_bm PySem.F.plainAttrs_list PySem.F.slot_list_append PySem.F.type_list_append mt_append (pv 3) (pa_cons (pe_ix ix_tup (pe_ix ix_tup (pe_xget hr (pe_dget (hu_of hr) (pv 0) pe_str (fun _ _ => rfl)) (pv 5) (fun _ _ => rfl)) (pe_op op_mod (pe_callTy call_int1 (by rfl) (u_int E) b_int (pa_cons (pe_op op_add (pv 4) pe_int) pa_nil)) pe_int) (fun _ _ => rfl)) pe_int (fun _ _ => rfl)) pa_nil))))
        pss_nil))))
      (pss_cons (ps_if (pt_cmpR op_lt (pe_callB (cr_sum rfl) (by rfl) (u_sum E) b_sum (pa_cons (pv 3) pa_nil)) pe_int (nomark _))
        (pss_one (ps_ret (pe_lst pa_nil)))
        pss_nil)
      (pss_one (ps_ret (pe_lc rfl sc_law_t2_fitting.nd (pi_list (pe_dget (hu_of hr) (pv 0) pe_str (fun _ _ => rfl))) (own := [("_law_name", 6)]) (blkOk_by (N := n_law_t2_fitting) (sc := defScope s_law_t2_fitting) (by decide +kernel)) (fun _ _ _ _ _ => (pg_name (i := 6) sc_law_t2_fitting.nd rfl (by first | exact Or.inl rfl | exact Or.inr rfl))) (fun _ _ _ _ _ => (pts_one (pt_cmpR op_ge (pe_doN (P := P) (w := w) (K := K) (mg := mg) (base := base) rfl rfl rfl rfl rfl (ok_law_t2_bonds E) (hr.mono (by decide)) (by rfl) (g_law_t2_bonds E) pass0 (pa_cons (pv 0) (pa_cons (pv 1) (pa_cons (pv 2) (pa_cons (pv 6) pa_nil))))) pe_int (nomark _)))) (fun _ _ _ _ _ => (pv 6)))))))), ?_⟩
    refine ⟨Nat.zero_le _, fun l hl => ?_⟩
    have e1 : EX K [] H (upd H l (.lst [])) := Ext.new hl
    refine ⟨4, rfl, by omega, by omega, ?_⟩
    refine for_range (fun i σ H3 => ∃ o4 o5 o6, σ = [some (.ref o), some (.ref d), some v, some (.ref l), o4, o5, o6] ∧ EX K [] H H3 ∧ H3 l = some (.lst ((shs W M p i).map V.int))) ⟨none, none, none, rfl, e1, upd_same⟩ ?_ ?_
    · rintro i σ H3 hi ⟨o5, o6, o7, rfl, e3, hl3⟩
      have hi4 : i < 4 := hi
      obtain ⟨es0, hes0, hps0⟩ := I.ly
      refine ⟨_, rfl, d, rfl, ⟨es0, e3.dictE hes0 (by simp)⟩, _, rfl, _, rfl, v, p, i, by rw [Int.zero_add]; rfl, e3.dt hv, hi4, fun t H4 e4 ht => ?_⟩
      have e34 := e3.trans e4
      have I4 := I.ext0 e34
      have hps := hps0.ext e34.tups
      have hl4 := e4.at0 hl3
      refine ⟨es0, plD (nb p i), e34.dictE hes0 (by simp), ht, plD_d, ?_⟩
      obtain ⟨A, sn, sd, cs, O⟩ := I4.own
      obtain ⟨ges, hg1, hg2⟩ := O.g
      rcases hps.look (plD (nb p i)) with ⟨k1, k2⟩ | ⟨no, vo, k1, k2, k3⟩
      · rw [k2]
        rw [lkA_bal] at k1
        refine ⟨_, rfl, _, rfl, iteF ?_⟩
        refine ⟨some (.int (0 + (i : Int))), some .non, o7, rfl, e34, ?_⟩
        rw [shs_succ, k1, List.append_nil]; exact hl4
      · rw [k2]
        rw [lkA_bal] at k1
        have hno := I4.order k1
        have hvo := dt_non k3 (I4.wn.nm no hno).2.2.1
        refine ⟨_, rfl, _, rfl, ?_⟩
        rw [show (!decide ((some vo).getD V.non = V.non)) = true by rw [decide_eq_false (show ¬ (some vo).getD V.non = V.non from hvo)]; rfl]
        refine iteT ?_
        obtain ⟨vk2, hk3, hk4⟩ := hg2 no hno
        obtain ⟨tk2, xs2, g2, rfl, htk2, hxs2, hgd2⟩ := kind_at (s := opp i) hk4 opp_lt
        obtain ⟨tg, lb, rfl, htg, hlb⟩ := gl_tup hgd2
        have hsl := shs_len (W := W) (M := M) (p := p) i
        refine ⟨_, rfl, tyl hl4, _, rfl, _, _, rfl, pget O.o "glues" rfl, _, rfl, A.g, ges, no, _, rfl, hg1, k3, ?_, hk3, ?_⟩
        · have := (I4.wn.nm no hno).2.1; omega
        refine ⟨_, rfl, _, _, rfl, rfl, .inl ⟨_, rfl, _, _, rfl, rfl, (by decide : (0 : Int) < 4), _, _, _, _, rfl, rfl, .of htk2, by rw [opp_mod]; exact atI_nat hxs2, ?_⟩⟩
        refine ⟨_, _, _, _, rfl, rfl, .of htg, atI1, l, _, _, rfl, rfl, hl4, by rw [sizeLine_eq, List.length_map]; omega, ?_⟩
        refine ⟨some (.int (0 + (i : Int))), some vo, o7, rfl, e34.lst hl4 (.inl hl), ?_⟩
        rw [upd_same, shs_succ, k1, List.map_append]; rfl
    · rintro σ H3 ⟨o5, o6, o7, rfl, e3, hl3⟩
      have I3 := I.ext0 e3
      have hl3 : H3 l = some (.lst ((shs W M p 4).map V.int)) := hl3
      refine ⟨_, rfl, l, shs W M p 4, rfl, .of hl3, _, _, rfl, rfl, _, rfl, ?_⟩
      by_cases hfew : (shs W M p 4).sum < 2
      · rw [decide_eq_true hfew]
        refine iteT ⟨Nat.zero_le _, fun l2 hl2 => ?_⟩
        refine q l2 [] _ (e3.andNew hl2) (e3.fresh hl2) upd_same ?_
        rw [fit_few I.wn.ok hfew]; exact .nil
      · rw [decide_eq_false hfew]
        refine iteF ?_
        obtain ⟨A, sn, sd, cs, O⟩ := I3.own
        obtain ⟨us, hus1, hus2⟩ := O.od
        have hul := hus2.length
        have hwl := I.wn.len
        refine ⟨_, rfl, _, _, rfl, pget O.o "order" rfl, A.od, rfl, ⟨us, .of hus1⟩, fun l3 hl3 => ?_⟩
        have e4 : EX K [] H3 (upd H3 l3 (.lst [])) := Ext.new hl3
        refine wk_list (xs := us) (fun i H5 => ∃ acc, EX K [] H3 H5 ∧ H5 l3 = some (.lst acc) ∧ DtAll H5 acc ((W.order.take i).filter fun n => decide (2 ≤ bonds W M p n)))
          ⟨[], e4, upd_same, .nil⟩ (fun i H5 _ ⟨_, e, _⟩ => .of (e.at0 hus1)) ?_ ?_
        · rintro i c H5 hc ⟨acc, e5, hl5, ha5⟩
          obtain ⟨n, hn, hcd⟩ := hus2.get hc
          have hno := List.mem_of_getElem? hn
          have I5 := I3.ext0 e5
          have hal := ha5.length
          have hfl := List.length_filter_le (fun n => decide (2 ≤ bonds W M p n)) (W.order.take i)
          rw [List.length_take] at hfl
          refine ⟨rfl, _, rfl, _, rfl, _, rfl, _, rfl, o, d, v, c, p, n, W, Z, M, rfl, I5, e5.dt (e3.dt hv), e5.dt hcd, hno, fun H6 e6 => ?_⟩
          have e56 := e5.trans e6
          refine ⟨_, _, rfl, rfl, _, rfl, ?_⟩
          rw [List.take_add_one, hn, List.filter_append]
          by_cases hb : 2 ≤ bonds W M p n
          · rw [show decide (bonds W M p n ≥ 2) = true from decide_eq_true hb]
            have hl6 := e6.at0 hl5
            refine iteT ⟨_, rfl, acc, hl6, by rw [sizeLine_eq]; omega, acc ++ [c], e56.lst hl6 (.inl hl3), upd_same, ?_⟩
            have e7 : EX K [l3] H6 (upd H6 l3 (.lst (acc ++ [c]))) := Ext.refl.lst hl6 (.inr (by simp))
            rw [show ((some n).toList.filter fun n => decide (2 ≤ bonds W M p n)) = [n] by simp [hb]]
            exact (e7.dts (e6.dts ha5)).app (.cons (e7.dt (e56.dt hcd)) .nil)
          · rw [show decide (bonds W M p n ≥ 2) = false from decide_eq_false hb]
            refine iteF ⟨acc, e56, e6.at0 hl5, ?_⟩
            rw [show ((some n).toList.filter fun n => decide (2 ≤ bonds W M p n)) = [] by simp; omega, List.append_nil]
            exact e6.dts ha5
        · rintro H5 ⟨acc, e5, hl5, ha5⟩
          rw [hul, List.take_length] at ha5
          exact q l3 acc H5 (e3.trans e5) (e3.fresh hl3) hl5 ha5
end
end TR
/-! text FM -/
set_option Elab.async false
set_option linter.all false
set_option maxRecDepth 100000
set_option maxHeartbeats 4000000
/-! the law's own walk: may, copy, pairs -/
namespace TR
open PySem PySem.Spec PyProof.Rows L2 VD
def nrl (M : Bd) (L : List Pl) : List Pl := L.filter fun q => decide (lkB M q = none)
theorem flat_filter {α β : Type} {f : α → List β} {q : α → Bool} : ∀ {l : List α}, (∀ x ∈ l, q x = false → f x = []) → l.flatMap f = (l.filter q).flatMap f
  | [], _ => rfl
  | a :: l, h => by
    have ih := flat_filter (f := f) (q := q) (l := l) fun x hx => h x (List.mem_cons_of_mem _ hx)
    rw [List.flatMap_cons, List.filter_cons]
    cases e : q a with
    | true => rw [if_pos rfl, List.flatMap_cons, ih]
    | false => rw [if_neg Bool.false_ne_true, h a List.mem_cons_self e, List.nil_append, ih]
theorem may_of {W : Wd} {M : Bd} {ps : List Pl} (h1 : PlS ps) (h2 : ps.Nodup) (h3 : ∀ p, p ∈ ps ↔ p ∈ cand M ∧ lkB M p = none) : (ps.flatMap fun p => (fit W M p).map fun n => (p, n)) = may W M := by
  have e : ps.filter (fun p => decide (fit W M p ≠ [])) = fr W M := by
    refine fr_eq (h1.filter _) (h2.filter _) fun p => ?_
    rw [List.mem_filter, decide_eq_true_eq, h3]
    exact ⟨fun h => ⟨h.1.2, h.2⟩, fun h => ⟨⟨fr1_cand h, h.1⟩, h.2⟩⟩
  rw [flat_filter (q := fun p => decide (fit W M p ≠ [])) fun x _ hx => ?_, e]
  · rfl
  · have := of_decide_eq_false hx
    rw [Decidable.not_not.mp this]; rfl
section
variable {P : Program} {w : World} {K : PySem.W.Frag} {mg : Str → Option Value} {base : Heap} {Z H H1 H2 : Hp} {B : BA} {W : Wd} {M : Bd} {sd : Pl} {bad : List Pl} {o d : Addr}
def spCopy (K : PySem.W.Frag) (w : World) : Sp := fun vs H Q _ => ∃ (d : Addr) (M : Bd), vs = [.ref d] ∧ DictA w H d (bal M) ∧ M.length ≤ 1000 ∧ ∀ d2 H1, EX K [] H H1 → H d2 = none → DictA w H1 d2 (bal M) → Q (.ref d2) H1
theorem ok_law_t2_copy (E : Ev K mg base) : Does P w K mg base L2.CX0 1 (He.ga K "_law_t2_copy") ["_law_bed"] (spCopy K w) :=
  E.does0 (k := 0) ix_law_t2_copy rfl bn_law_t2_copy sc_law_t2_copy (fun _ _ _ _ ⟨_, _, h, _⟩ => by rw [h]; rfl) fun cdv A outer s H vs Q X hr h => by
    obtain ⟨d, M, rfl, hd, hml, q⟩ := h
    refine ⟨_, (pss_cons (ps_set (i := 1) sc_law_t2_copy.nd rfl (by first | exact Or.inl rfl | exact Or.inr rfl) pe_xnew)
      (pss_cons (ps_for PassesOwn.never rfl (pi_x (pv 0)) (pg_name (i := 2) sc_law_t2_copy.nd rfl (by first | exact Or.inl rfl | exact Or.inr rfl))
        (pss_one (ps_xput hr (pv 1) (pv 2) (pe_xget hr (pv 0) (pv 2) (fun _ _ => rfl)) (by rfl))))
      (pss_one (ps_ret (pv 1))))), ?_⟩
    obtain ⟨es, he, hp⟩ := id hd
    have hnd := hd.nd
    have hel := hp.length
    have hbl : (bal M).length = M.length := by unfold bal; rw [List.length_map]
    intro d2 H1 hd2 m1 c1
    have e1 : EX K [] H H1 := Ext.newC hd2 c1
    have hdd : d ≠ d2 := by obtain ⟨ep, h⟩ := he.ob; exact ne_of_none h hd2
    refine ⟨_, rfl, d, es, rfl, e1.dictE he (by simp), fun u hu => ?_⟩
    refine for_x (xs := es.map (·.2.1)) (fun i σ H5 => ∃ o2, σ = [some (.ref d), some (.ref d2), o2] ∧ EX K [] H H5 ∧ DictA w H5 d2 ((bal M).take i)) ⟨none, rfl, e1, DictA.nil m1⟩ (fun i σ H5 _ ⟨_, _, e, _⟩ => ?_) ?_ ?_
    · obtain ⟨ep, h⟩ := he.ob
      cases (e1.at0 h).symm.trans hu
      exact e.at0 h
    · rintro i c σ H5 hc ⟨o2, rfl, e5, es5, m5, p5⟩
      rw [List.getElem?_map] at hc
      obtain ⟨en, hen, rfl⟩ := Option.map_eq_some_iff.mp hc
      obtain ⟨a, ha, hk, hv⟩ := hp.at hen
      have hem := List.mem_of_getElem? hen
      have hlk := lookE_mem he.nd hem
      have hcd := he.ks en hem
      have hi : i < (bal M).length := (List.getElem?_eq_some_iff.mp ha).1
      have h5l := p5.length
      rw [List.length_take] at h5l
      refine ⟨_, rfl, _, rfl, d, es, en.1, _, rfl, e5.dictE he (by simp), e5.dt hcd.1, hcd.2, hlk, _, rfl, _, rfl, d2, es5, en.1, rfl, m5, e5.dt hcd.1, hcd.2, by rw [sizeLine_eq]; omega, fun H6 m6 c6 => ?_⟩
      refine ⟨_, rfl, e5.dict m5 c6 m6 (.inl hd2), ?_⟩
      have := DictA.put m5 p5 (e5.dt hv) m6 c6
      rw [hk, putA_new (nd_take hnd ha)] at this
      rw [List.take_add_one, ha]
      exact this
    · rintro σ H5 ⟨o2, rfl, e5, m5⟩
      rw [List.length_map, hel, List.take_length] at m5
      exact ⟨_, rfl, q d2 H5 e5 hd2 m5⟩
def spLPairs (K : PySem.W.Frag) (w : World) : Sp := fun vs H Q _ => ∃ (d : Addr) (M : Bd), vs = [.ref d] ∧ DictA w H d (bal M) ∧ M.length ≤ 1000 ∧ ∀ t H1, EX K [] H H1 → Dt H1 (.ref t) (lotD (prs M)) → Q (.ref t) H1
theorem ok_law_t2_pairs (E : Ev K mg base) : Does P w K mg base L2.CX0 1 (He.ga K "_law_t2_pairs") ["_law_bed"] (spLPairs K w) :=
  E.does0 (k := 0) ix_law_t2_pairs rfl bn_law_t2_pairs sc_law_t2_pairs (fun _ _ _ _ ⟨_, _, h, _⟩ => by rw [h]; rfl) fun cdv A outer s H vs Q X hr h => by
    obtain ⟨d, M, rfl, hd, hml, q⟩ := h
    refine ⟨_, (pss_one (ps_ret (pe_callTy call_tuple_of (by rfl) (u_tuple E) b_tuple (pa_cons (pe_lc rfl sc_law_t2_pairs.nd (pi_list (pe_callB (cr_sortPl hr.units) (by rfl) (u_sorted E) b_sorted (pa_cons (pe_callTy (call_listX rfl) (by rfl) (u_list E) b_list (pa_cons (pv 0) pa_nil)) pa_nil))) (own := [("_law_place", 1)]) (blkOk_by (N := n_law_t2_pairs) (sc := defScope s_law_t2_pairs) (by decide +kernel)) (fun _ _ _ _ _ => (pg_name (i := 1) sc_law_t2_pairs.nd rfl (by first | exact Or.inl rfl | exact Or.inr rfl))) (fun _ _ _ _ _ => pts_nil) (fun _ _ _ _ _ => (pe_tup (pa_cons (pv 1) (pa_cons (pe_xgetZ (w := w) rfl (pv 0) (pv 1) (fun _ _ => rfl) hr) pa_nil))))) pa_nil)))), ?_⟩
    obtain ⟨es, bs, he, hp, hb1, hb2, hds, hln⟩ := hd.sorted bal_keys
    refine ⟨_, rfl, d, es, rfl, he, fun l hl => ?_⟩
    have e1 : EX K [] H (upd H l (.lst (es.map (·.2.1)))) := Ext.new hl
    refine ⟨l, bs, rfl, .of (by rw [hb1]; exact upd_same), fun b hb => e1.dt (hb2 b hb), fun l2 hl2 => ?_⟩
    have e2 : EX K [] H (upd (upd H l (.lst (es.map (·.2.1)))) l2 (.lst ((bs.mergeSort pvLe).map (·.1)))) := e1.andNew hl2
    have hl22 : (upd (upd H l (.lst (es.map (·.2.1)))) l2 (.lst ((bs.mergeSort pvLe).map (·.1)))) l2 = some (.lst ((bs.mergeSort pvLe).map (·.1))) := upd_same
    generalize upd (upd H l (.lst (es.map (·.2.1)))) l2 (.lst ((bs.mergeSort pvLe).map (·.1))) = H2 at e2 hl22
    refine ⟨l2, rfl, ⟨_, .of hl22⟩, fun l3 hl3 => ?_⟩
    have e3 : EX K [] H2 (upd H2 l3 (.lst [])) := Ext.new hl3
    have hpl : (prs M).length = M.length := by unfold prs; rw [List.length_map, srt_len, List.length_map]
    refine wk_list (xs := (bs.mergeSort pvLe).map (·.1)) (fun i H5 => ∃ acc, EX K [] H2 H5 ∧ H5 l3 = some (.lst acc) ∧ DtAll H5 acc (((prs M).take i).map pairD))
      ⟨[], e3, upd_same, .nil⟩ (fun i H5 _ ⟨_, e, _⟩ => .of (e.at0 hl22)) ?_ ?_
    · rintro i c H5 hc ⟨acc, e5, hl5, ha5⟩
      obtain ⟨k, hk, hcd⟩ := hds.get hc
      obtain ⟨p, hp1, rfl⟩ := Option.map_eq_some_iff.mp (by rw [← List.getElem?_map]; exact hk)
      have hpm : p ∈ M.map (·.1) := srt_mem.mp (List.mem_of_getElem? hp1)
      obtain ⟨n, hlk⟩ : ∃ n, lkB M p = some n := by
        cases e : lkB M p with
        | none => exact absurd hpm (lkB_none.mp e)
        | some n => exact ⟨n, rfl⟩
      have e35 := e2.trans e5
      obtain ⟨vn, hv1, hv2⟩ := (hp.ext e35.tups).some_ (x := n) (by rw [lkA_bal]; exact hlk)
      have hcd5 := e35.dt hcd
      refine ⟨rfl, _, rfl, _, rfl, _, rfl, d, es, plD p, vn, rfl, e35.dictE he (by simp), hcd5, plD_d, hv1, sz2, fun T hT => ?_⟩
      have e6 : EX K [] H5 (upd H5 T (.tup [c, vn])) := Ext.new hT
      have hac := ha5.length
      rw [List.length_map, List.length_take] at hac
      refine ⟨acc, e6.at0 hl5, by rw [sizeLine_eq]; omega, acc ++ [.ref T], (e5.trans e6).lst (e6.at0 hl5) (.inl hl3), upd_same, ?_⟩
      have hpi : (prs M)[i]? = some (p, n) := by unfold prs; rw [List.getElem?_map, hp1, Option.map_some, hlk]; rfl
      rw [List.take_add_one, hpi, List.map_append]
      have e67 : EX K [l3] (upd H5 T (.tup [c, vn])) (upd (upd H5 T (.tup [c, vn])) l3 (.lst (acc ++ [.ref T]))) := Ext.refl.lst (e6.at0 hl5) (.inr (by simp))
      exact (e67.dts (e6.dts ha5)).app (.cons (e67.dt (Dt.new hT (.cons hcd5 (.cons hv2 .nil)))) .nil)
    · rintro H5 ⟨acc, e5, hl5, ha5⟩
      have hlen : ((bs.mergeSort pvLe).map (·.1)).length = (prs M).length := by
        have := hds.length
        rw [this]; unfold prs; rw [List.length_map, List.length_map]
      rw [hlen, List.take_length] at ha5
      refine ⟨l3, acc, rfl, .inl ⟨.of hl5, fun t ht => ?_⟩⟩
      exact q t _ ((e2.trans e5).andNew ht) (Dt.new ht ha5)
def spLMay (K : PySem.W.Frag) (w : World) : Sp := fun vs H Q _ => ∃ (o d : Addr) (W : Wd) (Z : Hp) (M : Bd), vs = [.ref o, .ref d] ∧ LwI w Z H o d W M ∧ M.length ≤ 15 ∧
  ∀ l us H1, EX K [] H H1 → H l = none → H1 l = some (.lst us) → DtAll H1 us ((may W M).map pairD) → Q (.ref l) H1
theorem ok_law_t2_may (E : Ev K mg base) : Does P w K mg base L2.CX0 4 (He.ga K "_law_t2_may") ["_law_own", "_law_bed"] (spLMay K w) :=
  E.does0 (k := 3) ix_law_t2_may rfl bn_law_t2_may sc_law_t2_may (fun _ _ _ _ ⟨_, _, _, _, _, h, _⟩ => by rw [h]; rfl) fun cdv A outer s H vs Q X hr h => by
    obtain ⟨o, d, W, Z, M, rfl, I, hml, q⟩ := h
    refine ⟨_, (pss_cons (ps_par (i := 2) (j := 3) rfl sc_law_t2_may.nd rfl rfl (by decide) rfl rfl (pa_cons (pe_lst pa_nil) (pa_cons (pe_lst pa_nil) pa_nil)) (by rfl))
      (pss_cons (ps_for PassesOwn.never rfl (pi_x (pv 1)) (pg_name (i := 4) sc_law_t2_may.nd rfl (by first | exact Or.inl rfl | exact Or.inr rfl))
        (pss_one (ps_for PassesOwn.never rfl (pi_range1 (by rfl) (u_range E) (pa_cons pe_int pa_nil)) (pg_name (i := 5) sc_law_t2_may.nd rfl (by first | exact Or.inl rfl | exact Or.inr rfl))
        (pss_one (ps_if (pt_cmp (pc_xnotin hr (pe_do (ok_law_t2_next E) (hr.mono (by decide)) (by rfl) (g_law_t2_next E) pass0 (pa_cons (pv 4) (pa_cons (pv 5) pa_nil))) (pv 1)))
        (pss_one (ps_expr (pe_bm PySem.F.plainAttrs_list PySem.F.slot_list_append PySem.F.type_list_append mt_append (pv 2) (pa_cons (pe_do (ok_law_t2_next E) (hr.mono (by decide)) (by rfl) (g_law_t2_next E) pass0 (pa_cons (pv 4) (pa_cons (pv 5) pa_nil))) pa_nil))))
        pss_nil)))))
      (pss_cons (ps_for PassesOwn.never rfl (pi_list (pe_callB (cr_sortSetP rfl hr.units) (by rfl) (u_sorted E) b_sorted (pa_cons (pe_callTy (cr_setP rfl hr.units) (by rfl) (u_set E) b_set (pa_cons (pv 2) pa_nil)) pa_nil))) (pg_name (i := 4) sc_law_t2_may.nd rfl (by first | exact Or.inl rfl | exact Or.inr rfl))
        (pss_one (ps_set (i := 3) sc_law_t2_may.nd rfl (by first | exact Or.inl rfl | exact Or.inr rfl) (pe_op op_cat (pv 3) (pe_lc rfl sc_law_t2_may.nd (pi_list (pe_do (ok_law_t2_fitting E) (hr.mono (by decide)) (by rfl) (g_law_t2_fitting E) pass0 (pa_cons (pv 0) (pa_cons (pv 1) (pa_cons (pv 4) pa_nil))))) (own := [("_law_name", 6)]) (blkOk_by (N := n_law_t2_may) (sc := defScope s_law_t2_may) (by decide +kernel)) (fun _ _ _ _ _ => (pg_name (i := 6) sc_law_t2_may.nd rfl (by first | exact Or.inl rfl | exact Or.inr rfl))) (fun _ _ _ _ _ => pts_nil) (fun _ _ _ _ _ => (pe_tup (pa_cons (pv 4) (pa_cons (pv 6) pa_nil)))))))))
      (pss_one (ps_ret (pv 3)))))), ?_⟩
    obtain ⟨es, he, hp⟩ := id I.ly
    have hel := hp.length
    rw [I.nlt] at hel
    have hwl := I.wn.len
    refine ⟨Nat.zero_le _, fun l1 hl1 => ⟨Nat.zero_le _, fun l2 hl2 => ⟨_, _, rfl, ?_⟩⟩⟩
    have hn12 : l1 ≠ l2 := fun z => by rw [← z, upd_same] at hl2; cases hl2
    have e1 : EX K [] H (upd (upd H l1 (.lst [])) l2 (.lst [])) := (Ext.new hl1).andNew hl2
    have g1 : (upd (upd H l1 (.lst [])) l2 (.lst [])) l1 = some (.lst []) := by rw [upd_ne hn12]; exact upd_same
    have g2 : (upd (upd H l1 (.lst [])) l2 (.lst [])) l2 = some (.lst []) := upd_same
    have hl20 : H l2 = none := (Ext.new (T := TabK K) (S := []) hl1).fresh hl2
    generalize upd (upd H l1 (.lst [])) l2 (.lst []) = H0 at e1 g1 g2
    refine ⟨_, rfl, d, es, rfl, e1.dictE he (by simp), fun u hu => ?_⟩
    refine for_x (xs := es.map (·.2.1)) (fun i σ H5 => ∃ o4 o5, ∃ ks : List AP, σ = [some (.ref o), some (.ref d), some (.ref l1), some (.ref l2), o4, o5, none] ∧ EX K [] H H5 ∧ EX K [l1] H0 H5 ∧ H5 l1 = some (.lst (ks.map fun x => V.ref x.1)) ∧ (∀ x ∈ ks, Dt H5 (.ref x.1) (plD x.2)) ∧ ks.map (·.2) = nrl M ((M.take i).flatMap fun x => (List.range 4).map (nb x.1)))
      ⟨none, none, [], rfl, e1, .refl, g1, (by intro x hx; cases hx), rfl⟩ (fun i σ H5 _ ⟨_, _, _, _, e, _⟩ => ?_) ?_ ?_
    · obtain ⟨ep, h⟩ := he.ob
      cases (e1.at0 h).symm.trans hu
      exact e.at0 h
    · rintro i c σ H5 hc ⟨o4, o5, ks, rfl, e5, e05, hk5, hd5, hks⟩
      rw [List.getElem?_map] at hc
      obtain ⟨en, hen, rfl⟩ := Option.map_eq_some_iff.mp hc
      obtain ⟨a, ha, hk, hv⟩ := hp.at hen
      obtain ⟨x, hx, rfl⟩ := Option.map_eq_some_iff.mp (by unfold bal at ha; rw [← List.getElem?_map]; exact ha)
      have hcd := e5.dt (he.ks en (List.mem_of_getElem? hen)).1
      rw [hk] at hcd
      have hi : i < M.length := (List.getElem?_eq_some_iff.mp hx).1
      refine ⟨4, rfl, by omega, by omega, ?_⟩
      refine for_range (fun s σ H6 => ∃ o5, ∃ ks : List AP, σ = [some (.ref o), some (.ref d), some (.ref l1), some (.ref l2), some en.2.1, o5, none] ∧ EX K [] H H6 ∧ EX K [l1] H0 H6 ∧ EX K [l1] H5 H6 ∧ H6 l1 = some (.lst (ks.map fun x => V.ref x.1)) ∧ (∀ x ∈ ks, Dt H6 (.ref x.1) (plD x.2)) ∧ ks.map (·.2) = nrl M ((M.take i).flatMap (fun x => (List.range 4).map (nb x.1)) ++ (List.range s).map (nb x.1)))
        ⟨o5, ks, rfl, e5, e05, .refl, hk5, hd5, by rw [List.range_zero, List.map_nil, List.append_nil]; exact hks⟩ ?_ ?_
      · rintro s σ H6 hs ⟨o5, ks, rfl, e6, e06, e56, hk6, hd6, hks⟩
        have hs4 : s < 4 := hs
        have hc6 := e56.dt hcd
        refine ⟨_, rfl, _, rfl, _, x.1, s, by rw [Int.zero_add]; rfl, hc6, hs4, fun t H7 e7 ht => ?_⟩
        have e67 := e6.trans e7
        have hrw : nrl M ((M.take i).flatMap (fun x => (List.range 4).map (nb x.1)) ++ (List.range (s + 1)).map (nb x.1)) = nrl M ((M.take i).flatMap (fun x => (List.range 4).map (nb x.1)) ++ (List.range s).map (nb x.1)) ++ nrl M [nb x.1 s] := by
          rw [List.range_succ (n := s), List.map_append, ← List.append_assoc]
          exact List.filter_append _ _
        refine ⟨_, rfl, d, es, plD (nb x.1 s), rfl, e67.dictE he (by simp), ht, plD_d, _, rfl, ?_⟩
        rw [hp.isSome, lkA_bal]
        cases hlk : lkB M (nb x.1 s) with
        | some n =>
          refine iteF ⟨_, ks, rfl, e67, e06.trans e7.nil, e56.trans e7.nil, e7.at0 hk6, fun x hx => e7.dt (hd6 x hx), ?_⟩
          rw [hrw, hks]
          unfold nrl
          simp [hlk]
        | none =>
          have hkl := congrArg List.length hks
          have hcl : (nrl M ((M.take i).flatMap (fun x => (List.range 4).map (nb x.1)) ++ (List.range s).map (nb x.1))).length ≤ 4 * i + s := by
            refine Nat.le_trans (List.length_filter_le _ _) ?_
            have := flat_len (c := 4) (f := fun x : Pl × D => (List.range 4).map (nb x.1)) (l := M.take i) fun x _ => by simp
            rw [List.length_append, List.length_map, List.length_range]
            rw [List.length_take] at this
            omega
          rw [List.length_map] at hkl
          refine iteT ⟨_, rfl, tyl (e7.at0 hk6), _, rfl, _, rfl, _, x.1, s, by rw [Int.zero_add]; rfl, e7.dt hc6, hs4, fun t2 H8 e8 ht2 => ?_⟩
          have e68 := e67.trans e8
          have hk8 := (e7.trans e8).at0 hk6
          refine ⟨l1, _, _, rfl, rfl, hk8, by rw [sizeLine_eq, List.length_map]; omega, ?_⟩
          have e9 : EX K [l1] H8 (upd H8 l1 (.lst ((ks.map fun x => V.ref x.1) ++ [.ref t2]))) := Ext.refl.lst hk8 (.inr (by simp))
          refine ⟨_, ks ++ [(t2, nb x.1 s)], rfl, e68.then1 e9 (.inl hl1), (e06.trans (e7.trans e8).nil).trans e9, (e56.trans (e7.trans e8).nil).trans e9, ?_, fun y hy => ?_, ?_⟩
          · rw [upd_same, List.map_append]; rfl
          · rcases List.mem_append.mp hy with hy | hy
            · exact e9.dt ((e7.trans e8).dt (hd6 y hy))
            · rw [List.mem_singleton.mp hy]; exact e9.dt ht2
          · rw [List.map_append, hrw, hks]
            unfold nrl
            simp [hlk]
      · rintro σ H6 ⟨o5, ks, rfl, e6, e06, e56, hk6, hd6, hks⟩
        refine ⟨_, _, ks, rfl, e6, e06, hk6, hd6, ?_⟩
        rw [List.take_add_one, hx, List.flatMap_append, hks]
        simp
    · rintro σ H5 ⟨o4, o5, ks, rfl, e5, e05, hk5, hd5, hks⟩
      rw [List.length_map, hel, List.take_length] at hks
      have hks : ks.map (·.2) = nrl M (cand M) := hks
      have hkl := congrArg List.length hks
      have hkl2 : (nrl M (cand M)).length ≤ 4 * M.length := by
        rw [← cand_len]; exact List.length_filter_le _ _
      rw [List.length_map] at hkl
      have g25 : H5 l2 = some (.lst []) := e05.at_ g2 (by rw [List.mem_singleton]; exact fun z => hn12 z.symm)
      refine ⟨_, rfl, l1, ks, rfl, .of hk5, hd5, by omega, fun a L ha hL1 hL2 => ?_⟩
      have e6 : EX K [] H5 (upd H5 a (SetTO P w a (L.map pk))) := Ext.new ha
      refine ⟨a, L, rfl, upd_same, fun x hx => e6.dt (hd5 x (hL1 x hx)), fun L' g pm nd ll so hg => ?_⟩
      let H7 : Hp := upd (upd H5 a (SetTO P w a (L.map pk))) g (.lst (L'.map fun q => V.ref q.1))
      have e7 : EX K [] H5 H7 := e6.andNew hg
      have hg7 : H7 g = some (.lst (L'.map fun q => V.ref q.1)) := upd_same
      have hmay := may_of (W := W) (M := M) (ps := L'.map (·.2)) (List.pairwise_map.mpr so) nd fun p => by
        rw [(pm.map (·.2)).mem_iff]
        have hm : p ∈ ks.map (·.2) ↔ p ∈ cand M ∧ lkB M p = none := by rw [hks]; unfold nrl; rw [List.mem_filter, decide_eq_true_eq]
        rw [← hm]
        constructor
        · intro h
          obtain ⟨x, hx, rfl⟩ := List.mem_map.mp h
          exact List.mem_map.mpr ⟨x, hL1 x hx, rfl⟩
        · intro h
          obtain ⟨x, hx, rfl⟩ := List.mem_map.mp h
          exact hL2 x hx
      have e07 := e5.trans e7
      refine ⟨g, rfl, ⟨_, .of hg7⟩, ?_⟩
      refine for_list (xs := L'.map fun q => V.ref q.1) (fun i σ H8 => ∃ o4 f us, σ = [some (.ref o), some (.ref d), some (.ref l1), some (.ref f), o4, o5, none] ∧ EX K [] H H8 ∧ EX K [] H7 H8 ∧ H f = none ∧ H8 f = some (.lst us) ∧ DtAll H8 us ((((L'.map (·.2)).take i).flatMap fun p => (fit W M p).map fun n => (p, n)).map pairD))
        ⟨o4, l2, [], rfl, e07, .refl, hl20, e7.at0 g25, .nil⟩ (fun i σ H8 _ ⟨_, _, _, _, _, e, _⟩ => .of (e.at0 hg7)) ?_ ?_
      · rintro i c σ H8 hc ⟨o4, f, us, rfl, e8, e78, hf0, hf, hud⟩
        rw [List.getElem?_map] at hc
        obtain ⟨x, hx, rfl⟩ := Option.map_eq_some_iff.mp hc
        have hxL := List.mem_of_getElem? hx
        have hcd := (e7.trans e78).dt (hd5 x (hL1 x (pm.mem_iff.mp hxL)))
        have hx2 : (L'.map (·.2))[i]? = some x.2 := by rw [List.getElem?_map, hx]; rfl
        have hi : i < L'.length := (List.getElem?_eq_some_iff.mp hx).1
        have I8 := I.ext0 e8
        have hul := hud.length
        have hb3 := flat_len (c := 100) (f := fun p => (fit W M p).map fun n => (p, n)) (l := (L'.map (·.2)).take i) fun x _ => by
          rw [List.length_map]
          have := fit_len (W := W) (M := M) (p := x)
          omega
        rw [List.length_take, List.length_map] at hb3
        rw [List.length_map] at hul
        refine ⟨_, rfl, _, rfl, _, rfl, _, rfl, o, d, _, x.2, W, Z, M, rfl, I8, hcd, fun lf uf H9 e9 hlf0 hlf hufd => ?_⟩
        refine ⟨lf, rfl, ⟨uf, .of hlf⟩, fun l3 hl3 => ?_⟩
        have e10 : EX K [] H9 (upd H9 l3 (.lst [])) := Ext.new hl3
        have hufl := hufd.length
        have hfl2 := fit_len (W := W) (M := M) (p := x.2)
        refine wk_list (xs := uf) (fun j H10 => ∃ acc, EX K [] H9 H10 ∧ H10 l3 = some (.lst acc) ∧ DtAll H10 acc ((((fit W M x.2).take j).map fun n => (x.2, n)).map pairD))
          ⟨[], e10, upd_same, .nil⟩ (fun j H10 _ ⟨_, e, _⟩ => .of (e.at0 hlf)) ?_ ?_
        · rintro j cn H10 hcn ⟨acc, e10, hl10, ha10⟩
          obtain ⟨n, hn, hnd⟩ := hufd.get hcn
          have hj : j < (fit W M x.2).length := (List.getElem?_eq_some_iff.mp hn).1
          have hal := ha10.length
          rw [List.length_map, List.length_map, List.length_take] at hal
          refine ⟨rfl, _, rfl, _, rfl, sz2, fun T hT => ?_⟩
          have e11 : EX K [] H10 (upd H10 T (.tup [.ref x.1, cn])) := Ext.new hT
          have e12 : EX K [l3] (upd H10 T (.tup [.ref x.1, cn])) (upd (upd H10 T (.tup [.ref x.1, cn])) l3 (.lst (acc ++ [.ref T]))) := Ext.refl.lst (e11.at0 hl10) (.inr (by simp))
          refine ⟨acc, e11.at0 hl10, by rw [sizeLine_eq]; omega, acc ++ [.ref T], (e10.trans e11).lst (e11.at0 hl10) (.inl hl3), upd_same, ?_⟩
          rw [List.take_add_one, hn, List.map_append, List.map_append]
          exact (e12.dts (e11.dts ha10)).app (.cons (e12.dt (Dt.new hT (.cons (e10.dt (e9.dt hcd)) (.cons (e10.dt hnd) .nil)))) .nil)
        · rintro H10 ⟨acc, e10, hl10, ha10⟩
          rw [hufl, List.take_length] at ha10
          have hal := ha10.length
          rw [List.length_map, List.length_map] at hal
          have e810 := e9.trans e10
          refine ⟨f, l3, us, acc, rfl, rfl, e810.at0 hf, hl10, by rw [sizeLine_eq]; omega, fun r hr => ?_⟩
          have e11 : EX K [] H10 (upd H10 r (.lst (us ++ acc))) := Ext.new hr
          refine ⟨_, r, us ++ acc, rfl, (e8.trans e810).trans e11, (e78.trans e810).trans e11, (e8.trans e810).fresh hr, upd_same, ?_⟩
          rw [List.take_add_one, hx2, List.flatMap_append, List.map_append]
          refine (e11.dts (e810.dts hud)).app ?_
          simpa using e11.dts ha10
      · rintro σ H8 ⟨o4, f, us, rfl, e8, e78, hf0, hf, hud⟩
        rw [List.length_map, ← List.length_map (f := fun q : AP => q.2), List.take_length, hmay] at hud
        exact ⟨_, rfl, q f us H8 e8 hf0 hf hud⟩
end
end TR
/-! text FN -/
set_option Elab.async false
set_option linter.all false
set_option maxRecDepth 100000
set_option maxHeartbeats 4000000
/-! the law's own walk: rounds -/
namespace TR
open PySem PySem.Spec PyProof.Rows L2 VD
theorem eqvL (ks ls : List D) : PyData.eqv (.list (NestedKey.datas ks)) (.list (NestedKey.datas ls)) = decide (ks = ls) := by
  have h : PyData.eqv (NestedKey.tup ks).data (NestedKey.tup ls).data = decide (NestedKey.tup ks = NestedKey.tup ls) := eqv_dec _ _
  have e : PyData.eqv (NestedKey.tup ks).data (NestedKey.tup ls).data = PyData.eqv (.list (NestedKey.datas ks)) (.list (NestedKey.datas ls)) := by simp [NestedKey.data, PyData.eqv]
  rw [← e, h, decide_eq_decide]
  exact ⟨fun z => by injection z, fun z => by rw [z]⟩
theorem shapedL {m : Nat} {ks : List D} (h : ∀ k ∈ ks, Lq m k) (hm : m ≤ 60) : SeqAt.shaped (.list (NestedKey.datas ks)) = true := by
  obtain ⟨a, b⟩ := lq_all h
  show ((PyData.list (NestedKey.datas ks)).canLay0 && decide ((PyData.list (NestedKey.datas ks)).depth ≤ 64)) = true
  have h2 : (PyData.list (NestedKey.datas ks)).depth ≤ 64 := by simp only [PyData.depth]; rw [depth_datas]; omega
  rw [decide_eq_true h2]
  simp only [PyData.canLay0, b, Bool.and_self]
theorem dpL {K : PySem.W.Frag} {H : Hp} {l : Addr} {us : List V} {ks : List D} (h : H l = some (.lst us)) (d : DtAll H us ks) : Dp K H (.ref l) (.list (NestedKey.datas ks)) := .lst (.of h) (Dt.dpAll _ _ d)
theorem eqLL {K : PySem.W.Frag} {H : Hp} {l e : Addr} {us ws : List V} {ks ls : List D} {m n : Nat} {Q : VK} (h1 : H l = some (.lst us)) (h2 : H e = some (.lst ws)) (d1 : DtAll H us ks) (d2 : DtAll H ws ls) (q1 : ∀ k ∈ ks, Lq m k) (q2 : ∀ k ∈ ls, Lq n k) (e1 : m ≤ 60) (e2 : n ≤ 60) (q : Q (.bl (decide (ks = ls))) H) : rEqD K (.ref l) (.ref e) H Q :=
  ⟨_, _, dpL h1 d1, dpL h2 d2, shapedL q1 e1, shapedL q2 e2, by rw [eqvL]; exact q⟩
theorem neLL {K : PySem.W.Frag} {H : Hp} {l e : Addr} {us ws : List V} {ks ls : List D} {m n : Nat} {Q : VK} (h1 : H l = some (.lst us)) (h2 : H e = some (.lst ws)) (d1 : DtAll H us ks) (d2 : DtAll H ws ls) (q1 : ∀ k ∈ ks, Lq m k) (q2 : ∀ k ∈ ls, Lq n k) (e1 : m ≤ 60) (e2 : n ≤ 60) (q : Q (.bl (decide (ks ≠ ls))) H) : rNeD K (.ref l) (.ref e) H Q :=
  ⟨_, _, dpL h1 d1, dpL h2 d2, shapedL q1 e1, shapedL q2 e2, by rw [eqvL, ← decide_not]; exact q⟩
theorem pairD_lq {W : Wd} (wn : WNice W) {x : Pl × D} (h : x.2 ∈ W.order) : Lq 7 (pairD x) := by
  obtain ⟨a, b, _⟩ := wn.nm _ h
  refine lq_tup (m := 6) fun j hj => ?_
  simp only [List.mem_cons, List.not_mem_nil, or_false] at hj
  rcases hj with rfl | rfl
  · exact plD_lq.mono (by omega)
  · exact Lq.of a b
theorem firsts_sub {l : List (Pl × D)} {x : Pl × D} (h : x ∈ firsts l) : x ∈ l := by
  have : ∀ (l acc : List (Pl × D)), x ∈ l.foldl stepF acc → x ∈ acc ∨ x ∈ l := by
    intro l
    induction l with
    | nil => exact fun acc h => .inl h
    | cons a l ih =>
      intro acc h
      rcases ih _ h with h | h
      · unfold stepF at h
        split at h
        · exact .inl h
        · rcases List.mem_append.mp h with h | h
          · exact .inl h
          · rw [List.mem_singleton.mp h]; exact .inr List.mem_cons_self
      · exact .inr (List.mem_cons_of_mem _ h)
  exact (this l [] h).elim (fun z => by cases z) id
theorem may_order {W : Wd} {M : Bd} : ∀ x ∈ may W M, x.2 ∈ W.order := fun x hx => (fit_mem.mp (may_mem hx).2).1
theorem map_nil {α : Type} {f : α → D} {l : List α} : l.map f = [] ↔ l = [] := List.map_eq_nil_iff
section
variable {P : Program} {w : World} {K : PySem.W.Frag} {mg : Str → Option Value} {base : Heap} {Z H H1 H2 : Hp} {B : BA} {W : Wd} {M : Bd} {sd : Pl} {bad : List Pl} {o d : Addr}
/-- the law's bed after some steps -/
theorem LwI.put (I : LwI w Z H o d W M) {es : Es} {y v : V} {p : Pl} {n : D} (hes : DictE w H d es) (hps : Ps H es (bal M)) (hv : Dt H v n) (hn : n ∈ W.order) (hp : lkB M p = none) (hl : M.length < 1000)
    (m2 : DictE w H1 d (putE es (plD p) y v)) (c : Chg d H H1) : EX K [d] H H1 ∧ LwI w Z H1 o d W (M ++ [(p, n)]) := by
  have e : EX K [d] H H1 := Ext.refl.dict hes c m2 (.inr (by simp))
  refine ⟨e, I.fz.ext e (by simp; exact I.zd), I.ow, I.wn, ?_, I.zd, fun x hx => ?_, by rw [List.length_append]; simp; omega⟩
  · have := DictA.put hes hps hv m2 c
    rw [bal_put hp] at this
    exact this
  · rcases List.mem_append.mp hx with hx | hx
    · exact I.mo x hx
    · rw [List.mem_singleton.mp hx]; exact hn
def spLRounds (K : PySem.W.Frag) (w : World) : Sp := fun vs H Q _ => ∃ (o d : Addr) (W : Wd) (Z : Hp) (M : Bd) (most : Int), vs = [.ref o, .ref d, .int most] ∧ LwI w Z H o d W M ∧ 0 ≤ most ∧ most ≤ 15 ∧ M.length ≤ 15 ∧
  (∀ k t l us H1, Run W M most k → Done W M k → EX K [] H H1 → H1 t = some (.tup [.ref l, .non]) → H1 l = some (.lst us) → H l = none → DtAll H1 us ((rnds W M k).map lotD) → Q (.ref t) H1) ∧
  (∀ k t H1, Run W M most k → Over W M most k → EX K [] H H1 → H1 t = some (.tup [.non, .int (st W M (k + 1)).length]) → Q (.ref t) H1)
theorem ok_law_t2_rounds (E : Ev K mg base) : Does P w K mg base L2.CX0 5 (He.ga K "_law_t2_rounds") ["_law_own", "_law_bed", "_law_most"] (spLRounds K w) :=
  E.does0 (k := 4) ix_law_t2_rounds rfl bn_law_t2_rounds sc_law_t2_rounds (fun _ _ _ _ ⟨_, _, _, _, _, _, h, _⟩ => by rw [h]; rfl) fun cdv A outer s H vs Q X hr h => by
    obtain ⟨o, d, W, Z, M, most, rfl, I, h0, h9, hM, q1, q2⟩ := h
    refine ⟨_, (pss_cons (ps_par (i := 3) (j := 4) rfl sc_law_t2_rounds.nd rfl rfl (by decide) rfl rfl (pa_cons (pe_do (ok_law_t2_copy E) (hr.mono (by decide)) (by rfl) (g_law_t2_copy E) pass0 (pa_cons (pv 1) pa_nil)) (pa_cons (pe_lst pa_nil) pa_nil)) (by rfl))
      (pss_cons (ps_for PassesOwn.never rfl (pi_range1 (by rfl) (u_range E) (pa_cons (pe_op op_add (pv 2) pe_int) pa_nil)) (pg_name (i := 5) sc_law_t2_rounds.nd rfl (by first | exact Or.inl rfl | exact Or.inr rfl))
        (pss_cons (ps_set (i := 6) sc_law_t2_rounds.nd rfl (by first | exact Or.inl rfl | exact Or.inr rfl) (pe_lst pa_nil))
      (pss_cons (ps_for PassesOwn.never rfl (pi_list (pe_do (ok_law_t2_may E) (hr.mono (by decide)) (by rfl) (g_law_t2_may E) pass0 (pa_cons (pv 0) (pa_cons (pv 3) pa_nil)))) (pg_name (i := 7) sc_law_t2_rounds.nd rfl (by first | exact Or.inl rfl | exact Or.inr rfl))
        (pss_one (ps_if (PW.pt (pw_or (pt_cmpR (op_eqD hr.units) (pv 6) (pe_lst pa_nil) (nomark _)) (pw_or1 (pt_cmpR (op_neD hr.units) (pe_ix ix_tup (pe_ix ix_list (pv 6) (pe_un un_neg pe_int) (fun _ _ => rfl)) pe_int (fun _ _ => rfl)) (pe_ix ix_tup (pv 7) pe_int (fun _ _ => rfl)) (nomark _)))))
        (pss_one (ps_expr (pe_bm PySem.F.plainAttrs_list PySem.F.slot_list_append PySem.F.type_list_append mt_append (pv 6) (pa_cons (pv 7) pa_nil))))
        pss_nil)))
      (pss_cons (ps_if (PW.pt (pw_and (pt_cmpR (op_neD hr.units) (pv 6) (pe_lst pa_nil) (nomark _)) (pw_and1 (pt_cmpR op_gt (pe_op op_add (pe_callB call_lenX (by rfl) (u_len E) b_len (pa_cons (pv 3) pa_nil)) (pe_callB call_len_seq (by rfl) (u_len E) b_len (pa_cons (pv 6) pa_nil))) (pv 2) (nomark _)))))
        (pss_one (ps_ret (pe_tup (pa_cons pe_non (pa_cons (pe_op op_add (pe_callB call_lenX (by rfl) (u_len E) b_len (pa_cons (pv 3) pa_nil)) (pe_callB call_len_seq (by rfl) (u_len E) b_len (pa_cons (pv 6) pa_nil))) pa_nil)))))
        pss_nil)
      (pss_cons (ps_if (pt_cmpR (op_eqD hr.units) (pv 6) (pe_lst pa_nil) (nomark _))
        (pss_one ps_break)
        pss_nil)
      (pss_cons (ps_for PassesOwn.never rfl (pi_list (pv 6)) (pg_tupK (K := K) (n := 2) rfl rfl (pgs_cons (pg_name (i := 8) sc_law_t2_rounds.nd rfl (by first | exact Or.inl rfl | exact Or.inr rfl)) (pgs_cons (pg_name (i := 9) sc_law_t2_rounds.nd rfl (by first | exact Or.inl rfl | exact Or.inr rfl)) pgs_nil)))
        (pss_one (ps_xput hr (pv 3) (pv 8) (pv 9) (by rfl))))
      (pss_one (ps_expr (pe_bm PySem.F.plainAttrs_list PySem.F.slot_list_append PySem.F.type_list_append mt_append (pv 4) (pa_cons (pe_callTy call_tuple_of (by rfl) (u_tuple E) b_tuple (pa_cons (pv 6) pa_nil)) pa_nil))))))))))
      (pss_one (ps_ret (pe_tup (pa_cons (pv 4) (pa_cons pe_non pa_nil))))))), ?_⟩
    have hwn := I.wn
    refine ⟨_, rfl, d, M, rfl, I.ly, I.len, fun d2 H1 e1 hd2 m1 => ?_⟩
    refine ⟨Nat.zero_le _, fun l hl => ⟨_, _, rfl, ?_⟩⟩
    have hl0 := e1.fresh hl
    have e2 : EX K [] H (upd H1 l (.lst [])) := e1.andNew hl
    have J0 : LwI w Z (upd H1 l (.lst [])) o d2 W M := ⟨I.fz.ext0 e2, I.ow, hwn, m1.ext (Ext.new (T := TabK K) (S := []) (o := .lst []) hl) (by simp), I.fz.none_ hd2, I.mo, I.len⟩
    have hld : l ≠ d2 := fun z => by
      obtain ⟨u, h⟩ := m1.some
      rw [z, h] at hl; cases hl
    refine ⟨_, rfl, _, _, rfl, rfl, most + 1, rfl, by omega, by omega, ?_⟩
    refine for_range (fun k σ H5 => ∃ o5 o6 o7 o8 o9 us, σ = [some (.ref o), some (.ref d), some (.int most), some (.ref d2), some (.ref l), o5, o6, o7, o8, o9] ∧ Run W M most k ∧ EX K [] H H5 ∧ LwI w Z H5 o d2 W (st W M k) ∧ H5 l = some (.lst us) ∧ DtAll H5 us ((rnds W M k).map lotD))
      ⟨none, none, none, none, none, [], rfl, .zero, e2, J0, upd_same, .nil⟩ ?_ ?_
    · rintro k σ H5 hk ⟨o5, o6, o7, o8, o9, us, rfl, run, e5, J5, hl5, hu5⟩
      have hsl : (st W M k).length ≤ 15 := by
        match k, run with
        | 0, _ => exact hM
        | k + 1, run => have h2 := run.le k (by omega); omega
      refine ⟨Nat.zero_le _, fun t ht => ?_⟩
      have e6 : EX K [] H5 (upd H5 t (.lst [])) := Ext.new ht
      refine ⟨_, rfl, _, rfl, o, d2, W, Z, st W M k, rfl, J5.ext0 e6, hsl, fun lm um H7 e7 hlm0 hlm hum => ?_⟩
      have e57 := e6.trans e7
      have ht7 := e7.at0 (upd_same : (upd H5 t (.lst [])) t = some (.lst []))
      refine ⟨lm, rfl, ⟨um, .of hlm⟩, ?_⟩
      have huml := hum.length
      rw [List.length_map] at huml
      refine for_list (xs := um) (fun i σ H8 => ∃ o7 acc, σ = [some (.ref o), some (.ref d), some (.int most), some (.ref d2), some (.ref l), some (.int (0 + (k : Int))), some (.ref t), o7, o8, o9] ∧ EX K [] H5 H8 ∧ EX K [t] H7 H8 ∧ H8 t = some (.lst acc) ∧ DtAll H8 acc ((((may W (st W M k)).take i).foldl stepF []).map pairD))
        ⟨o7, [], rfl, e57, .refl, ht7, .nil⟩ (fun i σ H8 _ ⟨_, _, _, _, e, _⟩ => .of (e.at_ hlm ?_)) ?_ ?_
      · rw [List.mem_singleton]; intro z; rw [z, upd_same] at hlm0; cases hlm0
      · rintro i c σ H8 hc ⟨o7, acc, rfl, e8, e78, ht8, ha8⟩
        obtain ⟨kk, hkk, hcd0⟩ := hum.get hc
        obtain ⟨x, hx, rfl⟩ := Option.map_eq_some_iff.mp (by rw [← List.getElem?_map]; exact hkk)
        have hcd := e78.dt hcd0
        have hi : i < (may W (st W M k)).length := (List.getElem?_eq_some_iff.mp hx).1
        have hml := may_len (W := W) (M := st W M k)
        have hml2 : W.order.length * (4 * (st W M k).length) ≤ 100 * (4 * 15) := Nat.mul_le_mul hwn.len (Nat.mul_le_mul_left _ hsl)
        have hal := ha8.length
        have hfl : (((may W (st W M k)).take i).foldl stepF []).length ≤ ((may W (st W M k)).take i).length := firsts_len
        rw [List.length_map] at hal
        rw [List.length_take] at hfl
        have hst : ((may W (st W M k)).take (i + 1)).foldl stepF [] = stepF (((may W (st W M k)).take i).foldl stepF []) x := by rw [List.take_add_one, hx, List.foldl_append]; rfl
        have hlq : ∀ k' ∈ (((may W (st W M k)).take i).foldl stepF []).map pairD, Lq 7 k' := fun k' hk' => by
          obtain ⟨y, hy, rfl⟩ := List.mem_map.mp hk'
          exact pairD_lq hwn (may_order y (List.mem_of_mem_take (firsts_sub hy)))
        refine ⟨_, rfl, Nat.zero_le _, fun e0 he0 => ?_⟩
        have e9 : EX K [] H8 (upd H8 e0 (.lst [])) := Ext.new he0
        have e89 := e8.trans e9
        have e79 := e78.trans e9.nil
        have ht9 := e9.at0 ht8
        have ha9 := e9.dts ha8
        refine eqLL ht9 upd_same ha9 .nil hlq (n := 0) (fun _ z => by cases z) (by decide) (by decide) ⟨_, rfl, ?_⟩
        have hcd9 := e9.dt hcd
        clear e9
        generalize upd H8 e0 (.lst []) = H9 at *
        have app : stepF (((may W (st W M k)).take i).foldl stepF []) x = ((may W (st W M k)).take i).foldl stepF [] ++ [x] → ∃ o7' acc', [some (V.ref o), some (.ref d), some (.int most), some (.ref d2), some (.ref l), some (.int (0 + (k : Int))), some (.ref t), some c, o8, o9] = [some (V.ref o), some (.ref d), some (.int most), some (.ref d2), some (.ref l), some (.int (0 + (k : Int))), some (.ref t), o7', o8, o9] ∧ EX K [] H5 (upd H9 t (.lst (acc ++ [c]))) ∧ EX K [t] H7 (upd H9 t (.lst (acc ++ [c]))) ∧ (upd H9 t (.lst (acc ++ [c]))) t = some (.lst acc') ∧ DtAll (upd H9 t (.lst (acc ++ [c]))) acc' ((((may W (st W M k)).take (i + 1)).foldl stepF []).map pairD) := by
          intro hs
          have e10 : EX K [t] H9 (upd H9 t (.lst (acc ++ [c]))) := Ext.refl.lst ht9 (.inr (by simp))
          refine ⟨_, _, rfl, e89.then1 e10 (.inl ht), e79.trans e10, upd_same, ?_⟩
          rw [hst, hs, List.map_append]
          exact (e10.dts ha9).app (.cons (e10.dt hcd9) .nil)
        rcases List.eq_nil_or_concat acc with hacc | ⟨pre, lv, hacc⟩
        · subst hacc
          have h0 : ((may W (st W M k)).take i).foldl stepF [] = [] := List.length_eq_zero_iff.mp (by rw [← hal]; rfl)
          rw [decide_eq_true (map_nil.mpr h0)]
          refine iteT (iteT ⟨_, rfl, tyl ht9, _, rfl, t, _, _, rfl, rfl, ht9, by simp [sizeLine_eq], ?_⟩)
          exact app (by rw [h0]; exact if_neg (by simp))
        · rw [List.concat_eq_append] at hacc
          subst hacc
          obtain ⟨k2, hk2, hlv⟩ := ha9.get (i := pre.length) (v := lv) (by simp)
          obtain ⟨lx, hlx, rfl⟩ := Option.map_eq_some_iff.mp (by rw [← List.getElem?_map]; exact hk2)
          have hgl : (((may W (st W M k)).take i).foldl stepF []).getLast? = some lx := by
            rw [List.getLast?_eq_getElem?, ← hal]
            simpa using hlx
          have hne : ((may W (st W M k)).take i).foldl stepF [] ≠ [] := fun z => by rw [z] at hgl; cases hgl
          rw [decide_eq_false fun z => hne (map_nil.mp z)]
          obtain ⟨tl, yl, zl, rfl, htl, hyl, hzl⟩ := pair_tup hlv
          obtain ⟨tc, yc, zc, rfl, htc, hyc, hzc⟩ := pair_tup hcd9
          refine iteF ⟨_, rfl, _, rfl, t, _, _, .ref tl, rfl, rfl, .of ht9, atI_last _ _, tl, _, 0, _, rfl, rfl, .of htl, atI0, _, rfl, tc, _, 0, _, rfl, rfl, .of htc, atI0, neD3 hyl hyc plD_lq plD_lq (by decide) (by decide) ⟨_, rfl, ?_⟩⟩
          by_cases hp : lx.1 = x.1
          · rw [show decide (plD lx.1 ≠ plD x.1) = false from decide_eq_false (fun z => z (by rw [hp]))]
            refine iteF ⟨_, _, rfl, e89, e79, ht9, ?_⟩
            rw [hst, show stepF (((may W (st W M k)).take i).foldl stepF []) x = ((may W (st W M k)).take i).foldl stepF [] from if_pos (by rw [hgl]; exact congrArg some hp)]
            exact ha9
          · rw [show decide (plD lx.1 ≠ plD x.1) = true from decide_eq_true (fun z => hp (plD_inj z))]
            refine iteT ⟨_, rfl, tyl ht9, _, rfl, t, _, _, rfl, rfl, ht9, by rw [sizeLine_eq]; omega, ?_⟩
            exact app (if_neg (by rw [hgl]; exact fun z => hp (Option.some.inj z)))
      · rintro σ H8 ⟨o7, acc, rfl, e8, e78, ht8, ha8⟩
        rw [huml, List.take_length] at ha8
        have ha8 : DtAll H8 acc ((firsts (may W (st W M k))).map pairD) := ha8
        rw [firsts_may] at ha8
        have hal := ha8.length
        rw [List.length_map] at hal
        have hlq : ∀ k' ∈ (lot W (st W M k)).map pairD, Lq 7 k' := fun k' hk' => by
          obtain ⟨y, hy, rfl⟩ := List.mem_map.mp hk'
          exact pairD_lq hwn (lot_order y hy)
        have e58 := e5.trans e8
        have J8 := J5.ext0 e8
        have hl8 := e8.at0 hl5
        have hu8 := e8.dts hu5
        obtain ⟨es, hes, hps⟩ := id J8.ly
        have hesl := hps.length
        rw [J8.nlt] at hesl
        have hln : (st W M (k + 1)).length = (st W M k).length + (lot W (st W M k)).length := by
          show (st W M k ++ lot W (st W M k)).length = _
          rw [List.length_append]
        have hsum : (es.length : Int) + (acc.length : Int) = ((st W M (k + 1)).length : Int) := by rw [hesl, hal, hln]; omega
        refine ⟨_, rfl, Nat.zero_le _, fun e0 he0 => ?_⟩
        have e9 : EX K [] H8 (upd H8 e0 (.lst [])) := Ext.new he0
        refine neLL (e9.at0 ht8) upd_same (e9.dts ha8) .nil hlq (n := 0) (fun _ z => by cases z) (by decide) (by decide) ⟨_, rfl, ?_⟩
        have J9 := J8.ext0 e9
        have hes9 := e9.dictE hes (by simp)
        have ht9 := e9.at0 ht8
        have hl9 := e9.at0 hl8
        have hu9 := e9.dts hu8
        have ha9 := e9.dts ha8
        have e59 := e58.trans e9
        clear e9 hl8 hu8 ha8 J8 hes
        generalize upd H8 e0 (.lst []) = H9 at *
        have tail : lot W (st W M k) = [] ∨ (lot W (st W M k) ≠ [] ∧ ¬ most < (st W M (k + 1)).length) → ∀ e1 : Addr, H9 e1 = none → True := fun _ _ _ => trivial
        by_cases hlot : lot W (st W M k) = []
        · rw [show decide ((lot W (st W M k)).map pairD ≠ []) = false from decide_eq_false fun z => z (map_nil.mpr hlot)]
          refine iteF (iteF ?_)
          refine ⟨_, rfl, Nat.zero_le _, fun e1 he1 => ?_⟩
          have e10 : EX K [] H9 (upd H9 e1 (.lst [])) := Ext.new he1
          refine eqLL (e10.at0 ht9) upd_same (e10.dts ha9) .nil hlq (n := 0) (fun _ z => by cases z) (by decide) (by decide) ⟨_, rfl, ?_⟩
          rw [show decide ((lot W (st W M k)).map pairD = []) = true from decide_eq_true (map_nil.mpr hlot)]
          refine iteT ⟨_, rfl, sz2, fun r hr => ?_⟩
          have e11 := (e59.trans e10).andNew (o := .tup [.ref l, .non]) hr
          exact q1 k r l us _ run hlot e11 upd_same ((Ext.new (T := TabK K) (S := []) hr).at0 (e10.at0 hl9)) hl0 ((Ext.new (T := TabK K) (S := []) hr).dts (e10.dts hu9))
        · rw [show decide ((lot W (st W M k)).map pairD ≠ []) = true from decide_eq_true fun z => hlot (map_nil.mp z)]
          refine iteT ?_
          refine ⟨_, rfl, d2, es, rfl, hes9, _, rfl, t, acc, rfl, .inl (.of ht9), _, _, rfl, rfl, _, rfl, _, _, rfl, rfl, _, rfl, ?_⟩
          by_cases hov : most < (st W M (k + 1)).length
          · rw [show decide ((es.length : Int) + (acc.length : Int) > most) = true from decide_eq_true (by rw [hsum]; exact hov)]
            refine iteT ⟨_, rfl, d2, es, rfl, hes9, _, rfl, t, acc, rfl, .inl (.of ht9), _, _, rfl, rfl, sz2, fun r hr => ?_⟩
            refine q2 k r _ run ⟨hlot, hov⟩ (e59.andNew hr) ?_
            rw [← hsum]; exact upd_same
          · rw [show decide ((es.length : Int) + (acc.length : Int) > most) = false from decide_eq_false (by rw [hsum]; exact hov)]
            refine iteF ?_
            refine ⟨_, rfl, Nat.zero_le _, fun e1 he1 => ?_⟩
            have e10 : EX K [] H9 (upd H9 e1 (.lst [])) := Ext.new he1
            refine eqLL (e10.at0 ht9) upd_same (e10.dts ha9) .nil hlq (n := 0) (fun _ z => by cases z) (by decide) (by decide) ⟨_, rfl, ?_⟩
            rw [show decide ((lot W (st W M k)).map pairD = []) = false from decide_eq_false fun z => hlot (map_nil.mp z)]
            refine iteF ?_
            have ht10 := e10.at0 ht9
            have hl10 := e10.at0 hl9
            have hu10 := e10.dts hu9
            have ha10 := e10.dts ha9
            have J10 := J9.ext0 e10
            have e510 := e59.trans e10
            clear e10
            generalize upd H9 e1 (.lst []) = H10 at *
            have ht0 : H t = none := e5.fresh ht
            have htd : t ≠ d2 := fun z => by
              obtain ⟨u, h⟩ := J5.ly.some
              rw [z, h] at ht; cases ht
            refine ⟨_, rfl, t, rfl, ⟨acc, .of ht10⟩, ?_⟩
            refine for_list (xs := acc) (fun i σ H11 => ∃ o8 o9, σ = [some (.ref o), some (.ref d), some (.int most), some (.ref d2), some (.ref l), some (.int (0 + (k : Int))), some (.ref t), o7, o8, o9] ∧ EX K [d2] H10 H11 ∧ LwI w Z H11 o d2 W (st W M k ++ (lot W (st W M k)).take i))
              ⟨o8, o9, rfl, .refl, by rw [List.take_zero, List.append_nil]; exact J10⟩ (fun i σ H11 _ ⟨_, _, _, e, _⟩ => .of (e.at_ ht10 (by rw [List.mem_singleton]; exact htd))) ?_ ?_
            · rintro i c σ H11 hc ⟨o8, o9, rfl, e11, J11⟩
              obtain ⟨kd, hkd, hcd⟩ := ha10.get hc
              obtain ⟨x, hx, rfl⟩ := Option.map_eq_some_iff.mp (by rw [← List.getElem?_map]; exact hkd)
              obtain ⟨tc, y, z, rfl, htc, hy, hz⟩ := pair_tup (e11.dt hcd)
              obtain ⟨f1, f2, f3, f4⟩ := lot_fits hwn.ok hx
              obtain ⟨es11, hes11, hps11⟩ := id J11.ly
              have hel := hps11.length
              rw [J11.nlt] at hel
              have hl11 := J11.len
              refine ⟨_, _, rfl, .of htc, rfl, _, _, rfl, _, _, rfl, rfl, ?_⟩
              refine ⟨_, rfl, _, rfl, _, rfl, d2, es11, plD x.1, rfl, hes11, hy, plD_d, by rw [sizeLine_eq]; omega, fun H12 m12 c12 => ?_⟩
              obtain ⟨e12, J12⟩ := J11.put hes11 hps11 hz f3 f1 (by rw [List.length_append, List.length_take]; omega) m12 c12
              refine ⟨_, _, rfl, e11.trans e12, ?_⟩
              rw [List.take_add_one, hx, ← List.append_assoc]
              exact J12
            · rintro σ H11 ⟨o8, o9, rfl, e11, J11⟩
              rw [hal, List.take_length] at J11
              have ht11 := e11.at_ ht10 (by rw [List.mem_singleton]; exact htd)
              have hl11 := e11.at_ hl10 (by rw [List.mem_singleton]; exact hld)
              have hul := hu5.length
              rw [List.length_map, rnds, List.length_map, List.length_range] at hul
              refine ⟨_, rfl, tyl hl11, _, rfl, t, acc, rfl, .inl ⟨.of ht11, fun r hr => ?_⟩⟩
              have e12 : EX K [] H11 (upd H11 r (.tup acc)) := Ext.new hr
              have hl12 := e12.at0 hl11
              refine ⟨l, us, _, rfl, rfl, hl12, by rw [sizeLine_eq]; omega, ?_⟩
              have e13 : EX K [l] (upd H11 r (.tup acc)) (upd (upd H11 r (.tup acc)) l (.lst (us ++ [.ref r]))) := Ext.refl.lst hl12 (.inr (by simp))
              have zl : Z l = none := I.fz.none_ hl0
              refine ⟨_, _, _, _, _, _, rfl, run.succ hlot (by omega), ((e510.then1 e11 (.inl hd2)).trans e12).then1 e13 (.inl hl0), (J11.ext0 e12).ext e13 (by simp; exact zl) (by simp; exact fun z => hld z.symm), upd_same, ?_⟩
              unfold rnds
              rw [List.range_succ, List.map_append, List.map_append]
              exact (e13.dts (e12.dts (e11.dts hu10))).app (.cons (e13.dt (Dt.new hr (e11.dts ha10))) .nil)
    · rintro σ H5 ⟨o5, o6, o7, o8, o9, us, rfl, run, e5, J5, hl5, hu5⟩
      exfalso
      rcases run.bound with z | z
      · have : (most + 1).toNat = 0 := z
        omega
      · have : ((most + 1).toNat : Int) = most + 1 := by omega
        rw [Int.natCast_add] at z
        omega
end
end TR
/-! text FO -/
set_option Elab.async false
set_option linter.all false
set_option maxRecDepth 100000
set_option maxHeartbeats 4000000
/-! near, disturb -/
namespace TR
open PySem PySem.Spec PyProof.Rows L2 VD
section
variable {P : Program} {w : World} {K : PySem.W.Frag} {mg : Str → Option Value} {base : Heap} {Z H H1 H2 : Hp} {B : BA} {W : Wd} {M M' : Bd} {sd : Pl} {bad : List Pl} {o d p c : Addr} {n m : Nat} {al : AL} {S : List Addr}
theorem Pen.neD (h : Pen H p c n) (m : DictA w H d al) : d ≠ p ∧ d ≠ c := by
  obtain ⟨cs, _, dd, k', f, g1, g2, r⟩ := h
  obtain ⟨o, ho, n1, n2, n3, n4, n5⟩ := m.noSeq
  exact ⟨fun z => by rw [z, g1] at ho; cases ho; exact n4 _ rfl, fun z => by rw [z, g2] at ho; cases ho; exact n1 _ rfl⟩
theorem Pen.extD (h : Pen H p c n) (e : EX K S H H1) (hs : ∀ b ∈ S, ∃ al, DictA w H b al) : Pen H1 p c n := h.ext e fun b hb => by
  obtain ⟨al, m⟩ := hs b hb
  obtain ⟨o, ho, n1, n2, n3, n4, n5⟩ := m.noSeq
  exact ⟨o, ho, n1, n4⟩
theorem BedI.cmA (h : BedI K w Z H B W M sd bad) : ∃ al, DictA w H B.cm al := let ⟨cal, a, _⟩ := h.cm; ⟨cal, a⟩
theorem BedI.neB (h : BedI K w Z H B W M sd bad) (m : DictA w H d al) : B.b ≠ d := by
  obtain ⟨o, ho, n1, n2, n3, n4, n5⟩ := m.noSeq
  intro z
  have := h.o
  unfold BedO at this
  rw [z, ho] at this
  exact n5 _ _ _ (Option.some.inj this)
theorem BedI.neP (h : BedI K w Z H B W M sd bad) (g : Pen H p c n) : B.b ≠ p ∧ B.ly ≠ p ∧ B.cm ≠ p := by
  obtain ⟨al, a⟩ := h.cmA
  refine ⟨fun z => ?_, (g.neD h.ly).1, (g.neD a).1⟩
  obtain ⟨cs, _, dd, k', f, g1, g2, r⟩ := g
  have := h.o
  unfold BedO at this
  rw [z, g1] at this; cases this
/-- a bed, the law's bed like it, the pen, the world -/
structure TwI (K : PySem.W.Frag) (w : World) (Z H : Hp) (p c : Addr) (n : Nat) (o d : Addr) (B : BA) (W : Wd) (M : Bd) (sd : Pl) : Prop where
  bed : BedI K w Z H B W M sd []
  lw : LwI w Z H o d W M
  pen : Pen H p c n
  zp : Z p = none
  n1 : d ≠ B.ly
  n2 : d ≠ B.cm
  ow : ∃ A sn cs, OwnI w Z o A W sn sd cs ∧ cs.length ≤ 100
theorem TwI.draw (h : TwI K w Z H p c n o d B W M sd) (e : EX K [p] H H1) (g : Pen H1 p c m) : TwI K w Z H1 p c m o d B W M sd :=
  ⟨h.bed.ext e (by simp; exact h.zp) (by simp; exact (h.bed.neP h.pen).1) (by simp; exact (h.bed.neP h.pen).2.1) (by simp; exact (h.bed.neP h.pen).2.2), h.lw.ext e (by simp; exact h.zp) (by simp; exact (h.pen.neD h.lw.ly).1), g, h.zp, h.n1, h.n2, h.ow⟩
theorem TwI.ext0 (h : TwI K w Z H p c n o d B W M sd) (e : EX K [] H H1) : TwI K w Z H1 p c n o d B W M sd := ⟨h.bed.ext0 e, h.lw.ext0 e, h.pen.ext0 e, h.zp, h.n1, h.n2, h.ow⟩
theorem TwI.mono (h : TwI K w Z H p c n o d B W M sd) (hm : n ≤ m) : TwI K w Z H p c m o d B W M sd := ⟨h.bed, h.lw, h.pen.mono hm, h.zp, h.n1, h.n2, h.ow⟩
/-- the bed changes, then the law's -/
theorem TwI.step (h : TwI K w Z H p c n o d B W M sd) (e1 : EX K [B.ly, B.cm] H H1) (I1 : BedI K w Z H1 B W M' sd []) (e2 : EX K [d] H1 H2) (J2 : DictA w H2 d (bal M')) : TwI K w Z H2 p c n o d B W M' sd := by
  have hd1 : DictA w H1 d (bal M) := h.lw.ly.ext e1 (by simp; exact ⟨h.n1, h.n2⟩)
  have z1 := h.lw.zd
  have p1 := h.pen.extD e1 (w := w) fun b hb => by
    simp only [List.mem_cons, List.not_mem_nil, or_false] at hb
    rcases hb with rfl | rfl
    · exact ⟨_, h.bed.ly⟩
    · exact h.bed.cmA
  have fz := I1.fz.ext e2 (by simp; exact z1)
  refine ⟨I1.ext e2 (by simp; exact z1) (by simp; exact I1.neB hd1) (by simp; exact h.n1.symm) (by simp; exact h.n2.symm), ⟨fz, h.lw.ow, h.lw.wn, J2, z1, I1.mo, I1.len⟩, p1.extD e2 (w := w) fun b hb => ?_, h.zp, h.n1, h.n2, h.ow⟩
  rw [List.mem_singleton.mp hb]; exact ⟨_, hd1⟩
def spNear (K : PySem.W.Frag) (w : World) : Sp := fun vs H Q _ => ∃ (p c o d : Addr) (n : Nat) (B : BA) (W : Wd) (Z : Hp) (M : Bd) (sd : Pl), vs = [.ref p, .ref o, .ref d] ∧ TwI K w Z H p c n o d B W M sd ∧ M ≠ [] ∧ n < 100000000000 ∧
  ∀ v q H1, EX K [p] H H1 → Pen H1 p c (n + 4) → Dt H1 v (plD q) → Q v H1
theorem ok_law_t2_near (E : Ev K mg base) : Does P w K mg base L2.CX0 3 (He.ga K "_law_t2_near") ["_law_pen_here", "_law_own", "_law_bed"] (spNear K w) :=
  E.does0 (k := 2) ix_law_t2_near rfl bn_law_t2_near sc_law_t2_near (fun _ _ _ _ ⟨_, _, _, _, _, _, _, _, _, _, h, _⟩ => by rw [h]; rfl) fun cdv A outer s H vs Q X hr h => by
    obtain ⟨p, c, o, d, n, B, W, Z, M, sd, rfl, I, hM, hn, q⟩ := h
    refine ⟨_, (pss_cons (ps_set (i := 3) sc_law_t2_near.nd rfl (by first | exact Or.inl rfl | exact Or.inr rfl) (pe_do (ok_law_pick E) (hr.mono (by decide)) (by rfl) (g_law_pick E) pass0 (pa_cons (pv 0) (pa_cons (pe_op op_cat (pe_callB (cr_sortPl hr.units) (by rfl) (u_sorted E) b_sorted (pa_cons (pe_callTy (call_listX rfl) (by rfl) (u_list E) b_list (pa_cons (pv 2) pa_nil)) pa_nil)) (pe_dget (hu_of hr) (pv 1) pe_str (fun _ _ => rfl))) pa_nil))))
      (pss_cons (ps_for PassesOwn.never rfl (pi_range1 (by rfl) (u_range E) (pa_cons (pe_do (ok_law_pick E) (hr.mono (by decide)) (by rfl) (g_law_pick E) pass0 (pa_cons (pv 0) (pa_cons (pe_lst (pa_cons pe_int (pa_cons pe_int (pa_cons pe_int (pa_cons pe_int pa_nil))))) pa_nil))) pa_nil)) (pg_name (i := 4) sc_law_t2_near.nd rfl (by first | exact Or.inl rfl | exact Or.inr rfl))
        (pss_one (ps_set (i := 3) sc_law_t2_near.nd rfl (by first | exact Or.inl rfl | exact Or.inr rfl) (pe_do (ok_law_t2_next E) (hr.mono (by decide)) (by rfl) (g_law_t2_next E) pass0 (pa_cons (pv 3) (pa_cons (pe_do (ok_law_draw E) (hr.mono (by decide)) (by rfl) (g_law_draw E) pass0 (pa_cons (pv 0) (pa_cons pe_int pa_nil))) pa_nil))))))
      (pss_one (ps_ret (pv 3))))), ?_⟩
    obtain ⟨es, bs, he, hp, hb1, hb2, hds, hln⟩ := I.lw.ly.sorted bal_keys
    have hml := I.lw.len
    rw [List.length_map] at hln
    refine ⟨_, rfl, _, rfl, d, es, rfl, he, fun l hl => ?_⟩
    have e1 : EX K [] H (upd H l (.lst (es.map (·.2.1)))) := Ext.new hl
    refine ⟨l, bs, rfl, .of (by rw [hb1]; exact upd_same), fun b hb => e1.dt (hb2 b hb), fun l2 hl2 => ?_⟩
    have e2 : EX K [] H (upd (upd H l (.lst (es.map (·.2.1)))) l2 (.lst ((bs.mergeSort pvLe).map (·.1)))) := e1.andNew hl2
    have hl22 : (upd (upd H l (.lst (es.map (·.2.1)))) l2 (.lst ((bs.mergeSort pvLe).map (·.1)))) l2 = some (.lst ((bs.mergeSort pvLe).map (·.1))) := upd_same
    generalize upd (upd H l (.lst (es.map (·.2.1)))) l2 (.lst ((bs.mergeSort pvLe).map (·.1))) = H2 at e2 hl22
    have I2 := I.ext0 e2
    obtain ⟨A, sn, cs, O, hcs⟩ := I.ow
    have O2 := O.up I2.lw.fz.sub
    obtain ⟨ws, hw1, hw2⟩ := O2.cl
    have hwl := hw2.length
    have hbl : ((bs.mergeSort pvLe).map (·.1)).length = M.length := by
      have := hds.length
      rw [this, List.length_map, srt_len, List.length_map]
    rw [List.length_map] at hwl
    refine ⟨_, rfl, _, _, rfl, pget O2.o "cells" rfl, l2, A.cl, _, ws, rfl, rfl, hl22, hw1, by rw [sizeLine_eq]; omega, fun r hr => ?_⟩
    have e3 : EX K [] H2 (upd H2 r (.lst ((bs.mergeSort pvLe).map (·.1) ++ ws))) := Ext.new hr
    refine ⟨p, c, r, _, n, rfl, I2.pen.ext0 e3, .inl (.of upd_same), ?_, by rw [List.length_append]; omega, by omega, fun v H4 hv e4 p4 => ?_⟩
    · intro z
      have := congrArg List.length z
      rw [List.length_append] at this
      have h0 := List.length_pos_iff.mpr hM
      simp at this
      have h1 : bs.length = 0 := by
        have := List.length_eq_zero_iff.mpr this.1
        exact this
      rw [List.length_map, (List.mergeSort_perm _ _).length_eq] at hbl
      omega
    · have e24 := e3.nil.trans e4
      obtain ⟨q0, hq0⟩ : ∃ q, Dt H4 v (plD q) := by
        rcases List.mem_append.mp hv with hv | hv
        · obtain ⟨i, hi⟩ := List.mem_iff_getElem?.mp hv
          obtain ⟨k, hk, hd⟩ := hds.get hi
          obtain ⟨q, _, rfl⟩ := Option.map_eq_some_iff.mp (by rw [← List.getElem?_map]; exact hk)
          exact ⟨q, e24.dt (e2.dt hd)⟩
        · obtain ⟨i, hi⟩ := List.mem_iff_getElem?.mp hv
          obtain ⟨k, hk, hd⟩ := hw2.get hi
          obtain ⟨q, _, rfl⟩ := Option.map_eq_some_iff.mp (by rw [← List.getElem?_map]; exact hk)
          exact ⟨q, e24.dt hd⟩
      have e04 := e2.nil.trans e24
      refine ⟨_, rfl, sz4, fun l5 hl5 => ?_⟩
      have e5 : EX K [] H4 (upd H4 l5 (.lst [.int 0, .int 1, .int 1, .int 2])) := Ext.new hl5
      refine ⟨p, c, l5, _, n + 1, rfl, p4.ext0 e5, .inl (.of upd_same), by simp, by simp, by omega, fun v2 H6 hv2 e6 p6 => ?_⟩
      obtain ⟨i, rfl, hi0, hi2⟩ : ∃ i : Int, v2 = .int i ∧ 0 ≤ i ∧ i ≤ 2 := by
        simp only [List.mem_cons, List.not_mem_nil, or_false] at hv2
        rcases hv2 with rfl | rfl | rfl | rfl <;> exact ⟨_, rfl, by omega, by omega⟩
      have e46 := e5.nil.trans e6
      have e06 := e04.trans e46
      refine ⟨i, rfl, by omega, by omega, ?_⟩
      refine for_range (fun j σ H7 => ∃ v q o4, σ = [some (.ref p), some (.ref o), some (.ref d), some v, o4] ∧ EX K [p] H H7 ∧ Pen H7 p c (n + 2 + j) ∧ Dt H7 v (plD q)) ⟨v, q0, none, rfl, e06, p6, e46.dt hq0⟩ ?_ ?_
      · rintro j σ H7 hj ⟨v, q0, o4, rfl, e7, p7, hq⟩
        have hj3 : j < 2 := by omega
        refine ⟨_, rfl, _, rfl, p, c, 4, n + 2 + j, rfl, p7, by omega, by omega, by omega, fun r H8 e8 p8 r0 r4 => ?_⟩
        obtain ⟨s, rfl⟩ : ∃ s : Nat, r = s := ⟨r.toNat, by omega⟩
        refine ⟨v, q0, s, rfl, e8.dt hq, by omega, fun t H9 e9 ht => ?_⟩
        refine ⟨_, nb q0 s, _, rfl, (e7.trans e8).trans e9.nil, (p8.mono (by omega)).ext0 e9, ht⟩
      · rintro σ H7 ⟨v, q0, o4, rfl, e7, p7, hq⟩
        exact ⟨_, rfl, q v q0 H7 e7 (p7.mono (by omega)) hq⟩
end
end TR
/-! text FP -/
set_option Elab.async false
set_option linter.all false
set_option maxRecDepth 100000
set_option maxHeartbeats 4000000
/-! disturb -/
namespace TR
open PySem PySem.Spec PyProof.Rows L2 VD
theorem one_of {q : Pl} : ∀ {ps : List Pl}, ps.Nodup → (∀ r, r ∈ ps ↔ r ∈ [q]) → ps = [q]
  | [], _, h => absurd ((h q).mpr (by simp)) (by simp)
  | [a], _, h => by rw [List.mem_singleton.mp ((h a).mp (by simp))]
  | a :: b :: l, nd, h => by
    have h1 := List.mem_singleton.mp ((h a).mp (by simp))
    have h2 := List.mem_singleton.mp ((h b).mp (by simp))
    rw [h1, h2] at nd
    simp at nd
theorem drB_le {M : Bd} {p : Pl} : (drB M p).length ≤ M.length := List.length_filter_le _ _
section
variable {P : Program} {w : World} {K : PySem.W.Frag} {mg : Str → Option Value} {base : Heap} {Z H H1 H2 : Hp} {B : BA} {W : Wd} {M M' : Bd} {sd : Pl} {bad : List Pl} {o d p c : Addr} {n m : Nat} {al : AL} {S : List Addr}
def spDist (K : PySem.W.Frag) (w : World) : Sp := fun vs H Q _ => ∃ (p c o d : Addr) (n : Nat) (B : BA) (W : Wd) (Z : Hp) (M : Bd) (sd : Pl) (many : Nat), vs = [.ref p, .ref o, .ref d, .ref B.b, .int many] ∧ TwI K w Z H p c n o d B W M sd ∧ lkB M sd ≠ none ∧ n < 10000000000 ∧ M.length + many ≤ 15 ∧ LamX.Tabs (TabK K) H ∧
  ∀ M' H1, EX K [p, d, B.ly, B.cm] H H1 → LamX.Tabs (TabK K) H1 → TwI K w Z H1 p c (n + 10 * many) o d B W M' sd → lkB M' sd ≠ none → M'.length ≤ M.length + many → Q .non H1
theorem ok_law_t2_disturb (E : Ev K mg base) : Does P w K mg base L2.CX0 9 (He.ga K "_law_t2_disturb") ["_law_pen_here", "_law_own", "_law_bed", "_law_told", "_law_many"] (spDist K w) :=
  E.does0 (k := 8) ix_law_t2_disturb rfl bn_law_t2_disturb sc_law_t2_disturb (fun _ _ _ _ ⟨_, _, _, _, _, _, _, _, _, _, _, h, _⟩ => by rw [h]; rfl) fun cdv A outer s H vs Q X hr h => by
    obtain ⟨p, c, o, d, n, B, W, Z, M0, sd, many, rfl, I, hsd, hn, hlen, hT, q⟩ := h
    refine ⟨_, (pss_one (ps_for PassesOwn.never rfl (pi_range1 (by rfl) (u_range E) (pa_cons (pv 4) pa_nil)) (pg_name (i := 5) sc_law_t2_disturb.nd rfl (by first | exact Or.inl rfl | exact Or.inr rfl))
        (pss_cons (ps_par (i := 6) (j := 7) rfl sc_law_t2_disturb.nd rfl rfl (by decide) rfl rfl (pa_cons (pe_do (ok_law_draw E) (hr.mono (by decide)) (by rfl) (g_law_draw E) pass0 (pa_cons (pv 0) (pa_cons pe_int pa_nil))) (pa_cons (pe_do (ok_law_t2_may E) (hr.mono (by decide)) (by rfl) (g_law_t2_may E) pass0 (pa_cons (pv 1) (pa_cons (pv 2) pa_nil))) pa_nil)) (by rfl))
      (pss_cons (ps_set (i := 8) sc_law_t2_disturb.nd rfl (by first | exact Or.inl rfl | exact Or.inr rfl) (pe_do (ok_law_t2_near E) (hr.mono (by decide)) (by rfl) (g_law_t2_near E) pass0 (pa_cons (pv 0) (pa_cons (pv 1) (pa_cons (pv 2) pa_nil)))))
      (pss_one (ps_if (PW.pt (pw_and (pt_cmpR op_lt (pv 6) pe_int (nomark _)) (pw_and1 (pt_cmpR (op_neD hr.units) (pv 7) (pe_lst pa_nil) (nomark _)))))
        (pss_cons (ps_asg (pe_do (ok_law_pick E) (hr.mono (by decide)) (by rfl) (g_law_pick E) pass0 (pa_cons (pv 0) (pa_cons (pv 7) pa_nil))) (pg_tupK (K := K) (n := 2) rfl rfl (pgs_cons (pg_name (i := 8) sc_law_t2_disturb.nd rfl (by first | exact Or.inl rfl | exact Or.inr rfl)) (pgs_cons (pg_name (i := 9) sc_law_t2_disturb.nd rfl (by first | exact Or.inl rfl | exact Or.inr rfl)) pgs_nil))))
      (pss_cons (ps_expr (pe_doM (pv 3) (c_Bed E) (m_Bed_come E) (ok_Bed_come E) (hr.mono (by decide)) pass0 (pa_cons (pv 8) (pa_cons (pv 9) pa_nil))))
      (pss_one (ps_xput hr (pv 2) (pv 8) (pv 9) (by rfl)))))
        (pss_one (ps_if (PW.pt (pw_and (pt_cmpR op_eq (pv 6) pe_int (nomark _)) (pw_and1 (pt_cmp (pc_xnotin hr (pv 8) (pv 2))))))
        (pss_cons (ps_set (i := 9) sc_law_t2_disturb.nd rfl (by first | exact Or.inl rfl | exact Or.inr rfl) (pe_do (ok_law_pick E) (hr.mono (by decide)) (by rfl) (g_law_pick E) pass0 (pa_cons (pv 0) (pa_cons (pe_dget (hu_of hr) (pv 1) pe_str (fun _ _ => rfl)) pa_nil))))
      (pss_cons (ps_expr (pe_doM (pv 3) (c_Bed E) (m_Bed_slip E) (ok_Bed_slip E) (hr.mono (by decide)) pass0 (pa_cons (pv 8) (pa_cons (pv 9) pa_nil))))
      (pss_one (ps_xput hr (pv 2) (pv 8) (pv 9) (by rfl)))))
        (pss_one (ps_if (PW.pt (pw_and (pt_cmpR op_eq (pv 6) pe_int (nomark _)) (pw_and (pt_cmp (pc_xin hr (pv 8) (pv 2))) (pw_and1 (pt_cmpR (op_neD hr.units) (pv 8) (pe_dget (hu_of hr) (pv 1) pe_str (fun _ _ => rfl)) (nomark _))))))
        (pss_cons (ps_expr (pe_doM (pv 3) (c_Bed E) (m_Bed_cut E) (ok_Bed_cut E) (hr.mono (by decide)) pass0 (pa_cons (pe_lst (pa_cons (pv 8) pa_nil)) pa_nil)))
      (pss_one (ps_expr (pe_xpop1 hr (pv 2) (pv 8) ⟨rfl, rfl, rfl, rfl⟩))))
        pss_nil)))))))))), ?_⟩
    have hwn := I.lw.wn
    refine ⟨_, rfl, many, rfl, by omega, by omega, ?_⟩
    refine for_range (fun i σ H5 => ∃ M o5 o6 o7 o8 o9, σ = [some (.ref p), some (.ref o), some (.ref d), some (.ref B.b), some (.int many), o5, o6, o7, o8, o9] ∧ EX K [p, d, B.ly, B.cm] H H5 ∧ TwI K w Z H5 p c (n + 10 * i) o d B W M sd ∧ lkB M sd ≠ none ∧ M.length ≤ M0.length + i)
      ⟨M0, none, none, none, none, none, rfl, .refl, I, hsd, Nat.le_refl _⟩ ?_ ?_
    · rintro i σ H5 hi ⟨M, o5, o6, o7, o8, o9, rfl, e5, I5, hsd5, hml⟩
      have hi2 : i < many := by omega
      have sP : ∀ b ∈ [p], b ∈ [p, d, B.ly, B.cm] := by simp
      have hMne : M ≠ [] := fun z => hsd5 (by rw [z]; rfl)
      refine ⟨_, rfl, p, c, 4, n + 10 * i, rfl, I5.pen, by omega, by omega, by omega, fun r H6 e6 p6 r0 r4 => ?_⟩
      have I6 := I5.draw e6 p6
      refine ⟨_, rfl, _, rfl, o, d, W, Z, M, rfl, I6.lw, by omega, fun l us H7 e7 hl0 hl7 hu7 => ⟨_, _, rfl, ?_⟩⟩
      have I7 := I6.ext0 e7
      refine ⟨_, rfl, _, rfl, _, rfl, p, c, o, d, _, B, W, Z, M, sd, rfl, I7, hMne, by omega, fun v q0 H8 e8 p8 hq0 => ?_⟩
      have I8 := I7.draw e8 p8
      have hl8 := I7.pen.at_ e8 hl7
      have hu8 := e8.dts hu7
      have e58 : EX K [p] H5 H8 := (e6.trans e7.nil).trans e8
      have e08 : EX K [p, d, B.ly, B.cm] H H8 := e5.trans (e58.mono sP)
      have hul := hu8.length
      rw [List.length_map] at hul
      have hmy := may_len (W := W) (M := M)
      have hmy2 : W.order.length * (4 * M.length) ≤ 100 * (4 * 15) := Nat.mul_le_mul hwn.len (Nat.mul_le_mul_left _ (by omega))
      have hlq : ∀ k' ∈ (may W M).map pairD, Lq 7 k' := fun k' hk' => by
        obtain ⟨y, hy, rfl⟩ := List.mem_map.mp hk'
        exact pairD_lq hwn (may_order y hy)
      have done8 : ∀ H9, EX K [] H8 H9 → TwI K w Z H9 p c (n + 10 * (i + 1)) o d B W M sd := fun H9 e9 => (I8.ext0 e9).mono (by omega)
      clear e6 e7 I6 I7 hl7 hu7 p6 p8
      -- a bed that grew
      have grow : ∀ (H9 : Hp) (y z : V) (x : Pl × D) (m : Nat), EX K [p, d, B.ly, B.cm] H H9 → TwI K w Z H9 p c m o d B W M sd → m ≤ n + 10 * (i + 1) → Dt H9 y (plD x.1) → Dt H9 z x.2 → x.2 ∈ W.order → lkB M x.1 = none →
          ∀ H10, EX K [B.ly, B.cm] H9 H10 → BedI K w Z H10 B W (M ++ [x]) sd [] → ∃ es, DictE w H10 d es ∧ es.length < sizeLine ∧ ∀ H11, DictE w H11 d (putE es (plD x.1) y z) → Chg d H10 H11 →
            EX K [p, d, B.ly, B.cm] H H11 ∧ TwI K w Z H11 p c (n + 10 * (i + 1)) o d B W (M ++ [x]) sd ∧ lkB (M ++ [x]) sd ≠ none ∧ (M ++ [x]).length ≤ M0.length + (i + 1) := by
        intro H9 y z x m e9 I9 hm hy hz ho hx H10 e10 I10
        obtain ⟨es, hes, hps⟩ := I9.lw.ly.ext e10 (by simp; exact ⟨I9.n1, I9.n2⟩)
        have hel := hps.length
        rw [I9.lw.nlt] at hel
        refine ⟨es, hes, by rw [sizeLine_eq]; omega, fun H11 m11 c11 => ?_⟩
        have e11 : EX K [d] H10 H11 := Ext.refl.dict hes c11 m11 (.inr (by simp))
        have J := DictA.put hes hps (e10.dt hz) m11 c11
        rw [bal_put hx] at J
        refine ⟨(e9.trans (e10.mono (by simp))).trans (e11.mono (by simp)), (I9.step e10 I10 e11 J).mono hm, ?_, by rw [List.length_append]; simp; omega⟩
        rw [lkB_append]
        intro z
        cases e : lkB M sd with
        | none => exact hsd5 e
        | some _ => rw [e] at z; cases z
      by_cases h2 : r < 2
      · refine ⟨_, rfl, _, _, rfl, rfl, _, rfl, ?_⟩
        rw [decide_eq_true h2]
        refine iteT ⟨_, rfl, Nat.zero_le _, fun e0 he0 => ?_⟩
        have e9 : EX K [] H8 (upd H8 e0 (.lst [])) := Ext.new he0
        refine neLL (e9.at0 hl8) upd_same (e9.dts hu8) .nil hlq (n := 0) (fun _ z => by cases z) (by decide) (by decide) ⟨_, rfl, ?_⟩
        have hl9 := e9.at0 hl8
        have hu9 := e9.dts hu8
        have I9 := I8.ext0 e9
        have e09 := e08.trans e9.nil
        have d9 := done8 _ e9
        clear e9
        generalize upd H8 e0 (.lst []) = H9 at *
        by_cases hmay : may W M = []
        · rw [show decide ((may W M).map pairD ≠ []) = false from decide_eq_false fun z => z (map_nil.mpr hmay)]
          refine iteF ⟨_, rfl, rfl, _, rfl, ?_⟩
          rw [show decide (V.int r = V.int 2) = false from decide_eq_false fun z => by have := V.int.inj z; omega]
          refine iteF (iteF ⟨_, rfl, rfl, _, rfl, ?_⟩)
          rw [show decide (V.int r = V.int 3) = false from decide_eq_false fun z => by have := V.int.inj z; omega]
          exact iteF (iteF ⟨M, _, _, _, _, _, rfl, e09, d9, hsd5, by omega⟩)
        · rw [show decide ((may W M).map pairD ≠ []) = true from decide_eq_true fun z => hmay (map_nil.mp z)]
          refine iteT ⟨_, rfl, _, rfl, p, c, l, us, _, rfl, I9.pen, .inl (.of hl9), fun z => hmay ?_, by omega, by omega, fun v2 H10 hv2 e10 p10 => ?_⟩
          · rw [z] at hul
            exact List.length_eq_zero_iff.mp hul.symm
          obtain ⟨j, hj⟩ := List.mem_iff_getElem?.mp hv2
          obtain ⟨k, hk, hd⟩ := hu9.get hj
          obtain ⟨x, hx, rfl⟩ := Option.map_eq_some_iff.mp (by rw [← List.getElem?_map]; exact hk)
          obtain ⟨⟨f1, f2⟩, f3⟩ := may_mem (List.mem_of_getElem? hx)
          obtain ⟨f4, f5⟩ := fit_mem.mp f3
          obtain ⟨tc, y, z, rfl, htc, hy, hz⟩ := pair_tup (e10.dt hd)
          have I10 := I9.draw e10 p10
          have e010 := e09.trans (e10.mono sP)
          refine ⟨_, _, rfl, .of htc, rfl, _, _, rfl, _, _, rfl, rfl, ?_⟩
          refine ⟨_, rfl, B.b, _, _, rfl, I10.bed.o, rfl, _, rfl, _, rfl, B, y, z, x.1, x.2, W, Z, M, sd, rfl, I10.bed, hy, e010.tabs hT, hz, f4, f1, by omega, f5, fun H11 e11 T11 I11 => ?_⟩
          obtain ⟨es, g1, g2, g3⟩ := grow _ y z x _ e010 I10 (by omega) hy hz f4 f1 H11 e11 I11
          refine ⟨_, rfl, _, rfl, _, rfl, d, es, plD x.1, rfl, g1, e11.dt hy, plD_d, g2, fun H12 m12 c12 => ?_⟩
          obtain ⟨a, b, c', d'⟩ := g3 H12 m12 c12
          exact ⟨_, _, _, _, _, _, rfl, a, b, c', d'⟩
      · refine ⟨_, rfl, _, _, rfl, rfl, _, rfl, ?_⟩
        rw [decide_eq_false h2]
        refine iteF (iteF ⟨_, rfl, rfl, _, rfl, ?_⟩)
        obtain ⟨es, hes, hps⟩ := id I8.lw.ly
        have hel := hps.length
        rw [I8.lw.nlt] at hel
        obtain ⟨Ao, sn, cs, O, hcs⟩ := I8.ow
        by_cases h22 : r = 2
        · subst h22
          refine iteT ⟨_, rfl, _, rfl, d, es, plD q0, rfl, hes, hq0, plD_d, _, rfl, ?_⟩
          rw [hps.isSome, lkA_bal]
          cases hlk : lkB M q0 with
          | some n0 =>
            refine iteF ⟨_, rfl, rfl, _, rfl, iteF (iteF ⟨M, _, _, _, _, _, rfl, e08, done8 _ .refl, hsd5, by omega⟩)⟩
          | none =>
            have O8 := O.up I8.lw.fz.sub
            obtain ⟨ws, hw1, hw2⟩ := O8.od
            have hwl := hw2.length
            have hwl2 := hwn.len
            refine iteT ⟨_, rfl, _, rfl, _, _, rfl, pget O8.o "order" rfl, p, c, Ao.od, ws, _, rfl, I8.pen, .inl (.of hw1), fun z => ?_, by omega, by omega, fun v2 H10 hv2 e10 p10 => ?_⟩
            · rw [z] at hwl
              have := O8.so
              rw [List.length_eq_zero_iff.mp hwl.symm] at this
              cases this
            obtain ⟨j, hj⟩ := List.mem_iff_getElem?.mp hv2
            obtain ⟨nm, hk, hd⟩ := hw2.get hj
            have hno := List.mem_of_getElem? hk
            have I10 := I8.draw e10 p10
            have e010 := e08.trans (e10.mono sP)
            refine ⟨_, rfl, B.b, _, _, rfl, I10.bed.o, rfl, _, rfl, _, rfl, B, v, v2, q0, nm, W, Z, M, sd, rfl, I10.bed, e10.dt hq0, e010.tabs hT, e10.dt hd, hno, hlk, by omega, fun H11 e11 T11 I11 => ?_⟩
            obtain ⟨es2, g1, g2, g3⟩ := grow _ v v2 (q0, nm) _ e010 I10 (by omega) (e10.dt hq0) (e10.dt hd) hno hlk H11 e11 I11
            refine ⟨_, rfl, _, rfl, _, rfl, d, es2, plD q0, rfl, g1, e11.dt (e10.dt hq0), plD_d, g2, fun H12 m12 c12 => ?_⟩
            obtain ⟨a, b, c', d'⟩ := g3 H12 m12 c12
            exact ⟨_, _, _, _, _, _, rfl, a, b, c', d'⟩
        · rw [show decide (V.int r = V.int 2) = false from decide_eq_false fun z => h22 (V.int.inj z)]
          refine iteF (iteF ⟨_, rfl, rfl, _, rfl, ?_⟩)
          have h3 : r = 3 := by omega
          subst h3
          refine iteT ⟨_, rfl, _, rfl, d, es, plD q0, rfl, hes, hq0, plD_d, _, rfl, ?_⟩
          rw [hps.isSome, lkA_bal]
          cases hlk : lkB M q0 with
          | none =>
            exact iteF (iteF ⟨M, _, _, _, _, _, rfl, e08, done8 _ .refl, hsd5, by omega⟩)
          | some n0 =>
            have O8 := O.up I8.lw.fz.sub
            refine iteT ⟨_, rfl, _, rfl, _, _, rfl, pget O8.o "seed" rfl, neD2 hq0 O8.hsd plD_nice plD_nice ⟨_, rfl, ?_⟩⟩
            by_cases hqs : q0 = sd
            · rw [show decide (plD q0 ≠ plD sd) = false from decide_eq_false fun z => z (by rw [hqs])]
              exact iteF ⟨M, _, _, _, _, _, rfl, e08, done8 _ .refl, hsd5, by omega⟩
            · rw [show decide (plD q0 ≠ plD sd) = true from decide_eq_true fun z => hqs (plD_inj z)]
              refine iteT ⟨_, rfl, B.b, _, _, rfl, I8.bed.o, rfl, _, rfl, sz1, fun g hg => ?_⟩
              have e9 : EX K [] H8 (upd H8 g (.lst [v])) := Ext.new hg
              have I9 := I8.ext0 e9
              refine ⟨B, g, [v], [q0], W, Z, M, sd, rfl, I9.bed, upd_same, .cons (e9.dt hq0) .nil, by simp, fun x hx => ?_, (e08.trans e9.nil).tabs hT, fun ps' ii H10 e10 T10 nd mem I10 => ?_⟩
              · rw [List.mem_singleton.mp hx]; exact ⟨by rw [hlk]; simp, hqs⟩
              rw [one_of nd mem] at I10
              have I10 : BedI K w Z H10 B W (drB M q0) sd [] := I10
              obtain ⟨es3, hes3, hps3⟩ := I9.lw.ly.ext e10 (by simp; exact ⟨I9.n1, I9.n2⟩)
              obtain ⟨vn, hv1, hv2⟩ := hps3.some_ (x := n0) (by rw [lkA_bal]; exact hlk)
              obtain ⟨tq, rfl, htq⟩ := pl_tup hq0
              refine ⟨_, rfl, d, rfl, ⟨es3, hes3⟩, _, rfl, es3, plD q0, tq, vn, rfl, hes3, e10.dt (e9.dt hq0), plD_d, hv1, fun H11 m11 c11 => ?_⟩
              have e11 : EX K [d] H10 H11 := Ext.refl.dict hes3 c11 m11 (.inr (by simp))
              have J := DictA.drop hes3 hps3 m11 c11
              rw [bal_drop] at J
              have hdl := drB_le (M := M) (p := q0)
              refine ⟨drB M q0, _, _, _, _, _, rfl, ((e08.trans e9.nil).trans (e10.mono (by simp))).trans (e11.mono (by simp)), (I9.step e10 I10 e11 J).mono (by omega), ?_, by omega⟩
              rw [lkB_drop, if_neg (fun z => hqs z.symm)]
              exact hsd5
    · rintro σ H5 ⟨M, o5, o6, o7, o8, o9, rfl, e5, I5, hsd5, hml⟩
      exact q M H5 e5 (e5.tabs hT) I5 hsd5 hml
end
end TR
/-! text FQ -/
set_option Elab.async false
set_option linter.all false
set_option maxRecDepth 100000
set_option maxHeartbeats 4000000
set_option pp.maxSteps 300
set_option pp.deepTerms false
/-! rounds_right -/
namespace TR
open PySem PySem.Spec PyProof.Rows L2 VD
theorem text_lq {x : Str} (h : PyData.canLay0 (.str x) = true) : Lq 1 (.text x) := ⟨by simp [NestedKey.depth], h⟩
theorem rndD_lq {W : Wd} (wn : WNice W) {M : Bd} {k : Nat} : Lq 9 (rndD (rnds W M k)) := by
  refine lq_tup (m := 8) fun x hx => ?_
  obtain ⟨l, hl, rfl⟩ := List.mem_map.mp hx
  unfold rnds at hl
  obtain ⟨j, _, rfl⟩ := List.mem_map.mp hl
  exact lotD_lq wn lot_order
theorem num_lq {i : Int} : Lq 1 (.num i) := ⟨by simp [NestedKey.depth], by simp [NestedKey.data, PyData.canLay0]⟩
theorem toldD_lq {x : D} {m : Nat} (h : Lq m x) (hm : 1 ≤ m) : Lq (m + 1) (.tup [.text "told", x]) := by
  refine lq_tup fun j hj => ?_
  simp only [List.mem_cons, List.not_mem_nil, or_false] at hj
  rcases hj with rfl | rfl
  · exact (text_lq (by simp only [PyData.canLay0]; decide +kernel)).mono hm
  · exact h
theorem manyD_lq {i j : Int} : Lq 2 (.tup [.text "many", .text "tiles", .num i, .num j]) := by
  refine lq_tup (m := 1) fun k hk => ?_
  simp only [List.mem_cons, List.not_mem_nil, or_false] at hk
  rcases hk with rfl | rfl | rfl | rfl
  · exact text_lq (by simp only [PyData.canLay0]; decide +kernel)
  · exact text_lq (by simp only [PyData.canLay0]; decide +kernel)
  · exact num_lq
  · exact num_lq
theorem prs_order {W : Wd} {M : Bd} (h : ∀ x ∈ M, x.2 ∈ W.order) : ∀ x ∈ prs M, x.2 ∈ W.order := fun x hx => by
  obtain ⟨p, hp, rfl⟩ := List.mem_map.mp hx
  cases e : lkB M p with
  | none => exact absurd (srt_mem.mp hp) (lkB_none.mp e)
  | some n => exact h _ (lkB_mem e)
theorem rnds_sum {W : Wd} {M : Bd} : ∀ k, (((rnds W M k).map fun l => (l.length : Int)).sum) = (st W M k).length - M.length
  | 0 => by show (0 : Int) = _; rw [show (st W M 0).length = M.length from rfl]; omega
  | k + 1 => by
    have h : rnds W M (k + 1) = rnds W M k ++ [lot W (st W M k)] := by unfold rnds; rw [List.range_succ, List.map_append]; rfl
    rw [h, List.map_append, List.sum_append, rnds_sum k]
    have : (st W M (k + 1)).length = (st W M k).length + (lot W (st W M k)).length := by
      show (st W M k ++ lot W (st W M k)).length = _
      rw [List.length_append]
    rw [this]
    simp
    omega
theorem rnds_at {W : Wd} {M : Bd} {k j : Nat} (h : j < k) : (rnds W M k)[j]? = some (lot W (st W M j)) := by
  unfold rnds; rw [List.getElem?_map, List.getElem?_range h]; rfl
theorem rnds_len {W : Wd} {M : Bd} {k : Nat} : (rnds W M k).length = k := by unfold rnds; rw [List.length_map, List.length_range]
section
variable {P : Program} {w : World} {K : PySem.W.Frag} {mg : Str → Option Value} {base : Heap} {Z H H1 H2 : Hp} {B : BA} {W : Wd} {M M' : Bd} {sd : Pl} {bad : List Pl} {o d p c : Addr} {n m : Nat} {al : AL} {S : List Addr}
def spRight (K : PySem.W.Frag) (w : World) : Sp := fun vs H Q _ => ∃ (pv v : V) (p c o d : Addr) (n : Nat) (B : BA) (W : Wd) (Z : Hp) (M : Bd) (sd : Pl), vs = [pv, .ref o, .ref d, .ref B.b, v] ∧ TwI K w Z H p c n o d B W M sd ∧ M.length ≤ 15 ∧ LamX.Tabs (TabK K) H ∧
  ((Pln H v ∧ (∀ i, v = .int i → i < 0) ∧ ∃ pd, (∀ H', EX K [] H H' → Dp K H' v pd) ∧ pd.canLay0 = true ∧ pd.depth ≤ 10 ∧ PyData.eqv pd pd = true) ∨ (∃ most : Int, v = .int most ∧ 0 ≤ most ∧ most ≤ 15)) ∧
  ∀ H1, EX K [B.ly, B.cm] H H1 → LamX.Tabs (TabK K) H1 → Pen H1 p c n → Q (.bl true) H1
theorem ok_law_t2_rounds_right (E : Ev K mg base) : Does P w K mg base L2.CX0 14 (He.ga K "_law_t2_rounds_right") ["_law_pen_here", "_law_own", "_law_bed", "_law_told", "_law_most"] (spRight K w) :=
  E.does0 (k := 13) ix_law_t2_rounds_right rfl bn_law_t2_rounds_right sc_law_t2_rounds_right (fun _ _ _ _ ⟨_, _, _, _, _, _, _, _, _, _, _, _, h, _⟩ => by rw [h]; rfl) fun cdv A outer s H vs Q X hr h => by
    obtain ⟨pv0, v, p, c, o, d, n, B, W, Z, M, sd, rfl, I, hml, hT, hv, q⟩ := h
    refine ⟨_, (pss_cons (ps_set (i := 5) sc_law_t2_rounds_right.nd rfl (by first | exact Or.inl rfl | exact Or.inr rfl) (pe_doM0 (pv 3) (c_Bed E) (m_Bed_pairs E) (ok_Bed_pairs E) (hr.mono (by decide)) pass0))
      (pss_cons (ps_if (PW.pt (pw_or (pt_not (pt_val (pe_do (ok_law_is_whole E) (hr.mono (by decide)) (by rfl) (g_law_is_whole E) pass0 (pa_cons (pv 4) pa_nil)))) (pw_or1 (pt_cmpR op_lt (pv 4) pe_int (nomark _)))))
        (pss_cons (ps_set (i := 6) sc_law_t2_rounds_right.nd rfl (by first | exact Or.inl rfl | exact Or.inr rfl) (pe_tup (pa_cons pe_str (pa_cons pe_str (pa_cons (pv 4) pa_nil)))))
      (pss_one (ps_ret (pe_and (pe_cmpR (op_eqD hr.units) (pe_lst (pa_cons (pe_do (ok_law_t2_asked E) (hr.mono (by decide)) (by rfl) (g_law_t2_asked E) pass0 (pa_cons pe_int (pa_cons (pv 3) (pa_cons (pv 4) pa_nil)))) (pa_cons (pe_do (ok_law_t2_asked E) (hr.mono (by decide)) (by rfl) (g_law_t2_asked E) pass0 (pa_cons pe_int (pa_cons (pv 3) (pa_cons (pv 4) pa_nil)))) pa_nil))) (pe_lst (pa_cons (pv 6) (pa_cons (pv 6) pa_nil))) (nomark _)) (pe_one (pe_cmpR (op_eqD hr.units) (pe_doM0 (pv 3) (c_Bed E) (m_Bed_pairs E) (ok_Bed_pairs E) (hr.mono (by decide)) pass0) (pv 5) (nomark _)))))))
        pss_nil)
      (pss_cons (ps_asg (pe_do (ok_law_t2_rounds E) (hr.mono (by decide)) (by rfl) (g_law_t2_rounds E) pass0 (pa_cons (pv 1) (pa_cons (pv 2) (pa_cons (pv 4) pa_nil)))) (pg_tupK (K := K) (n := 2) rfl rfl (pgs_cons (pg_name (i := 7) sc_law_t2_rounds_right.nd rfl (by first | exact Or.inl rfl | exact Or.inr rfl)) (pgs_cons (pg_name (i := 8) sc_law_t2_rounds_right.nd rfl (by first | exact Or.inl rfl | exact Or.inr rfl)) pgs_nil))))
      (pss_cons (ps_set (i := 6) sc_law_t2_rounds_right.nd rfl (by first | exact Or.inl rfl | exact Or.inr rfl) (pe_ifExp (pt_cmp (pc_isN (pv 8))) (pe_tup (pa_cons pe_str (pa_cons (pe_callTy call_tuple_of (by rfl) (u_tuple E) b_tuple (pa_cons (pv 7) pa_nil)) pa_nil))) (pe_tup (pa_cons pe_str (pa_cons pe_str (pa_cons (pv 8) (pa_cons (pv 4) pa_nil)))))))
      (pss_cons (ps_if (PW.pt (pw_or (pt_cmpR (op_neD hr.units) (pe_do (ok_law_t2_asked E) (hr.mono (by decide)) (by rfl) (g_law_t2_asked E) pass0 (pa_cons pe_int (pa_cons (pv 3) (pa_cons (pv 4) pa_nil)))) (pv 6) (nomark _)) (pw_or1 (pt_cmpR (op_neD hr.units) (pe_doM0 (pv 3) (c_Bed E) (m_Bed_pairs E) (ok_Bed_pairs E) (hr.mono (by decide)) pass0) (pv 5) (nomark _)))))
        (pss_one (ps_ret pe_bl))
        pss_nil)
      (pss_cons (ps_if (pt_cmp (pc_notN (pv 8)))
        (pss_one (ps_ret (pe_and (pe_cmpR (op_eqD hr.units) (pe_do (ok_law_t2_asked E) (hr.mono (by decide)) (by rfl) (g_law_t2_asked E) pass0 (pa_cons pe_int (pa_cons (pv 3) (pa_cons (pv 4) pa_nil)))) (pv 6) (nomark _)) (pe_one (pe_cmpR (op_eqD hr.units) (pe_doM0 (pv 3) (c_Bed E) (m_Bed_pairs E) (ok_Bed_pairs E) (hr.mono (by decide)) pass0) (pv 5) (nomark _))))))
        pss_nil)
      (pss_cons (ps_set (i := 9) sc_law_t2_rounds_right.nd rfl (by first | exact Or.inl rfl | exact Or.inr rfl) (pe_lst (pa_cons (pe_do (ok_law_t2_copy E) (hr.mono (by decide)) (by rfl) (g_law_t2_copy E) pass0 (pa_cons (pv 2) pa_nil)) pa_nil)))
      (pss_cons (ps_for PassesOwn.never rfl (pi_list (pv 7)) (pg_name (i := 10) sc_law_t2_rounds_right.nd rfl (by first | exact Or.inl rfl | exact Or.inr rfl))
        (pss_cons (ps_expr (pe_bm PySem.F.plainAttrs_list PySem.F.slot_list_append PySem.F.type_list_append mt_append (pv 9) (pa_cons (pe_do (ok_law_t2_copy E) (hr.mono (by decide)) (by rfl) (g_law_t2_copy E) pass0 (pa_cons (pe_ix ix_list (pv 9) (pe_un un_neg pe_int) (fun _ _ => rfl)) pa_nil)) pa_nil)))
      (pss_one (ps_for PassesOwn.never rfl (pi_tup (pv 10)) (pg_tupK (K := K) (n := 2) rfl rfl (pgs_cons (pg_name (i := 11) sc_law_t2_rounds_right.nd rfl (by first | exact Or.inl rfl | exact Or.inr rfl)) (pgs_cons (pg_name (i := 12) sc_law_t2_rounds_right.nd rfl (by first | exact Or.inl rfl | exact Or.inr rfl)) pgs_nil)))
        (pss_one (ps_xput hr (pe_ix ix_list (pv 9) (pe_un un_neg pe_int) (fun _ _ => rfl)) (pv 11) (pv 12) (by rfl)))))))
      (pss_cons (ps_for PassesOwn.never rfl (pi_range1 (by rfl) (u_range E) (pa_cons (pe_callB call_len_seq (by rfl) (u_len E) b_len (pa_cons (pv 7) pa_nil)) pa_nil)) (pg_name (i := 13) sc_law_t2_rounds_right.nd rfl (by first | exact Or.inl rfl | exact Or.inr rfl))
        (pss_one (ps_for PassesOwn.never rfl (pi_tup (pe_ix ix_list (pv 7) (pv 13) (fun _ _ => rfl))) (pg_tupK (K := K) (n := 2) rfl rfl (pgs_cons (pg_name (i := 11) sc_law_t2_rounds_right.nd rfl (by first | exact Or.inl rfl | exact Or.inr rfl)) (pgs_cons (pg_name (i := 12) sc_law_t2_rounds_right.nd rfl (by first | exact Or.inl rfl | exact Or.inr rfl)) pgs_nil)))
        (pss_cons (ps_if (pt_cmpR op_lt (pe_do (ok_law_t2_bonds E) (hr.mono (by decide)) (by rfl) (g_law_t2_bonds E) pass0 (pa_cons (pv 1) (pa_cons (pe_ix ix_list (pv 9) (pv 13) (fun _ _ => rfl)) (pa_cons (pv 11) (pa_cons (pv 12) pa_nil))))) pe_int (nomark _))
        (pss_one (ps_ret pe_bl))
        pss_nil)
      (pss_one (ps_if (PW.pt (pw_and (pt_cmpR op_gt (pv 13) pe_int (nomark _)) (pw_and1 (pt_cmpR op_ge (pe_do (ok_law_t2_bonds E) (hr.mono (by decide)) (by rfl) (g_law_t2_bonds E) pass0 (pa_cons (pv 1) (pa_cons (pe_ix ix_list (pv 9) (pe_op op_sub (pv 13) pe_int) (fun _ _ => rfl)) (pa_cons (pv 11) (pa_cons (pv 12) pa_nil))))) pe_int (nomark _)))))
        (pss_one (ps_ret pe_bl))
        pss_nil))))))
      (pss_cons (ps_if (pt_cmpR (op_neD hr.units) (pe_do (ok_law_t2_asked E) (hr.mono (by decide)) (by rfl) (g_law_t2_asked E) pass0 (pa_cons pe_int (pa_cons (pv 3) (pa_cons (pv 4) pa_nil)))) (pe_tup (pa_cons pe_str (pa_cons (pe_callB (cr_sum rfl) (by rfl) (u_sum E) b_sum (pa_cons (pe_lc rfl sc_law_t2_rounds_right.nd (pi_list (pv 7)) (own := [("_law_lot", 10)]) (blkOk_by (N := n_law_t2_rounds_right) (sc := defScope s_law_t2_rounds_right) (by decide +kernel)) (fun _ _ _ _ _ => (pg_name (i := 10) sc_law_t2_rounds_right.nd rfl (by first | exact Or.inl rfl | exact Or.inr rfl))) (fun _ _ _ _ _ => pts_nil) (fun _ _ _ _ _ => (pe_callB (call_len_seqK (K := K) rfl) (by rfl) (u_len E) b_len (pa_cons (pv 10) pa_nil)))) pa_nil)) pa_nil))) (nomark _))
        (pss_one (ps_ret pe_bl))
        pss_nil)
      (pss_one (ps_ret (pe_and (pe_cmpR (op_eqD hr.units) (pe_doM0 (pv 3) (c_Bed E) (m_Bed_pairs E) (ok_Bed_pairs E) (hr.mono (by decide)) pass0) (pe_do (ok_law_t2_pairs E) (hr.mono (by decide)) (by rfl) (g_law_t2_pairs E) pass0 (pa_cons (pe_ix ix_list (pv 9) (pe_un un_neg pe_int) (fun _ _ => rfl)) pa_nil)) (nomark _)) (pe_one (pe_cmpR (op_eqD hr.units) (pe_doM0 (pv 3) (c_Bed E) (m_Bed_may_come E) (ok_Bed_may_come E) (hr.mono (by decide)) pass0) (pe_tup pa_nil) (nomark _)))))))))))))))), ?_⟩
    have hwn := I.lw.wn
    refine ⟨_, rfl, B.b, _, _, rfl, I.bed.o, rfl, B, W, Z, M, sd, rfl, I.bed, fun t0 H1 e1 ht0 => ?_⟩
    have I1 := I.ext0 e1
    have hpq : Lq 8 (lotD (prs M)) := lotD_lq hwn (prs_order I.bed.mo)
    rcases hv with ⟨hp, hng, pd, hpd, hcl, hdp, heq⟩ | ⟨most, rfl, h0, h15⟩
    · have fin : ∀ H2, EX K [] H H2 → ∀ t1 t2 t3, H2 t1 = some (.tup [.str "bad", .str "most", v]) → H2 t2 = some (.tup [.str "bad", .str "most", v]) → H2 t3 = some (.tup [.str "bad", .str "most", v]) → ∀ l1 l2, H2 l1 = some (.lst [.ref t1, .ref t2]) → H2 l2 = some (.lst [.ref t3, .ref t3]) →
          ∀ Q : VK, Q (.bl true) H2 → rEqD K (.ref l1) (.ref l2) H2 Q := by
        intro H2 e2 t1 t2 t3 h1 h2 h3 l1 l2 g1 g2 Q hq
        have dT : ∀ t, H2 t = some (.tup [.str "bad", .str "most", v]) → Dp K H2 (.ref t) (.tuple [.str "bad", .str "most", pd]) := fun t h => .tup (.of h) (.cons (.str _) (.cons (.str _) (.cons (hpd H2 e2) .nil)))
        have sh : SeqAt.shaped (.list [.tuple [.str "bad", .str "most", pd], .tuple [.str "bad", .str "most", pd]]) = true := by
          have h1 : (PyData.str "bad").canLay0 = true := by simp only [PyData.canLay0]; decide +kernel
          have h2 : (PyData.str "most").canLay0 = true := by simp only [PyData.canLay0]; decide +kernel
          show ((PyData.list _).canLay0 && decide ((PyData.list _).depth ≤ 64)) = true
          rw [decide_eq_true (by simp only [PyData.depth, PyData.depthAll]; omega)]
          simp only [PyData.canLay0, PyData.canLayAll0] at h1 h2 ⊢
          rw [h1, h2, hcl]; rfl
        refine ⟨_, _, .lst (.of g1) (.cons (dT t1 h1) (.cons (dT t2 h2) .nil)), .lst (.of g2) (.cons (dT t3 h3) (.cons (dT t3 h3) .nil)), sh, sh, ?_⟩
        rw [show PyData.eqv (.list [.tuple [.str "bad", .str "most", pd], .tuple [.str "bad", .str "most", pd]]) (.list [.tuple [.str "bad", .str "most", pd], .tuple [.str "bad", .str "most", pd]]) = true by simp [PyData.eqv, PyData.eqvAll, heq]]
        exact hq
      have hpx : ∀ H2, EX K [] H H2 → Pln H2 v := fun H2 e2 => by
        cases v with
        | ref a => exact let ⟨xs, hx⟩ := hp; ⟨xs, e2.tup hx⟩
        | int _ => trivial
        | bl _ => trivial
        | non => trivial
        | str _ => trivial
        | _ => exact hp.elim
      refine ⟨_, rfl, v, rfl, hpx _ e1, _, rfl, ?_⟩
      by_cases hiv : ∃ i, v = .int i
      case' pos =>
        obtain ⟨i, hi⟩ := hiv
        rw [show isIv v = true by rw [hi]; rfl]
        refine iteF ⟨_, rfl, i, _, hi, rfl, _, rfl, ?_⟩
        rw [show decide (i < 0) = true from decide_eq_true (hng i hi)]
        refine iteT ?_
      case' neg =>
        rw [show isIv v = false by
          cases v with
          | int i => exact absurd ⟨i, rfl⟩ hiv
          | _ => rfl]
        refine iteT ?_
      all_goals
        refine ⟨_, rfl, sz3, fun tb htb => ?_⟩
        have e2 := e1.andNew (o := .tup [.str "bad", .str "most", v]) htb
        have e12 : EX K [] H1 (upd H1 tb (.tup [.str "bad", .str "most", v])) := Ext.new htb
        have g0 : (upd H1 tb (.tup [.str "bad", .str "most", v])) tb = some (.tup [.str "bad", .str "most", v]) := upd_same
        generalize upd H1 tb (.tup [.str "bad", .str "most", v]) = H2 at *
        refine ⟨_, rfl, _, rfl, 0, B, _, W, Z, M, sd, rfl, (I.ext0 e2).bed, e2.tabs hT, .inl ⟨hpx _ e2, hng, fun t1 H3 e3 T3 g1 => ?_⟩⟩
        have e03 := e2.trans e3
        refine ⟨_, rfl, _, rfl, 1, B, _, W, Z, M, sd, rfl, (I.ext0 e03).bed, T3, .inl ⟨hpx _ e03, hng, fun t2 H4 e4 T4 g2 => ⟨sz2, fun l1 hl1 => ?_⟩⟩⟩
        have e04 := e03.trans e4
        have e5 : EX K [] H4 (upd H4 l1 (.lst [.ref t1, .ref t2])) := Ext.new hl1
        refine ⟨_, rfl, _, rfl, sz2, fun l2 hl2 => ?_⟩
        have e6 : EX K [] (upd H4 l1 (.lst [.ref t1, .ref t2])) (upd (upd H4 l1 (.lst [.ref t1, .ref t2])) l2 (.lst [.ref tb, .ref tb])) := Ext.new hl2
        have e06 := (e04.trans e5).trans e6
        have e56 := e5.trans e6
        refine fin _ e06 t1 t2 tb (e56.tup (e4.tup g1)) (e56.tup g2) (e56.tup ((e3.trans e4).tup g0)) l1 l2 (e6.at0 upd_same) upd_same _ ⟨_, rfl, iteT ?_⟩
        have I6 := I.ext0 e06
        have htt : EX K [] H (upd (upd H4 l1 (.lst [.ref t1, .ref t2])) l2 (.lst [.ref tb, .ref tb])) := e06
        refine ⟨_, rfl, B.b, _, _, rfl, I6.bed.o, rfl, B, W, Z, M, sd, rfl, I6.bed, fun t5 H7 e7 ht5 => ?_⟩
        have e07 := e06.trans e7
        refine ⟨_, rfl, eqD3 ht5 ((((e12.trans e3).trans e4).trans (e56.trans e7)).dt ht0) hpq hpq (by decide) (by decide) ?_⟩
        rw [decide_eq_true rfl]
        exact q H7 e07.nil (e07.tabs hT) (I.pen.ext0 e07)
    · refine ⟨_, rfl, _, rfl, True.intro, _, rfl, iteF ⟨_, rfl, _, _, rfl, rfl, _, rfl, ?_⟩⟩
      rw [show decide (most < 0) = false from decide_eq_false (by omega)]
      refine iteF ?_
      refine ⟨_, rfl, _, rfl, _, rfl, o, d, W, Z, M, most, rfl, I1.lw, h0, h15, hml, fun k t l us H2 run done e2 ht hl hl0 hu => ?_, fun k t H2 run ov e2 ht => ?_⟩
      · refine ⟨_, _, rfl, .of ht, rfl, _, _, rfl, _, _, rfl, rfl, ?_⟩
        have hul := hu.length
        rw [List.length_map, rnds_len] at hul
        have hsl : ∀ j, j ≤ k → (st W M j).length ≤ 15 := fun j hj => by
          match j, hj with
          | 0, _ => exact hml
          | j + 1, hj => have h2 := run.le j (by omega); omega
        have hk15 : k ≤ 15 := by rcases run.bound with z | z <;> omega
        -- due
        refine ⟨_, rfl, _, rfl, iteT ⟨_, rfl, l, us, rfl, .inl ⟨.of hl, fun u hu2 => ⟨sz2, fun td htd => ?_⟩⟩⟩⟩
        have e3 : EX K [] H2 (upd H2 u (.tup us)) := Ext.new hu2
        have hdu : Dt (upd H2 u (.tup us)) (.ref u) (rndD (rnds W M k)) := Dt.new hu2 hu
        have e4 : EX K [] (upd H2 u (.tup us)) (upd (upd H2 u (.tup us)) td (.tup [.str "told", .ref u])) := Ext.new htd
        have hdd : Dt (upd (upd H2 u (.tup us)) td (.tup [.str "told", .ref u])) (.ref td) (.tup [.text "told", rndD (rnds W M k)]) := Dt.new htd (.cons (.str _) (.cons hdu .nil))
        have e24 := e3.trans e4
        have e14 := e2.trans e24
        have e04 := e1.trans e14
        have hl4 := e24.at0 hl
        have hu4 := e24.dts hu
        have I4 := I1.ext0 e14
        have ht04 := e14.dt ht0
        have tq : Lq 10 (.tup [.text "told", rndD (rnds W M k)]) := toldD_lq (rndD_lq hwn) (by omega)
        clear e3 e4 e24 hdu hl hu ht
        generalize upd (upd H2 u (.tup us)) td (.tup [.str "told", .ref u]) = H4 at *
        -- asked(0, ..)
        refine ⟨_, rfl, _, rfl, 0, B, _, W, Z, M, sd, rfl, I4.bed, e04.tabs hT, .inr ⟨most, rfl, h0, by omega, by omega, fun _ k2 t2 u2 H5 run2 done2 e5 T5 hu5 ht5 => ?_, fun z => absurd rfl z, fun k2 t2 H5 run2 ov2 e5 T5 ht5 => ?_⟩⟩
        rotate_left
        · have := end_uniq run (.inl done) run2 (.inr ov2)
          subst this
          exact absurd done ov2.1
        have hkk := end_uniq run (.inl done) run2 (.inl done2)
        subst hkk
        have hd5 : Dt H5 (.ref t2) (.tup [.text "told", rndD (rnds W M k)]) := .tup ht5 (.cons (.str _) (.cons hu5 .nil))
        refine ⟨_, rfl, neD3 hd5 (e5.dt hdd) tq tq (by decide) (by decide) ⟨_, rfl, ?_⟩⟩
        rw [show decide (NestedKey.tup [.text "told", rndD (rnds W M k)] ≠ NestedKey.tup [.text "told", rndD (rnds W M k)]) = false from decide_eq_false fun z => z rfl]
        have I5 := I4.ext0 e5
        refine iteF ⟨_, rfl, B.b, _, _, rfl, I5.bed.o, rfl, B, W, Z, M, sd, rfl, I5.bed, fun t6 H6 e6 ht6 => ?_⟩
        have e46 := e5.trans e6
        refine ⟨_, rfl, neD3 ht6 (e46.dt ht04) hpq hpq (by decide) (by decide) ⟨_, rfl, ?_⟩⟩
        rw [show decide (lotD (prs M) ≠ lotD (prs M)) = false from decide_eq_false fun z => z rfl]
        refine iteF ⟨_, rfl, _, rfl, iteF ?_⟩
        have e06 := e04.trans e46
        have I6 := I.ext0 e06
        have hl6 := e46.at0 hl4
        have hu6 := e46.dts hu4
        clear e5 e6 I5 hd5 ht5 hu5 ht6 I4
        -- levels
        refine ⟨_, rfl, d, M, rfl, I6.lw.ly, I6.lw.len, fun d2 H7 e7 hd2 m7 => ⟨sz1, fun g hg => ?_⟩⟩
        have e8 : EX K [] H7 (upd H7 g (.lst [.ref d2])) := Ext.new hg
        have e08 := (e06.trans e7).trans e8
        have hl8 := (e7.trans e8).at0 hl6
        have hu8 := (e7.trans e8).dts hu6
        have hdd8 := ((e46.trans e7).trans e8).dt hdd
        have hg8 : (upd H7 g (.lst [.ref d2])) g = some (.lst [.ref d2]) := upd_same
        have m8 := m7.ext e8 (by simp)
        have hg0 : H g = none := (e06.trans e7).fresh hg
        have hd20 : H d2 = none := e06.fresh hd2
        have hlg : l ≠ g := ne_of_none (e7.at0 hl6) hg
        generalize upd H7 g (.lst [.ref d2]) = H8 at *
        refine ⟨_, rfl, l, rfl, ⟨us, .of hl8⟩, ?_⟩
        refine for_list (xs := us) (fun j σ H9 => ∃ o10 o11 o12, ∃ as : List Addr, σ = [some pv0, some (.ref o), some (.ref d), some (.ref B.b), some (.int most), some (.ref t0), some (.ref td), some (.ref l), some .non, some (.ref g), o10, o11, o12, none] ∧ EX K [] H H9 ∧ EX K [g] H8 H9 ∧ H9 g = some (.lst (as.map V.ref)) ∧ as.length = j + 1 ∧ ∀ i a, as[i]? = some a → H a = none ∧ DictA w H9 a (bal (st W M i)))
          ⟨none, none, none, [d2], rfl, e08, .refl, hg8, rfl, fun i a ha => ?_⟩ (fun j σ H9 _ ⟨_, _, _, _, _, _, e, _⟩ => .of (e.at_ hl8 (by rw [List.mem_singleton]; exact hlg))) ?_ ?_
        · match i, ha with
          | 0, ha => cases ha; exact ⟨hd20, m8⟩
        · rintro j cv σ H9 hc ⟨o10, o11, o12, as, rfl, e9, e89, hg9, hal, has⟩
          obtain ⟨kd, hk, hcd⟩ := hu8.get hc
          obtain ⟨ll, hll, rfl⟩ := Option.map_eq_some_iff.mp (by rw [← List.getElem?_map]; exact hk)
          have hj : j < k := by
            have := (List.getElem?_eq_some_iff.mp hll).1
            rwa [rnds_len] at this
          rw [rnds_at hj] at hll
          cases hll
          obtain ⟨a, ha⟩ : ∃ a, as[j]? = some a := ⟨_, List.getElem?_eq_getElem (by omega)⟩
          obtain ⟨ha0, ham⟩ := has j a ha
          have hat : atI (as.map V.ref) (-1) = some (.ref a) := by
            rcases List.eq_nil_or_concat as with z | ⟨pre, b, z⟩
            · rw [z] at hal; simp at hal
            · rw [List.concat_eq_append] at z
              subst z
              have hpl : pre.length = j := by simpa using hal
              have : b = a := by
                have h2 : (pre ++ [b])[j]? = some b := by rw [← hpl]; simp
                rw [ha] at h2; exact (Option.some.inj h2).symm
              rw [List.map_append, this]; exact atI_last _ _
          have hsj := hsl j (by omega)
          refine ⟨_, rfl, tyl hg9, _, rfl, _, rfl, g, _, _, _, rfl, rfl, .of hg9, hat, a, st W M j, rfl, ham, by omega, fun a2 H10 e10 ha2 m10 => ?_⟩
          have hg10 := e10.at0 hg9
          refine ⟨g, _, _, rfl, rfl, hg10, by rw [sizeLine_eq, List.length_map]; omega, ?_⟩
          have e11 : EX K [g] H10 (upd H10 g (.lst (as.map V.ref ++ [.ref a2]))) := Ext.refl.lst hg10 (.inr (by simp))
          have hg11 : (upd H10 g (.lst (as.map V.ref ++ [.ref a2]))) g = some (.lst ((as ++ [a2]).map V.ref)) := by rw [upd_same, List.map_append]; rfl
          have gdict : ∀ {b : Addr} {M' : Bd} {H' : Hp}, DictA w H' b (bal M') → H' g = some (.lst (as.map V.ref)) → b ≠ g := fun {b M' H'} m hgl z => by
            obtain ⟨o, ho, n1, _⟩ := m.noSeq
            rw [z, hgl] at ho; cases ho; exact n1 _ rfl
          have m11 : DictA w (upd H10 g (.lst (as.map V.ref ++ [.ref a2]))) a2 (bal (st W M j)) := m10.ext e11 (by simp; exact gdict m10 hg10)
          have has11 : ∀ i a, as[i]? = some a → H a = none ∧ a ≠ a2 ∧ DictA w (upd H10 g (.lst (as.map V.ref ++ [.ref a2]))) a (bal (st W M i)) := fun i b hb => by
            obtain ⟨h1, h2⟩ := has i b hb
            have h3 := h2.ext e10 (by simp)
            obtain ⟨u, h4⟩ := h2.some
            exact ⟨h1, ne_of_none h4 ha2, h3.ext e11 (by simp; exact gdict h3 hg10)⟩
          have e911 := e10.nil.trans e11
          have e011 := e9.then1 e911 (.inl hg0)
          have ha20 : H a2 = none := e9.fresh ha2
          have ga2 : g ≠ a2 := ne_of_none hg9 ha2
          clear e11 hg10 m10
          generalize upd H10 g (.lst (as.map V.ref ++ [.ref a2])) = H11 at *
          have e811 := e89.trans e911
          obtain ⟨t2, ws, rfl, hws, hwd⟩ : ∃ t2 ws, cv = .ref t2 ∧ H11 t2 = some (.tup ws) ∧ DtAll H11 ws ((lot W (st W M j)).map pairD) := by
            have := e811.dt hcd
            cases this with | tup a b => exact ⟨_, _, rfl, a, b⟩
          have hwl := hwd.length
          rw [List.length_map] at hwl
          have hln : (st W M (j + 1)).length = (st W M j).length + (lot W (st W M j)).length := by
            show (st W M j ++ lot W (st W M j)).length = _
            rw [List.length_append]
          have hsj1 := hsl (j + 1) (by omega)
          have hat2 : atI ((as ++ [a2]).map V.ref) (-1) = some (.ref a2) := by rw [List.map_append]; exact atI_last _ _
          refine ⟨_, rfl, t2, rfl, ⟨ws, .of hws⟩, ?_⟩
          refine for_tup (xs := ws) (fun i σ H12 => ∃ o11 o12, σ = [some pv0, some (.ref o), some (.ref d), some (.ref B.b), some (.int most), some (.ref t0), some (.ref td), some (.ref l), some .non, some (.ref g), some (.ref t2), o11, o12, none] ∧ EX K [a2] H11 H12 ∧ DictA w H12 a2 (bal (st W M j ++ (lot W (st W M j)).take i)))
            ⟨o11, o12, rfl, .refl, by rw [List.take_zero, List.append_nil]; exact m11⟩ (fun i σ H12 _ ⟨_, _, _, e, _⟩ => .of (e.tup hws)) ?_ ?_
          · rintro i cv σ H12 hc ⟨o11, o12, rfl, e12, es12, hes12, hps12⟩
            obtain ⟨kd, hk, hcd⟩ := hwd.get hc
            obtain ⟨x, hx, rfl⟩ := Option.map_eq_some_iff.mp (by rw [← List.getElem?_map]; exact hk)
            obtain ⟨tc, y, z, rfl, htc, hy, hz⟩ := pair_tup (e12.dt hcd)
            obtain ⟨f1, f2, f3, f4⟩ := lot_fits hwn.ok hx
            have hg12 := e12.at_ hg11 (by simp; exact ga2)
            have hel := hps12.length
            rw [show (bal (st W M j ++ (lot W (st W M j)).take i)).length = (st W M j ++ (lot W (st W M j)).take i).length by unfold bal; rw [List.length_map], List.length_append, List.length_take] at hel
            refine ⟨_, _, rfl, .of htc, rfl, _, _, rfl, _, _, rfl, rfl, ?_⟩
            refine ⟨_, rfl, _, rfl, _, rfl, g, _, _, _, rfl, rfl, .of hg12, hat2, _, rfl, a2, es12, plD x.1, rfl, hes12, hy, plD_d, by rw [sizeLine_eq]; omega, fun H13 m13 c13 => ?_⟩
            have e13 : EX K [a2] H12 H13 := Ext.refl.dict hes12 c13 m13 (.inr (by simp))
            refine ⟨_, _, rfl, e12.trans e13, ?_⟩
            have := DictA.put hes12 hps12 hz m13 c13
            rw [bal_put f1] at this
            rw [List.take_add_one, hx, ← List.append_assoc]
            exact this
          · rintro σ H12 ⟨o11, o12, rfl, e12, m12⟩
            rw [hwl, List.take_length] at m12
            refine ⟨_, _, _, as ++ [a2], rfl, e011.then1 e12 (.inl ha20), ?_, e12.at_ hg11 (by simp; exact ga2), by simp [hal], fun i b hb => ?_⟩
            · have n8 : H8 a2 = none := e89.fresh ha2
              exact e811.then1 e12 (.inl n8)
            · by_cases hij : i < as.length
              · rw [List.getElem?_append_left hij] at hb
                obtain ⟨h1, h2, h3⟩ := has11 i b hb
                exact ⟨h1, h3.ext e12 (by simp; exact h2)⟩
              · have hi : i = j + 1 := by
                  have := (List.getElem?_eq_some_iff.mp hb).1
                  rw [List.length_append] at this
                  simp at this
                  omega
                subst hi
                have hb2 : b = a2 := by
                  rw [← hal] at hb
                  simpa using hb.symm
                subst hb2
                exact ⟨ha20, m12⟩
        · rintro σ H9 ⟨o10, o11, o12, as, rfl, e9, e89, hg9, hal, has⟩
          rw [hul] at hal
          have hl9 := e89.at_ hl8 (by simp; exact hlg)
          have hu9 := e89.dts hu8
          have I9 := I.ext0 e9
          have lvl : ∀ (H' : Hp) j a, EX K [] H9 H' → as[j]? = some a → j ≤ k → LwI w Z H' o a W (st W M j) := fun H' j a e ha hj =>
            ⟨(I9.ext0 e).lw.fz, I.lw.ow, hwn, (has j a ha).2.ext e (by simp), I.lw.fz.none_ (has j a ha).1, st_mem_order I.lw.mo, by have := hsl j hj; omega⟩
          refine ⟨_, rfl, l, us, rfl, .inl (.of hl9), us.length, rfl, by omega, by omega, ?_⟩
          refine for_range (fun j σ H10 => ∃ o11 o12 o13, σ = [some pv0, some (.ref o), some (.ref d), some (.ref B.b), some (.int most), some (.ref t0), some (.ref td), some (.ref l), some .non, some (.ref g), o10, o11, o12, o13] ∧ EX K [] H9 H10) ⟨o11, o12, none, rfl, .refl⟩ ?_ ?_
          · rintro j σ H10 hj ⟨o11, o12, o13, rfl, e10⟩
            have hjk : j < k := by omega
            obtain ⟨a, ha⟩ : ∃ a, as[j]? = some a := ⟨_, List.getElem?_eq_getElem (by omega)⟩
            obtain ⟨cv, hcv, hcd⟩ := hu9.get2 (i := j) (k := lotD (lot W (st W M j))) (by rw [List.getElem?_map, rnds_at hjk]; rfl)
            obtain ⟨t2, ws, rfl, hws, hwd⟩ : ∃ t2 ws, cv = .ref t2 ∧ H10 t2 = some (.tup ws) ∧ DtAll H10 ws ((lot W (st W M j)).map pairD) := by
              have := e10.dt hcd
              cases this with | tup a b => exact ⟨_, _, rfl, a, b⟩
            have hix : ∀ {α : Type} {xs : List α} {v : α}, xs[j]? = some v → atI xs (0 + (j : Int)) = some v := fun h => by rw [Int.zero_add]; exact atI_nat h
            have haM : (as.map V.ref)[j]? = some (.ref a) := by rw [List.getElem?_map, ha]; rfl
            refine ⟨_, rfl, _, rfl, l, us, _, _, rfl, rfl, .of (e10.at0 hl9), hix hcv, t2, rfl, ⟨ws, .of hws⟩, ?_⟩
            refine for_tup (xs := ws) (fun i σ H11 => ∃ o11 o12, σ = [some pv0, some (.ref o), some (.ref d), some (.ref B.b), some (.int most), some (.ref t0), some (.ref td), some (.ref l), some .non, some (.ref g), o10, o11, o12, some (.int (0 + (j : Int)))] ∧ EX K [] H10 H11) ⟨o11, o12, rfl, .refl⟩ (fun i σ H11 _ ⟨_, _, _, e⟩ => .of (e.tup hws)) ?_ ?_
            · rintro i cv σ H11 hc ⟨o11, o12, rfl, e11⟩
              obtain ⟨kd, hk, hcd⟩ := hwd.get hc
              obtain ⟨x, hx, rfl⟩ := Option.map_eq_some_iff.mp (by rw [← List.getElem?_map]; exact hk)
              obtain ⟨tc, y, z, rfl, htc, hy, hz⟩ := pair_tup (e11.dt hcd)
              have hxl := List.mem_of_getElem? hx
              have hxo := lot_order x hxl
              have e911 := e10.trans e11
              refine ⟨_, _, rfl, .of htc, rfl, _, _, rfl, _, _, rfl, rfl, ?_⟩
              refine ⟨_, rfl, _, rfl, _, rfl, g, _, _, _, rfl, rfl, .of (e911.at0 hg9), hix haM, _, rfl, _, rfl, o, a, y, z, x.1, x.2, W, Z, st W M j, rfl, lvl _ j a e911 ha (by omega), hy, hz, hxo, fun H12 e12 => ?_⟩
              have hb1 := level_now hxl
              refine ⟨_, _, rfl, rfl, _, rfl, ?_⟩
              rw [show decide (bonds W (st W M j) x.1 x.2 < 2) = false from decide_eq_false (by omega)]
              refine iteF ⟨_, rfl, _, _, rfl, rfl, _, rfl, ?_⟩
              by_cases hj0 : j = 0
              · rw [show decide ((0 : Int) + (j : Int) > 0) = false from decide_eq_false (by omega)]
                exact iteF (iteF ⟨_, _, rfl, e11.trans e12⟩)
              · obtain ⟨j, rfl⟩ : ∃ j', j = j' + 1 := ⟨j - 1, by omega⟩
                obtain ⟨b, hb⟩ : ∃ b, as[j]? = some b := ⟨_, List.getElem?_eq_getElem (by omega)⟩
                have hbM : (as.map V.ref)[j]? = some (.ref b) := by rw [List.getElem?_map, hb]; rfl
                have e912 := e911.trans e12
                rw [show decide ((0 : Int) + ((j + 1 : Nat) : Int) > 0) = true from decide_eq_true (by omega)]
                refine iteT ⟨_, rfl, _, rfl, _, rfl, _, _, rfl, rfl, g, _, _, _, rfl, rfl, .of (e912.at0 hg9), ?_, _, rfl, _, rfl, o, b, y, z, x.1, x.2, W, Z, st W M j, rfl, lvl _ j b e912 hb (by omega), e12.dt hy, e12.dt hz, hxo, fun H13 e13 => ?_⟩
                · rw [show (0 : Int) + ((j + 1 : Nat) : Int) - 1 = ((j : Nat) : Int) by omega]; exact atI_nat hbM
                have hb2 := level_ahead hxl
                refine ⟨_, _, rfl, rfl, _, rfl, ?_⟩
                rw [show decide (bonds W (st W M j) x.1 x.2 ≥ 2) = false from decide_eq_false (by omega)]
                exact iteF ⟨_, _, rfl, (e11.trans e12).trans e13⟩
            · rintro σ H11 ⟨o11, o12, rfl, e11⟩
              exact ⟨_, _, _, rfl, e10.trans e11⟩
          · rintro σ H10 ⟨o11, o12, o13, rfl, e10⟩
            have e010 := e9.trans e10
            have I10 := I9.ext0 e10
            refine ⟨_, rfl, _, rfl, 1, B, _, W, Z, M, sd, rfl, I10.bed, e010.tabs hT, .inr ⟨most, rfl, h0, by omega, by omega, fun z => absurd z (by decide), fun _ k2 t2 H11 run2 done2 e11 T11 I11 ht2 => ?_, fun k2 t2 H5 run2 ov2 e5 T5 ht5 => ?_⟩⟩
            rotate_left
            · have := end_uniq run (.inl done) run2 (.inr ov2)
              subst this
              exact absurd done ov2.1
            have hkk := end_uniq run (.inl done) run2 (.inl done2)
            subst hkk
            have nly : ∀ {b : Addr}, H b = none → b ≠ B.ly ∧ b ≠ B.cm := fun {b} hb => by
              obtain ⟨o1, h1⟩ := I.bed.ly.some
              obtain ⟨al, h2⟩ := I.bed.cmA
              obtain ⟨o2, h2⟩ := h2.some
              exact ⟨fun z => ne_of_none h1 hb z.symm, fun z => ne_of_none h2 hb z.symm⟩
            have hlH : H l = none := e1.fresh hl0
            have hl11 := e11.at_ (e10.at0 hl9) (by simp; exact nly hlH)
            have hu11 := e11.dts (e10.dts hu9)
            have hg11 := e11.at_ (e10.at0 hg9) (by simp; exact nly hg0)
            refine ⟨_, rfl, l, rfl, ⟨us, .of hl11⟩, fun l3 hl3 => ?_⟩
            have e12 : EX K [] H11 (upd H11 l3 (.lst [])) := Ext.new hl3
            refine wk_list (xs := us) (fun i H13 => EX K [] H11 H13 ∧ H13 l3 = some (.lst ((((rnds W M k).take i).map fun q => (q.length : Int)).map V.int))) ⟨e12, upd_same⟩ (fun i H13 _ ⟨e, _⟩ => .of (e.at0 hl11)) ?_ ?_
            · rintro i cv H13 hc ⟨e13, hl13⟩
              obtain ⟨kd, hk, hcd⟩ := hu11.get hc
              obtain ⟨ll, hll, rfl⟩ := Option.map_eq_some_iff.mp (by rw [← List.getElem?_map]; exact hk)
              have hi : i < k := by
                have := (List.getElem?_eq_some_iff.mp hll).1
                rwa [rnds_len] at this
              obtain ⟨t4, ws, rfl, hws, hwd⟩ : ∃ t4 ws, cv = .ref t4 ∧ H13 t4 = some (.tup ws) ∧ DtAll H13 ws (ll.map pairD) := by
                have := e13.dt hcd
                cases this with | tup a b => exact ⟨_, _, rfl, a, b⟩
              have hwl := hwd.length
              rw [List.length_map] at hwl
              refine ⟨rfl, _, rfl, t4, ws, rfl, .inr (.of hws), _, hl13, ?_, e13.lst hl13 (.inl hl3), ?_⟩
              · rw [sizeLine_eq, List.length_map, List.length_map, List.length_take, rnds_len]; omega
              · rw [upd_same, List.take_add_one, hll, hwl]
                simp
            · rintro H13 ⟨e13, hl13⟩
              rw [hul, show (rnds W M k).take k = rnds W M k from List.take_of_length_le (by rw [rnds_len]; omega)] at hl13
              refine ⟨l3, _, rfl, .of hl13, sz2, fun tt htt => ?_⟩
              rw [rnds_sum]
              have e14 : EX K [] H13 (upd H13 tt (.tup [.str "told", .int ((st W M k).length - M.length)])) := Ext.new htt
              have e1114 := e13.trans e14
              have dA : Dt (upd H13 tt (.tup [.str "told", .int ((st W M k).length - M.length)])) (.ref t2) (.tup [.text "told", .num ((st W M k).length - M.length)]) := .tup (e1114.tup ht2) (.cons (.str _) (.cons (.int _) .nil))
              have dB : Dt (upd H13 tt (.tup [.str "told", .int ((st W M k).length - M.length)])) (.ref tt) (.tup [.text "told", .num ((st W M k).length - M.length)]) := .tup upd_same (.cons (.str _) (.cons (.int _) .nil))
              refine neD3 dA dB (toldD_lq num_lq (by omega)) (toldD_lq num_lq (by omega)) (by decide) (by decide) ⟨_, rfl, ?_⟩
              rw [show decide (NestedKey.tup [.text "told", .num ((st W M k).length - M.length)] ≠ NestedKey.tup [.text "told", .num ((st W M k).length - M.length)]) = false from decide_eq_false fun z => z rfl]
              refine iteF ?_
              have I14 := I11.ext0 e1114
              have hg14 := e1114.at0 hg11
              have ordk : ∀ x ∈ st W M k, x.2 ∈ W.order := st_mem_order I.lw.mo
              have hpk : Lq 8 (lotD (prs (st W M k))) := lotD_lq hwn (prs_order ordk)
              obtain ⟨ak, hak⟩ : ∃ a, as[k]? = some a := ⟨_, List.getElem?_eq_getElem (by omega)⟩
              have hatk : atI (as.map V.ref) (-1) = some (.ref ak) := by
                rcases List.eq_nil_or_concat as with z | ⟨pre, b, z⟩
                · rw [z] at hal; simp at hal
                · rw [List.concat_eq_append] at z
                  subst z
                  have hpl : pre.length = k := by simpa using hal
                  have : b = ak := by
                    have h2 : (pre ++ [b])[k]? = some b := by rw [← hpl]; simp
                    rw [hak] at h2; exact (Option.some.inj h2).symm
                  rw [List.map_append, this]; exact atI_last _ _
              have mk : DictA w (upd H13 tt (.tup [.str "told", .int ((st W M k).length - M.length)])) ak (bal (st W M k)) := (((has k ak hak).2.ext e10 (by simp)).ext e11 (by simp; exact nly (has k ak hak).1)).ext e1114 (by simp)
              have e014 := (e010.nil (S := [B.ly, B.cm])).trans (e11.trans e1114.nil)
              clear dA dB e14 htt
              generalize upd H13 tt (.tup [.str "told", .int ((st W M k).length - M.length)]) = H14 at *
              refine ⟨_, rfl, B.b, _, _, rfl, I14.o, rfl, B, W, Z, _, sd, rfl, I14, fun t5 H15 e15 ht5 => ?_⟩
              have hks := hsl k (Nat.le_refl _)
              refine ⟨_, rfl, _, rfl, g, _, _, _, rfl, rfl, .of (e15.at0 hg14), hatk, ak, st W M k, rfl, mk.ext e15 (by simp), by omega, fun t6 H16 e16 ht6 => ?_⟩
              refine eqD3 (e16.dt ht5) ht6 hpk hpk (by decide) (by decide) ⟨_, rfl, ?_⟩
              rw [decide_eq_true rfl]
              have I16 := (I14.ext0 e15).ext0 e16
              refine iteT ⟨_, rfl, B.b, _, _, rfl, I16.o, rfl, B, W, Z, _, sd, rfl, I16, fun t7 H17 e17 ht7 => ⟨Nat.zero_le _, fun te hte => ?_⟩⟩
              have e18 : EX K [] H17 (upd H17 te (.tup [])) := Ext.new hte
              have e018 := e014.trans ((e15.trans (e16.trans (e17.trans e18))).nil)
              refine eqD3 (e18.dt ht7) (Dt.new (ks := []) hte .nil) (lotD_lq hwn may_order) (lq_tup (m := 0) fun k hk => by cases hk) (by decide) (by decide) ?_
              rw [show decide (lotD (may W (st W M k)) = NestedKey.tup []) = true from decide_eq_true (by rw [may_nil.mpr done]; rfl)]
              exact q _ e018 (e018.tabs hT) (I.pen.extD e018 (w := w) fun b hb => by
                simp only [List.mem_cons, List.not_mem_nil, or_false] at hb
                rcases hb with rfl | rfl
                · exact ⟨_, I.bed.ly⟩
                · exact I.bed.cmA)
      · refine ⟨_, _, rfl, .of ht, rfl, _, _, rfl, _, _, rfl, rfl, ?_⟩
        refine ⟨_, rfl, _, rfl, iteF ⟨_, rfl, _, rfl, sz4, fun td htd => ?_⟩⟩
        have e3 : EX K [] H2 (upd H2 td (.tup [.str "many", .str "tiles", .int (st W M (k + 1)).length, .int most])) := Ext.new htd
        have dd : Dt (upd H2 td (.tup [.str "many", .str "tiles", .int (st W M (k + 1)).length, .int most])) (.ref td) (.tup [.text "many", .text "tiles", .num (st W M (k + 1)).length, .num most]) := .tup upd_same (.cons (.str _) (.cons (.str _) (.cons (.int _) (.cons (.int _) .nil))))
        have e13 := e2.trans e3
        have e03 := e1.trans e13
        have ht03 := e13.dt ht0
        have I3 := I.ext0 e03
        clear e3 htd
        generalize upd H2 td (.tup [.str "many", .str "tiles", .int (st W M (k + 1)).length, .int most]) = H3 at *
        refine ⟨_, rfl, _, rfl, 0, B, _, W, Z, M, sd, rfl, I3.bed, e03.tabs hT, .inr ⟨most, rfl, h0, by omega, by omega, fun _ k2 t2 u2 H5 run2 done2 e5 T5 hu5 ht5 => ?_, fun z => absurd rfl z, fun k2 t2 H5 run2 ov2 e5 T5 ht5 => ?_⟩⟩
        · have := end_uniq run (.inr ov) run2 (.inl done2)
          subst this
          exact absurd done2 ov.1
        have hkk := end_uniq run (.inr ov) run2 (.inr ov2)
        subst hkk
        have hd5 : Dt H5 (.ref t2) (.tup [.text "many", .text "tiles", .num (st W M (k + 1)).length, .num most]) := .tup ht5 (.cons (.str _) (.cons (.str _) (.cons (.int _) (.cons (.int _) .nil))))
        refine ⟨_, rfl, neD3 hd5 (e5.dt dd) manyD_lq manyD_lq (by decide) (by decide) ⟨_, rfl, ?_⟩⟩
        rw [show decide (NestedKey.tup [.text "many", .text "tiles", .num (st W M (k + 1)).length, .num most] ≠ NestedKey.tup [.text "many", .text "tiles", .num (st W M (k + 1)).length, .num most]) = false from decide_eq_false fun z => z rfl]
        have I5 := I3.ext0 e5
        refine iteF ⟨_, rfl, B.b, _, _, rfl, I5.bed.o, rfl, B, W, Z, M, sd, rfl, I5.bed, fun t6 H6 e6 ht6 => ?_⟩
        have e36 := e5.trans e6
        refine ⟨_, rfl, neD3 ht6 (e36.dt ht03) hpq hpq (by decide) (by decide) ⟨_, rfl, ?_⟩⟩
        rw [show decide (lotD (prs M) ≠ lotD (prs M)) = false from decide_eq_false fun z => z rfl]
        refine iteF ⟨_, rfl, _, rfl, iteT ?_⟩
        have I6 := I3.ext0 e36
        refine ⟨_, rfl, _, rfl, 1, B, _, W, Z, M, sd, rfl, I6.bed, (e03.trans e36).tabs hT, .inr ⟨most, rfl, h0, by omega, by omega, fun z => absurd z (by decide), fun _ k2 t2 H11 run2 done2 e11 T11 I11 ht2 => ?_, fun k2 t2 H7 run2 ov2 e7 T7 ht7 => ?_⟩⟩
        · have := end_uniq run (.inr ov) run2 (.inl done2)
          subst this
          exact absurd done2 ov.1
        have hkk := end_uniq run (.inr ov) run2 (.inr ov2)
        subst hkk
        have hd7 : Dt H7 (.ref t2) (.tup [.text "many", .text "tiles", .num (st W M (k + 1)).length, .num most]) := .tup ht7 (.cons (.str _) (.cons (.str _) (.cons (.int _) (.cons (.int _) .nil))))
        have e37 := e36.trans e7
        refine ⟨_, rfl, eqD3 hd7 (e37.dt dd) manyD_lq manyD_lq (by decide) (by decide) ⟨_, rfl, ?_⟩⟩
        rw [decide_eq_true rfl]
        have I7 := I3.ext0 e37
        refine iteT ⟨_, rfl, B.b, _, _, rfl, I7.bed.o, rfl, B, W, Z, M, sd, rfl, I7.bed, fun t8 H8 e8 ht8 => ?_⟩
        have e38 := e37.trans e8
        have e08 := e03.trans e38
        refine ⟨_, rfl, eqD3 ht8 (e38.dt ht03) hpq hpq (by decide) (by decide) ?_⟩
        rw [decide_eq_true rfl]
        exact q H8 e08.nil (e08.tabs hT) (I.pen.ext0 e08)
end
end TR
/-! text M3 -/
set_option Elab.async false
set_option linter.all false
set_option maxRecDepth 100000
set_option maxHeartbeats 4000000
/-! the numbers of the rounds -/
namespace TR
open PySem VD
def numA (j : Nat) (l : List (Pl × D)) : AL := l.map fun x => (plD x.1, .num ((j : Int) + 1))
def nums (W : Wd) (M : Bd) (k : Nat) : AL := (List.range k).flatMap fun j => numA j (lot W (st W M j))
section
variable {W : Wd} {M N F S X : Bd} {most : Int} {k j : Nat} {p : Pl} {n : D} {loc : D → Pl}
theorem nums_succ : nums W M (k + 1) = nums W M k ++ numA k (lot W (st W M k)) := by
  unfold nums; rw [List.range_succ, List.flatMap_append]; simp
theorem numA_keys {l : List (Pl × D)} : (numA j l).map (·.1) = (l.map (·.1)).map plD := by
  unfold numA
  rw [List.map_map, List.map_map] <;> rfl
theorem nums_key : ∀ {k : Nat}, plD p ∈ (nums W M k).map (·.1) → lkB (st W M k) p ≠ none
  | 0, h => by cases h
  | k + 1, h => by
    rw [nums_succ, List.map_append, List.mem_append] at h
    rcases h with h | h
    · have := nums_key h
      intro z
      cases e : lkB (st W M k) p with
      | none => exact this e
      | some m => rw [st_sub _ _ e] at z; cases z
    · rw [numA_keys] at h
      obtain ⟨q, hq, e⟩ := List.mem_map.mp h
      have e := plD_inj e
      subst e
      rw [show st W M (k + 1) = st W M k ++ lot W (st W M k) from rfl, lkB_append]
      have : lkB (lot W (st W M k)) q ≠ none := fun z => lkB_none.mp z hq
      intro z
      cases e1 : lkB (st W M k) q with
      | none => rw [e1] at z; exact this z
      | some m => rw [e1] at z; cases z
theorem plD_nd2 {l : List Pl} (h : l.Nodup) : (l.map plD).Nodup := List.pairwise_map.mpr (h.imp fun {a b} hne e => hne (plD_inj e))
theorem nums_nd : ∀ k, ((nums W M k).map (·.1)).Nodup
  | 0 => List.Pairwise.nil
  | k + 1 => by
    rw [nums_succ, List.map_append, List.nodup_append]
    refine ⟨nums_nd k, ?_, fun a ha b hb z => ?_⟩
    · rw [numA_keys, lot_keys]; exact plD_nd2 (fr_nodup _ _)
    · subst z
      rw [numA_keys] at hb
      obtain ⟨q, hq, e⟩ := List.mem_map.mp hb
      subst e
      rw [lot_keys] at hq
      exact nums_key ha (fr_mem.mp hq).1
/-- what a turn of the loop writes -/
theorem nums_new {i : Nat} {x : Pl × D} (h : (lot W (st W M k))[i]? = some x) : lkA (nums W M k ++ numA k ((lot W (st W M k)).take i)) (plD x.1) = none := by
  rw [lkA_none, List.map_append, List.mem_append]
  rintro (h1 | h1)
  · exact nums_key h1 (lot_mem (List.mem_of_getElem? h)).1.1
  · rw [numA_keys] at h1
    obtain ⟨q, hq, e⟩ := List.mem_map.mp h1
    have e := plD_inj e
    subst e
    rw [List.map_take, lot_keys] at hq
    obtain ⟨j, hj, hje⟩ := List.mem_take_iff_getElem.mp hq
    have h2 : (fr W (st W M k))[j]? = some x.1 := by rw [List.getElem?_eq_getElem (by omega), hje]
    have h3 : (fr W (st W M k))[i]? = some x.1 := by rw [← lot_keys, List.getElem?_map, h]; rfl
    have := (List.getElem?_inj (by omega) (fr_nodup W (st W M k))).mp (h2.trans h3.symm)
    omega
theorem nums_get (h : (p, n) ∈ lot W (st W M j)) (hj : j < k) : lkA (nums W M k) (plD p) = some (.num ((j : Int) + 1)) := by
  refine lkA_of_mem (nums_nd k) ?_
  refine List.mem_flatMap.mpr ⟨j, List.mem_range.mpr hj, ?_⟩
  exact List.mem_map.mpr ⟨_, h, rfl⟩
theorem nums_len : ∀ k, (nums W M k).length + M.length = (st W M k).length
  | 0 => by show 0 + M.length = M.length; omega
  | k + 1 => by
    have := nums_len k
    rw [nums_succ, List.length_append, show st W M (k + 1) = st W M k ++ lot W (st W M k) from rfl, List.length_append]
    unfold numA
    rw [List.length_map]; omega
/-- who stands in the numbers -/
theorem nums_mem {a : D × D} (h : a ∈ nums W M k) : ∃ j p n, j < k ∧ (p, n) ∈ lot W (st W M j) ∧ a = (plD p, .num ((j : Int) + 1)) := by
  obtain ⟨j, hj, h⟩ := List.mem_flatMap.mp h
  obtain ⟨x, hx, rfl⟩ := List.mem_map.mp h
  exact ⟨j, x.1, x.2, List.mem_range.mp hj, hx, rfl⟩
/-- no rivals: what may come is the lot -/
theorem fit_single (w : WOk W) (o : Own W loc) (hM : Prp W loc M) (h : fit W M p ≠ []) : fit W M p = [(fit W M p).headD .none] := by
  have nd := fit_nodup (M := M) (p := p) w
  cases e : fit W M p with
  | nil => exact absurd e h
  | cons a r =>
    cases r with
    | nil => rfl
    | cons b r =>
      rw [e] at nd
      have ha : a ∈ fit W M p := by rw [e]; simp
      have hb : b ∈ fit W M p := by rw [e]; simp
      have := fit_one w o hM ha hb
      rw [this] at nd
      simp at nd
theorem may_lot (w : WOk W) (o : Own W loc) (hM : Prp W loc M) : may W M = lot W M := by
  unfold may lot
  have : ∀ l : List Pl, (∀ q ∈ l, fit W M q ≠ []) → (l.flatMap fun q => (fit W M q).map fun n => (q, n)) = l.map fun q => (q, (fit W M q).headD .none) := by
    intro l
    induction l with
    | nil => exact fun _ => rfl
    | cons q l ih =>
      intro h
      rw [List.flatMap_cons, List.map_cons, ih fun r hr => h r (List.mem_cons_of_mem _ hr)]
      have := fit_single w o hM (h q List.mem_cons_self)
      rw [this]
      rfl
  exact this _ fun q hq => (fr_mem.mp hq).2
/-- a part of the lot, laid tile by tile -/
theorem sel_fits (w : WOk W) {sel : List (Pl × D)} (hs : sel.Sublist (lot W M)) {i : Nat} {x : Pl × D} (h : sel[i]? = some x) : lkB (M ++ sel.take i) x.1 = none ∧ 2 ≤ bonds W (M ++ sel.take i) x.1 x.2 ∧ x.2 ∈ W.order ∧ x ∈ lot W M := by
  have hm := hs.subset (List.mem_of_getElem? h)
  obtain ⟨⟨h1, h2⟩, h3⟩ := lot_mem hm
  obtain ⟨h4, h5⟩ := fit_mem.mp h3
  refine ⟨?_, Int.le_trans h5 (bonds_mono w (Sub.app _ _)), h4, hm⟩
  rw [lkB_append, h1]
  have nd : (sel.map (·.1)).Nodup := (hs.map (·.1)).nodup (by rw [lot_keys]; exact fr_nodup W M)
  have : lkB (sel.take i) x.1 = none := by
    rw [lkB_none, List.map_take]
    intro hq
    obtain ⟨j, hj, hje⟩ := List.mem_take_iff_getElem.mp hq
    have h6 : (sel.map (·.1))[j]? = some x.1 := by rw [List.getElem?_eq_getElem (by omega), hje]
    have h7 : (sel.map (·.1))[i]? = some x.1 := by rw [List.getElem?_map, h]; rfl
    have := (List.getElem?_inj (by omega) nd).mp (h6.trans h7.symm)
    omega
  rw [this]; rfl
theorem sel_sub (g : Grown W loc S F k) (m : Part W loc S F M) {t e : Nat} (h1 : Sub M X) (h2 : Sub X (st W M t)) (hX : Prp W loc X) (d : Done W M e) {sel : List (Pl × D)} (hs : sel.Sublist (lot W X)) : Sub M (X ++ sel) ∧ Sub (X ++ sel) (st W M (t + 1)) ∧ Prp W loc (X ++ sel) := by
  refine ⟨h1.trans (Sub.app _ _), fun p n h => ?_, hX.app fun x hx => lot_prp g.w g.o hX x (hs.subset hx)⟩
  rw [lkB_append] at h
  cases e1 : lkB X p with
  | some q =>
    rw [e1] at h; cases h
    exact st_sub _ _ (h2 _ _ e1)
  | none =>
    rw [e1] at h
    have hx := hs.subset (lkB_mem (M := sel) h)
    rw [← may_lot g.w g.o hX] at hx
    exact (g.step m h1 h2 hX d hx).1
end
end TR
/-! text FR -/
set_option Elab.async false
set_option linter.all false
set_option maxRecDepth 100000
set_option maxHeartbeats 4000000
set_option pp.maxSteps 300
set_option pp.deepTerms false
/-! numbers, steps_right -/
namespace TR
open PySem PySem.Spec PyProof.Rows L2 VD
section
variable {P : Program} {w : World} {K : PySem.W.Frag} {mg : Str → Option Value} {base : Heap} {Z H H1 H2 : Hp} {B : BA} {W : Wd} {M M' : Bd} {sd : Pl} {bad : List Pl} {o d p c : Addr} {n m : Nat} {al : AL} {S : List Addr}
def spNumb (K : PySem.W.Frag) (w : World) : Sp := fun vs H Q _ => ∃ (v : V) (W : Wd) (M : Bd) (k : Nat), vs = [v] ∧ Dt H v (rndD (rnds W M k)) ∧ k ≤ 1000 ∧ (st W M k).length ≤ 1000 ∧ ∀ d H1, EX K [] H H1 → H d = none → DictA w H1 d (nums W M k) → Q (.ref d) H1
theorem ok_law_t2_numbers (E : Ev K mg base) : Does P w K mg base L2.CX0 1 (He.ga K "_law_t2_numbers") ["_law_rounds"] (spNumb K w) :=
  E.does0 (k := 0) ix_law_t2_numbers rfl bn_law_t2_numbers sc_law_t2_numbers (fun _ _ _ _ ⟨_, _, _, _, h, _⟩ => by rw [h]; rfl) fun cdv A outer s H vs Q X hr h => by
    obtain ⟨v, W, M, k, rfl, hv, hk, hsl, q⟩ := h
    refine ⟨_, (pss_cons (ps_set (i := 1) sc_law_t2_numbers.nd rfl (by first | exact Or.inl rfl | exact Or.inr rfl) pe_xnew)
      (pss_cons (ps_for PassesOwn.never rfl (pi_range1 (by rfl) (u_range E) (pa_cons (pe_callB call_len_seq (by rfl) (u_len E) b_len (pa_cons (pv 0) pa_nil)) pa_nil)) (pg_name (i := 2) sc_law_t2_numbers.nd rfl (by first | exact Or.inl rfl | exact Or.inr rfl))
        (pss_one (ps_for PassesOwn.never rfl (pi_tup (pe_ix ix_tup (pv 0) (pv 2) (fun _ _ => rfl))) (pg_tupK (K := K) (n := 2) rfl rfl (pgs_cons (pg_name (i := 3) sc_law_t2_numbers.nd rfl (by first | exact Or.inl rfl | exact Or.inr rfl)) (pgs_cons (pg_name (i := 4) sc_law_t2_numbers.nd rfl (by first | exact Or.inl rfl | exact Or.inr rfl)) pgs_nil)))
        (pss_one (ps_xput hr (pv 1) (pv 3) (pe_op op_add (pv 2) pe_int) (by rfl))))))
      (pss_one (ps_ret (pv 1))))), ?_⟩
    obtain ⟨t, us, rfl, ht, hu⟩ : ∃ t us, v = .ref t ∧ H t = some (.tup us) ∧ DtAll H us ((rnds W M k).map lotD) := by cases hv with | tup a b => exact ⟨_, _, rfl, a, b⟩
    have hul := hu.length
    rw [List.length_map, rnds_len] at hul
    intro d H1 hd m1 c1
    have e1 : EX K [] H H1 := Ext.newC hd c1
    refine ⟨_, rfl, t, us, rfl, .inr (.of (e1.tup ht)), us.length, rfl, by omega, by omega, ?_⟩
    refine for_range (fun j σ H5 => ∃ o2 o3 o4, σ = [some (.ref t), some (.ref d), o2, o3, o4] ∧ EX K [] H H5 ∧ DictA w H5 d (nums W M j)) ⟨none, none, none, rfl, e1, DictA.nil m1⟩ ?_ ?_
    · rintro j σ H5 hj ⟨o2, o3, o4, rfl, e5, m5⟩
      have hjk : j < k := by omega
      obtain ⟨cv, hcv, hcd⟩ := hu.get2 (i := j) (k := lotD (lot W (st W M j))) (by rw [List.getElem?_map, rnds_at hjk]; rfl)
      obtain ⟨t2, ws, rfl, hws, hwd⟩ : ∃ t2 ws, cv = .ref t2 ∧ H5 t2 = some (.tup ws) ∧ DtAll H5 ws ((lot W (st W M j)).map pairD) := by
        have := e5.dt hcd
        cases this with | tup a b => exact ⟨_, _, rfl, a, b⟩
      have hwl := hwd.length
      rw [List.length_map] at hwl
      refine ⟨_, rfl, _, rfl, t, us, _, _, rfl, rfl, .of (e5.tup ht), by rw [Int.zero_add]; exact atI_nat hcv, t2, rfl, ⟨ws, .of hws⟩, ?_⟩
      refine for_tup (xs := ws) (fun i σ H6 => ∃ o3 o4, σ = [some (.ref t), some (.ref d), some (.int (0 + (j : Int))), o3, o4] ∧ EX K [] H H6 ∧ EX K [d] H5 H6 ∧ DictA w H6 d (nums W M j ++ numA j ((lot W (st W M j)).take i)))
        ⟨o3, o4, rfl, e5, .refl, by simpa [numA] using m5⟩ (fun i σ H6 _ ⟨_, _, _, _, e, _⟩ => .of (e.tup hws)) ?_ ?_
      · rintro i cv σ H6 hc ⟨o3, o4, rfl, e6, e56, es6, m6, p6⟩
        obtain ⟨kd, hk2, hcd⟩ := hwd.get hc
        obtain ⟨x, hx, rfl⟩ := Option.map_eq_some_iff.mp (by rw [← List.getElem?_map]; exact hk2)
        obtain ⟨tc, y, z, rfl, htc, hy, hz⟩ := pair_tup (e56.dt hcd)
        have hi : i < (lot W (st W M j)).length := (List.getElem?_eq_some_iff.mp hx).1
        have hel := p6.length
        rw [List.length_append] at hel
        unfold numA at hel
        rw [List.length_map, List.length_take] at hel
        have hnl := nums_len (W := W) (M := M) (k := j)
        have hss : (st W M (j + 1)).length ≤ (st W M k).length := by
          have : ∀ a b, a ≤ b → (st W M a).length ≤ (st W M b).length := by
            intro a b hab
            induction b with
            | zero => rw [Nat.le_zero.mp hab]; exact Nat.le_refl _
            | succ b ih =>
              rcases Nat.lt_or_eq_of_le hab with h | rfl
              · refine Nat.le_trans (ih (by omega)) ?_
                show _ ≤ (st W M b ++ lot W (st W M b)).length
                rw [List.length_append]; omega
              · exact Nat.le_refl _
          exact this _ _ (by omega)
        have hln : (st W M (j + 1)).length = (st W M j).length + (lot W (st W M j)).length := by
          show (st W M j ++ lot W (st W M j)).length = _
          rw [List.length_append]
        refine ⟨_, _, rfl, .of htc, rfl, _, _, rfl, _, _, rfl, rfl, ?_⟩
        refine ⟨_, rfl, _, _, rfl, rfl, _, rfl, _, rfl, d, es6, plD x.1, rfl, m6, hy, plD_d, by rw [sizeLine_eq]; omega, fun H7 m7 c7 => ?_⟩
        have e7 : EX K [d] H6 H7 := Ext.refl.dict m6 c7 m7 (.inr (by simp))
        refine ⟨_, _, rfl, e6.then1 e7 (.inl hd), e56.trans e7, ?_⟩
        have := DictA.put m6 p6 (x := .num ((j : Int) + 1)) (show Dt H6 (.int (0 + (j : Int) + 1)) (.num ((j : Int) + 1)) from by rw [show (0 : Int) + (j : Int) + 1 = j + 1 by omega]; exact .int _) m7 c7
        rw [putA_new (nums_new hx), List.append_assoc] at this
        rw [List.take_add_one, hx]
        unfold numA
        rw [List.map_append]
        exact this
      · rintro σ H6 ⟨o3, o4, rfl, e6, e56, m6⟩
        rw [hwl, List.take_length, ← nums_succ] at m6
        exact ⟨_, _, _, rfl, e6, m6⟩
    · rintro σ H5 ⟨o2, o3, o4, rfl, e5, m5⟩
      have h2 : ((us.length : Int)).toNat = k := by omega
      rw [h2] at m5
      exact ⟨_, rfl, q d H5 e5 hd m5⟩
def spSteps (K : PySem.W.Frag) (w : World) : Sp := fun vs H Q _ => ∃ (p c nd : Addr) (n : Nat) (B : BA) (W : Wd) (Z : Hp) (M S F : Bd) (sd : Pl) (loc : D → Pl) (kk e : Nat), vs = [.ref p, .ref B.b, .ref nd] ∧ BedI K w Z H B W M sd [] ∧ Pen H p c n ∧ Z p = none ∧ DictA w H nd (nums W M e) ∧ Done W M e ∧ Grown W loc S F kk ∧ Part W loc S F M ∧ n < 10000000000 ∧ LamX.Tabs (TabK K) H ∧
  ∀ H1, EX K [p] H H1 → LamX.Tabs (TabK K) H1 → Pen H1 p c (n + 1000000) → Q (.bl true) H1
theorem ok_law_t2_steps_right (E : Ev K mg base) : Does P w K mg base L2.CX0 11 (He.ga K "_law_t2_steps_right") ["_law_pen_here", "_law_start", "_law_numbers"] (spSteps K w) :=
  E.does0 (k := 10) ix_law_t2_steps_right rfl bn_law_t2_steps_right sc_law_t2_steps_right (fun _ _ _ _ ⟨_, _, _, _, _, _, _, _, _, _, _, _, _, _, h, _⟩ => by rw [h]; rfl) fun cdv A outer s H vs Q X hr h => by
    obtain ⟨p, c, nd, n, B, W, Z, M, S, F, sd, loc, kk, e, rfl, I, hpen, zp, hnd, hdone, g, pt, hn, hT, q⟩ := h
    refine ⟨_, (pss_cons (ps_set (i := 3) sc_law_t2_steps_right.nd rfl (by first | exact Or.inl rfl | exact Or.inr rfl) (pe_doM0 (pv 1) (c_Bed E) (m_Bed_twin E) (ok_Bed_twin E) (hr.mono (by decide)) pass0))
      (pss_cons (ps_for PassesOwn.never rfl (pi_range2 (by rfl) (u_range E) (pa_cons pe_int (pa_cons (pe_op op_add (pe_op op_mul pe_int (pe_callB call_lenX (by rfl) (u_len E) b_len (pa_cons (pv 2) pa_nil))) pe_int) pa_nil))) (pg_name (i := 4) sc_law_t2_steps_right.nd rfl (by first | exact Or.inl rfl | exact Or.inr rfl))
        (pss_cons (ps_set (i := 5) sc_law_t2_steps_right.nd rfl (by first | exact Or.inl rfl | exact Or.inr rfl) (pe_doM0 (pv 3) (c_Bed E) (m_Bed_may_come E) (ok_Bed_may_come E) (hr.mono (by decide)) pass0))
      (pss_cons (ps_if (pt_cmpR (op_eqD hr.units) (pv 5) (pe_tup pa_nil) (nomark _))
        (pss_one ps_break)
        pss_nil)
      (pss_cons (ps_setLc (i := 7) rfl sc_law_t2_steps_right.nd rfl rfl (by rfl) (pi_tup (pv 5)) (own := [("_law_pair", 6)]) (blkOk_by (N := n_law_t2_steps_right) (sc := defScope s_law_t2_steps_right) (by decide +kernel)) (fun _ _ _ _ _ => (pg_name (i := 6) sc_law_t2_steps_right.nd rfl (by first | exact Or.inl rfl | exact Or.inr rfl))) (fun _ _ _ _ _ => (pts_one (pt_cmpR op_gt (pe_doN (P := P) (w := w) (K := K) (mg := mg) (base := base) rfl rfl rfl rfl rfl (ok_law_draw E) (hr.mono (by decide)) (by rfl) (g_law_draw E) pass0 (pa_cons (pv 0) (pa_cons pe_int pa_nil))) pe_int (nomark _)))) (fun _ _ _ _ _ => (pv 6)))
      (pss_cons (ps_if (pt_cmpR (op_eqD hr.units) (pv 7) (pe_lst pa_nil) (nomark _))
        (pss_one (ps_set (i := 7) sc_law_t2_steps_right.nd rfl (by first | exact Or.inl rfl | exact Or.inr rfl) (pe_lst (pa_cons (pe_do (ok_law_pick E) (hr.mono (by decide)) (by rfl) (g_law_pick E) pass0 (pa_cons (pv 0) (pa_cons (pv 5) pa_nil))) pa_nil))))
        pss_nil)
      (pss_one (ps_for PassesOwn.never rfl (pi_list (pv 7)) (pg_tupK (K := K) (n := 2) rfl rfl (pgs_cons (pg_name (i := 8) sc_law_t2_steps_right.nd rfl (by first | exact Or.inl rfl | exact Or.inr rfl)) (pgs_cons (pg_name (i := 9) sc_law_t2_steps_right.nd rfl (by first | exact Or.inl rfl | exact Or.inr rfl)) pgs_nil)))
        (pss_cons (ps_if (pt_cmpR op_gt (pe_xget2 hr (pv 2) (pv 8) (pe_op op_add (pv 4) pe_int) ⟨rfl, rfl, rfl, rfl⟩) (pv 4) (nomark _))
        (pss_one (ps_ret pe_bl))
        pss_nil)
      (pss_one (ps_expr (pe_doM (pv 3) (c_Bed E) (m_Bed_come E) (ok_Bed_come E) (hr.mono (by decide)) pass0 (pa_cons (pv 8) (pa_cons (pv 9) pa_nil)))))))))))))
      (pss_one (ps_ret pe_bl)))), ?_⟩
    have hwn := I.wn
    refine ⟨_, rfl, B.b, _, _, rfl, I.o, rfl, B, W, Z, M, sd, rfl, I, hT, fun C H1 e1 T1 I1 hb hly hcm _ _ _ => ?_⟩
    obtain ⟨es, hes, hps⟩ := id hnd
    have hel := hps.length
    have hnl := nums_len (W := W) (M := M) (k := e)
    have hsl : (st W M e).length ≤ 100 := by
      have h1 := prp_len (loc := loc) (st_keys (W := W) (k := e) I.nd) (st_prp g.w g.o pt.p)
      have := hwn.len
      omega
    have pen1 := hpen.ext0 e1
    refine ⟨_, rfl, nd, es, rfl, e1.dictE hes (by simp), _, _, rfl, rfl, .inl ⟨by decide, by decide⟩, _, _, rfl, rfl, _, _, rfl, ⟨by decide, by decide, by omega, by omega⟩, ?_⟩
    refine for_range (fun t σ H5 => ∃ (X : Bd) (o4 o5 o6 o7 o8 o9 : Option V), σ = [some (.ref p), some (.ref B.b), some (.ref nd), some (.ref C.b), o4, o5, o6, o7, o8, o9] ∧ EX K [p] H H5 ∧ Pen H5 p c (n + 200 * t) ∧ BedI K w Z H5 C W X sd [] ∧ Sub M X ∧ Sub X (st W M t) ∧ Prp W loc X)
      ⟨M, none, none, none, none, none, none, rfl, e1.nil, pen1, I1, Sub.refl _, Sub.refl _, pt.p⟩ ?_ ?_
    · rintro t σ H5 ht ⟨X', o4, o5, o6, o7, o8, o9, rfl, e5, p5, I5, hMX, hXs, hXp⟩
      have hXl : X'.length ≤ 100 := by
        have h1 := prp_len I5.nd hXp
        have := hwn.len
        omega
      have hml := may_lot g.w g.o hXp
      have hlp := lot_prp g.w g.o hXp
      have hll : (lot W X').length ≤ 100 := by
        have h1 := prp_len (M := lot W X') (by rw [lot_keys]; exact fr_nodup _ _) hlp
        have := hwn.len
        omega
      have ht302 : t ≤ 302 := by omega
      refine ⟨_, rfl, C.b, _, _, rfl, I5.o, rfl, C, W, Z, X', sd, rfl, I5, fun tm H6 e6 htm => ?_⟩
      rw [hml] at htm
      refine ⟨_, rfl, Nat.zero_le _, fun te hte => ?_⟩
      have e7 : EX K [] H6 (upd H6 te (.tup [])) := Ext.new hte
      refine eqD3 (e7.dt htm) (Dt.new (ks := []) hte .nil) (lotD_lq hwn lot_order) (lq_tup (m := 0) fun k hk => by cases hk) (by decide) (by decide) ⟨_, rfl, ?_⟩
      have htm7 := e7.dt htm
      have e57 := e6.trans e7
      clear e7 htm hte
      generalize upd H6 te (.tup []) = H7 at *
      by_cases hlot : lot W X' = []
      · rw [show decide (lotD (lot W X') = NestedKey.tup []) = true from decide_eq_true (lot_inj.mpr hlot)]
        have e07 := e5.trans e57.nil
        exact iteT (q H7 e07 (e07.tabs hT) ((p5.mono (by omega)).ext0 e57))
      · rw [show decide (lotD (lot W X') = NestedKey.tup []) = false from decide_eq_false fun z => hlot (lot_inj.mp z)]
        refine iteF ?_
        obtain ⟨us, hus, hud⟩ : ∃ us, H7 tm = some (.tup us) ∧ DtAll H7 us ((lot W X').map pairD) := by cases htm7 with | tup a b => exact ⟨_, a, b⟩
        have hul := hud.length
        rw [List.length_map] at hul
        have p7 := p5.ext0 e57
        have I7 := I5.ext0 e57
        refine ⟨_, rfl, tm, rfl, ⟨us, .of hus⟩, fun l hl => ?_⟩
        have npl : p ≠ l := by obtain ⟨cs, _, dd, k', f, g1, g2, r⟩ := p7; exact ne_of_none g1 hl
        have e8 : EX K [] H7 (upd H7 l (.lst [])) := Ext.new hl
        refine wk_tup (xs := us) (fun i H8 => ∃ acc, ∃ sel : List (Pl × D), EX K [p] H7 H8 ∧ Pen H8 p c (n + 200 * t + i) ∧ H8 l = some (.lst acc) ∧ DtAll H8 acc (sel.map pairD) ∧ sel.Sublist ((lot W X').take i))
          ⟨[], [], e8.nil, p7.ext0 e8, upd_same, .nil, .slnil⟩ (fun i H8 _ ⟨_, _, e, _⟩ => .of (e.tup hus)) ?_ ?_
        · rintro i cv H8 hc ⟨acc, sel, e8, p8, hl8, ha8, hsel⟩
          obtain ⟨kd, hk2, hcd⟩ := hud.get hc
          obtain ⟨x, hx, rfl⟩ := Option.map_eq_some_iff.mp (by rw [← List.getElem?_map]; exact hk2)
          have hi : i < (lot W X').length := (List.getElem?_eq_some_iff.mp hx).1
          have hsl2 := hsel.length_le
          have hal := ha8.length
          rw [List.length_map] at hal
          rw [List.length_take] at hsl2
          refine ⟨rfl, _, rfl, p, c, 3, n + 200 * t + i, rfl, p8, by omega, by omega, by omega, fun r H9 e9 p9 r0 r3 => ?_⟩
          have hl9 := p8.at_ e9 hl8
          refine ⟨_, _, rfl, rfl, _, rfl, ?_⟩
          by_cases hr : 0 < r
          · rw [show decide (r > 0) = true from decide_eq_true hr]
            have e10 : EX K [l] H9 (upd H9 l (.lst (acc ++ [cv]))) := Ext.refl.lst hl9 (.inr (by simp))
            have p10 := p9.chg (a := l) (Chg.upd (o := .lst (acc ++ [cv]))) npl (by obtain ⟨cs, _, dd, k', f, g1, g2, r⟩ := p7; exact ne_of_none g2 hl)
            refine iteT ⟨_, rfl, acc, hl9, by rw [sizeLine_eq]; omega, acc ++ [cv], sel ++ [x], (e8.trans e9).then1 e10 (.inl hl), p10.mono (by omega), upd_same, ?_, ?_⟩
            · rw [List.map_append]
              exact (e10.dts (e9.dts ha8)).app (.cons (e10.dt (e9.dt (e8.dt hcd))) .nil)
            · rw [List.take_add_one, hx]
              exact hsel.append (List.Sublist.refl _)
          · rw [show decide (r > 0) = false from decide_eq_false hr]
            refine iteF ⟨acc, sel, e8.trans e9, p9.mono (by omega), hl9, e9.dts ha8, ?_⟩
            rw [List.take_add_one, hx]
            exact hsel.trans (List.sublist_append_left _ _)
        · rintro H8 ⟨acc, sel, e8, p8, hl8, ha8, hsel⟩
          rw [hul, List.take_length] at hsel
          rw [hul] at p8
          have hal := ha8.length
          rw [List.length_map] at hal
          have hsl2 := hsel.length_le
          have hlq : ∀ k' ∈ sel.map pairD, Lq 7 k' := fun k' hk' => by
            obtain ⟨y, hy, rfl⟩ := List.mem_map.mp hk'
            exact pairD_lq hwn (lot_order y (hsel.subset hy))
          refine ⟨_, rfl, Nat.zero_le _, fun e0 he0 => ?_⟩
          have e9 : EX K [] H8 (upd H8 e0 (.lst [])) := Ext.new he0
          refine eqLL (e9.at0 hl8) upd_same (e9.dts ha8) .nil hlq (n := 0) (fun _ z => by cases z) (by decide) (by decide) ⟨_, rfl, ?_⟩
          have hl9 := e9.at0 hl8
          have ha9 := e9.dts ha8
          have p9 := p8.ext0 e9
          have e79 := e8.trans e9.nil
          clear e9
          generalize upd H8 e0 (.lst []) = H9 at *
          by_cases hsn : sel = []
          case' pos =>
            rw [show decide (sel.map pairD = []) = true from decide_eq_true (map_nil.mpr hsn)]
            refine iteT ⟨_, rfl, _, rfl, p, c, tm, us, _, rfl, p9, .inr (.of (e79.tup hus)), fun z => hlot ?_, by omega, by omega, fun v2 H10 hv2 e10 p10 => ⟨sz1, fun lq hlq2 => ?_⟩⟩
            · rw [z] at hul; exact List.length_eq_zero_iff.mp hul.symm
            obtain ⟨j, hj⟩ := List.mem_iff_getElem?.mp hv2
            obtain ⟨k2, hk2, hd2⟩ := hud.get hj
            obtain ⟨x, hx, rfl⟩ := Option.map_eq_some_iff.mp (by rw [← List.getElem?_map]; exact hk2)
            have e11 : EX K [] H10 (upd H10 lq (.lst [v2])) := Ext.new hlq2
            obtain ⟨sel2, hsel2, hs2⟩ : ∃ sel2, sel2 = [x] ∧ sel2.Sublist (lot W X') := ⟨_, rfl, List.singleton_sublist.mpr (List.mem_of_getElem? hx)⟩
            obtain ⟨acc2, hacc2⟩ : ∃ acc2, acc2 = [v2] := ⟨_, rfl⟩
            have ha11 : DtAll (upd H10 lq (.lst [v2])) acc2 (sel2.map pairD) := by
              rw [hacc2, hsel2]
              exact .cons (e11.dt ((e79.trans e10).dt hd2)) .nil
            have hl11 : (upd H10 lq (.lst [v2])) lq = some (.lst acc2) := by rw [hacc2]; exact upd_same
            have e711 : EX K [p] H7 (upd H10 lq (.lst [v2])) := (e79.trans e10).trans e11.nil
            have p11 : Pen (upd H10 lq (.lst [v2])) p c (n + 200 * t + 102) := (p10.ext0 e11).mono (by omega)
            have hq0 : H7 lq = none := (e79.trans e10).fresh hlq2
            clear e11
            generalize upd H10 lq (.lst [v2]) = H11 at *
          case' neg =>
            rw [show decide (sel.map pairD = []) = false from decide_eq_false fun z => hsn (map_nil.mp z)]
            refine iteF ?_
            obtain ⟨sel2, hsel2, hs2⟩ : ∃ sel2, sel2 = sel ∧ sel2.Sublist (lot W X') := ⟨_, rfl, hsel⟩
            obtain ⟨acc2, hacc2⟩ : ∃ acc2, acc2 = acc := ⟨_, rfl⟩
            obtain ⟨lq, hlq2⟩ : ∃ lq, lq = l := ⟨_, rfl⟩
            obtain ⟨H11, hH11⟩ : ∃ H11, H11 = H9 := ⟨_, rfl⟩
            rw [← hlq2, ← hH11]
            have ha11 : DtAll H11 acc2 (sel2.map pairD) := by rw [hacc2, hsel2, hH11]; exact ha9
            have hl11 : H11 lq = some (.lst acc2) := by rw [hacc2, hlq2, hH11]; exact hl9
            have e711 : EX K [p] H7 H11 := by rw [hH11]; exact e79
            have p11 : Pen H11 p c (n + 200 * t + 102) := by rw [hH11]; exact p9.mono (by omega)
            have hq0 : H7 lq = none := by rw [hlq2]; exact hl
          all_goals
            have hal2 := ha11.length
            rw [List.length_map] at hal2
            have hsl3 := hs2.length_le
            have I11 := I7.ext e711 (by simp; exact zp) (by simp; exact (I7.neP p7).1) (by simp; exact (I7.neP p7).2.1) (by simp; exact (I7.neP p7).2.2)
            have nlq : lq ≠ C.ly ∧ lq ≠ C.cm := by
              obtain ⟨o1, h1⟩ := I7.ly.some
              obtain ⟨al, h2⟩ := I7.cmA
              obtain ⟨o2, h2⟩ := h2.some
              exact ⟨fun z => ne_of_none h1 hq0 z.symm, fun z => ne_of_none h2 hq0 z.symm⟩
            have e011 : EX K [p] H H11 := e5.trans ((e57.nil).trans e711)
            refine ⟨_, rfl, lq, rfl, ⟨acc2, .of hl11⟩, ?_⟩
            refine for_list (xs := acc2) (fun i σ H12 => ∃ o8 o9, σ = [some (.ref p), some (.ref B.b), some (.ref nd), some (.ref C.b), some (.int (1 + (t : Int))), some (.ref tm), o6, some (.ref lq), o8, o9] ∧ EX K [C.ly, C.cm] H11 H12 ∧ BedI K w Z H12 C W (X' ++ sel2.take i) sd [])
              ⟨o8, o9, rfl, .refl, by rw [List.take_zero, List.append_nil]; exact I11⟩ (fun i σ H12 _ ⟨_, _, _, e, _⟩ => .of (e.at_ hl11 (by simp; exact nlq))) ?_ ?_
            · rintro i cv σ H12 hc ⟨o8, o9, rfl, e12, I12⟩
              obtain ⟨kd, hk2, hcd⟩ := ha11.get hc
              obtain ⟨x, hx, rfl⟩ := Option.map_eq_some_iff.mp (by rw [← List.getElem?_map]; exact hk2)
              obtain ⟨tc, y, z, rfl, htc, hy, hz⟩ := pair_tup (e12.dt hcd)
              obtain ⟨f1, f2, f3, f4⟩ := sel_fits hwn.ok hs2 hx
              have hxm : (x.1, x.2) ∈ may W X' := by rw [hml]; exact f4
              obtain ⟨_, ii, hii, hie, hil⟩ := g.step pt hMX hXs hXp hdone hxm
              have hget := nums_get hil hie
              have e012 : EX K [p, C.ly, C.cm] H H12 := (e011.mono (by simp)).trans (e12.mono (by simp))
              have hnd12 : DictE w H12 nd es := e012.dictE hes (by
                have a1 := (hpen.neD hnd).1
                have a2 : nd ≠ C.ly := by obtain ⟨ep, h⟩ := hes.ob; exact ne_of_none h hly
                have a3 : nd ≠ C.cm := by obtain ⟨ep, h⟩ := hes.ob; exact ne_of_none h hcm
                simp [a1, a2, a3])
              obtain ⟨vv, hv1, hv2⟩ := hps.some_ hget
              have hv3 := dt_int hv2
              refine ⟨_, _, rfl, .of htc, rfl, _, _, rfl, _, _, rfl, rfl, ?_⟩
              refine ⟨_, rfl, nd, rfl, ⟨es, hnd12⟩, _, rfl, _, rfl, _, _, rfl, rfl, es, plD x.1, hnd12, hy, plD_d, ?_⟩
              rw [hv1, hv3]
              refine ⟨_, rfl, _, _, rfl, rfl, _, rfl, ?_⟩
              rw [show decide ((ii : Int) + 1 > 1 + (t : Int)) = false from decide_eq_false (by omega)]
              refine iteF ?_
              have e012' : EX K [p] H H12 := e011.then_ e12 (by simp; exact ⟨.inl hly, .inl hcm⟩)
              refine ⟨_, rfl, C.b, _, _, rfl, I12.o, rfl, _, rfl, _, rfl, C, y, z, x.1, x.2, W, Z, _, sd, rfl, I12, hy, e012'.tabs hT, hz, f3, f1, ?_, f2, fun H13 e13 T13 I13 => ?_⟩
              · rw [List.length_append, List.length_take]; omega
              · refine ⟨_, _, rfl, e12.trans e13, ?_⟩
                rw [List.take_add_one, hx, ← List.append_assoc]
                exact I13
            · rintro σ H12 ⟨o8, o9, rfl, e12, I12⟩
              rw [hal2, List.take_length] at I12
              obtain ⟨s1, s2, s3⟩ := sel_sub g pt hMX hXs hXp hdone hs2
              have e012' : EX K [p] H H12 := e011.then_ e12 (by simp; exact ⟨.inl hly, .inl hcm⟩)
              refine ⟨X' ++ sel2, _, _, _, _, _, _, rfl, e012', (p11.extD e12 (w := w) fun b hb => ?_).mono (by omega), I12, s1, s2, s3⟩
              simp only [List.mem_cons, List.not_mem_nil, or_false] at hb
              rcases hb with rfl | rfl
              · exact ⟨_, I11.ly⟩
              · exact I11.cmA
    · rintro σ H5 ⟨X', o4, o5, o6, o7, o8, o9, rfl, e5, p5, I5, hMX, hXs, hXp⟩
      exact q H5 e5 (e5.tabs hT) (p5.mono (by omega))
end
end TR
/-! text MR -/
set_option Elab.async false
set_option linter.all false
set_option maxRecDepth 100000
set_option maxHeartbeats 4000000
/-! repr of a datum tells its serial number -/
namespace TR
open PySem PySem.Spec PyProof.Rows L2 VD
def isDg (c : Nat) : Bool := decide (48 ≤ c ∧ c ≤ 57)
def dg (l : List Nat) : List Nat := l.filter isDg
abbrev rc (q c : Nat) : List Nat := PySem.Builtin.Str.reprChar q c
theorem dg_app (a b : List Nat) : dg (a ++ b) = dg a ++ dg b := List.filter_append _ _
theorem numL_dg {n c : Nat} (h : c ∈ TL.numL n) : 48 ≤ c ∧ c ≤ 57 := by
  by_cases q : 48 ≤ c ∧ c ≤ 57
  · exact q
  · exact absurd h (TL.numL_free (by omega))
theorem dg_num (n : Nat) : dg (TL.numL n) = TL.numL n := List.filter_eq_self.mpr fun c hc => decide_eq_true (numL_dg hc)
theorem char_same : ∀ q ∈ [34, 39], ∀ c ∈ [48, 49, 50, 51, 52, 53, 54, 55, 56, 57, 103], rc q c = [c] := by decide +kernel
theorem quote_two (x : Str) : reprQuote x ∈ [34, 39] := by
  unfold reprQuote
  split <;> simp
theorem fold_app (q : Nat) : ∀ (l : List Nat) (acc : Array Nat), (l.foldl (fun out c => out ++ (rc q c).toArray) acc).toList = acc.toList ++ l.flatMap (rc q)
  | [], acc => by simp
  | c :: l, acc => by
    rw [List.foldl_cons, fold_app q l, List.flatMap_cons, Array.toList_append]
    simp
theorem tl_repr (x : Str) : TL.tl (reprText x) = [reprQuote x] ++ (TL.tl x).flatMap (rc (reprQuote x)) ++ [reprQuote x] := by
  unfold reprText TL.tl
  simp only [Array.toList_push]
  rw [← Array.foldl_toList]
  have := fold_app (reprQuote x) x.cps.toList #[reprQuote x]
  rw [show (x.cps.toList.foldl (fun out c => out ++ (PySem.Builtin.Str.reprChar (reprQuote x) c).toArray) #[reprQuote x]).toList = _ from this]
theorem flat_same {f : Nat → List Nat} : ∀ {l : List Nat}, (∀ c ∈ l, f c = [c]) → l.flatMap f = l
  | [], _ => rfl
  | c :: l, h => by
    rw [List.flatMap_cons, h c List.mem_cons_self, flat_same fun x hx => h x (List.mem_cons_of_mem _ hx)]; rfl
theorem tl_g : TL.tl ("g" : Str) = [103] := by decide +kernel
theorem tl_gTx (n : Nat) : TL.tl (gTx n) = 103 :: TL.numL n := by
  unfold gTx
  rw [TL.tl_append, TL.tl_num, tl_g]; rfl
theorem tl_repr_gTx (n : Nat) : TL.tl (reprText (gTx n)) = [reprQuote (gTx n)] ++ (103 :: TL.numL n) ++ [reprQuote (gTx n)] := by
  rw [tl_repr, tl_gTx, flat_same]
  intro c hc
  refine char_same _ (quote_two _) c ?_
  rcases List.mem_cons.mp hc with rfl | hc
  · simp
  · have := numL_dg hc
    simp only [List.mem_cons, List.not_mem_nil, or_false]
    omega
theorem tl_one (x : Str) : TL.tl (tupleText [x]) = 40 :: TL.tl x ++ [44, 41] := by
  unfold tupleText
  rw [TL.tl_append, TL.tl_append]
  show TL.tl ("(" : Str) ++ TL.tl x ++ TL.tl (",)" : Str) = _
  rw [show TL.tl ("(" : Str) = [40] by decide +kernel, show TL.tl (",)" : Str) = [44, 41] by decide +kernel]; rfl
theorem tl_two (x : Str) : TL.tl (tupleText [x, "None"]) = 40 :: TL.tl x ++ [44, 32, 78, 111, 110, 101, 41] := by
  unfold tupleText
  rw [TL.tl_append, TL.tl_append]
  show TL.tl ("(" : Str) ++ TL.tl (x ++ (", " : Str) ++ ("None" : Str)) ++ TL.tl (")" : Str) = _
  rw [TL.tl_append, TL.tl_append, show TL.tl ("(" : Str) = [40] by decide +kernel, show TL.tl (")" : Str) = [41] by decide +kernel, show TL.tl (", " : Str) = [44, 32] by decide +kernel, show TL.tl ("None" : Str) = [78, 111, 110, 101] by decide +kernel]
  simp
theorem Dm.shown {n k : Nat} {d : D} (h : Dm n k d) : dg (TL.tl d.data.shown) = TL.numL n ∧ (TL.tl d.data.shown).length ≤ (TL.numL n).length + 3 + 8 * k := by
  induction h with
  | int =>
    have e : TL.tl (NestedKey.num (n : Int)).data.shown = TL.numL n := by
      simp only [NestedKey.data, PyData.shown]
      exact TL.tl_num n
    rw [e, dg_num]
    exact ⟨rfl, by omega⟩
  | txt =>
    have e : TL.tl (NestedKey.text (gTx n)).data.shown = [reprQuote (gTx n)] ++ (103 :: TL.numL n) ++ [reprQuote (gTx n)] := by
      simp only [NestedKey.data, PyData.shown]
      exact tl_repr_gTx n
    rw [e, dg_app, dg_app]
    have hq := quote_two (gTx n)
    have hq2 : dg [reprQuote (gTx n)] = [] := by
      simp only [List.mem_cons, List.not_mem_nil, or_false] at hq
      rcases hq with h | h <;> rw [h] <;> rfl
    have hg : dg (103 :: TL.numL n) = TL.numL n := by
      rw [show (103 :: TL.numL n) = [103] ++ TL.numL n from rfl, dg_app, dg_num]; rfl
    rw [hq2, hg]
    refine ⟨by simp, by simp⟩
  | @one k d h ih =>
    have e : (NestedKey.tup [d]).data.shown = tupleText [d.data.shown] := by simp only [NestedKey.data, NestedKey.datas, PyData.shown, PyData.shownAll]
    rw [e, tl_one]
    refine ⟨?_, ?_⟩
    · rw [show (40 :: TL.tl d.data.shown ++ [44, 41]) = [40] ++ TL.tl d.data.shown ++ [44, 41] from rfl, dg_app, dg_app, ih.1]
      rw [show dg [40] = [] from rfl, show dg [44, 41] = [] from rfl]; simp
    · have := ih.2
      simp only [List.length_append, List.length_cons, List.length_nil]; omega
  | @two k d h ih =>
    have e : (NestedKey.tup [d, .none]).data.shown = tupleText [d.data.shown, "None"] := by simp only [NestedKey.data, NestedKey.datas, PyData.shown, PyData.shownAll]
    rw [e, tl_two]
    refine ⟨?_, ?_⟩
    · rw [show (40 :: TL.tl d.data.shown ++ [44, 32, 78, 111, 110, 101, 41]) = [40] ++ TL.tl d.data.shown ++ [44, 32, 78, 111, 110, 101, 41] from rfl, dg_app, dg_app, ih.1]
      rw [show dg [40] = [] from rfl, show dg [44, 32, 78, 111, 110, 101, 41] = [] from rfl]; simp
    · have := ih.2
      simp only [List.length_append, List.length_cons, List.length_nil]; omega
theorem Dm.serial {n m k j : Nat} {d e : D} (h : Dm n k d) (g : Dm m j e) (q : d.data.shown.cps.toList = e.data.shown.cps.toList) : n = m := by
  have h1 := h.shown.1
  have h2 := g.shown.1
  unfold TL.tl at h1 h2
  rw [q, h2] at h1
  exact (TL.numL_inj h1).symm
theorem Dm.ne {n k : Nat} {d : D} (h : Dm n k d) : d ≠ .none := by
  intro z
  cases h with
  | int => cases z
  | txt => cases z
  | one _ => cases z
  | two _ => cases z
theorem Dm.shw {n k : Nat} {d : D} (h : Dm n k d) (hn : n < 1000000) (hk : k ≤ 6) : Shw d := by
  have hl : d.data.shown.length ≤ 1000 := by
    rw [TL.len_tl]
    have h1 := h.shown.2
    have h2 := TL.numL_len (n := n) (k := 6) (by omega) (by omega)
    omega
  have hs : d.data.showable = true := by
    clear hl hk
    induction h with
    | int =>
      simp only [NestedKey.data, PyData.showable]
      exact decide_eq_true (log_lt hn)
    | txt => simp [NestedKey.data, PyData.showable]
    | one h ih => simp only [NestedKey.data, NestedKey.datas, PyData.showable, PyData.showableAll, ih]; rfl
    | two h ih => simp only [NestedKey.data, NestedKey.datas, PyData.showable, PyData.showableAll, ih]; rfl
  exact ⟨hs, PyData.hasDict_of_canLay _ h.ly, hl, by have := h.depth; omega, h.ne⟩
end TR
/-! text FS -/
set_option Elab.async false
set_option linter.all false
set_option maxRecDepth 100000
set_option maxHeartbeats 4000000
set_option pp.maxSteps 300
set_option pp.deepTerms false
/-! worlds: outer glues, late rivals -/
namespace TR
open PySem PySem.Spec PyProof.Rows L2 VD
structure Gok (g : Gu) : Prop where
  n : Nice g.1
  d : g.1.depth ≤ 6
  lo : 0 ≤ g.2
  hi : g.2 ≤ 2
def keyD (c : Pl) (s : Nat) : D := .tup [plD c, .num s]
theorem keyD_inj {c c' : Pl} {s s' : Nat} (h : keyD c s = keyD c' s') : c = c' ∧ s = s' := by
  unfold keyD at h
  injection h with h
  injection h with h1 h
  injection h with h2 h
  injection h2 with h2
  exact ⟨plD_inj h1, by omega⟩
theorem keyD_d {c : Pl} {s : Nat} : (keyD c s).depth ≤ 8 := by simp [keyD, plD, NestedKey.depth, NestedKey.depthAll]
theorem gok_non : Gok (.none, 0) := ⟨nice_non, by simp [NestedKey.depth], by simp, by simp⟩
theorem gok_x : Gok (.text "x", 0) := ⟨nice_x, by simp [NestedKey.depth], by simp, by simp⟩
theorem gok_num {i j : Int} (h0 : 0 ≤ j) (h2 : j ≤ 2) : Gok (.num i, j) := ⟨nice_num i, by simp [NestedKey.depth], h0, h2⟩
/-- the glues of the edges and sides, while they are made -/
structure GluI (w : World) (H : Hp) (d : Addr) (al : AL) (n : Nat) : Prop where
  da : DictA w H d al
  ok : ∀ x ∈ al, ∃ c s g, s < 4 ∧ x = (keyD c s, glD g) ∧ Gok g
  len : al.length ≤ n
section
variable {P : Program} {w : World} {K : PySem.W.Frag} {mg : Str → Option Value} {base : Heap} {Z H H1 H2 : Hp} {B : BA} {W : Wd} {M M' : Bd} {sd : Pl} {bad : List Pl} {o d p c : Addr} {n m : Nat} {al : AL} {S : List Addr}
theorem GluI.ext (h : GluI w H d al n) (e : EX K S H H1) (hd : d ∉ S) : GluI w H1 d al n := ⟨h.da.ext e hd, h.ok, h.len⟩
theorem GluI.get (h : GluI w H d al n) {q : Pl} {s : Nat} {x : D} (e : lkA al (keyD q s) = some x) : ∃ g, x = glD g ∧ Gok g := by
  obtain ⟨c, s', g, _, e2, ok⟩ := h.ok _ (lkA_mem e)
  exact ⟨g, (Prod.mk.inj e2).2, ok⟩
theorem GluI.put (h : GluI w H d al n) {es : Es} {y v : V} {q : Pl} {s : Nat} {g : Gu} (hes : DictE w H d es) (hps : Ps H es al) (hs : s < 4) (hv : Dt H v (glD g)) (ok : Gok g) (m2 : DictE w H1 d (putE es (keyD q s) y v)) (c : Chg d H H1) : EX K [d] H H1 ∧ GluI w H1 d (putA al (keyD q s) (glD g)) (n + 1) := by
  refine ⟨Ext.refl.dict hes c m2 (.inr (by simp)), DictA.put hes hps hv m2 c, fun x hx => ?_, ?_⟩
  · unfold putA at hx
    split at hx
    · obtain ⟨y, hy, rfl⟩ := List.mem_map.mp hx
      obtain ⟨c', s', g', a, b, k⟩ := h.ok y hy
      by_cases e : y.1 = keyD q s
      · rw [if_pos e]; exact ⟨q, s, g, hs, by rw [e], ok⟩
      · rw [if_neg e]; exact ⟨c', s', g', a, b, k⟩
    · rcases List.mem_append.mp hx with hx | hx
      · exact h.ok x hx
      · exact ⟨q, s, g, hs, List.mem_singleton.mp hx, ok⟩
  · have := h.len
    unfold putA
    split
    · rw [List.length_map]; omega
    · rw [List.length_append]; simp; omega
theorem lk_mono {k k' x y : D} (h : lkA al k' = some y) (hk : k' ≠ k) : lkA (putA al k x) k' = some y := by rw [lkA_put, if_neg hk]; exact h
def spOuter (K : PySem.W.Frag) : Sp := fun vs H Q _ => ∃ (p c : Addr) (m n : Nat), vs = [.ref p, .int m] ∧ Pen H p c n ∧ n < 100000000000 ∧
  ∀ v H1 g, EX K [p] H H1 → Pen H1 p c (n + 3) → Dt H1 v (glD g) → Gok g → (m = 0 → g.2 = 0) → Q v H1
theorem ok_law_t2_outer_glue (E : Ev K mg base) : Does P w K mg base L2.CX0 2 (He.ga K "_law_t2_outer_glue") ["_law_pen_here", "_law_mixture"] (spOuter K) :=
  E.does0 (k := 1) ix_law_t2_outer_glue rfl bn_law_t2_outer_glue sc_law_t2_outer_glue (fun _ _ _ _ ⟨_, _, _, _, h, _⟩ => by rw [h]; rfl) fun cdv A outer s H vs Q X hr h => by
    obtain ⟨p, c, m, n, rfl, hp, hn, q⟩ := h
    refine ⟨_, (pss_cons (ps_set (i := 2) sc_law_t2_outer_glue.nd rfl (by first | exact Or.inl rfl | exact Or.inr rfl) (pe_do (ok_law_draw E) (hr.mono (by decide)) (by rfl) (g_law_draw E) pass0 (pa_cons (pv 0) (pa_cons pe_int pa_nil))))
      (pss_cons (ps_if (PW.pt (pw_and (pt_cmpR op_eq (pv 2) pe_int (nomark _)) (pw_and1 (pt_cmpR op_gt (pv 1) pe_int (nomark _)))))
        (pss_one (ps_ret (pe_tup (pa_cons (pe_do (ok_law_draw E) (hr.mono (by decide)) (by rfl) (g_law_draw E) pass0 (pa_cons (pv 0) (pa_cons pe_int pa_nil))) (pa_cons (pe_op op_add pe_int (pe_do (ok_law_draw E) (hr.mono (by decide)) (by rfl) (g_law_draw E) pass0 (pa_cons (pv 0) (pa_cons pe_int pa_nil)))) pa_nil)))))
        pss_nil)
      (pss_one (ps_ret (pe_ix ix_list (pe_lst (pa_cons (pe_tup (pa_cons pe_non (pa_cons pe_int pa_nil))) (pa_cons (pe_tup (pa_cons pe_non (pa_cons pe_int pa_nil))) (pa_cons (pe_tup (pa_cons pe_str (pa_cons pe_int pa_nil))) (pa_cons (pe_tup (pa_cons pe_int (pa_cons pe_int pa_nil))) pa_nil))))) (pe_op op_mod (pe_callTy call_int1 (by rfl) (u_int E) b_int (pa_cons (pv 2) pa_nil)) pe_int) (fun _ _ => rfl)))))), ?_⟩
    refine ⟨_, rfl, p, c, 8, n, rfl, hp, by omega, by omega, by omega, fun r H1 e1 p1 r0 r8 => ?_⟩
    have rest : ∀ r : Int, 0 ≤ r → ∀ (Q' : VK), (∀ v H1' g, EX K [] H1 H1' → Dt H1' v (glD g) → Gok g → g.2 = 0 → Q' v H1') →
        ∀ t1, H1 t1 = none → ∀ t2, (upd H1 t1 (.tup [.non, .int 0])) t2 = none → ∀ t3, (upd (upd H1 t1 (.tup [.non, .int 0])) t2 (.tup [.non, .int 0])) t3 = none → ∀ t4, (upd (upd (upd H1 t1 (.tup [.non, .int 0])) t2 (.tup [.non, .int 0])) t3 (.tup [.str "x", .int 0])) t4 = none →
        ∀ l, (upd (upd (upd (upd H1 t1 (.tup [.non, .int 0])) t2 (.tup [.non, .int 0])) t3 (.tup [.str "x", .int 0])) t4 (.tup [.int 7, .int 0])) l = none →
        ∃ xs v, (upd (upd (upd (upd (upd H1 t1 (.tup [.non, .int 0])) t2 (.tup [.non, .int 0])) t3 (.tup [.str "x", .int 0])) t4 (.tup [.int 7, .int 0])) l (.lst [.ref t1, .ref t2, .ref t3, .ref t4])) l = some (.lst xs) ∧ atI xs (r % 4) = some v ∧
          Q' v (upd (upd (upd (upd (upd H1 t1 (.tup [.non, .int 0])) t2 (.tup [.non, .int 0])) t3 (.tup [.str "x", .int 0])) t4 (.tup [.int 7, .int 0])) l (.lst [.ref t1, .ref t2, .ref t3, .ref t4])) := by
      intro r r0 Q' hq t1 h1 t2 h2 t3 h3 t4 h4 l hl
      have a1 : EX K [] H1 _ := Ext.new (o := .tup [.non, .int 0]) h1
      have a2 : EX K [] _ _ := Ext.new (o := .tup [.non, .int 0]) h2
      have a3 : EX K [] _ _ := Ext.new (o := .tup [.str "x", .int 0]) h3
      have a4 : EX K [] _ _ := Ext.new (o := .tup [.int 7, .int 0]) h4
      have a5 : EX K [] _ _ := Ext.new (o := .lst [.ref t1, .ref t2, .ref t3, .ref t4]) hl
      have d1 := (((a2.trans a3).trans a4).trans a5).dt (Dt.new (ks := [.none, .num 0]) h1 (.cons .non (.cons (.int _) .nil)))
      have d2 := ((a3.trans a4).trans a5).dt (Dt.new (ks := [.none, .num 0]) h2 (.cons .non (.cons (.int _) .nil)))
      have d3 := (a4.trans a5).dt (Dt.new (ks := [.text "x", .num 0]) h3 (.cons (.str _) (.cons (.int _) .nil)))
      have d4 := a5.dt (Dt.new (ks := [.num 7, .num 0]) h4 (.cons (.int _) (.cons (.int _) .nil)))
      have ea := (((a1.trans a2).trans a3).trans a4).trans a5
      have hr4 := Int.emod_nonneg r (show (4 : Int) ≠ 0 by decide)
      have hr5 := Int.emod_lt_of_pos r (show (0 : Int) < 4 by decide)
      obtain ⟨j, hj⟩ : ∃ j : Nat, r % 4 = j := ⟨(r % 4).toNat, by omega⟩
      rw [hj]
      have hj4 : j < 4 := by omega
      match j, hj4 with
      | 0, _ => exact ⟨_, _, upd_same, atI_nat (j := 0) rfl, hq _ _ (.none, 0) ea d1 gok_non rfl⟩
      | 1, _ => exact ⟨_, _, upd_same, atI_nat (j := 1) rfl, hq _ _ (.none, 0) ea d2 gok_non rfl⟩
      | 2, _ => exact ⟨_, _, upd_same, atI_nat (j := 2) rfl, hq _ _ (.text "x", 0) ea d3 gok_x rfl⟩
      | 3, _ => exact ⟨_, _, upd_same, atI_nat (j := 3) rfl, hq _ _ (.num 7, 0) ea d4 (gok_num (by omega) (by omega)) rfl⟩
    have last : ∀ v H1' g, EX K [] H1 H1' → Dt H1' v (glD g) → Gok g → g.2 = 0 → Q v H1' := fun v H1' g e hd ok h0 => q v H1' g (e1.trans e.nil) ((p1.mono (by omega)).ext0 e) hd ok fun _ => h0
    refine ⟨_, rfl, rfl, _, rfl, ?_⟩
    by_cases hr : r = 0
    · rw [show decide (V.int r = V.int 0) = true from decide_eq_true (by rw [hr])]
      refine iteT ⟨_, rfl, _, _, rfl, rfl, _, rfl, ?_⟩
      by_cases hm : 0 < (m : Int)
      · rw [show decide ((m : Int) > 0) = true from decide_eq_true hm]
        refine iteT ?_
        refine ⟨_, rfl, p, c, 3, n + 1, rfl, p1, by omega, by omega, by omega, fun r2 H2 e2 p2 r20 r23 => ?_⟩
        refine ⟨_, rfl, p, c, 2, n + 2, rfl, p2, by omega, by omega, by omega, fun r3 H3 e3 p3 r30 r32 => ?_⟩
        refine ⟨_, _, rfl, rfl, sz2, fun t ht => ?_⟩
        have e4 : EX K [] H3 (upd H3 t (.tup [.int r2, .int (1 + r3)])) := Ext.new ht
        exact q _ _ (.num r2, 1 + r3) (((e1.trans e2).trans e3).trans e4.nil) (p3.ext0 e4) (Dt.new (ks := [.num r2, .num (1 + r3)]) ht (.cons (.int _) (.cons (.int _) .nil))) (gok_num (by omega) (by omega)) fun z => by omega
      · rw [show decide ((m : Int) > 0) = false from decide_eq_false hm]
        refine iteF ?_
        refine ⟨sz2, fun t1 h1 => ⟨sz2, fun t2 h2 => ⟨sz2, fun t3 h3 => ⟨sz2, fun t4 h4 => ⟨sz4, fun l hl => ?_⟩⟩⟩⟩⟩
        obtain ⟨xs, v, a, b, c'⟩ := rest r r0 Q last t1 h1 t2 h2 t3 h3 t4 h4 l hl
        exact ⟨_, rfl, .inl ⟨_, rfl, _, _, rfl, rfl, (by decide : (0 : Int) < 4), l, xs, _, v, rfl, rfl, .of a, b, c'⟩⟩
    · rw [show decide (V.int r = V.int 0) = false from decide_eq_false fun z => hr (V.int.inj z)]
      refine iteF (iteF ?_)
      refine ⟨sz2, fun t1 h1 => ⟨sz2, fun t2 h2 => ⟨sz2, fun t3 h3 => ⟨sz2, fun t4 h4 => ⟨sz4, fun l hl => ?_⟩⟩⟩⟩⟩
      obtain ⟨xs, v, a, b, c'⟩ := rest r r0 Q last t1 h1 t2 h2 t3 h3 t4 h4 l hl
      exact ⟨_, rfl, .inl ⟨_, rfl, _, _, rfl, rfl, (by decide : (0 : Int) < 4), l, xs, _, v, rfl, rfl, .of a, b, c'⟩⟩
theorem DtAll.drop {H : Hp} : ∀ {vs : List V} {ks : List D} (n : Nat), DtAll H vs ks → DtAll H (vs.drop n) (ks.drop n)
  | _, _, 0, h => h
  | _, _, n + 1, .nil => .nil
  | _, _, n + 1, .cons _ t => DtAll.drop n t
theorem DtAll.take {H : Hp} : ∀ {vs : List V} {ks : List D} (n : Nat), DtAll H vs ks → DtAll H (vs.take n) (ks.take n)
  | _, _, 0, _ => .nil
  | _, _, n + 1, .nil => .nil
  | _, _, n + 1, .cons h t => .cons h (DtAll.take n t)
theorem DtAll.set {H : Hp} {v : V} {k : D} (hv : Dt H v k) : ∀ {vs : List V} {ks : List D} (j : Nat), DtAll H vs ks → DtAll H (vs.set j v) (ks.set j k)
  | _, _, _, .nil => .nil
  | _, _, 0, .cons _ t => .cons hv t
  | _, _, j + 1, .cons h t => .cons h (DtAll.set hv j t)
theorem any_datas {d : D} : ∀ ks : List D, ((NestedKey.datas ks).any fun z => PyData.eqv z d.data) = decide (d ∈ ks)
  | [] => by simp [NestedKey.datas]
  | k :: ks => by
    rw [NestedKey.datas, List.any_cons, any_datas ks, eqv_dec]
    by_cases h : k = d
    · subst h; simp
    · have h2 : ¬ d = k := fun z => h z.symm
      simp [h, h2]
theorem inDL {H : Hp} {l : Addr} {us : List V} {ks : List D} {y : V} {d : D} {m : Nat} {Q : VK} (h : H l = some (.lst us)) (hd : DtAll H us ks) (hy : Dt H y d) (q1 : ∀ k ∈ ks, Lq m k) (q2 : Lq m d) (hm : m ≤ 60) (q : Q (.bl (decide (d ∈ ks))) H) : rInD K y (.ref l) H Q :=
  ⟨d.data, _, Dt.dp _ _ hy, dpL h hd, q2.shaped (by omega), shapedL q1 hm, by rw [any_datas]; exact q⟩
theorem notInDL {H : Hp} {l : Addr} {us : List V} {ks : List D} {y : V} {d : D} {m : Nat} {Q : VK} (h : H l = some (.lst us)) (hd : DtAll H us ks) (hy : Dt H y d) (q1 : ∀ k ∈ ks, Lq m k) (q2 : Lq m d) (hm : m ≤ 60) (q : Q (.bl (!decide (d ∈ ks))) H) : rNotInD K y (.ref l) H Q :=
  ⟨d.data, _, Dt.dp _ _ hy, dpL h hd, q2.shaped (by omega), shapedL q1 hm, by rw [any_datas]; exact q⟩
theorem cut_pl {H : Hp} {us : List V} {cs : List Pl} (h : DtAll H us (cs.map plD)) (lo hi : Option Int) : ∃ ks, DtAll H (cutV us lo hi) ks ∧ ∀ k ∈ ks, Lq 2 k := by
  unfold cutV
  refine ⟨_, (h.drop _).take _, fun k hk => ?_⟩
  obtain ⟨q, _, rfl⟩ := List.mem_map.mp (List.mem_of_mem_drop (List.mem_of_mem_take hk))
  exact plD_lq
/-- four glues -/
def kl (f : Nat → Gu) : List D := [glD (f 0), glD (f 1), glD (f 2), glD (f 3)]
def Fok (f : Nat → Gu) : Prop := ∀ s, Gok (f s)
def fset (f : Nat → Gu) (j : Nat) (g : Gu) : Nat → Gu := fun s => if s = j then g else f s
theorem fset_ok {f : Nat → Gu} {g : Gu} {j : Nat} (h : Fok f) (hg : Gok g) : Fok (fset f j g) := fun s => by
  unfold fset; split
  · exact hg
  · exact h s
theorem kl_set {f : Nat → Gu} {g : Gu} {j : Nat} (hj : j < 4) : (kl f).set j (glD g) = kl (fset f j g) := by
  match j, hj with
  | 0, _ => rfl
  | 1, _ => rfl
  | 2, _ => rfl
  | 3, _ => rfl
theorem kl_at {f : Nat → Gu} {j : Nat} (hj : j < 4) : (kl f)[j]? = some (glD (f j)) := by
  match j, hj with
  | 0, _ => rfl
  | 1, _ => rfl
  | 2, _ => rfl
  | 3, _ => rfl
def spRival (K : PySem.W.Frag) (w : World) : Sp := fun vs H Q _ => ∃ (gd cl : Addr) (a : Nat) (al : AL) (n : Nat) (us : List V) (cs : List Pl), vs = [.ref gd, .ref cl, .int a] ∧ GluI w H gd al n ∧ H cl = some (.lst us) ∧ DtAll H us (cs.map plD) ∧ a < cs.length ∧ (∀ q ∈ cs, ∀ s, s < 4 → lkA al (keyD q s) ≠ none) ∧
  ∀ l vs H1 f, EX K [] H H1 → H l = none → H1 l = some (.lst vs) → DtAll H1 vs (kl f) → Fok f → Q (.ref l) H1
theorem ixN_nat {n j : Nat} (h : j < n) : ixN n (j : Int) = some j := by
  unfold ixN
  rw [if_pos (by omega), if_pos (by omega)]
  simp
theorem ok_law_t2_late_rival (E : Ev K mg base) : Does P w K mg base L2.CX0 2 (He.ga K "_law_t2_late_rival") ["_law_glues", "_law_cells", "_law_at"] (spRival K w) :=
  E.does0 (k := 1) ix_law_t2_late_rival rfl bn_law_t2_late_rival sc_law_t2_late_rival (fun _ _ _ _ ⟨_, _, _, _, _, _, _, h, _⟩ => by rw [h]; rfl) fun cdv A outer s H vs Q X hr h => by
    obtain ⟨gd, cl, a, al, n, us, cs, rfl, G, hcl, hud, ha, hkeys, q⟩ := h
    refine ⟨_, (pss_cons (ps_set (i := 3) sc_law_t2_late_rival.nd rfl (by first | exact Or.inl rfl | exact Or.inr rfl) (pe_op op_rep (pe_lst (pa_cons (pe_tup (pa_cons pe_non (pa_cons pe_int pa_nil))) pa_nil)) pe_int))
      (pss_cons (ps_for PassesOwn.never rfl (pi_range1 (by rfl) (u_range E) (pa_cons pe_int pa_nil)) (pg_name (i := 4) sc_law_t2_late_rival.nd rfl (by first | exact Or.inl rfl | exact Or.inr rfl))
        (pss_one (ps_if (PW.pt (pw_and (pt_cmpR (op_inD (hu65 hr)) (pe_do (ok_law_t2_next E) (hr.mono (by decide)) (by rfl) (g_law_t2_next E) pass0 (pa_cons (pe_ix ix_list (pv 1) (pv 2) (fun _ _ => rfl)) (pa_cons (pv 4) pa_nil))) (pe_slice sl_list (pv 1) (po_some (pe_op op_add (pv 2) pe_int)) po_none) (by with_unfolding_all rfl)) (pw_and1 (pt_cmpR op_eq (pe_ix ix_tup (pe_xget hr (pv 0) (pe_tup (pa_cons (pe_ix ix_list (pv 1) (pv 2) (fun _ _ => rfl)) (pa_cons (pv 4) pa_nil))) (fun _ _ => rfl)) pe_int (fun _ _ => rfl)) pe_int (nomark _)))))
        (pss_one (ps_asg (pe_xget hr (pv 0) (pe_tup (pa_cons (pe_ix ix_list (pv 1) (pv 2) (fun _ _ => rfl)) (pa_cons (pv 4) pa_nil))) (fun _ _ => rfl)) (pg_sub (pv 3) (pv 4) set_list)))
        pss_nil)))
      (pss_one (ps_ret (pv 3))))), ?_⟩
    refine ⟨sz2, fun t0 h0 => ⟨sz1, fun l0 hl0 => ?_⟩⟩
    have e1 : EX K [] H (upd H t0 (.tup [.non, .int 0])) := Ext.new h0
    have e2 : EX K [] (upd H t0 (.tup [.non, .int 0])) (upd (upd H t0 (.tup [.non, .int 0])) l0 (.lst [.ref t0])) := Ext.new hl0
    have d0 := e2.dt (Dt.new (ks := [.none, .num 0]) h0 (.cons .non (.cons (.int _) .nil)))
    refine ⟨l0, 4, [.ref t0], rfl, rfl, upd_same, by decide, by decide, (by rw [sizeLine_eq]; simp), fun l hl => ?_⟩
    have e3 : EX K [] (upd (upd H t0 (.tup [.non, .int 0])) l0 (.lst [.ref t0])) (upd (upd (upd H t0 (.tup [.non, .int 0])) l0 (.lst [.ref t0])) l (.lst [.ref t0, .ref t0, .ref t0, .ref t0])) := Ext.new hl
    have d3 := e3.dt d0
    have e03 := (e1.trans e2).trans e3
    have hlH : H l = none := (e1.trans e2).fresh hl
    obtain ⟨q0, hq0⟩ : ∃ q0, cs[a]? = some q0 := ⟨_, List.getElem?_eq_getElem ha⟩
    obtain ⟨vc, hvc, hvd⟩ := hud.get2 (i := a) (k := plD q0) (by rw [List.getElem?_map, hq0]; rfl)
    have hqm := List.mem_of_getElem? hq0
    refine ⟨4, rfl, by omega, by omega, ?_⟩
    refine for_range (fun i σ H5 => ∃ o4 vs f, σ = [some (.ref gd), some (.ref cl), some (.int a), some (.ref l), o4] ∧ EX K [] H H5 ∧ H5 l = some (.lst vs) ∧ DtAll H5 vs (kl f) ∧ Fok f)
      ⟨none, _, fun _ => (.none, 0), rfl, e03, upd_same, .cons d3 (.cons d3 (.cons d3 (.cons d3 .nil))), fun _ => gok_non⟩ ?_ ?_
    · rintro i σ H5 hi ⟨o4, vs, f, rfl, e5, hl5, hd5, hf⟩
      have hi4 : i < 4 := hi
      have hcl5 := e5.at0 hcl
      refine ⟨_, rfl, _, rfl, cl, us, _, vc, rfl, rfl, .of hcl5, atI_nat hvc, _, rfl, vc, q0, i, by rw [Int.zero_add]; rfl, e5.dt hvd, hi4, fun t H6 e6 ht => ?_⟩
      have hcl6 := e6.at0 hcl5
      refine ⟨_, rfl, _, rfl, _, _, rfl, rfl, _, rfl, cl, us, rfl, .of hcl6, fun g hg => ?_⟩
      have e7 : EX K [] H6 (upd H6 g (.lst (cutV us (some ((a : Int) + 1)) none))) := Ext.new hg
      obtain ⟨ks, hks1, hks2⟩ := cut_pl ((e6.trans e7).dts (e5.dts hud)) (some ((a : Int) + 1)) none
      refine inDL upd_same hks1 (e7.dt ht) hks2 plD_lq (by decide) ⟨_, rfl, ?_⟩
      have e07 := (e5.trans e6).trans e7
      have hl7 := (e6.trans e7).at0 hl5
      have hd7 := (e6.trans e7).dts hd5
      have hcl7 := e7.at0 hcl6
      clear e7 hks1 ht
      generalize upd H6 g (.lst (cutV us (some ((a : Int) + 1)) none)) = H7 at *
      by_cases hin : plD (nb q0 i) ∈ ks
      · rw [decide_eq_true hin]
        have G7 := G.ext e07 (by simp)
        obtain ⟨x, hx⟩ : ∃ x, lkA al (keyD q0 i) = some x := by
          cases e : lkA al (keyD q0 i) with
          | none => exact absurd e (hkeys q0 hqm i hi4)
          | some x => exact ⟨x, rfl⟩
        obtain ⟨g', rfl, hg'⟩ := G.get hx
        refine iteT ⟨_, rfl, _, rfl, _, rfl, cl, us, _, vc, rfl, rfl, .of hcl7, atI_nat hvc, _, rfl, sz2, fun t2 ht2 => ?_⟩
        have e8 : EX K [] H7 (upd H7 t2 (.tup [vc, .int (0 + (i : Int))])) := Ext.new ht2
        have hkd : ∀ {H' : Hp} {t : Addr}, H' t = some (.tup [vc, .int (0 + (i : Int))]) → Dt H' vc (plD q0) → Dt H' (.ref t) (keyD q0 i) := fun {H' t} h1 h2 => .tup h1 (.cons h2 (.cons (by rw [Int.zero_add]; exact .int _) .nil))
        obtain ⟨es, hes, hps⟩ := (G7.ext e8 (by simp)).da
        obtain ⟨v, hv1, hv2⟩ := hps.some_ hx
        obtain ⟨tg, lb, rfl, htg, hlb⟩ := gl_tup hv2
        refine ⟨gd, es, keyD q0 i, _, rfl, hes, hkd upd_same ((e07.trans e8).dt hvd), keyD_d, hv1, _, _, _, _, rfl, rfl, .of htg, atI1, rfl, _, rfl, ?_⟩
        by_cases h2 : V.int g'.2 = V.int 2
        · rw [decide_eq_true h2]
          refine iteT ⟨_, rfl, _, rfl, _, rfl, cl, us, _, vc, rfl, rfl, .of (e8.at0 hcl7), atI_nat hvc, _, rfl, sz2, fun t3 ht3 => ?_⟩
          have e9 : EX K [] (upd H7 t2 (.tup [vc, .int (0 + (i : Int))])) (upd (upd H7 t2 (.tup [vc, .int (0 + (i : Int))])) t3 (.tup [vc, .int (0 + (i : Int))])) := Ext.new ht3
          have e89 := e8.trans e9
          refine ⟨gd, es, keyD q0 i, _, rfl, e9.dictE hes (by simp), hkd upd_same ((e07.trans e89).dt hvd), keyD_d, hv1, ?_⟩
          have hl9 := e89.at0 hl7
          have hlen := hd7.length
          have hlen : vs.length = 4 := hlen
          refine ⟨_, rfl, _, rfl, l, vs, _, i, rfl, rfl, hl9, by rw [Int.zero_add]; exact ixN_nat (by omega), ?_⟩
          have e10 : EX K [l] _ (upd (upd (upd H7 t2 (.tup [vc, .int (0 + (i : Int))])) t3 (.tup [vc, .int (0 + (i : Int))])) l (.lst (vs.set i (.ref tg)))) := Ext.refl.lst hl9 (.inr (by simp))
          refine ⟨_, _, fset f i g', rfl, (e07.trans e89).then1 e10 (.inl hlH), upd_same, ?_, fset_ok hf hg'⟩
          rw [← kl_set hi4]
          exact (e10.dts (e89.dts hd7)).set (e10.dt (e9.dt hv2)) i
        · rw [decide_eq_false h2]
          exact iteF ⟨_, vs, f, rfl, e07.trans e8, e8.at0 hl7, e8.dts hd7, hf⟩
      · rw [decide_eq_false hin]
        exact iteF (iteF ⟨_, vs, f, rfl, e07, hl7, hd7, hf⟩)
    · rintro σ H5 ⟨o4, vs, f, rfl, e5, hl5, hd5, hf⟩
      exact ⟨_, rfl, q l vs H5 f e5 hlH hl5 hd5 hf⟩
end
end TR
/-! text FT -/
set_option Elab.async false
set_option linter.all false
set_option maxRecDepth 100000
set_option maxHeartbeats 4000000
set_option pp.maxSteps 300
set_option pp.deepTerms false
/-! worlds: patches -/
namespace TR
open PySem PySem.Spec PyProof.Rows L2 VD
theorem max_x : ∀ {cs : List Pl}, cs ≠ [] → ∃ q ∈ cs, ∀ r ∈ cs, r.1 ≤ q.1
  | [], h => absurd rfl h
  | [a], _ => ⟨a, by simp, fun r hr => by rw [List.mem_singleton.mp hr]; exact Int.le_refl _⟩
  | a :: b :: cs, _ => by
    obtain ⟨q, hq, h⟩ := max_x (cs := b :: cs) (by simp)
    by_cases c : q.1 ≤ a.1
    · refine ⟨a, List.mem_cons_self, fun r hr => ?_⟩
      rcases List.mem_cons.mp hr with rfl | hr
      · exact Int.le_refl _
      · exact Int.le_trans (h r hr) c
    · refine ⟨q, List.mem_cons_of_mem _ hq, fun r hr => ?_⟩
      rcases List.mem_cons.mp hr with rfl | hr
      · omega
      · exact h r hr
theorem free_ne {cs fs : List Pl} (h : cs ≠ []) (hf : ∀ q ∈ cs, ∀ s, s < 4 → nb q s ∉ cs → nb q s ∈ fs) : fs ≠ [] := by
  obtain ⟨q, hq, hm⟩ := max_x h
  have : nb q 2 ∉ cs := fun hc => by
    have := hm _ hc
    simp [nb] at this
    omega
  exact List.ne_nil_of_mem (hf q hq 2 (by omega) this)
section
variable {P : Program} {w : World} {K : PySem.W.Frag} {mg : Str → Option Value} {base : Heap} {Z H H1 H2 : Hp} {B : BA} {W : Wd} {M M' : Bd} {sd : Pl} {bad : List Pl} {o d p c : Addr} {n m : Nat} {al : AL} {S : List Addr}
theorem pls_lq {cs : List Pl} : ∀ k ∈ cs.map plD, Lq 2 k := fun k hk => by
  obtain ⟨q, _, rfl⟩ := List.mem_map.mp hk
  exact plD_lq
def spPatch (K : PySem.W.Frag) : Sp := fun vs H Q _ => ∃ (p c : Addr) (m n : Nat), vs = [.ref p, .int m] ∧ Pen H p c n ∧ 1 ≤ m ∧ m ≤ 20 ∧ n < 10000000000 ∧
  ∀ (l : Addr) (us : List V) (cs : List Pl) (H1 : Hp), EX K [p] H H1 → Pen H1 p c (n + 100) → H l = none → H1 l = some (.lst us) → DtAll H1 us (cs.map plD) → cs.length = m → cs.Nodup → cs[0]? = some (0, 0) → Q (.ref l) H1
theorem ok_law_t2_patch (E : Ev K mg base) : Does P w K mg base L2.CX0 3 (He.ga K "_law_t2_patch") ["_law_pen_here", "_law_many"] (spPatch K) :=
  E.does0 (k := 2) ix_law_t2_patch rfl bn_law_t2_patch sc_law_t2_patch (fun _ _ _ _ ⟨_, _, _, _, h, _⟩ => by rw [h]; rfl) fun cdv A outer s H vs Q X hr h => by
    obtain ⟨p, c, m, n, rfl, hp, hm1, hm2, hn, q⟩ := h
    refine ⟨_, (pss_cons (ps_set (i := 2) sc_law_t2_patch.nd rfl (by first | exact Or.inl rfl | exact Or.inr rfl) (pe_lst (pa_cons (pe_tup (pa_cons pe_int (pa_cons pe_int pa_nil))) pa_nil)))
      (pss_cons (ps_for PassesOwn.never rfl (pi_range1 (by rfl) (u_range E) (pa_cons (pe_op op_sub (pv 1) pe_int) pa_nil)) (pg_name (i := 3) sc_law_t2_patch.nd rfl (by first | exact Or.inl rfl | exact Or.inr rfl))
        (pss_cons (ps_set (i := 4) sc_law_t2_patch.nd rfl (by first | exact Or.inl rfl | exact Or.inr rfl) (pe_lst pa_nil))
      (pss_cons (ps_for PassesOwn.never rfl (pi_list (pv 2)) (pg_name (i := 5) sc_law_t2_patch.nd rfl (by first | exact Or.inl rfl | exact Or.inr rfl))
        (pss_one (ps_for PassesOwn.never rfl (pi_range1 (by rfl) (u_range E) (pa_cons pe_int pa_nil)) (pg_name (i := 6) sc_law_t2_patch.nd rfl (by first | exact Or.inl rfl | exact Or.inr rfl))
        (pss_cons (ps_set (i := 7) sc_law_t2_patch.nd rfl (by first | exact Or.inl rfl | exact Or.inr rfl) (pe_do (ok_law_t2_next E) (hr.mono (by decide)) (by rfl) (g_law_t2_next E) pass0 (pa_cons (pv 5) (pa_cons (pv 6) pa_nil))))
      (pss_one (ps_if (pt_cmpR (op_notInD (hu65 hr)) (pv 7) (pv 2) (by with_unfolding_all rfl))
        (pss_one (ps_expr (pe_bm PySem.F.plainAttrs_list PySem.F.slot_list_append PySem.F.type_list_append mt_append (pv 4) (pa_cons (pv 7) pa_nil))))
        pss_nil))))))
      (pss_cons (ps_setLc (i := 8) rfl sc_law_t2_patch.nd rfl rfl (by rfl) (pi_list (pv 4)) (own := [("_law_one", 7)]) (blkOk_by (N := n_law_t2_patch) (sc := defScope s_law_t2_patch) (by decide +kernel)) (fun _ _ _ _ _ => (pg_name (i := 7) sc_law_t2_patch.nd rfl (by first | exact Or.inl rfl | exact Or.inr rfl))) (fun _ _ _ _ _ => (pts_one (pt_cmpR op_gt (pe_bmK (K := K) rfl PySem.F.plainAttrs_list PySem.F.slot_list_count PySem.F.type_list_count (mt_countDK (K := K) rfl (hu65 hr)) (pv 4) (pa_cons (pv 7) pa_nil)) pe_int (nomark _)))) (fun _ _ _ _ _ => (pv 7)))
      (pss_cons (ps_if (PW.pt (pw_and (pt_cmpR (op_neD hr.units) (pv 8) (pe_lst pa_nil) (nomark _)) (pw_and1 (pt_cmpR op_gt (pe_do (ok_law_draw E) (hr.mono (by decide)) (by rfl) (g_law_draw E) pass0 (pa_cons (pv 0) (pa_cons pe_int pa_nil))) pe_int (nomark _)))))
        (pss_one (ps_set (i := 4) sc_law_t2_patch.nd rfl (by first | exact Or.inl rfl | exact Or.inr rfl) (pv 8)))
        pss_nil)
      (pss_one (ps_expr (pe_bm PySem.F.plainAttrs_list PySem.F.slot_list_append PySem.F.type_list_append mt_append (pv 2) (pa_cons (pe_do (ok_law_pick E) (hr.mono (by decide)) (by rfl) (g_law_pick E) pass0 (pa_cons (pv 0) (pa_cons (pv 4) pa_nil))) pa_nil)))))))))
      (pss_one (ps_ret (pv 2))))), ?_⟩
    refine ⟨sz2, fun t0 h0 => ⟨sz1, fun l hl => ?_⟩⟩
    have e1 : EX K [] H (upd H t0 (.tup [.int 0, .int 0])) := Ext.new h0
    have e2 : EX K [] (upd H t0 (.tup [.int 0, .int 0])) (upd (upd H t0 (.tup [.int 0, .int 0])) l (.lst [.ref t0])) := Ext.new hl
    have d0 : Dt (upd (upd H t0 (.tup [.int 0, .int 0])) l (.lst [.ref t0])) (.ref t0) (plD (0, 0)) := e2.dt (pl_dt upd_same)
    have hlH : H l = none := e1.fresh hl
    have e02 := e1.trans e2
    have npl : p ≠ l ∧ c ≠ l := ⟨hp.neP hlH, hp.neC hlH⟩
    refine ⟨_, rfl, _, _, rfl, rfl, (m : Int) - 1, rfl, by omega, by omega, ?_⟩
    refine for_range (fun i σ H5 => ∃ (o3 o4 o5 o6 o7 o8 : Option V) (us : List V) (cs : List Pl), σ = [some (.ref p), some (.int m), some (.ref l), o3, o4, o5, o6, o7, o8] ∧ EX K [p] H H5 ∧ Pen H5 p c (n + 2 * i) ∧ H5 l = some (.lst us) ∧ DtAll H5 us (cs.map plD) ∧ cs.length = i + 1 ∧ cs.Nodup ∧ cs[0]? = some (0, 0))
      ⟨none, none, none, none, none, none, _, [(0, 0)], rfl, e02.nil, hp.ext0 e02, upd_same, .cons d0 .nil, rfl, by simp, rfl⟩ ?_ ?_
    · rintro i σ H5 hi ⟨o3, o4, o5, o6, o7, o8, us, cs, rfl, e5, p5, hl5, hu5, hcl, hnd, hc0⟩
      have hi20 : i < 19 := by omega
      have hul := hu5.length
      rw [List.length_map] at hul
      refine ⟨Nat.zero_le _, fun f hf => ?_⟩
      have e6 : EX K [] H5 (upd H5 f (.lst [])) := Ext.new hf
      have hf6 : (upd H5 f (.lst [])) f = some (.lst []) := upd_same
      have hl6 := e6.at0 hl5
      have nlf : l ≠ f := ne_of_none hl5 hf
      have p6 := p5.ext0 e6
      have hu6 := e6.dts hu5
      have e06 := e5.trans e6.nil
      have hfH : H f = none := e5.fresh hf
      clear e6
      generalize upd H5 f (.lst []) = H6 at *
      refine ⟨_, rfl, l, rfl, ⟨us, .of hl6⟩, ?_⟩
      refine for_list (xs := us) (fun j σ H7 => ∃ (o5 o6 o7 : Option V) (ws : List V) (fs : List Pl), σ = [some (.ref p), some (.int m), some (.ref l), some (.int (0 + (i : Int))), some (.ref f), o5, o6, o7, o8] ∧ EX K [f] H6 H7 ∧ H7 f = some (.lst ws) ∧ DtAll H7 ws (fs.map plD) ∧ fs.length ≤ 4 * j ∧ (∀ q ∈ fs, q ∉ cs) ∧ ∀ q ∈ cs.take j, ∀ s, s < 4 → nb q s ∉ cs → nb q s ∈ fs)
        ⟨o5, o6, o7, [], [], rfl, .refl, hf6, .nil, Nat.zero_le _, (by intro q hq; cases hq), (by intro q hq; simp at hq)⟩ (fun j σ H7 _ ⟨_, _, _, _, _, _, e, _⟩ => .of (e.at_ hl6 (by simp; exact nlf))) ?_ ?_
      · rintro j cv σ H7 hc ⟨o5, o6, o7, ws, fs, rfl, e7, hf7, hw7, hfl, hfn, hfa⟩
        obtain ⟨kd, hk, hcd⟩ := hu6.get hc
        obtain ⟨q0, hq0, rfl⟩ := Option.map_eq_some_iff.mp (by rw [← List.getElem?_map]; exact hk)
        have hj : j < cs.length := (List.getElem?_eq_some_iff.mp hq0).1
        refine ⟨4, rfl, by omega, by omega, ?_⟩
        refine for_range (fun t σ H8 => ∃ (o6 o7 : Option V) (ws : List V) (fs : List Pl), σ = [some (.ref p), some (.int m), some (.ref l), some (.int (0 + (i : Int))), some (.ref f), some cv, o6, o7, o8] ∧ EX K [f] H6 H8 ∧ EX K [f] H7 H8 ∧ H8 f = some (.lst ws) ∧ DtAll H8 ws (fs.map plD) ∧ fs.length ≤ 4 * j + t ∧ (∀ q ∈ fs, q ∉ cs) ∧ (∀ q ∈ cs.take j, ∀ s, s < 4 → nb q s ∉ cs → nb q s ∈ fs) ∧ ∀ s, s < t → nb q0 s ∉ cs → nb q0 s ∈ fs)
          ⟨o6, o7, ws, fs, rfl, e7, .refl, hf7, hw7, hfl, hfn, hfa, (by intro s hs; omega)⟩ ?_ ?_
        · rintro t σ H8 ht ⟨o6, o7, ws, fs, rfl, e8, e78, hf8, hw8, hfl, hfn, hfa, hfb⟩
          have ht4 : t < 4 := ht
          refine ⟨_, rfl, _, rfl, cv, q0, t, by rw [Int.zero_add]; rfl, e8.dt hcd, ht4, fun u H9 e9 hu9 => ?_⟩
          have e69 := e8.trans e9.nil
          have hl9 := e69.at_ hl6 (by simp; exact nlf)
          refine ⟨_, rfl, _, rfl, notInDL hl9 (e69.dts hu6) hu9 pls_lq plD_lq (by decide) ⟨_, rfl, ?_⟩⟩
          have hf9 := e9.at0 hf8
          by_cases hin : nb q0 t ∈ cs
          · rw [show decide (plD (nb q0 t) ∈ cs.map plD) = true from decide_eq_true (plD_mem.mpr hin)]
            refine iteF ⟨_, _, ws, fs, rfl, e69, e78.trans e9.nil, hf9, e9.dts hw8, by omega, hfn, hfa, fun s hs hns => ?_⟩
            by_cases hst : s = t
            · subst hst; exact absurd hin hns
            · exact hfb s (by omega) hns
          · rw [show decide (plD (nb q0 t) ∈ cs.map plD) = false from decide_eq_false fun z => hin (plD_mem.mp z)]
            have hwl := hw8.length
            rw [List.length_map] at hwl
            refine iteT ⟨_, rfl, tyl hf9, _, rfl, f, ws, _, rfl, rfl, hf9, by rw [sizeLine_eq]; omega, ?_⟩
            have e10 : EX K [f] H9 (upd H9 f (.lst (ws ++ [.ref u]))) := Ext.refl.lst hf9 (.inr (by simp))
            refine ⟨_, _, _, fs ++ [nb q0 t], rfl, e69.trans e10, (e78.trans e9.nil).trans e10, upd_same, ?_, by rw [List.length_append]; simp; omega, fun q hq => ?_, fun q hq s hs hns => List.mem_append_left _ (hfa q hq s hs hns), fun s hs hns => ?_⟩
            · rw [List.map_append]
              exact (e10.dts (e9.dts hw8)).app (.cons (e10.dt hu9) .nil)
            · rcases List.mem_append.mp hq with hq | hq
              · exact hfn q hq
              · rw [List.mem_singleton.mp hq]; exact hin
            · by_cases hst : s = t
              · subst hst; simp
              · exact List.mem_append_left _ (hfb s (by omega) hns)
        · rintro σ H8 ⟨o6, o7, ws, fs, rfl, e8, e78, hf8, hw8, hfl, hfn, hfa, hfb⟩
          have hfl : fs.length ≤ 4 * j + 4 := hfl
          refine ⟨_, _, _, ws, fs, rfl, e8, hf8, hw8, by omega, hfn, fun q hq s hs hns => ?_⟩
          rw [List.take_add_one, hq0] at hq
          rcases List.mem_append.mp hq with hq | hq
          · exact hfa q hq s hs hns
          · have : q = q0 := by simpa using hq
            subst this
            exact hfb s hs hns
      · rintro σ H7 ⟨o5, o6, o7, ws, fs, rfl, e7, hf7, hw7, hfl, hfn, hfa⟩
        rw [hul, List.take_length] at hfa
        have hfne : fs ≠ [] := free_ne (fun z => by rw [z] at hcl; simp at hcl) hfa
        have hwl := hw7.length
        rw [List.length_map] at hwl
        have e07 : EX K [p] H H7 := e06.then1 e7 (.inl hfH)
        have npf : p ≠ f ∧ c ≠ f := ⟨hp.neP hfH, hp.neC hfH⟩
        have p7 : Pen H7 p c (n + 2 * i) := by
          obtain ⟨cs', a', d', k', f', h1, h2, h3⟩ := p6
          exact ⟨cs', a', d', k', f', e7.at_ h1 (by simp; exact npf.1), e7.at_ h2 (by simp; exact npf.2), h3⟩
        have hl7 := e7.at_ hl6 (by simp; exact nlf)
        have hu7 := e7.dts hu6
        have hfq : ∀ k' ∈ fs.map plD, Lq 2 k' := pls_lq
        -- tight
        refine ⟨_, rfl, f, rfl, ⟨ws, .of hf7⟩, fun g hg => ?_⟩
        have e8 : EX K [] H7 (upd H7 g (.lst [])) := Ext.new hg
        refine wk_list (xs := ws) (fun j H8 => ∃ (xs : List V) (ts : List Pl), EX K [] H7 H8 ∧ H8 g = some (.lst xs) ∧ DtAll H8 xs (ts.map plD) ∧ ts.length ≤ j ∧ ∀ q ∈ ts, q ∈ fs)
          ⟨[], [], e8, upd_same, .nil, Nat.zero_le _, (by intro q hq; cases hq)⟩ (fun j H8 _ ⟨_, _, e, _⟩ => .of (e.at0 hf7)) ?_ ?_
        · rintro j cv H8 hc ⟨xs, ts, e8, hg8, hx8, htl, hts⟩
          obtain ⟨kd, hk, hcd⟩ := hw7.get hc
          obtain ⟨q0, hq0, rfl⟩ := Option.map_eq_some_iff.mp (by rw [← List.getElem?_map]; exact hk)
          have hj : j < fs.length := (List.getElem?_eq_some_iff.mp hq0).1
          have hxl := hx8.length
          rw [List.length_map] at hxl
          refine ⟨rfl, ?_⟩
          refine ⟨_, rfl, tyl (e8.at0 hf7), _, rfl, f, cv, (plD q0).data, _, rfl, rfl, dpL (e8.at0 hf7) (e8.dts hw7), Dt.dp _ _ (e8.dt hcd), shapedL hfq (by decide), plD_lq.shaped (by decide), fun cnt => ?_⟩
          refine ⟨_, _, rfl, rfl, _, rfl, ?_⟩
          by_cases h1 : (cnt : Int) > 1
          · rw [decide_eq_true h1]
            refine iteT ⟨_, rfl, xs, hg8, by rw [sizeLine_eq]; omega, xs ++ [cv], ts ++ [q0], e8.lst hg8 (.inl hg), upd_same, ?_, by rw [List.length_append]; simp; omega, fun q hq => ?_⟩
            · have e9 : EX K [g] H8 (upd H8 g (.lst (xs ++ [cv]))) := Ext.refl.lst hg8 (.inr (by simp))
              rw [List.map_append]
              exact (e9.dts hx8).app (.cons (e9.dt (e8.dt hcd)) .nil)
            · rcases List.mem_append.mp hq with hq | hq
              · exact hts q hq
              · rw [List.mem_singleton.mp hq]; exact List.mem_of_getElem? hq0
          · rw [decide_eq_false h1]
            exact iteF ⟨xs, ts, e8, hg8, hx8, by omega, hts⟩
        · rintro H8 ⟨xs, ts, e8, hg8, hx8, htl, hts⟩
          have hxl := hx8.length
          rw [List.length_map] at hxl
          refine ⟨_, rfl, Nat.zero_le _, fun e0 he0 => ?_⟩
          have e9 : EX K [] H8 (upd H8 e0 (.lst [])) := Ext.new he0
          refine neLL (e9.at0 hg8) upd_same (e9.dts hx8) .nil pls_lq (n := 0) (fun _ z => by cases z) (by decide) (by decide) ⟨_, rfl, ?_⟩
          have e79 := e8.trans e9
          have e09 := e07.trans e79.nil
          have hf9 := e79.at0 hf7
          have hw9 := e79.dts hw7
          have hg9 := e9.at0 hg8
          have hx9 := e9.dts hx8
          have hl9 := e79.at0 hl7
          have hu9 := e79.dts hu7
          have p9 := p7.ext0 e79
          clear e9 e79
          generalize upd H8 e0 (.lst []) = H9 at *
          by_cases htn : ts = []
          case' pos =>
            rw [show decide (ts.map plD ≠ []) = false from decide_eq_false fun z => z (by rw [htn]; rfl)]
            refine iteF (iteF ?_)
            obtain ⟨fr, hfr⟩ : ∃ fr, fr = f := ⟨_, rfl⟩
            obtain ⟨H10, hH10⟩ : ∃ H10, H10 = H9 := ⟨_, rfl⟩
            obtain ⟨ys, rs, e10, p10, hr10, hd10, hrn, hrf, hrl⟩ : ∃ (ys : List V) (rs : List Pl), EX K [p] H9 H10 ∧ Pen H10 p c (n + 2 * i + 1) ∧ H10 fr = some (.lst ys) ∧ DtAll H10 ys (rs.map plD) ∧ rs ≠ [] ∧ (∀ q ∈ rs, q ∈ fs) ∧ rs.length ≤ 1000 := by
              rw [hH10, hfr]; exact ⟨ws, fs, .refl, p9.mono (by omega), hf9, hw9, hfne, fun q hq => hq, by omega⟩
            rw [← hfr, ← hH10]
          case' neg =>
            rw [show decide (ts.map plD ≠ []) = true from decide_eq_true fun z => htn (List.map_eq_nil_iff.mp z)]
            refine iteT ⟨_, rfl, p, c, 3, n + 2 * i, rfl, p9, by omega, by omega, by omega, fun r H10 e10 p10 r0 r3 => ⟨_, _, rfl, rfl, _, rfl, ?_⟩⟩
            by_cases hr0 : r > 0
            case' pos =>
              rw [decide_eq_true hr0]
              refine iteT ⟨_, rfl, ?_⟩
              obtain ⟨fr, hfr⟩ : ∃ fr, fr = g := ⟨_, rfl⟩
              obtain ⟨ys, rs, hr10, hd10, hrn, hrf, hrl⟩ : ∃ (ys : List V) (rs : List Pl), H10 fr = some (.lst ys) ∧ DtAll H10 ys (rs.map plD) ∧ rs ≠ [] ∧ (∀ q ∈ rs, q ∈ fs) ∧ rs.length ≤ 1000 := by
                rw [hfr]; exact ⟨xs, ts, p9.at_ e10 hg9, e10.dts hx9, htn, hts, by omega⟩
              rw [← hfr]
            case' neg =>
              rw [decide_eq_false hr0]
              refine iteF ?_
              obtain ⟨fr, hfr⟩ : ∃ fr, fr = f := ⟨_, rfl⟩
              obtain ⟨ys, rs, hr10, hd10, hrn, hrf, hrl⟩ : ∃ (ys : List V) (rs : List Pl), H10 fr = some (.lst ys) ∧ DtAll H10 ys (rs.map plD) ∧ rs ≠ [] ∧ (∀ q ∈ rs, q ∈ fs) ∧ rs.length ≤ 1000 := by
                rw [hfr]; exact ⟨ws, fs, p9.at_ e10 hf9, e10.dts hw9, hfne, fun q hq => hq, by omega⟩
              rw [← hfr]
          all_goals
            have hl10 := p9.at_ e10 hl9
            have hyl := hd10.length
            rw [List.length_map] at hyl
            refine ⟨_, rfl, tyl hl10, _, rfl, _, rfl, p, c, fr, ys, n + 2 * i + 1, rfl, p10, .inl (.of hr10), fun z => hrn ?_, by omega, by omega, fun v H11 hv e11 p11 => ?_⟩
            · rw [z] at hyl; exact List.length_eq_zero_iff.mp hyl.symm
            obtain ⟨jj, hjj⟩ := List.mem_iff_getElem?.mp hv
            obtain ⟨kd, hkd, hvd⟩ := hd10.get hjj
            obtain ⟨q0, hq0, rfl⟩ := Option.map_eq_some_iff.mp (by rw [← List.getElem?_map]; exact hkd)
            have hqm := hrf _ (List.mem_of_getElem? hq0)
            have hqn := hfn q0 hqm
            have hl11 := p10.at_ e11 hl10
            have e911 := e10.trans e11
            have hu11 := e911.dts hu9
            refine ⟨l, us, _, rfl, rfl, hl11, by rw [sizeLine_eq]; omega, ?_⟩
            have e12 : EX K [l] H11 (upd H11 l (.lst (us ++ [v]))) := Ext.refl.lst hl11 (.inr (by simp))
            refine ⟨_, _, _, _, _, _, us ++ [v], cs ++ [q0], rfl, (e09.trans e911).then1 e12 (.inl hlH), (p11.chg (a := l) Chg.upd npl.1 npl.2).mono (by omega), upd_same, ?_, by rw [List.length_append, hcl]; rfl, ?_, ?_⟩
            · rw [List.map_append]
              exact (e12.dts hu11).app (.cons (e12.dt (e11.dt hvd)) .nil)
            · rw [List.nodup_append]
              refine ⟨hnd, by simp, fun a ha b hb z => ?_⟩
              rw [List.mem_singleton.mp hb] at z
              rw [z] at ha
              exact hqn ha
            · rw [List.getElem?_append_left (by omega)]; exact hc0
    · rintro σ H5 ⟨o3, o4, o5, o6, o7, o8, us, cs, rfl, e5, p5, hl5, hu5, hcl, hnd, hc0⟩
      refine ⟨_, rfl, q l us cs H5 e5 (p5.mono (by omega)) hlH hl5 hu5 (by omega) hnd hc0⟩
end
end TR
/-! text FU -/
set_option Elab.async false
set_option linter.all false
set_option maxRecDepth 100000
set_option maxHeartbeats 4000000
set_option pp.maxSteps 300
set_option pp.deepTerms false
/-! worlds: the glues of the edges -/
namespace TR
open PySem PySem.Spec PyProof.Rows L2 VD
theorem wk_range {Bo : (Hp → Prop) → V → Hp → Prop} {Qd : Hp → Prop} {H0 : Hp} {lo : Int} {n : Nat} (Pv : Nat → Hp → Prop) (h0 : Pv 0 H0) (hs : ∀ i H, i < n → Pv i H → Bo (Pv (i + 1)) (.int (lo + i)) H) (hd : ∀ H, Pv n H → Qd H) :
    ∃ W : Nat → Nat → Hp → Prop, (∃ m, W 0 m H0) ∧ ∀ i m H, W i m H →
      ((Itr lo n).stop i H ∧ Qd H) ∨ ((Itr lo n).go i H ∧ ∃ Nx : Hp → Prop, (∀ H', Nx H' → ∃ m', m' < m ∧ W (i + 1) m' H') ∧ ∀ x H', (Itr lo n).yld i H x H' → Bo Nx x H') := by
  refine ⟨fun i m H => m = n - i ∧ i ≤ n ∧ Pv i H, ⟨n, by simp, Nat.zero_le _, h0⟩, ?_⟩
  rintro i m H ⟨rfl, hi, p⟩
  by_cases hlt : i < n
  · refine .inr ⟨hlt, Pv (i + 1), fun H' p' => ⟨n - (i + 1), by omega, rfl, hlt, p'⟩, fun x H' y => ?_⟩
    obtain ⟨e, y⟩ := y
    subst e y
    exact hs i _ hlt p
  · have e : i = n := by omega
    subst e
    exact .inl ⟨Nat.le_refl _, hd H p⟩
/-- no rivals: a label stands on one edge -/
def Uniq (al : AL) : Prop := ∀ c s c' s' g g', s < 4 → s' < 4 → lkA al (keyD c s) = some (glD g) → lkA al (keyD c' s') = some (glD g') → g.1 = g'.1 → (c' = c ∧ s' = s) ∨ (c' = nb c s ∧ s' = opp s)
def Ser (al : AL) (n : Nat) : Prop := ∀ c s g, s < 4 → lkA al (keyD c s) = some (glD g) → ∃ m k, m ≤ n ∧ Dm m k g.1
theorem uniq_nil {n : Nat} : Uniq [] ∧ Ser [] n := ⟨fun c s c' s' g g' _ _ h => by simp [lkA] at h, fun c s g _ h => by simp [lkA] at h⟩
theorem dts_int {H : Hp} : ∀ as : List Nat, DtAll H (as.map fun (a : Nat) => V.int (a : Int)) (as.map fun (a : Nat) => NestedKey.num (a : Int))
  | [] => .nil
  | a :: as => .cons (.int _) (dts_int as)
theorem nums_lq {as : List Nat} : ∀ k ∈ as.map (fun (a : Nat) => NestedKey.num (a : Int)), Lq 1 k := fun k hk => by
  obtain ⟨a, _, rfl⟩ := List.mem_map.mp hk
  exact num_lq
theorem opp_mod2 {i : Nat} : ((i : Int) + 2) % 4 = ((opp i : Nat) : Int) := by unfold opp; omega
theorem dm_one {n m k j : Nat} {d : D} (h : Dm n k d) (g : Dm m j d) : n = m := h.serial g rfl
theorem lk_two {al : AL} {c c' : Pl} {s s' : Nat} {g : Gu} (hs : s < 4) : lkA (putA (putA al (keyD c s) (glD g)) (keyD (nb c s) (opp s)) (glD g)) (keyD c' s') = if (c' = c ∧ s' = s) ∨ (c' = nb c s ∧ s' = opp s) then some (glD g) else lkA al (keyD c' s') := by
  rw [lkA_put, lkA_put]
  by_cases h1 : c' = nb c s ∧ s' = opp s
  · rw [if_pos (by rw [h1.1, h1.2]), if_pos (.inr h1)]
  · rw [if_neg (fun z => h1 (keyD_inj z))]
    by_cases h2 : c' = c ∧ s' = s
    · rw [if_pos (by rw [h2.1, h2.2]), if_pos (.inl h2)]
    · rw [if_neg (fun z => h2 (keyD_inj z)), if_neg (fun z => z.elim h2 h1)]
theorem uniq_put {al : AL} {n k : Nat} {c : Pl} {s : Nat} {g : Gu} (u : Uniq al) (r : Ser al n) (hs : s < 4) (hd : Dm (n + 1) k g.1) :
    Uniq (putA (putA al (keyD c s) (glD g)) (keyD (nb c s) (opp s)) (glD g)) ∧ Ser (putA (putA al (keyD c s) (glD g)) (keyD (nb c s) (opp s)) (glD g)) (n + 1) := by
  constructor
  · intro c1 s1 c2 s2 g1 g2 h1 h2 e1 e2 eg
    rw [lk_two hs] at e1 e2
    by_cases w1 : (c1 = c ∧ s1 = s) ∨ (c1 = nb c s ∧ s1 = opp s)
    · rw [if_pos w1] at e1
      have e1 := glD_inj (Option.some.inj e1)
      by_cases w2 : (c2 = c ∧ s2 = s) ∨ (c2 = nb c s ∧ s2 = opp s)
      · rcases w1 with ⟨rfl, rfl⟩ | ⟨rfl, rfl⟩
        · exact w2
        · rcases w2 with ⟨rfl, rfl⟩ | ⟨rfl, rfl⟩
          · exact .inr ⟨(nb_opp _ hs).symm, (opp_opp hs).symm⟩
          · exact .inl ⟨rfl, rfl⟩
      · rw [if_neg w2] at e2
        obtain ⟨m, j, hm, hj⟩ := r _ _ _ h2 e2
        rw [← eg, ← e1] at hj
        have := dm_one hd hj
        omega
    · rw [if_neg w1] at e1
      by_cases w2 : (c2 = c ∧ s2 = s) ∨ (c2 = nb c s ∧ s2 = opp s)
      · rw [if_pos w2] at e2
        have e2 := glD_inj (Option.some.inj e2)
        obtain ⟨m, j, hm, hj⟩ := r _ _ _ h1 e1
        rw [eg, ← e2] at hj
        have := dm_one hd hj
        omega
      · rw [if_neg w2] at e2
        exact u _ _ _ _ _ _ h1 h2 e1 e2 eg
  · intro c1 s1 g1 h1 e1
    rw [lk_two hs] at e1
    by_cases w1 : (c1 = c ∧ s1 = s) ∨ (c1 = nb c s ∧ s1 = opp s)
    · rw [if_pos w1] at e1
      have e1 := glD_inj (Option.some.inj e1)
      exact ⟨n + 1, k, Nat.le_refl _, by rw [← e1]; exact hd⟩
    · rw [if_neg w1] at e1
      obtain ⟨m, j, hm, hj⟩ := r _ _ _ h1 e1
      exact ⟨m, j, by omega, hj⟩
section
variable {P : Program} {w : World} {K : PySem.W.Frag} {mg : Str → Option Value} {base : Heap} {Z H H1 H2 : Hp} {B : BA} {W : Wd} {M M' : Bd} {sd : Pl} {bad : List Pl} {o d p c : Addr} {n m : Nat} {al : AL} {S : List Addr}
def spEdges (K : PySem.W.Frag) (w : World) : Sp := fun vs H Q _ => ∃ (p c cl : Addr) (mx n : Nat) (us : List V) (cs : List Pl), vs = [.ref p, .ref cl, .int mx] ∧ Pen H p c n ∧ H cl = some (.lst us) ∧ DtAll H us (cs.map plD) ∧ cs.length ≤ 20 ∧ n < 10000000000 ∧
  ∀ (d : Addr) (al : AL) (H1 : Hp), EX K [p] H H1 → Pen H1 p c (n + 100000) → H d = none → GluI w H1 d al 400 → (mx = 0 → Uniq al) → Q (.ref d) H1
theorem ok_law_t2_edge_glues (E : Ev K mg base) : Does P w K mg base L2.CX0 4 (He.ga K "_law_t2_edge_glues") ["_law_pen_here", "_law_cells", "_law_mixture"] (spEdges K w) :=
  E.does0 (k := 3) ix_law_t2_edge_glues rfl bn_law_t2_edge_glues sc_law_t2_edge_glues (fun _ _ _ _ ⟨_, _, _, _, _, _, _, h, _⟩ => by rw [h]; rfl) fun cdv A outer s H vs Q X hr h => by
    obtain ⟨p, c, cl, mx, n, us, cs, rfl, hp, hcl, hud, hcs, hn, q⟩ := h
    refine ⟨_, (pss_cons (ps_par (i := 3) (j := 4) rfl sc_law_t2_edge_glues.nd rfl rfl (by decide) rfl rfl (pa_cons pe_xnew (pa_cons pe_int pa_nil)) (by rfl))
      (pss_cons (ps_for PassesOwn.never rfl (pi_range1 (by rfl) (u_range E) (pa_cons (pe_callB call_len_seq (by rfl) (u_len E) b_len (pa_cons (pv 1) pa_nil)) pa_nil)) (pg_name (i := 5) sc_law_t2_edge_glues.nd rfl (by first | exact Or.inl rfl | exact Or.inr rfl))
        (pss_cons (ps_setLc (i := 7) rfl sc_law_t2_edge_glues.nd rfl rfl (by rfl) (pi_range1 (by rfl) (u_range E) (pa_cons pe_int pa_nil)) (own := [("_law_side", 6)]) (blkOk_by (N := n_law_t2_edge_glues) (sc := defScope s_law_t2_edge_glues) (by decide +kernel)) (fun _ _ _ _ _ => (pg_name (i := 6) sc_law_t2_edge_glues.nd rfl (by first | exact Or.inl rfl | exact Or.inr rfl))) (fun _ _ _ _ _ => (pts_one (pt_cmpR (op_inDK (K := K) rfl (hu65 hr)) (pe_doN (P := P) (w := w) (K := K) (mg := mg) (base := base) rfl rfl rfl rfl rfl (ok_law_t2_next E) (hr.mono (by decide)) (by rfl) (g_law_t2_next E) pass0 (pa_cons (pe_ix (ix_listK (K := K) rfl) (pv 1) (pv 5) (fun _ _ => rfl)) (pa_cons (pv 6) pa_nil))) (pe_slice (sl_listK (K := K) rfl) (pv 1) po_none (po_some (pv 5))) (by with_unfolding_all rfl)))) (fun _ _ _ _ _ => (pv 6)))
      (pss_cutE (ps_set (i := 8) sc_law_t2_edge_glues.nd rfl (by first | exact Or.inl rfl | exact Or.inr rfl) (pe_ifExp (PW.pt (pw_and (pt_cmpR (op_neD hr.units) (pv 7) (pe_lst pa_nil) (nomark _)) (pw_and1 (PW.pt (pw_or (pt_cmpR op_eq (pe_callB call_len_seq (by rfl) (u_len E) b_len (pa_cons (pv 7) pa_nil)) pe_int (nomark _)) (pw_or1 (pt_cmpR op_eq (pe_do (ok_law_draw E) (hr.mono (by decide)) (by rfl) (g_law_draw E) pass0 (pa_cons (pv 0) (pa_cons pe_int pa_nil))) pe_int (nomark _)))))))) (pe_do (ok_law_draw E) (hr.mono (by decide)) (by rfl) (g_law_draw E) pass0 (pa_cons (pv 0) (pa_cons (pe_callB call_len_seq (by rfl) (u_len E) b_len (pa_cons (pv 7) pa_nil)) pa_nil))) (pe_un un_neg pe_int)))
      (pss_one (ps_for PassesOwn.never rfl (pi_range1 (by rfl) (u_range E) (pa_cons (pe_callB call_len_seq (by rfl) (u_len E) b_len (pa_cons (pv 7) pa_nil)) pa_nil)) (pg_name (i := 9) sc_law_t2_edge_glues.nd rfl (by first | exact Or.inl rfl | exact Or.inr rfl))
        (pss_cons (ps_set (i := 4) sc_law_t2_edge_glues.nd rfl (by first | exact Or.inl rfl | exact Or.inr rfl) (pe_op op_add (pv 4) pe_int))
      (pss_cons (ps_par (i := 10) (j := 11) rfl sc_law_t2_edge_glues.nd rfl rfl (by decide) rfl rfl (pa_cons (pe_do (ok_law_t2_datum E) (hr.mono (by decide)) (by rfl) (g_law_t2_datum E) pass0 (pa_cons (pv 0) (pa_cons (pv 4) pa_nil))) (pa_cons pe_int pa_nil)) (by rfl))
      (pss_cutE (ps_if (pt_cmpR op_ge (pv 8) pe_int (nomark _))
        (pss_one (ps_set (i := 11) sc_law_t2_edge_glues.nd rfl (by first | exact Or.inl rfl | exact Or.inr rfl) (pe_ifExp (PW.pt (pw_and (pt_cmpR op_eq (pv 9) (pv 8) (nomark _)) (pw_and1 (pt_cmpR op_gt (pe_do (ok_law_draw E) (hr.mono (by decide)) (by rfl) (g_law_draw E) pass0 (pa_cons (pv 0) (pa_cons pe_int pa_nil))) pe_int (nomark _))))) pe_int (pe_do (ok_law_draw E) (hr.mono (by decide)) (by rfl) (g_law_draw E) pass0 (pa_cons (pv 0) (pa_cons pe_int pa_nil))))))
        pss_nil)
      (pss_cutE (ps_if (PW.pt (pw_or (pt_cmpR op_eq (pv 2) pe_int (nomark _)) (pw_or1 (PW.pt (pw_and (pt_cmpR op_eq (pv 2) pe_int (nomark _)) (pw_and1 (pt_cmpR op_eq (pe_do (ok_law_draw E) (hr.mono (by decide)) (by rfl) (g_law_draw E) pass0 (pa_cons (pv 0) (pa_cons pe_int pa_nil))) pe_int (nomark _))))))))
        (pss_one (ps_set (i := 10) sc_law_t2_edge_glues.nd rfl (by first | exact Or.inl rfl | exact Or.inr rfl) (pe_do (ok_law_draw E) (hr.mono (by decide)) (by rfl) (g_law_draw E) pass0 (pa_cons (pv 0) (pa_cons pe_int pa_nil)))))
        pss_nil)
      (pss_cons (ps_set (i := 6) sc_law_t2_edge_glues.nd rfl (by first | exact Or.inl rfl | exact Or.inr rfl) (pe_ix ix_list (pv 7) (pv 9) (fun _ _ => rfl)))
      (pss_cons (ps_xput hr (pv 3) (pe_tup (pa_cons (pe_ix ix_list (pv 1) (pv 5) (fun _ _ => rfl)) (pa_cons (pv 6) pa_nil))) (pe_tup (pa_cons (pv 10) (pa_cons (pv 11) pa_nil))) (by rfl))
      (pss_one (ps_xput hr (pv 3) (pe_tup (pa_cons (pe_do (ok_law_t2_next E) (hr.mono (by decide)) (by rfl) (g_law_t2_next E) pass0 (pa_cons (pe_ix ix_list (pv 1) (pv 5) (fun _ _ => rfl)) (pa_cons (pv 6) pa_nil))) (pa_cons (pe_op op_mod (pe_callTy call_int1 (by rfl) (u_int E) b_int (pa_cons (pe_op op_add (pv 6) pe_int) pa_nil)) pe_int) pa_nil))) (pe_tup (pa_cons (pv 10) (pa_cons (pv 11) pa_nil))) (by rfl))))))))))))))
      (pss_one (ps_ret (pv 3))))), ?_⟩
    have hul := hud.length
    rw [List.length_map] at hul
    intro d H1 hd m1 c1
    have e1 : EX K [] H H1 := Ext.newC hd c1
    have ndcl : cl ≠ d := ne_of_none hcl hd
    have npd : p ≠ d ∧ c ≠ d := ⟨hp.neP hd, hp.neC hd⟩
    have nclp : cl ≠ p := by obtain ⟨cs', a', d', k', f', h1, h2, h3⟩ := hp; intro z; rw [z, h1] at hcl; cases hcl
    refine ⟨_, _, rfl, ?_⟩
    refine ⟨_, rfl, cl, us, rfl, .inl (.of (e1.at0 hcl)), us.length, rfl, by omega, by omega, ?_⟩
    refine for_range (fun i σ H5 => ∃ (o5 o6 o7 o8 o9 o10 o11 : Option V) (al : AL) (ser : Nat), σ = [some (.ref p), some (.ref cl), some (.int mx), some (.ref d), some (.int (100 + (ser : Int))), o5, o6, o7, o8, o9, o10, o11] ∧ EX K [p] H H5 ∧ Pen H5 p c (n + 100 * i) ∧ GluI w H5 d al (8 * i) ∧ ser ≤ 4 * i ∧ (mx = 0 → Uniq al ∧ Ser al (100 + ser)))
      ⟨none, none, none, none, none, none, none, [], 0, rfl, e1.nil, hp.ext0 e1, ⟨DictA.nil m1, (by intro x hx; cases hx), Nat.zero_le _⟩, Nat.zero_le _, fun _ => uniq_nil⟩ ?_ ?_
    · rintro i σ H5 hi ⟨o5, o6, o7, o8, o9, o10, o11, al, ser, rfl, e5, p5, G5, hser, hun⟩
      have hi20 : i < us.length := by omega
      obtain ⟨vc, hvc⟩ : ∃ v, us[i]? = some v := ⟨_, List.getElem?_eq_getElem hi20⟩
      obtain ⟨kd, hkd, hvd⟩ := hud.get hvc
      obtain ⟨q0, hq0, rfl⟩ := Option.map_eq_some_iff.mp (by rw [← List.getElem?_map]; exact hkd)
      have hcl5 := e5.at_ hcl (by simp; exact nclp)
      have hatc : atI us (0 + (i : Int)) = some vc := by rw [Int.zero_add]; exact atI_nat hvc
      refine ⟨4, rfl, by omega, by omega, fun g hg => ?_⟩
      have e6 : EX K [] H5 (upd H5 g (.lst [])) := Ext.new hg
      refine wk_range (fun s H6 => ∃ (as : List Nat), EX K [] H5 H6 ∧ H6 g = some (.lst (as.map fun (a : Nat) => V.int (a : Int))) ∧ as.length ≤ s ∧ ∀ a ∈ as, a < 4) ⟨[], e6, upd_same, Nat.zero_le _, (by intro a ha; cases ha)⟩ ?_ ?_
      · rintro s H6 hs ⟨as, e6, hg6, hal, has⟩
        have hs4 : s < 4 := hs
        have hcl6 := e6.at0 hcl5
        refine ⟨rfl, _, rfl, _, rfl, cl, us, _, vc, rfl, rfl, .of hcl6, hatc, _, rfl, vc, q0, s, by rw [Int.zero_add]; rfl, e6.dt (e5.dt hvd), hs4, fun t H7 e7 ht => ?_⟩
        have hcl7 := e7.at0 hcl6
        refine ⟨_, rfl, _, rfl, _, rfl, cl, us, rfl, .of hcl7, fun u hu => ?_⟩
        have e8 : EX K [] H7 (upd H7 u (.lst (cutV us none (some (0 + (i : Int)))))) := Ext.new hu
        obtain ⟨ks, hks1, hks2⟩ := cut_pl (((e6.trans e7).trans e8).dts (e5.dts hud)) none (some (0 + (i : Int)))
        refine inDL upd_same hks1 (e8.dt ht) hks2 plD_lq (by decide) ⟨_, rfl, ?_⟩
        have e68 := e7.trans e8
        by_cases hin : plD (nb q0 s) ∈ ks
        · rw [decide_eq_true hin]
          have hg8 := e68.at0 hg6
          refine iteT ⟨_, rfl, _, hg8, by rw [sizeLine_eq, List.length_map]; omega, as ++ [s], (e6.trans e68).lst hg8 (.inl hg), ?_, by rw [List.length_append]; simp; omega, fun a ha => ?_⟩
          · rw [upd_same, List.map_append, Int.zero_add]; rfl
          · rcases List.mem_append.mp ha with ha | ha
            · exact has a ha
            · rw [List.mem_singleton.mp ha]; exact hs4
        · rw [decide_eq_false hin]
          exact iteF ⟨as, e6.trans e68, e68.at0 hg6, by omega, has⟩
      · rintro H6 ⟨as, e6, hg6, hal, has⟩
        have hal : as.length ≤ 4 := hal
        have p6 := p5.ext0 e6
        have ngp : g ≠ p := fun z => by obtain ⟨cs', a', d', k', f', h1, h2, h3⟩ := p5; rw [z, h1] at hg; cases hg
        have ngd : g ≠ d := fun z => by obtain ⟨o, h⟩ := G5.da.some; rw [z, h] at hg; cases hg
        -- strong
        refine ⟨fun σ H8 => ∃ (st : Int) (o6 o9 o10 o11 : Option V), σ = [some (.ref p), some (.ref cl), some (.int mx), some (.ref d), some (.int (100 + (ser : Int))), some (.int (0 + (i : Int))), o6, some (.ref g), some (.int st), o9, o10, o11] ∧ EX K [p] H6 H8 ∧ Pen H8 p c (n + 100 * i + 2), ?_, ?_⟩
        · refine ⟨_, rfl, Nat.zero_le _, fun e0 he0 => ?_⟩
          have e7 : EX K [] H6 (upd H6 e0 (.lst [])) := Ext.new he0
          refine neLL (e7.at0 hg6) upd_same (dts_int as) .nil nums_lq (n := 0) (fun _ z => by cases z) (by decide) (by decide) ⟨_, rfl, ?_⟩
          have hg7 := e7.at0 hg6
          have p7 := p6.ext0 e7
          generalize upd H6 e0 (.lst []) = H7 at *
          by_cases has0 : as = []
          · rw [show decide (as.map (fun (a : Nat) => NestedKey.num (a : Int)) ≠ []) = false from decide_eq_false fun z => z (by rw [has0]; rfl)]
            exact iteF (iteF ⟨_, rfl, -1, _, _, _, _, rfl, e7.nil, p7.mono (by omega)⟩)
          · rw [show decide (as.map (fun (a : Nat) => NestedKey.num (a : Int)) ≠ []) = true from decide_eq_true fun z => has0 (List.map_eq_nil_iff.mp z)]
            have hlp := List.length_pos_iff.mpr has0
            refine iteT ⟨_, rfl, g, _, rfl, .inl (.of hg7), rfl, _, rfl, ?_⟩
            by_cases h1 : V.int ((as.map fun (a : Nat) => V.int (a : Int)).length : Int) = V.int 1
            · rw [decide_eq_true h1]
              exact iteT (iteT ⟨_, rfl, _, rfl, g, _, rfl, .inl (.of hg7), p, c, _, n + 100 * i, rfl, p7, by rw [List.length_map]; omega, by rw [List.length_map]; omega, by omega, fun st H8 e78 p8' _ _ => ⟨st, _, _, _, _, rfl, e7.nil.trans e78, p8'.mono (by omega)⟩⟩)
            · rw [decide_eq_false h1]
              refine iteF ⟨_, rfl, p, c, 2, n + 100 * i, rfl, p7, by omega, by omega, by omega, fun r H7b e7b p7b r0 r2 => ⟨rfl, _, rfl, ?_⟩⟩
              have hg7b := p7.at_ e7b hg7
              by_cases h0 : V.int r = V.int 0
              · rw [decide_eq_true h0]
                exact iteT ⟨_, rfl, _, rfl, g, _, rfl, .inl (.of hg7b), p, c, _, n + 100 * i + 1, rfl, p7b, by rw [List.length_map]; omega, by rw [List.length_map]; omega, by omega, fun st H8 e78' p8' _ _ => ⟨st, _, _, _, _, rfl, (e7.nil.trans e7b).trans e78', p8'.mono (by omega)⟩⟩
              · rw [decide_eq_false h0]
                exact iteF ⟨_, rfl, -1, _, _, _, _, rfl, e7.nil.trans e7b, p7b.mono (by omega)⟩
        · rintro σ H8 ⟨st, o6, o9, o10, o11, rfl, e78, p8⟩
          have hg8 := p6.at_ e78 hg6
          have e58 : EX K [p] H5 H8 := e6.nil.trans e78
          have G8 := G5.ext e58 (by simp; exact npd.1.symm)
          have e08 := e5.trans e58
          refine ⟨_, rfl, g, _, rfl, .inl (.of hg8), (as.length : Int), by rw [List.length_map], by omega, by omega, ?_⟩
          refine for_range (fun kk σ H9 => ∃ (o6 o9 o10 o11 : Option V) (al : AL) (ser : Nat), σ = [some (.ref p), some (.ref cl), some (.int mx), some (.ref d), some (.int (100 + (ser : Int))), some (.int (0 + (i : Int))), o6, some (.ref g), some (.int st), o9, o10, o11] ∧ EX K [p] H H9 ∧ EX K [p, d] H8 H9 ∧ Pen H9 p c (n + 100 * i + 2 + 20 * kk) ∧ GluI w H9 d al (8 * i + 2 * kk) ∧ ser ≤ 4 * i + kk ∧ (mx = 0 → Uniq al ∧ Ser al (100 + ser)))
            ⟨o6, o9, o10, o11, al, ser, rfl, e08, .refl, p8, G8, by omega, hun⟩ ?_ ?_
          · rintro kk σ H9 hkk ⟨o6, o9, o10, o11, al, ser, rfl, e9, e89, p9, G9, hser, hun⟩
            have hkk4 : kk < as.length := by omega
            obtain ⟨a, ha⟩ : ∃ a, as[kk]? = some a := ⟨_, List.getElem?_eq_getElem hkk4⟩
            have ha4 := has a (List.mem_of_getElem? ha)
            refine ⟨_, rfl, _, _, rfl, rfl, ?_⟩
            refine ⟨_, rfl, _, rfl, p, c, 100 + ser + 1, n + 100 * i + 2 + 20 * kk, congrArg (fun z => [V.ref p, V.int z]) (by omega), p9, by omega, by omega, fun lv0 H10 kd' dd e10 p10 hdm hk6 hlv0 => ⟨_, _, rfl, ?_⟩⟩
            have gdd : ∀ sv : Int, 0 ≤ sv → sv ≤ 2 → Gok (dd, sv) := fun sv h0 h2 => ⟨hdm.nice hk6, Nat.le_trans hdm.depth hk6, h0, h2⟩
            refine ⟨fun σ H11 => ∃ (sv : Int), σ = [some (.ref p), some (.ref cl), some (.int mx), some (.ref d), some (.int (100 + (ser : Int) + 1)), some (.int (0 + (i : Int))), o6, some (.ref g), some (.int st), some (.int (0 + (kk : Int))), some lv0, some (.int sv)] ∧ EX K [p] H10 H11 ∧ Pen H11 p c (n + 100 * i + 2 + 20 * kk + 11) ∧ 0 ≤ sv ∧ sv ≤ 2, ?_, ?_⟩
            · refine ⟨_, rfl, _, _, rfl, rfl, _, rfl, ?_⟩
              by_cases hst0 : st ≥ 0
              · rw [decide_eq_true hst0]
                refine iteT ⟨_, rfl, _, rfl, rfl, _, rfl, ?_⟩
                by_cases hks : V.int (0 + (kk : Int)) = V.int st
                · rw [decide_eq_true hks]
                  refine iteT ⟨_, rfl, p, c, 12, _, rfl, p10, by omega, by omega, by omega, fun r H10b e10b p10b r0 r12 => ⟨_, _, rfl, rfl, _, rfl, ?_⟩⟩
                  by_cases hr0 : r > 0
                  · rw [decide_eq_true hr0]
                    exact iteT ⟨2, rfl, e10b, p10b.mono (by omega), by omega, by omega⟩
                  · rw [decide_eq_false hr0]
                    exact iteF ⟨_, rfl, p, c, 3, _, rfl, p10b, by omega, by omega, by omega, fun sv H11 e11' p11' sv0 sv3 => ⟨sv, rfl, e10b.trans e11', p11'.mono (by omega), sv0, by omega⟩⟩
                · rw [decide_eq_false hks]
                  exact iteF (iteF ⟨_, rfl, p, c, 3, _, rfl, p10, by omega, by omega, by omega, fun sv H11 e11 p11' sv0 sv3 => ⟨sv, rfl, e11, p11'.mono (by omega), sv0, by omega⟩⟩)
              · rw [decide_eq_false hst0]
                exact iteF ⟨1, rfl, .refl, p10.mono (by omega), by omega, by omega⟩
            · rintro σ H11 ⟨sv, rfl, e11, p11, sv0, sv2⟩
              refine ⟨fun σ H12 => ∃ (lv : V) (lb : D), σ = [some (.ref p), some (.ref cl), some (.int mx), some (.ref d), some (.int (100 + (ser : Int) + 1)), some (.int (0 + (i : Int))), o6, some (.ref g), some (.int st), some (.int (0 + (kk : Int))), some lv, some (.int sv)] ∧ EX K [p] H10 H12 ∧ Pen H12 p c (n + 100 * i + 2 + 20 * kk + 13) ∧ Dt H12 lv lb ∧ Gok (lb, sv) ∧ (mx = 0 → lb = dd), ?_, ?_⟩
              · refine ⟨_, rfl, rfl, _, rfl, ?_⟩
                by_cases hm2 : V.int (mx : Int) = V.int 2
                · rw [decide_eq_true hm2]
                  have hm0 : mx ≠ 0 := by have := V.int.inj hm2; omega
                  exact iteT (iteT ⟨_, rfl, p, c, 3, _, rfl, p11, by omega, by omega, by omega, fun r H12 e12 p12' r0 r3 => ⟨_, .num r, rfl, e11.trans e12, p12'.mono (by omega), .int _, gok_num sv0 sv2, fun z => absurd z hm0⟩⟩)
                · rw [decide_eq_false hm2]
                  refine iteF ⟨_, rfl, rfl, _, rfl, ?_⟩
                  by_cases hm1 : V.int (mx : Int) = V.int 1
                  · rw [decide_eq_true hm1]
                    have hm0 : mx ≠ 0 := by have := V.int.inj hm1; omega
                    refine iteT ⟨_, rfl, p, c, 4, _, rfl, p11, by omega, by omega, by omega, fun r H11b e11b p11b r0 r4 => ⟨rfl, _, rfl, ?_⟩⟩
                    by_cases hr0 : V.int r = V.int 0
                    · rw [decide_eq_true hr0]
                      exact iteT ⟨_, rfl, p, c, 3, _, rfl, p11b, by omega, by omega, by omega, fun r' H12 e12 p12' r0' r3' => ⟨_, .num r', rfl, (e11.trans e11b).trans e12, p12'.mono (by omega), .int _, gok_num sv0 sv2, fun z => absurd z hm0⟩⟩
                    · rw [decide_eq_false hr0]
                      exact iteF ⟨_, dd, rfl, e11.trans e11b, p11b.mono (by omega), (e11.trans e11b).dt hlv0, gdd sv sv0 sv2, fun _ => rfl⟩
                  · rw [decide_eq_false hm1]
                    exact iteF (iteF ⟨_, dd, rfl, e11, p11.mono (by omega), e11.dt hlv0, gdd sv sv0 sv2, fun _ => rfl⟩)
              · rintro σ H12 ⟨lv, lb, rfl, e1012, p12, hlv, glb, hlb⟩
                have pp : p ∈ [p, d] := by simp
                have e912 := e10.trans e1012
                have e812 : EX K [p, d] H8 H12 := e89.trans (e912.mono (by simp))
                have e012 := e9.trans e912
                have hg12 : H12 g = some (.lst (as.map fun (a : Nat) => V.int (a : Int))) := e812.at_ hg8 (by simp; exact ⟨ngp, ngd⟩)
                have hcl12 := e012.at_ hcl (by simp; exact nclp)
                have hvc12 := e012.dt hvd
                have G12 := G9.ext e912 (by simp; exact npd.1.symm)
                have haa : atI (as.map fun (a : Nat) => V.int (a : Int)) (0 + (kk : Int)) = some (.int (a : Int)) := by rw [Int.zero_add]; exact atI_nat (by rw [List.getElem?_map, ha]; rfl)
                refine ⟨_, rfl, _, rfl, g, _, _, _, rfl, rfl, .of hg12, haa, ?_⟩
                refine ⟨_, rfl, _, rfl, sz2, fun t1 ht1 => ?_⟩
                have f1 : EX K [] H12 (upd H12 t1 (.tup [lv, .int sv])) := Ext.new ht1
                have dv1 : Dt (upd H12 t1 (.tup [lv, .int sv])) (.ref t1) (glD (lb, sv)) := Dt.new (ks := [lb, .num sv]) ht1 (.cons hlv (.cons (.int _) .nil))
                refine ⟨_, rfl, _, rfl, _, rfl, cl, us, _, vc, rfl, rfl, .of (f1.at0 hcl12), hatc, _, rfl, sz2, fun t2 ht2 => ?_⟩
                have f2 : EX K [] _ (upd (upd H12 t1 (.tup [lv, .int sv])) t2 (.tup [vc, .int (a : Int)])) := Ext.new ht2
                have dk2 : Dt (upd (upd H12 t1 (.tup [lv, .int sv])) t2 (.tup [vc, .int (a : Int)])) (.ref t2) (keyD q0 a) := Dt.new (ks := [plD q0, .num a]) ht2 (.cons (f1.dt hvc12) (.cons (.int _) .nil))
                have f12 := f1.trans f2
                have Gb := G12.ext f12 (by simp)
                obtain ⟨es, hes, hps⟩ := id Gb.da
                have hel := hps.length
                have hgl := Gb.len
                refine ⟨d, es, keyD q0 a, rfl, hes, dk2, keyD_d, by rw [sizeLine_eq]; omega, fun H13 m13 c13 => ?_⟩
                obtain ⟨e13, G13⟩ := Gb.put hes hps ha4 (f2.dt dv1) glb m13 c13
                have e1213 : EX K [d] H12 H13 := f12.nil.trans e13
                refine ⟨_, rfl, _, rfl, sz2, fun t3 ht3 => ?_⟩
                have f3 : EX K [] H13 (upd H13 t3 (.tup [lv, .int sv])) := Ext.new ht3
                have dv3 : Dt (upd H13 t3 (.tup [lv, .int sv])) (.ref t3) (glD (lb, sv)) := Dt.new (ks := [lb, .num sv]) ht3 (.cons (e1213.dt hlv) (.cons (.int _) .nil))
                have hcl13 := e1213.at_ hcl12 (by simp; exact ndcl)
                have hvc13 := e1213.dt hvc12
                refine ⟨_, rfl, _, rfl, _, rfl, cl, us, _, vc, rfl, rfl, .of (f3.at0 hcl13), hatc, _, rfl, vc, q0, a, rfl, f3.dt hvc13, ha4, fun t4 H14 e14 ht4 => ?_⟩
                refine ⟨_, rfl, _, _, rfl, rfl, .inl ⟨_, rfl, _, _, rfl, rfl, (by decide : (0 : Int) < 4), sz2, fun t5 ht5 => ?_⟩⟩
                have f5 : EX K [] H14 (upd H14 t5 (.tup [.ref t4, .int (((a : Int) + 2) % 4)])) := Ext.new ht5
                have dk5 : Dt (upd H14 t5 (.tup [.ref t4, .int (((a : Int) + 2) % 4)])) (.ref t5) (keyD (nb q0 a) (opp a)) := Dt.new (ks := [plD (nb q0 a), .num (opp a)]) ht5 (.cons ht4 (.cons (by rw [opp_mod2]; exact .int _) .nil))
                have f35 := (f3.trans e14).trans f5
                have Gc := G13.ext f35 (by simp)
                obtain ⟨es2, hes2, hps2⟩ := id Gc.da
                have hel2 := hps2.length
                have hgl2 := Gc.len
                refine ⟨d, es2, keyD (nb q0 a) (opp a), rfl, hes2, dk5, keyD_d, by rw [sizeLine_eq]; omega, fun H15 m15 c15 => ?_⟩
                obtain ⟨e15, G15⟩ := Gc.put hes2 hps2 opp_lt ((e14.trans f5).dt dv3) glb m15 c15
                have e1215 : EX K [d] H12 H15 := (e1213.trans f35.nil).trans e15
                have p15 : Pen H15 p c (n + 100 * i + 2 + 20 * kk + 13) := p12.extD e1215 (w := w) fun b hb => by rw [List.mem_singleton.mp hb]; exact ⟨_, G12.da⟩
                refine ⟨some (.int (a : Int)), some (.int (0 + (kk : Int))), some lv, some (.int sv), _, ser + 1, ?_, e012.then1 e1215 (.inl hd), e812.trans (e1215.mono (by simp)), p15.mono (by omega), ⟨G15.da, G15.ok, Nat.le_trans G15.len (by omega)⟩, by omega, fun hz => ?_⟩
                rotate_left
                · have := hun hz
                  have hlb2 := hlb hz
                  exact uniq_put this.1 this.2 ha4 (by rw [hlb2]; exact hdm)
                · rw [show (100 : Int) + ((ser + 1 : Nat) : Int) = 100 + (ser : Int) + 1 by omega]
                  rfl
          · rintro σ H9 ⟨o6, o9, o10, o11, al, ser, rfl, e9, e89, p9, G9, hser, hun⟩
            have hkl : ((as.length : Int)).toNat = as.length := by omega
            rw [hkl] at p9 G9 hser
            exact ⟨_, _, _, _, _, _, _, al, ser, rfl, e9, p9.mono (by omega), ⟨G9.da, G9.ok, Nat.le_trans G9.len (by omega)⟩, by omega, hun⟩
    · rintro σ H5 ⟨o5, o6, o7, o8, o9, o10, o11, al, ser, rfl, e5, p5, G5, hser, hun⟩
      have h2 : ((us.length : Int)).toNat = us.length := by omega
      rw [h2] at p5 G5
      exact ⟨_, rfl, q d al H5 e5 (p5.mono (by omega)) hd ⟨G5.da, G5.ok, Nat.le_trans G5.len (by omega)⟩ fun hz => (hun hz).1⟩
end
end TR
/-! text M4 -/
set_option Elab.async false
set_option linter.all false
set_option maxRecDepth 100000
set_option maxHeartbeats 4000000
/-! worlds: what their parts tell -/
namespace TR
open PySem PySem.Spec PyProof.Rows L2 VD
def unG : D → Gu
  | .tup [x, .num i] => (x, i)
  | _ => (.none, 0)
theorem unG_gl (g : Gu) : unG (glD g) = g := rfl
def glOf (al : AL) (q : Pl) (s : Nat) : Gu := match lkA al (keyD q s) with
  | some x => unG x
  | none => (.none, 0)
theorem glOf_eq {al : AL} {q : Pl} {s : Nat} {g : Gu} (h : lkA al (keyD q s) = some (glD g)) : glOf al q s = g := by unfold glOf; rw [h]; rfl
def U2 (al : AL) : Prop := ∀ c s c' s' g g', s < 4 → s' < 4 → lkA al (keyD c s) = some (glD g) → lkA al (keyD c' s') = some (glD g') → g.1 = g'.1 → 0 < g.2 → 0 < g'.2 → (c' = c ∧ s' = s) ∨ (c' = nb c s ∧ s' = opp s)
theorem Uniq.u2 {al : AL} (h : Uniq al) : U2 al := fun c s c' s' g g' h1 h2 h3 h4 h5 _ _ => h c s c' s' g g' h1 h2 h3 h4 h5
theorem U2.put {al : AL} (h : U2 al) {q : Pl} {s : Nat} {g : Gu} (hn : lkA al (keyD q s) = none) (h0 : g.2 = 0) : U2 (putA al (keyD q s) (glD g)) := by
  intro c1 s1 c2 s2 g1 g2 h1 h2 e1 e2 eg p1 p2
  rw [lkA_put] at e1 e2
  by_cases w1 : keyD c1 s1 = keyD q s
  · rw [if_pos w1] at e1
    have := glD_inj (Option.some.inj e1)
    rw [← this] at p1
    omega
  · rw [if_neg w1] at e1
    by_cases w2 : keyD c2 s2 = keyD q s
    · rw [if_pos w2] at e2
      have := glD_inj (Option.some.inj e2)
      rw [← this] at p2
      omega
    · rw [if_neg w2] at e2
      exact h _ _ _ _ _ _ h1 h2 e1 e2 eg p1 p2
/-- all four sides of a cell -/
def Full (al : AL) (q : Pl) : Prop := ∀ s, s < 4 → ∃ g, lkA al (keyD q s) = some (glD g) ∧ Gok g
theorem Full.put {al : AL} {q q2 : Pl} {s : Nat} {x : D} (h : Full al q) (hn : lkA al (keyD q2 s) = none) : Full (putA al (keyD q2 s) x) q ∧ ∀ s', s' < 4 → glOf (putA al (keyD q2 s) x) q s' = glOf al q s' := by
  have k : ∀ s', s' < 4 → lkA (putA al (keyD q2 s) x) (keyD q s') = lkA al (keyD q s') := fun s' h' => by
    rw [lkA_put, if_neg fun z => ?_]
    obtain ⟨g, hg, _⟩ := h s' h'
    rw [z, hn] at hg; cases hg
  refine ⟨fun s' h' => by rw [k s' h']; exact h s' h', fun s' h' => ?_⟩
  unfold glOf; rw [k s' h']
def kinD (f : Nat → Gu) : D := .tup (kl f)
theorem kl_congr {f g : Nat → Gu} (h : ∀ s, s < 4 → f s = g s) : kl f = kl g := by
  unfold kl
  rw [h 0 (by omega), h 1 (by omega), h 2 (by omega), h 3 (by omega)]
theorem kinD_lq {f : Nat → Gu} (h : Fok f) : Lq 9 (kinD f) := by
  have one : ∀ s, Lq 8 (glD (f s)) := fun s => Lq.of (glD_nice (h s).n (h s).d) (glD_depth (h s).d)
  refine lq_tup (m := 8) fun k hk => ?_
  unfold kl at hk
  simp only [List.mem_cons, List.not_mem_nil, or_false] at hk
  rcases hk with rfl | rfl | rfl | rfl <;> exact one _
theorem kl_lq {f : Nat → Gu} (h : Fok f) : ∀ k ∈ kl f, Lq 8 k := by
  have one : ∀ s, Lq 8 (glD (f s)) := fun s => Lq.of (glD_nice (h s).n (h s).d) (glD_depth (h s).d)
  intro k hk
  unfold kl at hk
  simp only [List.mem_cons, List.not_mem_nil, or_false] at hk
  rcases hk with rfl | rfl | rfl | rfl <;> exact one _
/-- no rivals: each kind has its cell -/
def KProp (L : List (Nat → Gu)) (m : Nat) : Prop := ∃ oc : List Pl, oc.length = L.length ∧ oc.Nodup ∧ oc[0]? = some (0, 0) ∧ oc.length ≤ m ∧
  ∀ (i j : Nat) (f h : Nat → Gu) (s : Nat), L[i]? = some f → L[j]? = some h → s < 4 → f s = h (opp s) → 0 < (f s).2 → ∃ a b, oc[i]? = some a ∧ oc[j]? = some b ∧ b = nb a s
theorem kprop_of {al : AL} {oc : List Pl} {m : Nat} (u : U2 al) (hf : ∀ q ∈ oc, Full al q) (nd : oc.Nodup) (h0 : oc[0]? = some (0, 0)) (hm : oc.length ≤ m) : KProp (oc.map (glOf al)) m := by
  refine ⟨oc, (List.length_map _).symm, nd, h0, hm, fun i j f h s hi hj hs e hp => ?_⟩
  rw [List.getElem?_map] at hi hj
  obtain ⟨a, ha, rfl⟩ := Option.map_eq_some_iff.mp hi
  obtain ⟨b, hb, rfl⟩ := Option.map_eq_some_iff.mp hj
  refine ⟨a, b, ha, hb, ?_⟩
  obtain ⟨g1, e1, _⟩ := hf a (List.mem_of_getElem? ha) s hs
  obtain ⟨g2, e2, _⟩ := hf b (List.mem_of_getElem? hb) (opp s) opp_lt
  rw [glOf_eq e1, glOf_eq e2] at e
  rw [glOf_eq e1] at hp
  rcases u a s b (opp s) g1 g2 hs opp_lt e1 e2 (by rw [e]) hp (by rw [← e]; exact hp) with ⟨_, h2⟩ | ⟨h1, _⟩
  · unfold opp at h2; omega
  · exact h1
/-- the names -/
def NmOk (NL : List (Nat × D)) : Prop := ∀ (i : Nat) (x : Nat × D), NL[i]? = some x → ∃ m j, (m = i ∨ m = i + 950) ∧ j ≤ 6 ∧ Dm m j x.2
theorem nm_inj {NL : List (Nat × D)} (h : NmOk NL) (hl : NL.length ≤ 100) {i j : Nat} {x y : Nat × D} (hi : NL[i]? = some x) (hj : NL[j]? = some y) (e : x.2.data.shown.cps.toList = y.2.data.shown.cps.toList) : i = j := by
  obtain ⟨m, a, h1, _, h2⟩ := h i x hi
  obtain ⟨m', a', h3, _, h4⟩ := h j y hj
  have := h2.serial h4 e
  have l1 := (List.getElem?_eq_some_iff.mp hi).1
  have l2 := (List.getElem?_eq_some_iff.mp hj).1
  omega
theorem nm_nd {NL : List (Nat × D)} (h : NmOk NL) (hl : NL.length ≤ 100) : (NL.map (·.2)).Nodup := by
  refine List.pairwise_iff_getElem.mpr fun i j hi hj hij e => ?_
  rw [List.length_map] at hi hj
  have := nm_inj h hl (List.getElem?_eq_getElem hi) (List.getElem?_eq_getElem hj) (by
    have e : NL[i].2 = NL[j].2 := by simpa using e
    rw [e])
  omega
def glN (L : List (Nat → Gu)) (NL : List (Nat × D)) (n : D) (s : Nat) : Gu := match NL.find? (fun x => decide (x.2 = n)) with
  | some x => (match L[x.1]? with
    | some f => f s
    | none => (.none, 0))
  | none => (.none, 0)
theorem find_nm {NL : List (Nat × D)} (nd : (NL.map (·.2)).Nodup) {x : Nat × D} (hx : x ∈ NL) : NL.find? (fun y => decide (y.2 = x.2)) = some x := by
  induction NL with
  | nil => cases hx
  | cons a NL ih =>
    rw [List.map_cons, List.nodup_cons] at nd
    rw [List.find?_cons]
    rcases List.mem_cons.mp hx with rfl | hx
    · rw [decide_eq_true rfl]
    · rw [decide_eq_false (fun z => nd.1 (by rw [z]; exact List.mem_map.mpr ⟨_, hx, rfl⟩))]
      exact ih nd.2 hx
theorem glN_eq {L : List (Nat → Gu)} {NL : List (Nat × D)} (nd : (NL.map (·.2)).Nodup) {x : Nat × D} {f : Nat → Gu} (hx : x ∈ NL) (hf : L[x.1]? = some f) (s : Nat) : glN L NL x.2 s = f s := by
  unfold glN; rw [find_nm nd hx]; dsimp only; rw [hf]
theorem glN_ok {L : List (Nat → Gu)} {NL : List (Nat × D)} (h : ∀ f ∈ L, Fok f) (n : D) (s : Nat) : Gok (glN L NL n s) := by
  unfold glN
  split
  · split
    · rename_i f e
      exact h f (List.mem_of_getElem? e) s
    · exact gok_non
  · exact gok_non
theorem world_nice {L : List (Nat → Gu)} {NL : List (Nat × D)} {order : List D} (hn : NmOk NL) (hl : NL.length ≤ 100) (hL : ∀ f ∈ L, Fok f) (pm : order.Perm (NL.map (·.2))) (hs : order.Pairwise fun a b => a.data.shown.cps.toList ≤ b.data.shown.cps.toList) : WNice ⟨order, glN L NL⟩ := by
  have mem : ∀ n ∈ order, ∃ (i : Nat) (x : Nat × D), NL[i]? = some x ∧ x.2 = n := fun n hm => by
    obtain ⟨x, hx, rfl⟩ := List.mem_map.mp (pm.mem_iff.mp hm)
    obtain ⟨i, hi⟩ := List.mem_iff_getElem?.mp hx
    exact ⟨i, x, hi, rfl⟩
  refine ⟨⟨pm.nodup_iff.mpr (nm_nd hn hl), fun n s => (glN_ok hL n s).lo, fun n s => (glN_ok hL n s).hi⟩, fun n hm => ?_, fun n s => ⟨(glN_ok hL n s).n, (glN_ok hL n s).d⟩, ?_, hs, fun a ha b hb e => ?_⟩
  · obtain ⟨i, x, hi, rfl⟩ := mem n hm
    obtain ⟨m, j, h1, h2, h3⟩ := hn i x hi
    have := (List.getElem?_eq_some_iff.mp hi).1
    exact ⟨h3.nice h2, Nat.le_trans h3.depth h2, h3.ne, h3.shw (by omega) h2⟩
  · have := pm.length_eq
    rw [List.length_map] at this
    show order.length ≤ 100
    omega
  · obtain ⟨i, x, hi, rfl⟩ := mem a ha
    obtain ⟨j, y, hj, rfl⟩ := mem b hb
    have := nm_inj hn hl hi hj e
    subst this
    rw [hi] at hj; cases hj; rfl
def shift (sd q : Pl) : Pl := (q.1 + sd.1, q.2 + sd.2)
theorem shift_inj {sd a b : Pl} (h : shift sd a = shift sd b) : a = b := by
  have h1 := congrArg Prod.fst h
  have h2 := congrArg Prod.snd h
  simp [shift] at h1 h2
  exact Prod.ext h1 h2
theorem shift_nb {sd a : Pl} {s : Nat} (h : s < 4) : shift sd (nb a s) = nb (shift sd a) s := by
  match s, h with
  | 0, _ => simp [shift, nb]; omega
  | 1, _ => simp [shift, nb]; omega
  | 2, _ => simp [shift, nb]; omega
  | 3, _ => simp [shift, nb]; omega
theorem world_own {L : List (Nat → Gu)} {NL : List (Nat × D)} {order : List D} {m : Nat} {sd : Pl} {sn : D} (hn : NmOk NL) (hl : NL.length ≤ 100) (pm : order.Perm (NL.map (·.2))) (hk : (NL.map (·.1)).Perm (List.range L.length)) (kp : KProp L m) (h0 : (0, sn) ∈ NL) :
    ∃ loc, Own ⟨order, glN L NL⟩ loc ∧ loc sn = sd ∧ order.length ≤ m := by
  obtain ⟨oc, ho1, ho2, ho3, ho4, ho5⟩ := kp
  have nd := nm_nd hn hl
  have knd : (NL.map (·.1)).Nodup := hk.nodup_iff.mpr List.nodup_range
  let loc : D → Pl := fun n => match NL.find? (fun x => decide (x.2 = n)) with
    | some x => shift sd (oc.getD x.1 (0, 0))
    | none => sd
  have loc_eq : ∀ x ∈ NL, loc x.2 = shift sd (oc.getD x.1 (0, 0)) := fun x hx => by
    show (match NL.find? (fun y => decide (y.2 = x.2)) with | some x => shift sd (oc.getD x.1 (0, 0)) | none => sd) = _
    rw [find_nm nd hx]
  have lt : ∀ x ∈ NL, x.1 < L.length := fun x hx => List.mem_range.mp (hk.mem_iff.mp (List.mem_map.mpr ⟨x, hx, rfl⟩))
  have mem : ∀ n ∈ order, ∃ x ∈ NL, x.2 = n := fun n hm => by
    obtain ⟨x, hx, rfl⟩ := List.mem_map.mp (pm.mem_iff.mp hm)
    exact ⟨x, hx, rfl⟩
  refine ⟨loc, ⟨fun a ha b hb e => ?_, fun a ha b hb s hs e hp => ?_⟩, ?_, ?_⟩
  · obtain ⟨x, hx, rfl⟩ := mem a ha
    obtain ⟨y, hy, rfl⟩ := mem b hb
    rw [loc_eq x hx, loc_eq y hy] at e
    have e := shift_inj e
    have l1 := lt x hx
    have l2 := lt y hy
    rw [← ho1] at l1 l2
    rw [List.getD_eq_getElem?_getD, List.getD_eq_getElem?_getD, List.getElem?_eq_getElem l1, List.getElem?_eq_getElem l2] at e
    have e : oc[x.1] = oc[y.1] := e
    have e2 : x.1 = y.1 := (List.getElem?_inj l1 ho2).mp (by rw [List.getElem?_eq_getElem l1, List.getElem?_eq_getElem l2, e])
    obtain ⟨i, hi⟩ := List.mem_iff_getElem?.mp hx
    obtain ⟨j, hj⟩ := List.mem_iff_getElem?.mp hy
    have e3 : i = j := by
      have l3 := (List.getElem?_eq_some_iff.mp hi).1
      refine (List.getElem?_inj (l := NL.map (·.1)) (by rw [List.length_map]; exact l3) knd).mp ?_
      rw [List.getElem?_map, List.getElem?_map, hi, hj, Option.map_some, Option.map_some, e2]
    subst e3
    rw [hi] at hj; cases hj; rfl
  · obtain ⟨x, hx, rfl⟩ := mem a ha
    obtain ⟨y, hy, rfl⟩ := mem b hb
    have l1 := lt x hx
    have l2 := lt y hy
    have f1 := List.getElem?_eq_getElem l1
    have f2 := List.getElem?_eq_getElem l2
    have e : glN L NL x.2 s = glN L NL y.2 (opp s) := e
    have hp : 0 < (glN L NL x.2 s).2 := hp
    rw [glN_eq nd hx f1, glN_eq nd hy f2] at e
    rw [glN_eq nd hx f1] at hp
    obtain ⟨a, b, h1, h2, h3⟩ := ho5 _ _ _ _ s f1 f2 hs e hp
    rw [loc_eq x hx, loc_eq y hy, List.getD_eq_getElem?_getD, List.getD_eq_getElem?_getD, h1, h2, h3]
    exact shift_nb hs
  · rw [loc_eq _ h0, List.getD_eq_getElem?_getD, ho3]
    simp [shift]
  · have h1 := pm.length_eq
    have h2 := hk.length_eq
    rw [List.length_map] at h1 h2
    rw [List.length_range] at h2
    omega
end TR
/-! text FV -/
set_option Elab.async false
set_option linter.all false
set_option maxRecDepth 100000
set_option maxHeartbeats 4000000
set_option pp.maxSteps 300
set_option pp.deepTerms false
/-! worlds -/
namespace TR
open PySem PySem.Spec PyProof.Rows L2 VD
/-- what stands while a world is made -/
structure WS (K : PySem.W.Frag) (w : World) (H0 H : Hp) (p c : Addr) (n : Nat) (cl kd gl : Addr) (cs : List Pl) (L : List (Nat → Gu)) (al : AL) : Prop where
  e : EX K [p] H0 H
  pen : Pen H p c n
  hcl : ∃ us, H cl = some (.lst us) ∧ DtAll H us (cs.map plD)
  hkd : ∃ ks, H kd = some (.lst ks) ∧ DtAll H ks (L.map kinD)
  fk : ∀ f ∈ L, Fok f
  hgl : GluI w H gl al 1000
  f1 : H0 cl = none
  f2 : H0 kd = none
  f3 : H0 gl = none
  n1 : cl ≠ kd
section
variable {P : Program} {w : World} {K : PySem.W.Frag} {mg : Str → Option Value} {base : Heap} {Z H H0 H1 H2 : Hp} {B : BA} {W : Wd} {M M' : Bd} {sd : Pl} {bad : List Pl} {o d p c cl kd gl : Addr} {n m : Nat} {al al2 : AL} {S : List Addr} {cs : List Pl} {L : List (Nat → Gu)}
theorem WS.ext0 (h : WS K w H0 H p c n cl kd gl cs L al) (e : EX K [] H H1) : WS K w H0 H1 p c n cl kd gl cs L al :=
  ⟨h.e.trans e.nil, h.pen.ext0 e, let ⟨us, a, b⟩ := h.hcl; ⟨us, e.at0 a, e.dts b⟩, let ⟨us, a, b⟩ := h.hkd; ⟨us, e.at0 a, e.dts b⟩, h.fk, h.hgl.ext e (by simp), h.f1, h.f2, h.f3, h.n1⟩
theorem WS.draw (h : WS K w H0 H p c n cl kd gl cs L al) (e : EX K [p] H H1) (g : Pen H1 p c m) : WS K w H0 H1 p c m cl kd gl cs L al :=
  ⟨h.e.trans e, g, let ⟨us, a, b⟩ := h.hcl; ⟨us, h.pen.at_ e a, e.dts b⟩, let ⟨us, a, b⟩ := h.hkd; ⟨us, h.pen.at_ e a, e.dts b⟩, h.fk, h.hgl.ext e (by simp; exact (h.pen.neD h.hgl.da).1), h.f1, h.f2, h.f3, h.n1⟩
theorem WS.mono (h : WS K w H0 H p c n cl kd gl cs L al) (hm : n ≤ m) : WS K w H0 H p c m cl kd gl cs L al := ⟨h.e, h.pen.mono hm, h.hcl, h.hkd, h.fk, h.hgl, h.f1, h.f2, h.f3, h.n1⟩
theorem Pen.lst (h : Pen H p c n) {l : Addr} (hl : H0 l = none) (e : EX K [p] H0 H) (h0 : Pen H0 p c m) {us : List V} (hx : H l = some (.lst us)) {ys : List V} : Pen (upd H l (.lst ys)) p c n :=
  h.chg Chg.upd (h.neL hx).symm (h0.neC hl)
theorem WS.app (h : WS K w H0 H p c n cl kd gl cs L al) (h0 : Pen H0 p c m) {ks : List V} {v : V} {f : Nat → Gu} (hk : H kd = some (.lst ks)) (hd : DtAll H ks (L.map kinD)) (hv : Dt H v (kinD f)) (hf : Fok f) : WS K w H0 (upd H kd (.lst (ks ++ [v]))) p c n cl kd gl cs (L ++ [f]) al := by
  have e1 : EX K [kd] H (upd H kd (.lst (ks ++ [v]))) := Ext.refl.lst hk (.inr (by simp))
  obtain ⟨us, a, b⟩ := h.hcl
  have ng : gl ≠ kd := by
    obtain ⟨o, ho, n1, _⟩ := h.hgl.da.noSeq
    intro z; rw [z, hk] at ho; cases ho; exact n1 _ rfl
  refine ⟨h.e.then1 e1 (.inl h.f2), h.pen.lst h.f2 h.e h0 hk, ⟨us, e1.at_ a (by simp; exact h.n1), e1.dts b⟩, ⟨_, upd_same, ?_⟩, fun g hg => ?_, h.hgl.ext e1 (by simp; exact ng), h.f1, h.f2, h.f3, h.n1⟩
  · rw [List.map_append]
    exact (e1.dts hd).app (.cons (e1.dt hv) .nil)
  · rcases List.mem_append.mp hg with hg | hg
    · exact h.fk g hg
    · rw [List.mem_singleton.mp hg]; exact hf
theorem WS.gput (h : WS K w H0 H p c n cl kd gl cs L al) (e : EX K [gl] H H1) (g : GluI w H1 gl al2 1000) : WS K w H0 H1 p c n cl kd gl cs L al2 := by
  have nl : ∀ {l : Addr} {us : List V}, H l = some (.lst us) → l ≠ gl := fun {l us} hl z => by
    obtain ⟨o, ho, n1, _⟩ := h.hgl.da.noSeq
    rw [← z, hl] at ho; cases ho; exact n1 _ rfl
  obtain ⟨us, a, b⟩ := h.hcl
  obtain ⟨ks, a2, b2⟩ := h.hkd
  exact ⟨h.e.then1 e (.inl h.f3), h.pen.extD e (w := w) fun b hb => by rw [List.mem_singleton.mp hb]; exact ⟨_, h.hgl.da⟩, ⟨us, e.at_ a (by simp; exact nl a), e.dts b⟩, ⟨ks, e.at_ a2 (by simp; exact nl a2), e.dts b2⟩, h.fk, g, h.f1, h.f2, h.f3, h.n1⟩
theorem WS.other (h : WS K w H0 H p c n cl kd gl cs L al) (h0 : Pen H0 p c m) {l : Addr} {us ys : List V} (hl : H l = some (.lst us)) (hf : H0 l = none) (n1 : l ≠ cl) (n2 : l ≠ kd) : WS K w H0 (upd H l (.lst ys)) p c n cl kd gl cs L al := by
  have e1 : EX K [l] H (upd H l (.lst ys)) := Ext.refl.lst hl (.inr (by simp))
  obtain ⟨us1, a, b⟩ := h.hcl
  obtain ⟨ks, a2, b2⟩ := h.hkd
  have ng : gl ≠ l := by
    obtain ⟨o, ho, n1, _⟩ := h.hgl.da.noSeq
    intro z; rw [z, hl] at ho; cases ho; exact n1 _ rfl
  exact ⟨h.e.then1 e1 (.inl hf), h.pen.lst hf h.e h0 hl, ⟨us1, e1.at_ a (by simp; exact n1.symm), e1.dts b⟩, ⟨ks, e1.at_ a2 (by simp; exact n2.symm), e1.dts b2⟩, h.fk, h.hgl.ext e1 (by simp; exact ng), h.f1, h.f2, h.f3, h.n1⟩
theorem WS.neN (h : WS K w H0 H p c n cl kd gl cs L al) {l : Addr} (hl : H l = none) : H0 l = none ∧ l ≠ cl ∧ l ≠ kd := by
  obtain ⟨us1, a, b⟩ := h.hcl
  obtain ⟨ks, a2, b2⟩ := h.hkd
  exact ⟨h.e.fresh hl, (ne_of_none a hl).symm, (ne_of_none a2 hl).symm⟩
/-- a list of four glues -/
def K8 (H0 H : Hp) (cl kd k8 : Addr) (f : Nat → Gu) : Prop := (∃ vs, H k8 = some (.lst vs) ∧ DtAll H vs (kl f)) ∧ H0 k8 = none ∧ k8 ≠ cl ∧ k8 ≠ kd
theorem K8.ext0 {k8 : Addr} {f : Nat → Gu} (h : K8 H0 H cl kd k8 f) (e : EX K [] H H1) : K8 H0 H1 cl kd k8 f := let ⟨⟨vs, a, b⟩, r⟩ := h; ⟨⟨vs, e.at0 a, e.dts b⟩, r⟩
theorem K8.draw {k8 : Addr} {f : Nat → Gu} (h : K8 H0 H cl kd k8 f) (g : Pen H p c n) (e : EX K [p] H H1) : K8 H0 H1 cl kd k8 f := let ⟨⟨vs, a, b⟩, r⟩ := h; ⟨⟨vs, g.at_ e a, e.dts b⟩, r⟩
theorem kind_any {ks : List V} {v : V} (hk : DtAll H ks (L.map kinD)) (hv : v ∈ ks) : ∃ t vs, ∃ f ∈ L, v = .ref t ∧ H t = some (.tup vs) ∧ DtAll H vs (kl f) := by
  obtain ⟨j, hj⟩ := List.mem_iff_getElem?.mp hv
  obtain ⟨k, hk2, hd⟩ := hk.get hj
  obtain ⟨f, hf, rfl⟩ := Option.map_eq_some_iff.mp (by rw [← List.getElem?_map]; exact hk2)
  cases hd with
  | tup a b => exact ⟨_, _, f, List.mem_of_getElem? hf, rfl, a, b⟩
/-- lists of glues, one after the other; none of them is D -/
inductive LLs (H : Hp) (D : Addr) : List V → List (Nat → Gu) → Prop
  | nil : LLs H D [] []
  | cons {l : Addr} {vs r : List V} {f : Nat → Gu} {fs : List (Nat → Gu)} : H l = some (.lst vs) → DtAll H vs (kl f) → l ≠ D → LLs H D r fs → LLs H D (.ref l :: r) (f :: fs)
theorem LLs.ext {D : Addr} {acc : List V} {fs : List (Nat → Gu)} (h : LLs H D acc fs) (e : EX K [D] H H1) : LLs H1 D acc fs := by
  induction h with
  | nil => exact .nil
  | cons a b n _ ih => exact .cons (e.at_ a (by simp; exact n)) (e.dts b) n ih
theorem LLs.app {D : Addr} {acc : List V} {fs : List (Nat → Gu)} (h : LLs H D acc fs) {l : Addr} {vs : List V} {f : Nat → Gu} (a : H l = some (.lst vs)) (b : DtAll H vs (kl f)) (n : l ≠ D) : LLs H D (acc ++ [.ref l]) (fs ++ [f]) := by
  induction h with
  | nil => exact .cons a b n .nil
  | cons a' b' n' _ ih => exact .cons a' b' n' ih
theorem LLs.dp {D : Addr} {acc : List V} {fs : List (Nat → Gu)} (h : LLs H D acc fs) : DpAll K H acc (fs.map fun f => .list (NestedKey.datas (kl f))) := by
  induction h with
  | nil => exact .nil
  | cons a b _ _ ih => exact .cons (dpL a b) ih
theorem lls_shaped {fs : List (Nat → Gu)} (h : ∀ f ∈ fs, Fok f) : SeqAt.shaped (.list (fs.map fun f => .list (NestedKey.datas (kl f)))) = true := by
  have a : ∀ fs : List (Nat → Gu), (∀ f ∈ fs, Fok f) → PyData.canLayAll0 (fs.map fun f => PyData.list (NestedKey.datas (kl f))) = true ∧ PyData.depthAll (fs.map fun f => PyData.list (NestedKey.datas (kl f))) ≤ 20 := by
    intro fs
    induction fs with
    | nil => intro _; simp [PyData.canLayAll0, PyData.depthAll]
    | cons f fs ih =>
      intro h
      obtain ⟨h1, h2⟩ := ih fun g hg => h g (List.mem_cons_of_mem _ hg)
      obtain ⟨h3, h4⟩ := lq_all (kl_lq (h f List.mem_cons_self))
      constructor
      · simp only [List.map_cons, PyData.canLayAll0, PyData.canLay0, h1, h4, Bool.and_self]
      · simp only [List.map_cons, PyData.depthAll, PyData.depth]
        rw [depth_datas]; omega
  obtain ⟨h1, h2⟩ := a fs h
  show ((PyData.list _).canLay0 && decide ((PyData.list _).depth ≤ 64)) = true
  rw [decide_eq_true (by simp only [PyData.depth]; omega)]
  simp only [PyData.canLay0, h1, Bool.and_self]
theorem GluI.fok (h : GluI w H d al n) (q : Pl) : Fok (glOf al q) := fun s => by
  unfold glOf
  cases e : lkA al (keyD q s) with
  | none => exact gok_non
  | some x =>
    obtain ⟨g', rfl, hg'⟩ := h.get e
    exact hg'
theorem kinds_lq (h : ∀ f ∈ L, Fok f) : ∀ k ∈ L.map kinD, Lq 9 k := fun k hk => by
  obtain ⟨f, hf, rfl⟩ := List.mem_map.mp hk
  exact kinD_lq (h f hf)
def nmD (x : Nat × D) : D := .tup [.num (x.1 : Int), x.2]
def nzG : Nat → Gu := fun _ => (.none, 0)
def galOf (L : List (Nat → Gu)) (NL : List (Nat × D)) : AL := NL.map fun x => (x.2, kinD (L.getD x.1 nzG))
/-- the world's dict, being made -/
structure WT (K : PySem.W.Frag) (w : World) (H0 H : Hp) (p c : Addr) (n : Nat) (cl kd : Addr) (cs : List Pl) (L : List (Nat → Gu)) (o g nl : Addr) (ol : List (Key × V)) (gal : AL) (NL : List (Nat × D)) : Prop where
  e : EX K [p] H0 H
  pen : Pen H p c n
  hcl : ∃ us, H cl = some (.lst us) ∧ DtAll H us (cs.map plD)
  hkd : ∃ ks, H kd = some (.lst ks) ∧ DtAll H ks (L.map kinD)
  ho : H o = some (.dK ol)
  hg : DictA w H g gal
  hnl : ∃ xs, H nl = some (.lst xs) ∧ DtAll H xs (NL.map nmD)
  fo : H0 o = none
  fg : H0 g = none
  fn : H0 nl = none
  n1 : nl ≠ cl
  n2 : nl ≠ kd
  hp : H0 p ≠ none
  hc : H0 c ≠ none
section
variable {g nl : Addr} {ol ol2 : List (Key × V)} {gal gal2 : AL} {NL : List (Nat × D)}
theorem WT.nn (h : H0 d = none) (hp : H0 p ≠ none) : p ≠ d := fun z => hp (by rw [z]; exact h)
theorem WT.mono (h : WT K w H0 H p c n cl kd cs L o g nl ol gal NL) (hm : n ≤ m) : WT K w H0 H p c m cl kd cs L o g nl ol gal NL := ⟨h.e, h.pen.mono hm, h.hcl, h.hkd, h.ho, h.hg, h.hnl, h.fo, h.fg, h.fn, h.n1, h.n2, h.hp, h.hc⟩
theorem WT.ext0 (h : WT K w H0 H p c n cl kd cs L o g nl ol gal NL) (e : EX K [] H H1) : WT K w H0 H1 p c n cl kd cs L o g nl ol gal NL :=
  ⟨h.e.trans e.nil, h.pen.ext0 e, let ⟨us, a, b⟩ := h.hcl; ⟨us, e.at0 a, e.dts b⟩, let ⟨us, a, b⟩ := h.hkd; ⟨us, e.at0 a, e.dts b⟩, e.at0 h.ho, h.hg.ext e (by simp), let ⟨us, a, b⟩ := h.hnl; ⟨us, e.at0 a, e.dts b⟩, h.fo, h.fg, h.fn, h.n1, h.n2, h.hp, h.hc⟩
theorem WT.draw (h : WT K w H0 H p c n cl kd cs L o g nl ol gal NL) (e : EX K [p] H H1) (q : Pen H1 p c m) : WT K w H0 H1 p c m cl kd cs L o g nl ol gal NL :=
  ⟨h.e.trans e, q, let ⟨us, a, b⟩ := h.hcl; ⟨us, h.pen.at_ e a, e.dts b⟩, let ⟨us, a, b⟩ := h.hkd; ⟨us, h.pen.at_ e a, e.dts b⟩, e.at_ h.ho (by rw [List.mem_singleton]; exact (WT.nn h.fo h.hp).symm), h.hg.ext e (by rw [List.mem_singleton]; exact (h.pen.neD h.hg).1), let ⟨us, a, b⟩ := h.hnl; ⟨us, h.pen.at_ e a, e.dts b⟩, h.fo, h.fg, h.fn, h.n1, h.n2, h.hp, h.hc⟩
theorem da_lst {l : Addr} {us : List V} (h : DictA w H d al) (hl : H l = some (.lst us)) : d ≠ l := fun z => by
  obtain ⟨o, ho, n1, _⟩ := h.noSeq
  rw [z, hl] at ho; cases ho; exact n1 _ rfl
theorem da_dk {l : Addr} {us : List (Key × V)} (h : DictA w H d al) (hl : H l = some (.dK us)) : d ≠ l := fun z => by
  obtain ⟨o, ho, _, _, _, n1, _⟩ := h.noSeq
  rw [z, hl] at ho; cases ho; exact n1 _ rfl
theorem lst_dk {l : Addr} {us : List V} {xs : List (Key × V)} (hl : H l = some (.lst us)) (hd : H d = some (.dK xs)) : l ≠ d := fun z => by
  rw [z, hd] at hl; cases hl
theorem WT.app (h : WT K w H0 H p c n cl kd cs L o g nl ol gal NL) {xs : List V} {v : V} {x : Nat × D} (hx : H nl = some (.lst xs)) (hd : DtAll H xs (NL.map nmD)) (hv : Dt H v (nmD x)) : WT K w H0 (upd H nl (.lst (xs ++ [v]))) p c n cl kd cs L o g nl ol gal (NL ++ [x]) := by
  have e1 : EX K [nl] H (upd H nl (.lst (xs ++ [v]))) := Ext.refl.lst hx (.inr (by simp))
  obtain ⟨us, a, b⟩ := h.hcl
  obtain ⟨ks, a2, b2⟩ := h.hkd
  refine ⟨h.e.then1 e1 (.inl h.fn), h.pen.chg Chg.upd (WT.nn h.fn h.hp) (WT.nn h.fn h.hc), ⟨us, e1.at_ a (by rw [List.mem_singleton]; exact h.n1.symm), e1.dts b⟩, ⟨ks, e1.at_ a2 (by rw [List.mem_singleton]; exact h.n2.symm), e1.dts b2⟩, e1.at_ h.ho (by rw [List.mem_singleton]; exact (lst_dk hx h.ho).symm), h.hg.ext e1 (by rw [List.mem_singleton]; exact da_lst h.hg hx), ⟨_, upd_same, ?_⟩, h.fo, h.fg, h.fn, h.n1, h.n2, h.hp, h.hc⟩
  rw [List.map_append]
  exact (e1.dts hd).app (.cons (e1.dt hv) .nil)
theorem WT.gput (h : WT K w H0 H p c n cl kd cs L o g nl ol gal NL) (e : EX K [g] H H1) (q : DictA w H1 g gal2) : WT K w H0 H1 p c n cl kd cs L o g nl ol gal2 NL := by
  obtain ⟨us, a, b⟩ := h.hcl
  obtain ⟨ks, a2, b2⟩ := h.hkd
  obtain ⟨xs, a3, b3⟩ := h.hnl
  exact ⟨h.e.then1 e (.inl h.fg), h.pen.extD e (w := w) fun b hb => by rw [List.mem_singleton.mp hb]; exact ⟨_, h.hg⟩, ⟨us, e.at_ a (by rw [List.mem_singleton]; exact (da_lst h.hg a).symm), e.dts b⟩, ⟨ks, e.at_ a2 (by rw [List.mem_singleton]; exact (da_lst h.hg a2).symm), e.dts b2⟩, e.at_ h.ho (by rw [List.mem_singleton]; exact (da_dk h.hg h.ho).symm), q, ⟨xs, e.at_ a3 (by rw [List.mem_singleton]; exact (da_lst h.hg a3).symm), e.dts b3⟩, h.fo, h.fg, h.fn, h.n1, h.n2, h.hp, h.hc⟩
theorem WT.oput (h : WT K w H0 H p c n cl kd cs L o g nl ol gal NL) (ol2 : List (Key × V)) : EX K [o] H (upd H o (.dK ol2)) ∧ WT K w H0 (upd H o (.dK ol2)) p c n cl kd cs L o g nl ol2 gal NL := by
  have e : EX K [o] H (upd H o (.dK ol2)) := Ext.refl.dK h.ho (.inr (by simp))
  obtain ⟨us, a, b⟩ := h.hcl
  obtain ⟨ks, a2, b2⟩ := h.hkd
  obtain ⟨xs, a3, b3⟩ := h.hnl
  exact ⟨e, h.e.then1 e (.inl h.fo), h.pen.chg Chg.upd (WT.nn h.fo h.hp) (WT.nn h.fo h.hc), ⟨us, e.at_ a (by rw [List.mem_singleton]; exact lst_dk a h.ho), e.dts b⟩, ⟨ks, e.at_ a2 (by rw [List.mem_singleton]; exact lst_dk a2 h.ho), e.dts b2⟩, upd_same, h.hg.ext e (by rw [List.mem_singleton]; exact da_dk h.hg h.ho), ⟨xs, e.at_ a3 (by rw [List.mem_singleton]; exact lst_dk a3 h.ho), e.dts b3⟩, h.fo, h.fg, h.fn, h.n1, h.n2, h.hp, h.hc⟩
end
theorem galOf_new {L : List (Nat → Gu)} {NL : List (Nat × D)} {i : Nat} {x : Nat × D} (h : (NL.map (·.2)).Nodup) (hx : NL[i]? = some x) : putA (galOf L (NL.take i)) x.2 (kinD (L.getD x.1 nzG)) = galOf L (NL.take (i + 1)) := by
  have hi := (List.getElem?_eq_some_iff.mp hx).1
  rw [putA_new]
  · unfold galOf
    rw [List.take_add_one, hx, List.map_append]; rfl
  · cases e : lkA (galOf L (NL.take i)) x.2 with
    | none => rfl
    | some y =>
      exfalso
      obtain ⟨z, hz, hz2⟩ := List.mem_map.mp (lkA_mem e)
      obtain ⟨j, hj⟩ := List.mem_iff_getElem?.mp hz
      have hj2 := (List.getElem?_eq_some_iff.mp hj).1
      rw [List.length_take] at hj2
      rw [List.getElem?_take, if_pos (by omega)] at hj
      have : j = i := (List.getElem?_inj (l := NL.map (·.2)) (by rw [List.length_map]; omega) h).mp (by
        rw [List.getElem?_map, List.getElem?_map, hj, hx, Option.map_some, Option.map_some, (Prod.mk.inj hz2).1])
      omega
theorem repr_sorted {bs : List VN} : ((bs.mergeSort (PySem.W.dataLe false fun b : VN => .str b.2.data.shown)).map (·.2)).Pairwise fun a b => a.data.shown.cps.toList ≤ b.data.shown.cps.toList := by
  rw [PySem.W.dataLe_str (fun b : VN => b.2.data.shown)]
  have so := List.pairwise_mergeSort (le := fun a b : VN => decide (a.2.data.shown.cps.toList ≤ b.2.data.shown.cps.toList)) (fun a b c h k => by
    have h := of_decide_eq_true h
    have k := of_decide_eq_true k
    exact decide_eq_true (List.le_trans h k)) (fun a b => by
    rw [Bool.or_eq_true, decide_eq_true_eq, decide_eq_true_eq]
    exact List.le_total _ _) bs
  exact List.pairwise_map.mpr (so.imp fun {a b} h => of_decide_eq_true h)
theorem perm_map {k : Nat} {ys : List V} (h : ys.Perm (rgV 0 (k : Int))) : ∃ ms : List Nat, ys = ms.map (fun (a : Nat) => V.int (a : Int)) ∧ ms.Perm (List.range k) := by
  have e : rgV 0 (k : Int) = (List.range k).map fun (a : Nat) => V.int (a : Int) := by
    unfold rgV
    rw [show ((k : Int) - 0).toNat = k by omega]
    exact List.map_congr_left fun a _ => by rw [Int.zero_add]
  rw [e] at h
  have inj : ∀ a b : Nat, V.int (a : Int) = V.int (b : Int) → a = b := fun a b z => by injection z with z; omega
  have hm : ∀ y ∈ ys, ∃ a : Nat, y = V.int (a : Int) := fun y hy => by
    obtain ⟨a, _, rfl⟩ := List.mem_map.mp (h.mem_iff.mp hy)
    exact ⟨a, rfl⟩
  obtain ⟨ms, rfl⟩ : ∃ ms : List Nat, ys = ms.map fun (a : Nat) => V.int (a : Int) := by
    clear h e
    induction ys with
    | nil => exact ⟨[], rfl⟩
    | cons y ys ih =>
      obtain ⟨a, rfl⟩ := hm y List.mem_cons_self
      obtain ⟨ms, rfl⟩ := ih fun y hy => hm y (List.mem_cons_of_mem _ hy)
      exact ⟨a :: ms, rfl⟩
  refine ⟨ms, rfl, ?_⟩
  have nd : ((List.range k).map fun (a : Nat) => V.int (a : Int)).Nodup := List.pairwise_map.mpr (List.nodup_range.imp fun {a b} hne z => hne (inj a b z))
  refine (List.perm_ext_iff_of_nodup ?_ List.nodup_range).mpr fun a => ?_
  · exact (List.pairwise_map.mp (h.nodup_iff.mpr nd)).imp fun {a b} hne z => hne (by rw [z])
  · have := h.mem_iff (a := V.int (a : Int))
    constructor
    · intro ha
      obtain ⟨b, hb, z⟩ := List.mem_map.mp (this.mp (List.mem_map.mpr ⟨a, ha, rfl⟩))
      rwa [inj _ _ z] at hb
    · intro ha
      obtain ⟨b, hb, z⟩ := List.mem_map.mp (this.mpr (List.mem_map.mpr ⟨a, ha, rfl⟩))
      rwa [inj _ _ z] at hb
def spWorld (K : PySem.W.Frag) (w : World) : Sp := fun vs H Q _ => ∃ (p c : Addr) (m mx n : Nat), vs = [.ref p, .int m, .int mx] ∧ Pen H p c n ∧ 1 ≤ m ∧ m ≤ 15 ∧ mx ≤ 2 ∧ n < 1000000000 ∧ LamX.Tabs (TabK K) H ∧
  ∀ (o : Addr) (A : OwA) (W : Wd) (sn : D) (sd : Pl) (cs : List Pl) (H1 : Hp), EX K [p] H H1 → LamX.Tabs (TabK K) H1 → Pen H1 p c (n + 1000000) → OwnI w H1 o A W sn sd cs → WNice W → cs.length = m → o ≠ p → (mx = 0 → ∃ loc, Own W loc ∧ loc sn = sd ∧ W.order.length ≤ m) → Q (.ref o) H1
theorem ok_law_t2_world (E : Ev K mg base) : DoesG P w K mg base L2.CX0 5 (He.ga K "_law_t2_world") ["_law_pen_here", "_law_many", "_law_mixture"] (spWorld K w) :=
  E.doesG (k := 4) ix_law_t2_world rfl bn_law_t2_world sc_law_t2_world (fun _ _ _ _ ⟨_, _, _, _, _, h, _⟩ => by rw [h]; rfl) fun cdv A outer s H vs Q X hr hG hcd h => by
    subst hcd
    obtain ⟨p, c, m, mx, n, rfl, hp, hm1, hm2, hmx, hn, hT, q⟩ := h
    refine ⟨_, (pss_cons (ps_asg (pe_tup (pa_cons (pe_do (ok_law_t2_patch E) (hr.mono (by decide)) (by rfl) (g_law_t2_patch E) pass0 (pa_cons (pv 0) (pa_cons (pv 1) pa_nil))) (pa_cons (pe_lst pa_nil) pa_nil))) (pg_tupK (K := K) (n := 2) rfl rfl (pgs_cons (pg_name (i := 3) sc_law_t2_world.nd rfl (by first | exact Or.inl rfl | exact Or.inr rfl)) (pgs_cons (pg_name (i := 4) sc_law_t2_world.nd rfl (by first | exact Or.inl rfl | exact Or.inr rfl)) pgs_nil))))
      (pss_cons (ps_set (i := 5) sc_law_t2_world.nd rfl (by first | exact Or.inl rfl | exact Or.inr rfl) (pe_do (ok_law_t2_edge_glues E) (hr.mono (by decide)) (by rfl) (g_law_t2_edge_glues E) pass0 (pa_cons (pv 0) (pa_cons (pv 3) (pa_cons (pv 2) pa_nil)))))
      (pss_cutE (ps_for PassesOwn.never rfl (pi_list (pv 3)) (pg_name (i := 6) sc_law_t2_world.nd rfl (by first | exact Or.inl rfl | exact Or.inr rfl))
        (pss_cutE (ps_for PassesOwn.never rfl (pi_range1 (by rfl) (u_range E) (pa_cons pe_int pa_nil)) (pg_name (i := 7) sc_law_t2_world.nd rfl (by first | exact Or.inl rfl | exact Or.inr rfl))
        (pss_one (ps_if (pt_cmp (pc_xnotin hr (pe_tup (pa_cons (pv 6) (pa_cons (pv 7) pa_nil))) (pv 5)))
        (pss_one (ps_xput hr (pv 5) (pe_tup (pa_cons (pv 6) (pa_cons (pv 7) pa_nil))) (pe_do (ok_law_t2_outer_glue E) (hr.mono (by decide)) (by rfl) (g_law_t2_outer_glue E) pass0 (pa_cons (pv 0) (pa_cons (pv 2) pa_nil))) (by rfl)))
        pss_nil)))
      (pss_cons (ps_set (i := 8) sc_law_t2_world.nd rfl (by first | exact Or.inl rfl | exact Or.inr rfl) (pe_callTy call_tuple_of (by rfl) (u_tuple E) b_tuple (pa_cons (pe_lc rfl sc_law_t2_world.nd (pi_range1 (by rfl) (u_range E) (pa_cons pe_int pa_nil)) (own := [("_law_side", 7)]) (blkOk_by (N := n_law_t2_world) (sc := defScope s_law_t2_world) (by decide +kernel)) (fun _ _ _ _ _ => (pg_name (i := 7) sc_law_t2_world.nd rfl (by first | exact Or.inl rfl | exact Or.inr rfl))) (fun _ _ _ _ _ => pts_nil) (fun _ _ _ _ _ => (pe_xgetZ (w := w) rfl (pv 5) (pe_tup (pa_cons (pv 6) (pa_cons (pv 7) pa_nil))) (fun _ _ => rfl) hr))) pa_nil)))
      (pss_one (ps_if (PW.pt (pw_or (pt_cmpR (op_notInD (hu65 hr)) (pv 8) (pv 4) (by with_unfolding_all rfl)) (pw_or1 (pt_cmpR op_eq (pe_do (ok_law_draw E) (hr.mono (by decide)) (by rfl) (g_law_draw E) pass0 (pa_cons (pv 0) (pa_cons pe_int pa_nil))) pe_int (nomark _)))))
        (pss_one (ps_expr (pe_bm PySem.F.plainAttrs_list PySem.F.slot_list_append PySem.F.type_list_append mt_append (pv 4) (pa_cons (pv 8) pa_nil))))
        pss_nil)))))
      (pss_cutE (ps_set (i := 9) sc_law_t2_world.nd rfl (by first | exact Or.inl rfl | exact Or.inr rfl) (pe_bm PySem.F.plainAttrs_list PySem.F.slot_list_index PySem.F.type_list_index (mt_indexD (hu65 hr)) (pv 4) (pa_cons (pe_callTy call_tuple_of (by rfl) (u_tuple E) b_tuple (pa_cons (pe_lc rfl sc_law_t2_world.nd (pi_range1 (by rfl) (u_range E) (pa_cons pe_int pa_nil)) (own := [("_law_side", 7)]) (blkOk_by (N := n_law_t2_world) (sc := defScope s_law_t2_world) (by decide +kernel)) (fun _ _ _ _ _ => (pg_name (i := 7) sc_law_t2_world.nd rfl (by first | exact Or.inl rfl | exact Or.inr rfl))) (fun _ _ _ _ _ => pts_nil) (fun _ _ _ _ _ => (pe_xgetZ (w := w) rfl (pv 5) (pe_tup (pa_cons (pe_ix (ix_listK (K := K) rfl) (pv 3) pe_int (fun _ _ => rfl)) (pa_cons (pv 7) pa_nil))) (fun _ _ => rfl) hr))) pa_nil)) pa_nil)))
      (pss_cutE (ps_for PassesOwn.never rfl (pi_range1 (by rfl) (u_range E) (pa_cons (pe_ifExp (pt_cmpR op_gt (pv 2) pe_int (nomark _)) (pe_do (ok_law_pick E) (hr.mono (by decide)) (by rfl) (g_law_pick E) pass0 (pa_cons (pv 0) (pa_cons (pe_lst (pa_cons pe_int (pa_cons pe_int (pa_cons pe_int (pa_cons pe_int (pa_cons pe_int pa_nil)))))) pa_nil))) pe_int) pa_nil)) (pg_name (i := 10) sc_law_t2_world.nd rfl (by first | exact Or.inl rfl | exact Or.inr rfl))
        (pss_cons (ps_set (i := 8) sc_law_t2_world.nd rfl (by first | exact Or.inl rfl | exact Or.inr rfl) (pe_callTy call_list_of (by rfl) (u_list E) b_list (pa_cons (pe_do (ok_law_pick E) (hr.mono (by decide)) (by rfl) (g_law_pick E) pass0 (pa_cons (pv 0) (pa_cons (pv 4) pa_nil))) pa_nil)))
      (pss_cutE (ps_if (pt_cmpR op_eq (pe_do (ok_law_draw E) (hr.mono (by decide)) (by rfl) (g_law_draw E) pass0 (pa_cons (pv 0) (pa_cons pe_int pa_nil))) pe_int (nomark _))
        (pss_cons (ps_set (i := 11) sc_law_t2_world.nd rfl (by first | exact Or.inl rfl | exact Or.inr rfl) (pe_lst (pa_cons (pe_do (ok_law_draw E) (hr.mono (by decide)) (by rfl) (g_law_draw E) pass0 (pa_cons (pv 0) (pa_cons pe_int pa_nil))) (pa_cons (pe_do (ok_law_draw E) (hr.mono (by decide)) (by rfl) (g_law_draw E) pass0 (pa_cons (pv 0) (pa_cons pe_int pa_nil))) pa_nil))))
      (pss_one (ps_set (i := 8) sc_law_t2_world.nd rfl (by first | exact Or.inl rfl | exact Or.inr rfl) (pe_lc rfl sc_law_t2_world.nd (pi_range1 (by rfl) (u_range E) (pa_cons pe_int pa_nil)) (own := [("_law_side", 7)]) (blkOk_by (N := n_law_t2_world) (sc := defScope s_law_t2_world) (by decide +kernel)) (fun _ _ _ _ _ => (pg_name (i := 7) sc_law_t2_world.nd rfl (by first | exact Or.inl rfl | exact Or.inr rfl))) (fun _ _ _ _ _ => pts_nil) (fun _ _ _ _ _ => (pe_ifExp (pt_cmpR (op_inDK (K := K) rfl (hu65 hr)) (pv 7) (pv 11) (by with_unfolding_all rfl)) (pe_ix (ix_listK (K := K) rfl) (pv 8) (pv 7) (fun _ _ => rfl)) (pe_tup (pa_cons pe_non (pa_cons pe_int pa_nil)))))))))
        pss_nil)
      (pss_cutE (ps_for PassesOwn.never rfl (pi_range1 (by rfl) (u_range E) (pa_cons (pe_ifExp (pt_cmpR (op_notInD (hu65 hr)) (pv 8) (pe_lc rfl sc_law_t2_world.nd (pi_list (pv 4)) (own := [("_law_one", 12)]) (blkOk_by (N := n_law_t2_world) (sc := defScope s_law_t2_world) (by decide +kernel)) (fun _ _ _ _ _ => (pg_name (i := 12) sc_law_t2_world.nd rfl (by first | exact Or.inl rfl | exact Or.inr rfl))) (fun _ _ _ _ _ => pts_nil) (fun _ _ _ _ _ => (pe_callTy (call_list_ofK (K := K) rfl) (by rfl) (u_list E) b_list (pa_cons (pv 12) pa_nil)))) (by with_unfolding_all rfl)) (pe_do (ok_law_draw E) (hr.mono (by decide)) (by rfl) (g_law_draw E) pass0 (pa_cons (pv 0) (pa_cons pe_int pa_nil))) (pe_op op_add pe_int (pe_do (ok_law_draw E) (hr.mono (by decide)) (by rfl) (g_law_draw E) pass0 (pa_cons (pv 0) (pa_cons pe_int pa_nil))))) pa_nil)) (pg_name (i := 13) sc_law_t2_world.nd rfl (by first | exact Or.inl rfl | exact Or.inr rfl))
        (pss_cons (ps_set (i := 7) sc_law_t2_world.nd rfl (by first | exact Or.inl rfl | exact Or.inr rfl) (pe_do (ok_law_draw E) (hr.mono (by decide)) (by rfl) (g_law_draw E) pass0 (pa_cons (pv 0) (pa_cons pe_int pa_nil))))
      (pss_cons (ps_set (i := 14) sc_law_t2_world.nd rfl (by first | exact Or.inl rfl | exact Or.inr rfl) (pe_tup (pa_cons (pe_do (ok_law_draw E) (hr.mono (by decide)) (by rfl) (g_law_draw E) pass0 (pa_cons (pv 0) (pa_cons pe_int pa_nil))) (pa_cons (pe_op op_add pe_int (pe_do (ok_law_draw E) (hr.mono (by decide)) (by rfl) (g_law_draw E) pass0 (pa_cons (pv 0) (pa_cons pe_int pa_nil)))) pa_nil))))
      (pss_one (ps_asg (pe_do (ok_law_pick E) (hr.mono (by decide)) (by rfl) (g_law_pick E) pass0 (pa_cons (pv 0) (pa_cons (pe_lst (pa_cons (pe_tup (pa_cons pe_non (pa_cons pe_int pa_nil))) (pa_cons (pe_ix ix_tup (pe_do (ok_law_pick E) (hr.mono (by decide)) (by rfl) (g_law_pick E) pass0 (pa_cons (pv 0) (pa_cons (pv 4) pa_nil))) (pv 7) (fun _ _ => rfl)) (pa_cons (pv 14) pa_nil)))) pa_nil))) (pg_sub (pv 8) (pv 7) set_list))))))
      (pss_one (ps_expr (pe_bm PySem.F.plainAttrs_list PySem.F.slot_list_append PySem.F.type_list_append mt_append (pv 4) (pa_cons (pe_callTy call_tuple_of (by rfl) (u_tuple E) b_tuple (pa_cons (pv 8) pa_nil)) pa_nil))))))))
      (pss_cutE (ps_for PassesOwn.never rfl (pi_range1 (by rfl) (u_range E) (pa_cons (pe_ifExp (pt_cmpR op_gt (pv 2) pe_int (nomark _)) (pe_do (ok_law_pick E) (hr.mono (by decide)) (by rfl) (g_law_pick E) pass0 (pa_cons (pv 0) (pa_cons (pe_lst (pa_cons pe_int (pa_cons pe_int (pa_cons pe_int pa_nil)))) pa_nil))) pe_int) pa_nil)) (pg_name (i := 10) sc_law_t2_world.nd rfl (by first | exact Or.inl rfl | exact Or.inr rfl))
        (pss_cons (ps_set (i := 8) sc_law_t2_world.nd rfl (by first | exact Or.inl rfl | exact Or.inr rfl) (pe_do (ok_law_t2_late_rival E) (hr.mono (by decide)) (by rfl) (g_law_t2_late_rival E) pass0 (pa_cons (pv 5) (pa_cons (pv 3) (pa_cons (pe_do (ok_law_draw E) (hr.mono (by decide)) (by rfl) (g_law_draw E) pass0 (pa_cons (pv 0) (pa_cons (pe_callB call_len_seq (by rfl) (u_len E) b_len (pa_cons (pv 3) pa_nil)) pa_nil))) pa_nil)))))
      (pss_one (ps_if (pt_cmpR (op_neD hr.units) (pv 8) (pe_op op_rep (pe_lst (pa_cons (pe_tup (pa_cons pe_non (pa_cons pe_int pa_nil))) pa_nil)) pe_int) (nomark _))
        (pss_one (ps_expr (pe_bm PySem.F.plainAttrs_list PySem.F.slot_list_append PySem.F.type_list_append mt_append (pv 4) (pa_cons (pe_callTy call_tuple_of (by rfl) (u_tuple E) b_tuple (pa_cons (pv 8) pa_nil)) pa_nil))))
        pss_nil))))
      (pss_cons (ps_asg (pe_tup (pa_cons (pe_disp (pps_cons pe_str pe_xnew pps_nil) rfl rfl (by decide) (by decide)) (pa_cons (pe_lst pa_nil) pa_nil))) (pg_tupK (K := K) (n := 2) rfl rfl (pgs_cons (pg_name (i := 15) sc_law_t2_world.nd rfl (by first | exact Or.inl rfl | exact Or.inr rfl)) (pgs_cons (pg_name (i := 16) sc_law_t2_world.nd rfl (by first | exact Or.inl rfl | exact Or.inr rfl)) pgs_nil))))
      (pss_cutE (ps_for PassesOwn.never rfl (pi_list (pe_do (ok_law_shuffled E) (hr.mono (by decide)) (by rfl) (g_law_shuffled E) pass0 (pa_cons (pv 0) (pa_cons (pe_listRg rfl (by rfl) (u_list E) (prg_1 (by rfl) (u_range E) (pe_callB call_len_seq (by rfl) (u_len E) b_len (pa_cons (pv 4) pa_nil)))) pa_nil)))) (pg_name (i := 17) sc_law_t2_world.nd rfl (by first | exact Or.inl rfl | exact Or.inr rfl))
        (pss_one (ps_expr (pe_bm PySem.F.plainAttrs_list PySem.F.slot_list_append PySem.F.type_list_append mt_append (pv 16) (pa_cons (pe_tup (pa_cons (pv 17) (pa_cons (pe_do (ok_law_t2_datum E) (hr.mono (by decide)) (by rfl) (g_law_t2_datum E) pass0 (pa_cons (pv 0) (pa_cons (pe_op op_add (pe_callB call_len_seq (by rfl) (u_len E) b_len (pa_cons (pv 16) pa_nil)) (pe_op op_mul (pe_do (ok_law_pick E) (hr.mono (by decide)) (by rfl) (g_law_pick E) pass0 (pa_cons (pv 0) (pa_cons (pe_lst (pa_cons pe_int (pa_cons pe_int pa_nil))) pa_nil))) pe_int)) pa_nil))) pa_nil))) pa_nil)))))
      (pss_cutE (ps_for PassesOwn.never rfl (pi_list (pv 16)) (pg_tupK (K := K) (n := 2) rfl rfl (pgs_cons (pg_name (i := 17) sc_law_t2_world.nd rfl (by first | exact Or.inl rfl | exact Or.inr rfl)) (pgs_cons (pg_name (i := 18) sc_law_t2_world.nd rfl (by first | exact Or.inl rfl | exact Or.inr rfl)) pgs_nil)))
        (pss_cons (ps_xput hr (pe_dget (hu_of hr) (pv 15) pe_str (fun _ _ => rfl)) (pv 18) (pe_ix ix_list (pv 4) (pv 17) (fun _ _ => rfl)) (by rfl))
      (pss_one (ps_if (pt_cmpR (op_eqD hr.units) (pv 17) (pv 9) (nomark _))
        (pss_one (ps_dput (hu_of hr) (pv 15) pe_str (pv 18) (by rfl)))
        pss_nil))))
      (pss_cons (ps_dput (hu_of hr) (pv 15) pe_str (pe_sortL (T := TabK K) (G := GRepr) (c := He.codeOf K ("_law_t2_world", none)) (P := (He.cT K ("_law_t2_world", none)).2) (E.tb ("_law_t2_world", none) (by simp [tf])) rfl (List.mem_cons_of_mem _ (List.mem_cons_of_mem _ List.mem_cons_self)) (tabK_fst E (List.mem_cons_of_mem _ (List.mem_cons_of_mem _ List.mem_cons_self))) (by rfl) (fun ok y hy e => ?_) (hr.mono (by decide)) (fun σ H1 bs key g => ?_) (by rfl) (u_sorted E) b_sorted (pa_cons (pe_callTy (call_listX rfl) (by rfl) (u_list E) b_list (pa_cons (pe_dget (hu_of hr) (pv 15) pe_str (fun _ _ => rfl)) pa_nil)) pa_nil)) (by rfl))
      (pss_cons (ps_set (i := 19) sc_law_t2_world.nd rfl (by first | exact Or.inl rfl | exact Or.inr rfl) (pe_do (ok_law_pick E) (hr.mono (by decide)) (by rfl) (g_law_pick E) pass0 (pa_cons (pv 0) (pa_cons (pe_lst (pa_cons pe_int (pa_cons pe_int (pa_cons pe_int (pa_cons (pe_op op_pow pe_int pe_int) pa_nil))))) pa_nil))))
      (pss_cons (ps_dput (hu_of hr) (pv 15) pe_str (pe_tup (pa_cons (pe_op op_mul (pe_op op_sub (pe_do (ok_law_draw E) (hr.mono (by decide)) (by rfl) (g_law_draw E) pass0 (pa_cons (pv 0) (pa_cons pe_int pa_nil))) pe_int) (pv 19)) (pa_cons (pe_op op_mul (pe_op op_sub (pe_do (ok_law_draw E) (hr.mono (by decide)) (by rfl) (g_law_draw E) pass0 (pa_cons (pv 0) (pa_cons pe_int pa_nil))) pe_int) (pv 19)) pa_nil))) (by rfl))
      (pss_cons (ps_dput (hu_of hr) (pv 15) pe_str (pe_lc rfl sc_law_t2_world.nd (pi_list (pv 3)) (own := [("_law_cell", 6)]) (blkOk_by (N := n_law_t2_world) (sc := defScope s_law_t2_world) (by decide +kernel)) (fun _ _ _ _ _ => (pg_name (i := 6) sc_law_t2_world.nd rfl (by first | exact Or.inl rfl | exact Or.inr rfl))) (fun _ _ _ _ _ => pts_nil) (fun _ _ _ _ _ => (pe_tup (pa_cons (pe_op op_add (pe_ix (ix_tupK (K := K) rfl) (pv 6) pe_int (fun _ _ => rfl)) (pe_ix (ix_tupK (K := K) rfl) (pe_dget (hu_of hr) (pv 15) pe_str (fun _ _ => rfl)) pe_int (fun _ _ => rfl))) (pa_cons (pe_op op_add (pe_ix (ix_tupK (K := K) rfl) (pv 6) pe_int (fun _ _ => rfl)) (pe_ix (ix_tupK (K := K) rfl) (pe_dget (hu_of hr) (pv 15) pe_str (fun _ _ => rfl)) pe_int (fun _ _ => rfl))) pa_nil))))) (by rfl))
      (pss_one (ps_ret (pv 15)))))))))))))))), ?_⟩
    · have hy : y ∈ [(Str.ofString "_law_name", NameKind.local), (Str.ofString "repr", NameKind.globalImplicit)] := hy
      simp only [List.mem_cons, List.not_mem_nil, or_false] at hy
      rcases hy with rfl | rfl <;> cases e
    · obtain ⟨rfl, h1, h2⟩ := g
      refine ⟨PySem.W.AllAlike.of (enc := fun b : VN => PyData.str b.2.data.shown) (fun _ _ => by simp [PySem.W.alike]), PySem.W.Sortable.others (enc := fun b : VN => PyData.str b.2.data.shown) (fun b => ⟨(fun z => by cases z), fun _ z => by cases z⟩), fun b _ => by simp [PyData.depth], fun pins => ?_⟩
      exact turns_repr (x := "_law_name") (hr.mono (by decide)) hG rfl (u_repr E) b_repr rfl rfl rfl (by decide) rfl (by decide) (fun _ _ _ _ _ _ => rfl) h1 h2
    -- cells, kinds; glues
    refine ⟨_, rfl, _, rfl, p, c, m, n, rfl, hp, hm1, by omega, by omega, fun cl us cs H1 e1 p1 hcl0 hcl hud hcl2 hnd hc0 => ?_⟩
    refine ⟨Nat.zero_le _, fun kd hkd => ⟨sz2, fun tp htp => ?_⟩⟩
    refine ⟨_, _, rfl, .of upd_same, rfl, _, _, rfl, _, _, rfl, rfl, ?_⟩
    have e2 : EX K [] H1 (upd (upd H1 kd (.lst [])) tp (.tup [.ref cl, .ref kd])) := (Ext.new hkd).andNew htp
    have hk2 : (upd (upd H1 kd (.lst [])) tp (.tup [.ref cl, .ref kd])) kd = some (.lst []) := (Ext.new (T := TabK K) (S := []) htp).at0 upd_same
    have ncl : cl ≠ kd := ne_of_none hcl hkd
    refine ⟨_, rfl, _, rfl, _, rfl, p, c, cl, mx, n + 100, us, cs, rfl, p1.ext0 e2, e2.at0 hcl, e2.dts hud, by omega, by omega, fun gl al0 H3 e3 p3 hgl G3 hun3 => ?_⟩
    have e12 := e2.nil.trans e3
    have ws3 : WS K w H H3 p c (n + 100100) cl kd gl cs [] al0 := ⟨e1.trans e12, p3.mono (by omega), ⟨us, (p1.ext0 e2).at_ e3 (e2.at0 hcl), e12.dts hud⟩, ⟨[], (p1.ext0 e2).at_ e3 hk2, .nil⟩, (by intro f hf; cases hf), ⟨G3.da, G3.ok, Nat.le_trans G3.len (by omega)⟩, hcl0, e1.fresh hkd, (e1.trans e2.nil).fresh hgl, ncl⟩
    have hlal : al0.length ≤ 400 := G3.len
    -- the kinds of the cells
    refine ⟨fun σ H4 => ∃ (al : AL) (oc : List Pl) (o6 o7 o8 : Option V), σ = [some (.ref p), some (.int m), some (.int mx), some (.ref cl), some (.ref kd), some (.ref gl), o6, o7, o8, none, none, none, none, none, none, none, none, none, none, none] ∧ WS K w H H4 p c (n + 200000) cl kd gl cs (oc.map (glOf al)) al ∧ oc.Sublist cs ∧ (∀ q ∈ cs, Full al q) ∧ oc[0]? = some (0, 0) ∧ (mx = 0 → U2 al), ?_, ?_⟩
    · obtain ⟨us3, hus3, hud3⟩ := ws3.hcl
      have hul := hud3.length
      rw [List.length_map] at hul
      refine ⟨_, rfl, cl, rfl, ⟨us3, .of hus3⟩, ?_⟩
      refine for_list (xs := us3) (fun i σ H4 => ∃ (al : AL) (oc : List Pl) (o6 o7 o8 : Option V), σ = [some (.ref p), some (.int m), some (.int mx), some (.ref cl), some (.ref kd), some (.ref gl), o6, o7, o8, none, none, none, none, none, none, none, none, none, none, none] ∧ WS K w H H4 p c (n + 100100 + 100 * i) cl kd gl cs (oc.map (glOf al)) al ∧ H4 cl = some (.lst us3) ∧ al.length ≤ 400 + 4 * i ∧ oc.Sublist (cs.take i) ∧ (∀ q ∈ cs.take i, Full al q) ∧ (0 < i → oc[0]? = some (0, 0)) ∧ (mx = 0 → U2 al))
        ⟨al0, [], none, none, none, rfl, ws3, hus3, by omega, .slnil, (by intro q hq; simp at hq), fun h => by omega, fun hz => (hun3 hz).u2⟩ (fun i σ H4 _ ⟨_, _, _, _, _, _, _, h, _⟩ => .of h) ?_ ?_
      · rintro i cv σ H4 hc ⟨al, oc, o6, o7, o8, rfl, ws, hcl4, hall, hoc, hfull, hoc0, hu2⟩
        obtain ⟨kk, hkk, hcd0⟩ := hud3.get hc
        obtain ⟨q0, hq0, rfl⟩ := Option.map_eq_some_iff.mp (by rw [← List.getElem?_map]; exact hkk)
        have hi : i < cs.length := (List.getElem?_eq_some_iff.mp hq0).1
        have hcd : Dt H4 cv (plD q0) := by
          obtain ⟨us4, h4, d4⟩ := ws.hcl
          rw [hcl4] at h4; cases h4
          obtain ⟨k4, hk4, hd4⟩ := d4.get hc
          rw [hkk] at hk4; cases hk4; exact hd4
        have hkey : ∀ {H' : Hp} {t : Addr} {a : Nat}, H' t = some (.tup [cv, .int (0 + (a : Int))]) → Dt H' cv (plD q0) → Dt H' (.ref t) (keyD q0 a) := fun {H' t a} h1 h2 => .tup h1 (.cons h2 (.cons (by rw [Int.zero_add]; exact .int _) .nil))
        -- the sides
        refine ⟨fun σ H5 => ∃ (al : AL) (o7 : Option V), σ = [some (.ref p), some (.int m), some (.int mx), some (.ref cl), some (.ref kd), some (.ref gl), some cv, o7, o8, none, none, none, none, none, none, none, none, none, none, none] ∧ WS K w H H5 p c (n + 100100 + 100 * i + 20) cl kd gl cs (oc.map (glOf al)) al ∧ H5 cl = some (.lst us3) ∧ Dt H5 cv (plD q0) ∧ al.length ≤ 400 + 4 * i + 4 ∧ (∀ q ∈ cs.take (i + 1), Full al q) ∧ (mx = 0 → U2 al), ?_, ?_⟩
        · refine ⟨4, rfl, by omega, by omega, ?_⟩
          refine for_range (fun t σ H5 => ∃ (al : AL) (o7 : Option V), σ = [some (.ref p), some (.int m), some (.int mx), some (.ref cl), some (.ref kd), some (.ref gl), some cv, o7, o8, none, none, none, none, none, none, none, none, none, none, none] ∧ WS K w H H5 p c (n + 100100 + 100 * i + 4 * t) cl kd gl cs (oc.map (glOf al)) al ∧ H5 cl = some (.lst us3) ∧ Dt H5 cv (plD q0) ∧ al.length ≤ 400 + 4 * i + t ∧ (∀ q ∈ cs.take i, Full al q) ∧ (∀ s, s < t → ∃ g, lkA al (keyD q0 s) = some (glD g) ∧ Gok g) ∧ (mx = 0 → U2 al))
            ⟨al, o7, rfl, ws, hcl4, hcd, by omega, hfull, (by intro s hs; omega), hu2⟩ ?_ ?_
          · rintro t σ H5 ht ⟨al, o7, rfl, ws, hcl5, hcd5, hall, hfull, hdone, hu2⟩
            have ht4 : t < 4 := ht
            refine ⟨_, rfl, _, rfl, sz2, fun t1 ht1 => ?_⟩
            have e6 : EX K [] H5 (upd H5 t1 (.tup [cv, .int (0 + (t : Int))])) := Ext.new ht1
            have ws6 := ws.ext0 e6
            obtain ⟨es, hes, hps⟩ := id ws6.hgl.da
            refine ⟨_, rfl, gl, es, keyD q0 t, rfl, hes, hkey upd_same (e6.dt hcd5), keyD_d, _, rfl, ?_⟩
            rw [hps.isSome]
            cases hlk : lkA al (keyD q0 t) with
            | some x =>
              obtain ⟨g, rfl, hg⟩ := ws6.hgl.get hlk
              refine iteF ⟨al, _, rfl, ws6.mono (by omega), e6.at0 hcl5, e6.dt hcd5, by omega, hfull, fun s hs => ?_, hu2⟩
              by_cases hst : s = t
              · subst hst; exact ⟨g, hlk, hg⟩
              · exact hdone s (by omega)
            | none =>
              refine iteT ⟨_, rfl, _, rfl, p, c, mx, _, rfl, ws6.pen, by omega, fun gv H7 g e7 p7 hgv hgok hg0 => ?_⟩
              have ws7 := ws6.draw e7 p7
              have e57 := e6.nil.trans e7
              refine ⟨_, rfl, _, rfl, _, rfl, sz2, fun t2 ht2 => ?_⟩
              have e8 : EX K [] H7 (upd H7 t2 (.tup [cv, .int (0 + (t : Int))])) := Ext.new ht2
              have ws8 := ws7.ext0 e8
              obtain ⟨es8, hes8, hps8⟩ := id ws8.hgl.da
              have hel8 := hps8.length
              refine ⟨gl, es8, keyD q0 t, rfl, hes8, hkey upd_same ((e57.trans e8.nil).dt hcd5), keyD_d, by rw [sizeLine_eq]; omega, fun H9 m9 c9 => ?_⟩
              obtain ⟨e9, G9⟩ := ws8.hgl.put hes8 hps8 ht4 (e8.dt hgv) hgok m9 c9
              have hnl : (putA al (keyD q0 t) (glD g)).length = al.length + 1 := by rw [putA_new hlk, List.length_append]; rfl
              have G9' : GluI w H9 gl (putA al (keyD q0 t) (glD g)) 1000 := ⟨G9.da, G9.ok, by omega⟩
              have ws9 := ws8.gput e9 G9'
              have hmap : oc.map (glOf (putA al (keyD q0 t) (glD g))) = oc.map (glOf al) → True := fun _ => trivial
              have hL : ∀ q ∈ oc, ∀ s, s < 4 → glOf (putA al (keyD q0 t) (glD g)) q s = glOf al q s := fun q hq => ((hfull q (hoc.subset hq)).put hlk).2
              have ws10 : WS K w H H9 p c (n + 100100 + 100 * i + 4 * t + 3) cl kd gl cs (oc.map (glOf (putA al (keyD q0 t) (glD g)))) (putA al (keyD q0 t) (glD g)) := by
                obtain ⟨ks, a, b⟩ := ws9.hkd
                have hm : (oc.map (glOf (putA al (keyD q0 t) (glD g)))).map kinD = (oc.map (glOf al)).map kinD := by
                  rw [List.map_map, List.map_map]
                  refine List.map_congr_left fun q hq => ?_
                  show kinD _ = kinD _
                  unfold kinD
                  rw [kl_congr (hL q hq)]
                refine ⟨ws9.e, ws9.pen, ws9.hcl, ⟨ks, a, by rw [hm]; exact b⟩, fun f hf => ?_, ws9.hgl, ws9.f1, ws9.f2, ws9.f3, ws9.n1⟩
                obtain ⟨q, hq, rfl⟩ := List.mem_map.mp hf
                intro s
                unfold glOf
                cases e : lkA (putA al (keyD q0 t) (glD g)) (keyD q s) with
                | none => exact gok_non
                | some x =>
                  obtain ⟨g', rfl, hg'⟩ := G9.get e
                  exact hg'
              obtain ⟨us9, h9a, h9b⟩ := ws9.hcl
              refine ⟨_, _, rfl, ws10.mono (by omega), ?_, (e57.trans (e8.nil.trans (Ext.nil (Ext.refl)))).dt hcd5 |> fun h => e9.dt h, by omega, fun q hq => ((hfull q hq).put hlk).1, fun s hs => ?_, fun hz => (hu2 hz).put hlk (hg0 hz)⟩
              · have nl : cl ≠ gl := by
                  obtain ⟨o, ho, n1, _⟩ := ws8.hgl.da.noSeq
                  obtain ⟨us8, h8a, _⟩ := ws8.hcl
                  intro z; rw [← z, h8a] at ho; cases ho; exact n1 _ rfl
                have h7 := ws6.pen.at_ e7 (e6.at0 hcl5)
                exact e9.at_ (e8.at0 h7) (by simp; exact nl)
              · rw [lkA_put]
                by_cases hst : keyD q0 s = keyD q0 t
                · rw [if_pos hst]; exact ⟨g, rfl, hgok⟩
                · rw [if_neg hst]
                  refine hdone s ?_
                  have : s ≠ t := fun z => hst (by rw [z])
                  omega
          · rintro σ H5 ⟨al, o7, rfl, ws, hcl5, hcd5, hall, hfull, hdone, hu2⟩
            refine ⟨al, o7, rfl, ws.mono (by omega), hcl5, hcd5, by omega, fun q hq => ?_, hu2⟩
            rw [List.take_add_one, hq0] at hq
            rcases List.mem_append.mp hq with hq | hq
            · exact hfull q hq
            · have : q = q0 := by simpa using hq
              subst this
              exact fun s hs => hdone s hs
        · rintro σ H5 ⟨al, o7, rfl, ws, hcl5, hcd5, hall, hfull, hu2⟩
          have hf0 : Full al q0 := hfull q0 (by rw [List.take_add_one, hq0]; simp)
          have hfk := ws.hgl.fok q0
          have hocl := hoc.length_le
          rw [List.length_take] at hocl
          -- the kind
          refine ⟨4, rfl, by omega, by omega, fun l hl => ?_⟩
          have e6 : EX K [] H5 (upd H5 l (.lst [])) := Ext.new hl
          refine wk_range (fun t H6 => ∃ acc, EX K [] H5 H6 ∧ H6 l = some (.lst acc) ∧ DtAll H6 acc ((kl (glOf al q0)).take t)) ⟨[], e6, upd_same, .nil⟩ ?_ ?_
          · rintro t H6 ht ⟨acc, e6, hl6, ha6⟩
            have ht4 : t < 4 := ht
            have hal := ha6.length
            rw [List.length_take] at hal
            refine ⟨rfl, _, rfl, _, rfl, _, rfl, sz2, fun t1 ht1 => ?_⟩
            have e7 : EX K [] H6 (upd H6 t1 (.tup [cv, .int (0 + (t : Int))])) := Ext.new ht1
            obtain ⟨es, hes, hps⟩ := (ws.ext0 (e6.trans e7)).hgl.da
            obtain ⟨g, hg, _⟩ := hf0 t ht4
            obtain ⟨v, hv1, hv2⟩ := hps.some_ hg
            refine ⟨gl, es, keyD q0 t, v, rfl, hes, hkey upd_same ((e6.trans e7).dt hcd5), keyD_d, hv1, acc, e7.at0 hl6, by rw [sizeLine_eq]; omega, acc ++ [v], (e6.trans e7).lst (e7.at0 hl6) (.inl hl), upd_same, ?_⟩
            have e8 : EX K [l] (upd H6 t1 (.tup [cv, .int (0 + (t : Int))])) (upd (upd H6 t1 (.tup [cv, .int (0 + (t : Int))])) l (.lst (acc ++ [v]))) := Ext.refl.lst (e7.at0 hl6) (.inr (by simp))
            rw [List.take_add_one, kl_at ht4, glOf_eq hg]
            exact (e8.dts (e7.dts ha6)).app (.cons (e8.dt hv2) .nil)
          · rintro H6 ⟨acc, e6, hl6, ha6⟩
            have ha6 : DtAll H6 acc (kl (glOf al q0)) := ha6
            refine ⟨l, acc, rfl, .inl ⟨.of hl6, fun u hu => ?_⟩⟩
            have e7 : EX K [] H6 (upd H6 u (.tup acc)) := Ext.new hu
            have hkd7 : Dt (upd H6 u (.tup acc)) (.ref u) (kinD (glOf al q0)) := Dt.new hu ha6
            have e57 := e6.trans e7
            have ws7 := ws.ext0 e57
            have hcl7 := e57.at0 hcl5
            clear e7
            generalize upd H6 u (.tup acc) = H7 at *
            obtain ⟨ks, hks, hkd⟩ := ws7.hkd
            have hkl := hkd.length
            rw [List.length_map, List.length_map] at hkl
            refine ⟨_, rfl, _, rfl, notInDL hks hkd hkd7 (kinds_lq ws7.fk) (kinD_lq hfk) (by decide) ⟨_, rfl, ?_⟩⟩
            have fin : ∀ (H8 : Hp) (nn : Nat), WS K w H H8 p c nn cl kd gl cs (oc.map (glOf al)) al → nn ≤ n + 100100 + 100 * (i + 1) → H8 cl = some (.lst us3) → H8 kd = some (.lst ks) → DtAll H8 ks ((oc.map (glOf al)).map kinD) → Dt H8 (.ref u) (kinD (glOf al q0)) →
                ∃ (al : AL) (oc : List Pl) (o6' o7' o8' : Option V), [some (V.ref p), some (.int m), some (.int mx), some (.ref cl), some (.ref kd), some (.ref gl), some cv, o7, some (.ref u), none, none, none, none, none, none, none, none, none, none, none] = [some (V.ref p), some (.int m), some (.int mx), some (.ref cl), some (.ref kd), some (.ref gl), o6', o7', o8', none, none, none, none, none, none, none, none, none, none, none] ∧ WS K w H (upd H8 kd (.lst (ks ++ [.ref u]))) p c (n + 100100 + 100 * (i + 1)) cl kd gl cs (oc.map (glOf al)) al ∧ (upd H8 kd (.lst (ks ++ [.ref u]))) cl = some (.lst us3) ∧ al.length ≤ 400 + 4 * (i + 1) ∧ oc.Sublist (cs.take (i + 1)) ∧ (∀ q ∈ cs.take (i + 1), Full al q) ∧ (0 < i + 1 → oc[0]? = some (0, 0)) ∧ (mx = 0 → U2 al) := by
              intro H8 nn ws8 hnn hcl8 hks8 hkd8 hu8
              have ws9 := ws8.app hp hks8 hkd8 hu8 hfk
              refine ⟨al, oc ++ [q0], _, _, _, rfl, ?_, by rw [upd_ne ws8.n1]; exact hcl8, by omega, ?_, hfull, fun _ => ?_, hu2⟩
              · rw [List.map_append]
                exact ws9.mono hnn
              · rw [List.take_add_one, hq0]
                exact hoc.append (List.Sublist.refl _)
              · by_cases h0 : i = 0
                · subst h0
                  have : oc = [] := List.length_eq_zero_iff.mp (by omega)
                  rw [this]
                  rw [hc0] at hq0
                  exact hq0.symm
                · have := hoc0 (by omega)
                  have hlt := (List.getElem?_eq_some_iff.mp this).1
                  rw [List.getElem?_append_left hlt]; exact this
            by_cases hin : kinD (glOf al q0) ∈ (oc.map (glOf al)).map kinD
            · rw [decide_eq_true hin]
              refine iteF ⟨_, rfl, p, c, 4, _, rfl, ws7.pen, by omega, by omega, by omega, fun r H8 e8 p8 r0 r4 => ⟨rfl, _, rfl, ?_⟩⟩
              have ws8 := ws7.draw e8 p8
              have hcl8 := ws7.pen.at_ e8 hcl7
              have hks8 := ws7.pen.at_ e8 hks
              by_cases hr0 : V.int r = V.int 0
              · rw [decide_eq_true hr0]
                refine iteT ⟨_, rfl, tyl hks8, _, rfl, kd, ks, _, rfl, rfl, hks8, by rw [sizeLine_eq]; omega, ?_⟩
                exact fin H8 _ ws8 (by omega) hcl8 hks8 (e8.dts hkd) (e8.dt hkd7)
              · rw [decide_eq_false hr0]
                have hoc1 : oc ≠ [] := fun z => by rw [z] at hin; cases hin
                have hi0 : 0 < i := by
                  have := List.length_pos_iff.mpr hoc1
                  omega
                refine iteF ⟨al, oc, _, _, _, rfl, ws8.mono (by omega), hcl8, by omega, ?_, hfull, fun _ => hoc0 hi0, hu2⟩
                rw [List.take_add_one]
                exact hoc.trans (List.sublist_append_left _ _)
            · rw [decide_eq_false hin]
              refine iteT (iteT ⟨_, rfl, tyl hks, _, rfl, kd, ks, _, rfl, rfl, hks, by rw [sizeLine_eq]; omega, ?_⟩)
              exact fin H7 _ ws7 (by omega) hcl7 hks hkd hkd7
      · rintro σ H4 ⟨al, oc, o6, o7, o8, rfl, ws, hcl4, hall, hoc, hfull, hoc0, hu2⟩
        rw [hul, List.take_length] at hoc hfull
        exact ⟨al, oc, o6, o7, o8, rfl, ws.mono (by omega), hoc, hfull, hoc0 (by omega), hu2⟩
    · rintro σ H4 ⟨al, oc, o6, o7, o8, rfl, ws, hoc, hfull, hoc0, hu2⟩
      have hocn : oc ≠ [] := fun z => by rw [z] at hoc0; cases hoc0
      have hkp : mx = 0 → KProp (oc.map (glOf al)) m := fun hz => kprop_of (hu2 hz) (fun q hq => hfull q (hoc.subset hq)) (hoc.nodup hnd) hoc0 (by have := hoc.length_le; omega)
      have hkeys : ∀ q ∈ cs, ∀ s, s < 4 → lkA al (keyD q s) ≠ none := fun q hq s hs => by
        obtain ⟨g, hg, _⟩ := hfull q hq s hs
        rw [hg]; simp
      have hocl := hoc.length_le
      obtain ⟨L0, hL0⟩ : ∃ L0, L0 = oc.map (glOf al) := ⟨_, rfl⟩
      have hL0n : L0 ≠ [] := fun z => hocn (List.map_eq_nil_iff.mp (by rw [← hL0]; exact z))
      have hL0l : L0.length ≤ 15 := by rw [hL0, List.length_map]; omega
      have hL00 : L0[0]? = some (glOf al (0, 0)) := by rw [hL0, List.getElem?_map, hoc0]; rfl
      rw [← hL0] at ws hkp
      have hc0m : (0, 0) ∈ cs := List.mem_of_getElem? hc0
      -- the seed's kind
      refine ⟨fun σ H5 => σ = [some (.ref p), some (.int m), some (.int mx), some (.ref cl), some (.ref kd), some (.ref gl), o6, o7, o8, some (.int 0), none, none, none, none, none, none, none, none, none, none] ∧ WS K w H H5 p c (n + 200000) cl kd gl cs L0 al, ?_, ?_⟩
      · obtain ⟨ks, hks, hkd⟩ := ws.hkd
        obtain ⟨us4, hus4, hud4⟩ := ws.hcl
        obtain ⟨v0, hv0, hv0d⟩ := hud4.get2 (i := 0) (k := plD (0, 0)) (by rw [List.getElem?_map, hc0]; rfl)
        refine ⟨_, rfl, tyl hks, 4, rfl, by omega, by omega, fun l hl => ?_⟩
        have e6 : EX K [] H4 (upd H4 l (.lst [])) := Ext.new hl
        refine wk_range (fun t H6 => ∃ acc, EX K [] H4 H6 ∧ H6 l = some (.lst acc) ∧ DtAll H6 acc ((kl (glOf al (0, 0))).take t)) ⟨[], e6, upd_same, .nil⟩ ?_ ?_
        · rintro t H6 ht ⟨acc, e6, hl6, ha6⟩
          have ht4 : t < 4 := ht
          have hal := ha6.length
          rw [List.length_take] at hal
          refine ⟨rfl, _, rfl, _, rfl, cl, us4, _, v0, rfl, rfl, .of (e6.at0 hus4), atI_nat (j := 0) hv0, _, rfl, sz2, fun t1 ht1 => ?_⟩
          have e7 : EX K [] H6 (upd H6 t1 (.tup [v0, .int (0 + (t : Int))])) := Ext.new ht1
          obtain ⟨es, hes, hps⟩ := (ws.ext0 (e6.trans e7)).hgl.da
          obtain ⟨g, hg, _⟩ := hfull _ hc0m t ht4
          obtain ⟨v, hv1, hv2⟩ := hps.some_ hg
          have hkey : Dt (upd H6 t1 (.tup [v0, .int (0 + (t : Int))])) (.ref t1) (keyD (0, 0) t) := .tup upd_same (.cons ((e6.trans e7).dt hv0d) (.cons (by rw [Int.zero_add]; exact .int _) .nil))
          refine ⟨gl, es, keyD (0, 0) t, v, rfl, hes, hkey, keyD_d, hv1, acc, e7.at0 hl6, by rw [sizeLine_eq]; omega, acc ++ [v], (e6.trans e7).lst (e7.at0 hl6) (.inl hl), upd_same, ?_⟩
          have e8 : EX K [l] (upd H6 t1 (.tup [v0, .int (0 + (t : Int))])) (upd (upd H6 t1 (.tup [v0, .int (0 + (t : Int))])) l (.lst (acc ++ [v]))) := Ext.refl.lst (e7.at0 hl6) (.inr (by simp))
          rw [List.take_add_one, kl_at ht4, glOf_eq hg]
          exact (e8.dts (e7.dts ha6)).app (.cons (e8.dt hv2) .nil)
        · rintro H6 ⟨acc, e6, hl6, ha6⟩
          have ha6 : DtAll H6 acc (kl (glOf al (0, 0))) := ha6
          refine ⟨l, acc, rfl, .inl ⟨.of hl6, fun u hu => ?_⟩⟩
          have e7 : EX K [] H6 (upd H6 u (.tup acc)) := Ext.new hu
          have hkd7 : Dt (upd H6 u (.tup acc)) (.ref u) (kinD (glOf al (0, 0))) := Dt.new hu ha6
          have e57 := e6.trans e7
          have hfk := ws.hgl.fok (0, 0)
          refine ⟨kd, .ref u, (kinD (glOf al (0, 0))).data, _, 0, (kinD (glOf al (0, 0))).data, rfl, rfl, dpL (e57.at0 hks) (e57.dts hkd), Dt.dp _ _ hkd7, shapedL (kinds_lq ws.fk) (by decide), (kinD_lq hfk).shaped (by decide), ?_, by rw [eqv_dec]; exact decide_eq_true rfl, (fun m z' hm => by omega), rfl, ws.ext0 e57⟩
          rw [datas_map, List.getElem?_map, List.getElem?_map, hL00]; rfl
      rintro σ H5 ⟨rfl, ws⟩
      -- rivals
      refine ⟨fun σ H6 => ∃ (L : List (Nat → Gu)) (o6 o7 o8 o10 o11 o12 o13 o14 : Option V), σ = [some (.ref p), some (.int m), some (.int mx), some (.ref cl), some (.ref kd), some (.ref gl), o6, o7, o8, some (.int 0), o10, o11, o12, o13, o14, none, none, none, none, none] ∧ WS K w H H6 p c (n + 300000) cl kd gl cs L al ∧ L ≠ [] ∧ L.length ≤ 20 ∧ (mx = 0 → KProp L m), ?_, ?_⟩
      · refine ⟨_, rfl, _, _, rfl, rfl, _, rfl, ?_⟩
        by_cases hm0 : (mx : Int) > 0
        case' pos =>
          rw [decide_eq_true hm0]
          refine iteT ⟨_, rfl, sz5, fun l5 hl5 => ?_⟩
          have e6' : EX K [] H5 (upd H5 l5 (.lst [.int 0, .int 1, .int 1, .int 2, .int 3])) := Ext.new hl5
          refine ⟨p, c, l5, _, n + 200000, rfl, (ws.ext0 e6').pen, .inl (.of upd_same), by simp, by simp, by omega, fun v5 H6 hv5 e6 p6 => ?_⟩
          obtain ⟨lp, hlp, hlp0, hlp3⟩ : ∃ lp : Nat, v5 = .int (lp : Int) ∧ (mx = 0 → lp = 0) ∧ lp ≤ 3 := by
            simp only [List.mem_cons, List.not_mem_nil, or_false] at hv5
            rcases hv5 with h | h | h | h | h
            · exact ⟨0, h, fun _ => rfl, by omega⟩
            · exact ⟨1, h, fun z => by omega, by omega⟩
            · exact ⟨1, h, fun z => by omega, by omega⟩
            · exact ⟨2, h, fun z => by omega, by omega⟩
            · exact ⟨3, h, fun z => by omega, by omega⟩
          subst hlp
          have ws6 : WS K w H H6 p c (n + 200001) cl kd gl cs L0 al := (ws.ext0 e6').draw e6 p6
          refine ⟨(lp : Int), rfl, by omega, by omega, ?_⟩
        case' neg =>
          rw [decide_eq_false hm0]
          obtain ⟨lp, hlp, hlp0, hlp3⟩ : ∃ lp : Nat, lp = 0 ∧ (mx = 0 → lp = 0) ∧ lp ≤ 3 := ⟨0, rfl, fun _ => rfl, by omega⟩
          obtain ⟨H6, hH6⟩ : ∃ H6, H6 = H5 := ⟨_, rfl⟩
          have ws6 : WS K w H H6 p c (n + 200001) cl kd gl cs L0 al := by rw [hH6]; exact ws.mono (by omega)
          refine iteF ⟨(lp : Int), by rw [hlp]; rfl, by omega, by omega, ?_⟩
          rw [← hH6]
        all_goals
          refine for_range (fun i σ H6 => ∃ (L : List (Nat → Gu)) (o6 o7 o8 o10 o11 o12 o13 o14 : Option V), σ = [some (.ref p), some (.int m), some (.int mx), some (.ref cl), some (.ref kd), some (.ref gl), o6, o7, o8, some (.int 0), o10, o11, o12, o13, o14, none, none, none, none, none] ∧ WS K w H H6 p c (n + 200001 + 1000 * i) cl kd gl cs L al ∧ L ≠ [] ∧ L.length ≤ 15 + i ∧ (mx = 0 → KProp L m))
            ⟨L0, o6, o7, o8, none, none, none, none, none, rfl, ws6, hL0n, by omega, hkp⟩ ?_ ?_
          · rintro i σ H6 hi ⟨L, o6, o7, o8, o10, o11, o12, o13, o14, rfl, ws, hLn, hLl, hkp⟩
            have hilp : i < lp := by omega
            have hmx0 : mx ≠ 0 := fun z => by have := hlp0 z; omega
            obtain ⟨ks, hks, hkd⟩ := ws.hkd
            have hkl := hkd.length
            rw [List.length_map] at hkl
            have hksn : ks ≠ [] := fun z => hLn (List.length_eq_zero_iff.mp (by rw [← hkl, z]; rfl))
            -- a kind to begin with
            refine ⟨_, rfl, _, rfl, p, c, kd, ks, _, rfl, ws.pen, .inl (.of hks), hksn, by omega, by omega, fun v H7 hv e7 p7 => ?_⟩
            have ws7 := ws.draw e7 p7
            obtain ⟨t, vs, f, hf, rfl, htv, htd⟩ := kind_any (e7.dts hkd) hv
            refine ⟨t, vs, rfl, .inr (.of htv), fun k8 hk8 => ?_⟩
            obtain ⟨z1, z2, z3⟩ := ws7.neN hk8
            have e8 : EX K [] H7 (upd H7 k8 (.lst vs)) := Ext.new hk8
            have hk8' : K8 H (upd H7 k8 (.lst vs)) cl kd k8 f := ⟨⟨vs, upd_same, e8.dts htd⟩, z1, z2, z3⟩
            have hff := ws.fk f hf
            have ws8 := ws7.ext0 e8
            clear e8
            generalize upd H7 k8 (.lst vs) = H8 at *
            -- some sides kept
            refine ⟨fun σ H9 => ∃ (k8 : Addr) (f : Nat → Gu) (o7 o11 : Option V), σ = [some (.ref p), some (.int m), some (.int mx), some (.ref cl), some (.ref kd), some (.ref gl), o6, o7, some (.ref k8), some (.int 0), some (.int (0 + (i : Int))), o11, o12, o13, o14, none, none, none, none, none] ∧ WS K w H H9 p c (n + 200001 + 1000 * i + 10) cl kd gl cs L al ∧ K8 H H9 cl kd k8 f ∧ Fok f, ?_, ?_⟩
            · refine ⟨_, rfl, p, c, 2, _, rfl, ws8.pen, by omega, by omega, by omega, fun r H9 e9 p9 r0 r2 => ⟨rfl, _, rfl, ?_⟩⟩
              have ws9 := ws8.draw e9 p9
              have k9 := hk8'.draw ws8.pen e9
              by_cases hr0 : V.int r = V.int 0
              · rw [decide_eq_true hr0]
                refine iteT ⟨_, rfl, p, c, 4, _, rfl, ws9.pen, by omega, by omega, by omega, fun s1 H10 e10 p10 s10 s14 => ?_⟩
                have ws10 := ws9.draw e10 p10
                have k10 := k9.draw ws9.pen e10
                refine ⟨_, rfl, p, c, 4, _, rfl, ws10.pen, by omega, by omega, by omega, fun s2 H11 e11 p11 s20 s24 => ?_⟩
                have ws11 := ws10.draw e11 p11
                have k11 := k10.draw ws10.pen e11
                refine ⟨sz2, fun l11 hl11 => ?_⟩
                have e12 : EX K [] H11 (upd H11 l11 (.lst [.int s1, .int s2])) := Ext.new hl11
                have hl12 : (upd H11 l11 (.lst [.int s1, .int s2])) l11 = some (.lst [.int s1, .int s2]) := upd_same
                have ws12 := ws11.ext0 e12
                have k12 := k11.ext0 e12
                clear e12
                generalize upd H11 l11 (.lst [.int s1, .int s2]) = H12 at *
                obtain ⟨⟨vs12, hv12, hd12⟩, z1, z2, z3⟩ := id k12
                refine ⟨4, rfl, by omega, by omega, fun g hg => ?_⟩
                have e13 : EX K [] H12 (upd H12 g (.lst [])) := Ext.new hg
                refine wk_range (fun t H13 => ∃ acc, EX K [] H12 H13 ∧ H13 g = some (.lst acc) ∧ DtAll H13 acc ((kl fun s => if NestedKey.num (s : Int) ∈ [NestedKey.num s1, NestedKey.num s2] then f s else (.none, 0)).take t)) ⟨[], e13, upd_same, .nil⟩ ?_ ?_
                · rintro t H13 ht ⟨acc, e13, hg13, ha13⟩
                  have ht4 : t < 4 := ht
                  have hal := ha13.length
                  rw [List.length_take] at hal
                  have dsk : DtAll H13 [.int s1, .int s2] [.num s1, .num s2] := .cons (.int _) (.cons (.int _) .nil)
                  refine ⟨rfl, _, rfl, _, rfl, inDL (e13.at0 hl12) dsk (d := .num (t : Int)) (by rw [Int.zero_add]; exact .int _) (fun k hk => ?_) num_lq (by decide) ⟨_, rfl, ?_⟩⟩
                  · simp only [List.mem_cons, List.not_mem_nil, or_false] at hk
                    rcases hk with rfl | rfl <;> exact num_lq
                  by_cases hin : NestedKey.num (t : Int) ∈ [NestedKey.num s1, NestedKey.num s2]
                  · rw [decide_eq_true hin]
                    obtain ⟨v, hv, hvd⟩ := hd12.get2 (i := t) (kl_at ht4)
                    refine iteT ⟨_, rfl, _, rfl, k8, vs12, _, v, rfl, rfl, .of (e13.at0 hv12), by rw [Int.zero_add]; exact atI_nat hv, acc, hg13, by rw [sizeLine_eq]; omega, acc ++ [v], e13.lst hg13 (.inl hg), upd_same, ?_⟩
                    have e14 : EX K [g] H13 (upd H13 g (.lst (acc ++ [v]))) := Ext.refl.lst hg13 (.inr (by simp))
                    rw [List.take_add_one, kl_at ht4]
                    simp only [hin, if_true]
                    exact (e14.dts ha13).app (.cons (e14.dt (e13.dt hvd)) .nil)
                  · rw [decide_eq_false hin]
                    refine iteF ⟨sz2, fun tn htn => ?_⟩
                    have e14 : EX K [] H13 (upd H13 tn (.tup [.non, .int 0])) := Ext.new htn
                    have hg14 := e14.at0 hg13
                    refine ⟨acc, hg14, by rw [sizeLine_eq]; omega, acc ++ [.ref tn], (e13.trans e14).lst hg14 (.inl hg), upd_same, ?_⟩
                    have e15 : EX K [g] (upd H13 tn (.tup [.non, .int 0])) (upd (upd H13 tn (.tup [.non, .int 0])) g (.lst (acc ++ [.ref tn]))) := Ext.refl.lst hg14 (.inr (by simp))
                    rw [List.take_add_one, kl_at ht4]
                    simp only [hin, if_false]
                    exact (e15.dts (e14.dts ha13)).app (.cons (e15.dt (Dt.new (ks := [.none, .num 0]) htn (.cons .non (.cons (.int _) .nil)))) .nil)
                · rintro H13 ⟨acc, e13, hg13, ha13⟩
                  have ha13 : DtAll H13 acc (kl fun s => if NestedKey.num (s : Int) ∈ [NestedKey.num s1, NestedKey.num s2] then f s else (.none, 0)) := ha13
                  obtain ⟨w1, w2, w3⟩ := ws12.neN hg
                  refine ⟨g, _, o7, _, rfl, (ws12.ext0 e13).mono (by omega), ⟨⟨acc, hg13, ha13⟩, w1, w2, w3⟩, fun s => ?_⟩
                  split
                  · exact hff s
                  · exact gok_non
              · rw [decide_eq_false hr0]
                exact iteF ⟨k8, f, o7, o11, rfl, ws9.mono (by omega), k9, hff⟩
            rintro σ H9 ⟨k8, f, o7, o11, rfl, ws9, k9, hff⟩
            -- some sides turned
            refine ⟨fun σ H10 => ∃ (k8 : Addr) (f : Nat → Gu) (o7 o13 o14 : Option V), σ = [some (.ref p), some (.int m), some (.int mx), some (.ref cl), some (.ref kd), some (.ref gl), o6, o7, some (.ref k8), some (.int 0), some (.int (0 + (i : Int))), o11, o12, o13, o14, none, none, none, none, none] ∧ WS K w H H10 p c (n + 200001 + 1000 * i + 100) cl kd gl cs L al ∧ K8 H H10 cl kd k8 f ∧ Fok f, ?_, ?_⟩
            · obtain ⟨ks, hks, hkd⟩ := ws9.hkd
              have hkl := hkd.length
              rw [List.length_map] at hkl
              refine ⟨_, rfl, _, rfl, kd, rfl, ⟨ks, .of hks⟩, fun D hD => ?_⟩
              have e10 : EX K [] H9 (upd H9 D (.lst [])) := Ext.new hD
              refine wk_list (xs := ks) (fun j H10 => ∃ acc, EX K [] H9 H10 ∧ H10 D = some (.lst acc) ∧ LLs H10 D acc (L.take j) ∧ acc.length = j) ⟨[], e10, upd_same, .nil, rfl⟩ (fun j H10 _ ⟨_, e, _⟩ => .of (e.at0 hks)) ?_ ?_
              · rintro j cv H10 hc ⟨acc, e10, hD10, hll, hal⟩
                obtain ⟨kk, hkk, hcd⟩ := hkd.get hc
                obtain ⟨f', hf', rfl⟩ := Option.map_eq_some_iff.mp (by rw [← List.getElem?_map]; exact hkk)
                have hj : j < L.length := (List.getElem?_eq_some_iff.mp hf').1
                obtain ⟨t, vs, rfl, htv, htd⟩ : ∃ t vs, cv = .ref t ∧ H10 t = some (.tup vs) ∧ DtAll H10 vs (kl f') := by
                  have := e10.dt hcd
                  cases this with | tup a b => exact ⟨_, _, rfl, a, b⟩
                refine ⟨rfl, _, rfl, t, vs, rfl, .inr (.of htv), fun l hl => ?_⟩
                have e11 : EX K [] H10 (upd H10 l (.lst vs)) := Ext.new hl
                have nlD : l ≠ D := (ne_of_none hD10 hl).symm
                have hD11 := e11.at0 hD10
                refine ⟨acc, hD11, by rw [sizeLine_eq]; omega, acc ++ [.ref l], (e10.trans e11).lst hD11 (.inl hD), upd_same, ?_, by rw [List.length_append, hal]; rfl⟩
                have e12 : EX K [D] (upd H10 l (.lst vs)) (upd (upd H10 l (.lst vs)) D (.lst (acc ++ [.ref l]))) := Ext.refl.lst hD11 (.inr (by simp))
                rw [List.take_add_one, hf']
                have a1 : LLs (upd H10 l (.lst vs)) D acc (L.take j) := hll.ext (Ext.nil e11)
                exact (a1.ext e12).app (e12.at_ upd_same (by simp; exact nlD)) (e12.dts (e11.dts htd)) nlD
              · rintro H10 ⟨acc, e10, hD10, hll, hal⟩
                rw [hkl, List.take_length] at hll
                have ws10 := ws9.ext0 e10
                have k10 := k9.ext0 e10
                obtain ⟨⟨vs8, hv8, hd8⟩, z1, z2, z3⟩ := id k10
                refine ⟨_, _, dpL hv8 hd8, .lst (.of hD10) (LLs.dp hll), shapedL (kl_lq hff) (by decide), lls_shaped ws10.fk, _, rfl, ?_⟩
                generalize (!(L.map fun f => PyData.list (NestedKey.datas (kl f))).any fun z => PyData.eqv z (.list (NestedKey.datas (kl f)))) = bb
                cases bb
                case' true =>
                  refine iteT ⟨_, rfl, p, c, 2, _, rfl, ws10.pen, by omega, by omega, by omega, fun r H11 e11 p11 r0 r2 => ⟨r, rfl, by omega, by omega, ?_⟩⟩
                  obtain ⟨tn, htn, htn3⟩ : ∃ tn : Int, tn = r ∧ tn ≤ 3 := ⟨r, rfl, by omega⟩
                  rw [← htn]
                case' false =>
                  refine iteF ⟨_, rfl, p, c, 2, _, rfl, ws10.pen, by omega, by omega, by omega, fun r H11 e11 p11 r0 r2 => ⟨_, _, rfl, rfl, 1 + r, rfl, by omega, by omega, ?_⟩⟩
                  obtain ⟨tn, htn, htn3⟩ : ∃ tn : Int, tn = 1 + r ∧ tn ≤ 3 := ⟨1 + r, rfl, by omega⟩
                  rw [← htn]
                all_goals
                  have ws11 := ws10.draw e11 p11
                  have k11 := k10.draw ws10.pen e11
                  refine for_range (fun tt σ H12 => ∃ (f : Nat → Gu) (o7 o13 o14 : Option V), σ = [some (.ref p), some (.int m), some (.int mx), some (.ref cl), some (.ref kd), some (.ref gl), o6, o7, some (.ref k8), some (.int 0), some (.int (0 + (i : Int))), o11, o12, o13, o14, none, none, none, none, none] ∧ WS K w H H12 p c (n + 200001 + 1000 * i + 20 + 10 * tt) cl kd gl cs L al ∧ K8 H H12 cl kd k8 f ∧ Fok f)
                    ⟨f, o7, o13, o14, rfl, ws11.mono (by omega), k11, hff⟩ ?_ ?_
                  · rintro tt σ H12 htt ⟨f, o7, o13, o14, rfl, ws12, k12, hff⟩
                    have htt3 : tt < 3 := by omega
                    refine ⟨_, rfl, p, c, 4, _, rfl, ws12.pen, by omega, by omega, by omega, fun s1 H13 e13 p13 s10 s14 => ?_⟩
                    obtain ⟨sn1, rfl⟩ : ∃ sn1 : Nat, s1 = sn1 := ⟨s1.toNat, by omega⟩
                    have ws13 := ws12.draw e13 p13
                    have k13 := k12.draw ws12.pen e13
                    refine ⟨_, rfl, p, c, 3, _, rfl, ws13.pen, by omega, by omega, by omega, fun x1 H14 e14 p14 x10 x13 => ?_⟩
                    have ws14 := ws13.draw e14 p14
                    have k14 := k13.draw ws13.pen e14
                    refine ⟨_, rfl, p, c, 2, _, rfl, ws14.pen, by omega, by omega, by omega, fun x2 H15 e15 p15 x20 x22 => ?_⟩
                    have ws15 := ws14.draw e15 p15
                    have k15 := k14.draw ws14.pen e15
                    refine ⟨_, _, rfl, rfl, sz2, fun tl htl => ?_⟩
                    have e16 : EX K [] H15 (upd H15 tl (.tup [.int x1, .int (1 + x2)])) := Ext.new htl
                    have dl16 : Dt (upd H15 tl (.tup [.int x1, .int (1 + x2)])) (.ref tl) (glD (.num x1, 1 + x2)) := Dt.new (ks := [.num x1, .num (1 + x2)]) htl (.cons (.int _) (.cons (.int _) .nil))
                    have ws16 := ws15.ext0 e16
                    have k16 := k15.ext0 e16
                    clear e16
                    generalize upd H15 tl (.tup [.int x1, .int (1 + x2)]) = H16 at *
                    refine ⟨_, rfl, sz2, fun tn0 htn0 => ?_⟩
                    have e17 : EX K [] H16 (upd H16 tn0 (.tup [.non, .int 0])) := Ext.new htn0
                    have dn17 : Dt (upd H16 tn0 (.tup [.non, .int 0])) (.ref tn0) (glD (.none, 0)) := Dt.new (ks := [.none, .num 0]) htn0 (.cons .non (.cons (.int _) .nil))
                    have ws17 := ws16.ext0 e17
                    have k17 := k16.ext0 e17
                    have dl17 := e17.dt dl16
                    clear e17
                    generalize upd H16 tn0 (.tup [.non, .int 0]) = H17 at *
                    obtain ⟨ks17, hks17, hkd17⟩ := ws17.hkd
                    have hkl17 := hkd17.length
                    rw [List.length_map] at hkl17
                    have hks17n : ks17 ≠ [] := fun z => hLn (List.length_eq_zero_iff.mp (by rw [← hkl17, z]; rfl))
                    refine ⟨_, rfl, _, rfl, p, c, kd, ks17, _, rfl, ws17.pen, .inl (.of hks17), hks17n, by omega, by omega, fun v H18 hv e18 p18 => ?_⟩
                    have ws18 := ws17.draw e18 p18
                    have k18 := k17.draw ws17.pen e18
                    obtain ⟨t, vs, f2, hf2, rfl, htv, htd⟩ := kind_any (e18.dts hkd17) hv
                    obtain ⟨gv, hgv, hgd⟩ := htd.get2 (i := sn1) (kl_at (by omega))
                    refine ⟨_, rfl, t, vs, _, gv, rfl, rfl, .of htv, atI_nat hgv, _, rfl, sz3, fun l3 hl3 => ?_⟩
                    have e19 : EX K [] H18 (upd H18 l3 (.lst [.ref tn0, gv, .ref tl])) := Ext.new hl3
                    have ws19 := ws18.ext0 e19
                    have k19 := k18.ext0 e19
                    refine ⟨p, c, l3, _, _, rfl, ws19.pen, .inl (.of upd_same), by simp, by simp, by omega, fun gr H20 hgr e20 p20 => ?_⟩
                    have ws20 := ws19.draw e20 p20
                    have k20 := k19.draw ws19.pen e20
                    obtain ⟨gg, hgg, hggok⟩ : ∃ gg, Dt H20 gr (glD gg) ∧ Gok gg := by
                      simp only [List.mem_cons, List.not_mem_nil, or_false] at hgr
                      rcases hgr with rfl | rfl | rfl
                      · exact ⟨_, e20.dt (e19.dt (e18.dt dn17)), gok_non⟩
                      · exact ⟨_, e20.dt (e19.dt hgd), ws18.fk f2 hf2 sn1⟩
                      · exact ⟨_, e20.dt (e19.dt (e18.dt dl17)), gok_num (by omega) (by omega)⟩
                    obtain ⟨⟨vs20, hv20, hd20⟩, z1, z2, z3⟩ := id k20
                    have hvl := hd20.length
                    have hvl : vs20.length = 4 := hvl
                    refine ⟨_, rfl, _, rfl, k8, vs20, _, sn1, rfl, rfl, hv20, ixN_nat (by omega), ?_⟩
                    have e21 : EX K [k8] H20 (upd H20 k8 (.lst (vs20.set sn1 gr))) := Ext.refl.lst hv20 (.inr (by simp))
                    refine ⟨fset f sn1 gg, _, _, _, rfl, (ws20.other hp hv20 z1 z2 z3).mono (by omega), ⟨⟨_, upd_same, ?_⟩, z1, z2, z3⟩, fset_ok hff hggok⟩
                    rw [← kl_set (by omega : sn1 < 4)]
                    exact (e21.dts hd20).set (e21.dt hgg) sn1
                  · rintro σ H12 ⟨f, o7, o13, o14, rfl, ws12, k12, hff⟩
                    exact ⟨k8, f, o7, o13, o14, rfl, ws12.mono (by omega), k12, hff⟩
            rintro σ H10 ⟨k8, f, o7, o13, o14, rfl, ws10, k10, hff⟩
            obtain ⟨⟨vs, hv8, hd8⟩, z1, z2, z3⟩ := k10
            obtain ⟨ks, hks, hkd⟩ := ws10.hkd
            have hkl := hkd.length
            rw [List.length_map] at hkl
            refine ⟨_, rfl, tyl hks, _, rfl, k8, vs, rfl, .inl ⟨.of hv8, fun u hu => ?_⟩⟩
            have e11 : EX K [] H10 (upd H10 u (.tup vs)) := Ext.new hu
            refine ⟨kd, ks, _, rfl, rfl, e11.at0 hks, by rw [sizeLine_eq]; omega, ?_⟩
            refine ⟨L ++ [f], _, _, _, _, _, _, _, _, rfl, ((ws10.ext0 e11).app hp (e11.at0 hks) (e11.dts hkd) (Dt.new hu hd8) hff).mono (by omega), by simp, by rw [List.length_append]; simp; omega, fun z => absurd z hmx0⟩
          · rintro σ H6 ⟨L, o6, o7, o8, o10, o11, o12, o13, o14, rfl, ws, hLn, hLl, hkp⟩
            have h2 : ((lp : Int)).toNat = lp := by omega
            rw [h2] at ws hLl
            exact ⟨L, _, _, _, _, _, _, _, _, rfl, ws.mono (by omega), hLn, by omega, hkp⟩
      rintro σ H6 ⟨L1, o6, o7, o8, o10, o11, o12, o13, o14, rfl, ws, hL1n, hL1l, hkp1⟩
      clear hL00 hL0l hL0n hkp
      -- late rivals
      refine ⟨fun σ H7 => ∃ (L : List (Nat → Gu)) (o6 o7 o8 o10 o11 o12 o13 o14 : Option V), σ = [some (.ref p), some (.int m), some (.int mx), some (.ref cl), some (.ref kd), some (.ref gl), o6, o7, o8, some (.int 0), o10, o11, o12, o13, o14, none, none, none, none, none] ∧ WS K w H H7 p c (n + 310000) cl kd gl cs L al ∧ L ≠ [] ∧ L.length ≤ 22 ∧ (mx = 0 → KProp L m), ?_, ?_⟩
      · refine ⟨_, rfl, _, _, rfl, rfl, _, rfl, ?_⟩
        by_cases hm0 : (mx : Int) > 0
        case' pos =>
          rw [decide_eq_true hm0]
          refine iteT ⟨_, rfl, sz3, fun l5 hl5 => ?_⟩
          have e6' : EX K [] H6 (upd H6 l5 (.lst [.int 0, .int 1, .int 2])) := Ext.new hl5
          refine ⟨p, c, l5, _, n + 300000, rfl, (ws.ext0 e6').pen, .inl (.of upd_same), by simp, by simp, by omega, fun v5 H7 hv5 e7 p7 => ?_⟩
          obtain ⟨lp, hlp, hlp0, hlp3⟩ : ∃ lp : Nat, v5 = .int (lp : Int) ∧ (mx = 0 → lp = 0) ∧ lp ≤ 2 := by
            simp only [List.mem_cons, List.not_mem_nil, or_false] at hv5
            rcases hv5 with h | h | h
            · exact ⟨0, h, fun _ => rfl, by omega⟩
            · exact ⟨1, h, fun z => by omega, by omega⟩
            · exact ⟨2, h, fun z => by omega, by omega⟩
          subst hlp
          have ws7 : WS K w H H7 p c (n + 300001) cl kd gl cs L1 al := (ws.ext0 e6').draw e7 p7
          refine ⟨(lp : Int), rfl, by omega, by omega, ?_⟩
        case' neg =>
          rw [decide_eq_false hm0]
          obtain ⟨lp, hlp, hlp0, hlp3⟩ : ∃ lp : Nat, lp = 0 ∧ (mx = 0 → lp = 0) ∧ lp ≤ 2 := ⟨0, rfl, fun _ => rfl, by omega⟩
          obtain ⟨H7, hH7⟩ : ∃ H7, H7 = H6 := ⟨_, rfl⟩
          have ws7 : WS K w H H7 p c (n + 300001) cl kd gl cs L1 al := by rw [hH7]; exact ws.mono (by omega)
          refine iteF ⟨(lp : Int), by rw [hlp]; rfl, by omega, by omega, ?_⟩
          rw [← hH7]
        all_goals
          refine for_range (fun i σ H7 => ∃ (L : List (Nat → Gu)) (o6 o7 o8 o10 o11 o12 o13 o14 : Option V), σ = [some (.ref p), some (.int m), some (.int mx), some (.ref cl), some (.ref kd), some (.ref gl), o6, o7, o8, some (.int 0), o10, o11, o12, o13, o14, none, none, none, none, none] ∧ WS K w H H7 p c (n + 300001 + 10 * i) cl kd gl cs L al ∧ L ≠ [] ∧ L.length ≤ 20 + i ∧ (mx = 0 → KProp L m))
            ⟨L1, o6, o7, o8, o10, o11, o12, o13, o14, rfl, ws7, hL1n, by omega, hkp1⟩ ?_ ?_
          · rintro i σ H7 hi ⟨L, o6, o7, o8, o10, o11, o12, o13, o14, rfl, ws, hLn, hLl, hkp⟩
            have hilp : i < lp := by omega
            have hmx0 : mx ≠ 0 := fun z => by have := hlp0 z; omega
            obtain ⟨us7, hus7, hud7⟩ := ws.hcl
            have hul7 := hud7.length
            rw [List.length_map] at hul7
            refine ⟨_, rfl, _, rfl, _, rfl, _, rfl, cl, us7, rfl, .inl (.of hus7), p, c, _, _, rfl, ws.pen, by omega, by omega, by omega, fun r H8 e8 p8 r0 r1 => ?_⟩
            obtain ⟨ra, rfl⟩ : ∃ ra : Nat, r = (ra : Int) := ⟨r.toNat, by omega⟩
            have ws8 := ws.draw e8 p8
            obtain ⟨us8, hus8, hud8⟩ := ws8.hcl
            refine ⟨gl, cl, ra, al, 1000, us8, cs, rfl, ws8.hgl, hus8, hud8, by omega, hkeys, fun l vs H9 f e9 hl9 hl9' hd9 hf9 => ?_⟩
            have ws9 := ws8.ext0 e9
            refine ⟨_, rfl, sz2, fun t0 ht0 => ⟨sz1, fun l0 hl0 => ?_⟩⟩
            have e10 : EX K [] H9 (upd H9 t0 (.tup [.non, .int 0])) := Ext.new ht0
            have e11 : EX K [] (upd H9 t0 (.tup [.non, .int 0])) (upd (upd H9 t0 (.tup [.non, .int 0])) l0 (.lst [.ref t0])) := Ext.new hl0
            have d0 := e11.dt (Dt.new (ks := [.none, .num 0]) ht0 (.cons .non (.cons (.int _) .nil)))
            refine ⟨l0, 4, [.ref t0], rfl, rfl, upd_same, by decide, by decide, (by rw [sizeLine_eq]; simp), fun l2 hl2 => ?_⟩
            have e12 : EX K [] (upd (upd H9 t0 (.tup [.non, .int 0])) l0 (.lst [.ref t0])) (upd (upd (upd H9 t0 (.tup [.non, .int 0])) l0 (.lst [.ref t0])) l2 (.lst [.ref t0, .ref t0, .ref t0, .ref t0])) := Ext.new hl2
            have d3 := e12.dt d0
            have e912 := (e10.trans e11).trans e12
            have hl12 := e912.at0 hl9'
            have hd12 := e912.dts hd9
            have ws12 := ws9.ext0 e912
            refine neLL (n := 8) (m := 8) (ks := kl f) (ls := kl fun _ => (.none, 0)) hl12 upd_same hd12 (.cons d3 (.cons d3 (.cons d3 (.cons d3 .nil)))) (kl_lq hf9) (kl_lq fun _ => gok_non) (by decide) (by decide) ⟨_, rfl, ?_⟩
            obtain ⟨b, hb⟩ : ∃ b, b = decide (kl f ≠ kl fun _ => (.none, 0)) := ⟨_, rfl⟩
            rw [← hb]
            cases b
            · exact iteF ⟨L, _, _, _, _, _, _, _, _, rfl, ws12.mono (by omega), hLn, by omega, hkp⟩
            · obtain ⟨ks, hks, hkd⟩ := ws12.hkd
              have hkl := hkd.length
              rw [List.length_map] at hkl
              refine iteT ⟨_, rfl, tyl hks, _, rfl, l, vs, rfl, .inl ⟨.of hl12, fun u hu => ?_⟩⟩
              have e13 : EX K [] _ (upd _ u (.tup vs)) := Ext.new hu
              refine ⟨kd, ks, _, rfl, rfl, e13.at0 hks, by rw [sizeLine_eq]; omega, ?_⟩
              refine ⟨L ++ [f], _, _, _, _, _, _, _, _, rfl, ((ws12.ext0 e13).app hp (e13.at0 hks) (e13.dts hkd) (Dt.new hu hd12) hf9).mono (by omega), by simp, by rw [List.length_append]; simp; omega, fun z => absurd z hmx0⟩
          · rintro σ H7 ⟨L, o6, o7, o8, o10, o11, o12, o13, o14, rfl, ws, hLn, hLl, hkp⟩
            have h2 : ((lp : Int)).toNat = lp := by omega
            rw [h2] at ws hLl
            exact ⟨L, _, _, _, _, _, _, _, _, rfl, ws.mono (by omega), hLn, by omega, hkp⟩
      rintro σ H7 ⟨L, o6, o7, o8, o10, o11, o12, o13, o14, rfl, ws, hLn, hLl, hkp⟩
      -- the world's dict, the names
      refine fun o ho g G9 hg8 m8 c8 => ?_
      have e8 : EX K [] H7 (upd H7 o (.dK [])) := Ext.new ho
      have e9 : EX K [] (upd H7 o (.dK [])) G9 := Ext.newC hg8 c8
      have ho9 : G9 o = some (.dK []) := e9.at0 upd_same
      refine ⟨ho9, [(.inr "glues", .ref g)], rfl, by simp, Nat.zero_le _, fun nl hnl => ⟨sz2, fun tp htp => ?_⟩⟩
      refine ⟨_, _, rfl, .of upd_same, rfl, _, _, rfl, _, _, rfl, rfl, ?_⟩
      have e10 : EX K [o] G9 (upd G9 o (.dK (mergeK [] [(.inr "glues", .ref g)]))) := Ext.refl.dK ho9 (.inr (by simp))
      have hog : (upd G9 o (.dK (mergeK [] [(.inr "glues", .ref g)]))) o = some (.dK [(.inr "glues", .ref g)]) := upd_same
      have cg10 : Chg o G9 (upd G9 o (.dK (mergeK [] [(.inr "glues", .ref g)]))) := Chg.upd
      generalize upd G9 o (.dK (mergeK [] [(.inr "glues", .ref g)])) = G10 at *
      have e11 : EX K [] G10 (upd G10 nl (.lst [])) := Ext.new hnl
      have e12 : EX K [] (upd G10 nl (.lst [])) (upd (upd G10 nl (.lst [])) tp (.tup [.ref o, .ref nl])) := Ext.new htp
      have hnl12 := e12.at0 (upd_same (H := G10) (a := nl) (o := .lst []))
      have e1012 := e11.trans e12
      clear e11 e12
      generalize upd (upd G10 nl (.lst [])) tp (.tup [.ref o, .ref nl]) = H10 at *
      have wt : WT K w H H10 p c (n + 310000) cl kd cs L o g nl [(.inr "glues", .ref g)] [] [] := by
        have ws8 := ws.ext0 e8
        have hoH := ws.e.fresh ho
        have hgH := ws8.e.fresh hg8
        have eH10 : EX K [p] H G10 := (ws8.e.trans e9.nil).then1 e10 (.inl hoH)
        have ws9 := ws8.ext0 e9
        obtain ⟨us, a1, b1⟩ := ws9.hcl
        obtain ⟨ks, a2, b2⟩ := ws9.hkd
        have hp0 : H p ≠ none := by obtain ⟨_, _, _, _, _, z, _⟩ := hp; rw [z]; simp
        have hc0 : H c ≠ none := by obtain ⟨_, _, _, _, _, _, z, _⟩ := hp; rw [z]; simp
        have a1' := e10.at_ a1 (by rw [List.mem_singleton]; exact lst_dk a1 ho9)
        have a2' := e10.at_ a2 (by rw [List.mem_singleton]; exact lst_dk a2 ho9)
        have og : g ≠ o := (ne_of_none upd_same hg8).symm
        exact ⟨eH10.trans e1012.nil, (ws9.pen.chg cg10 (WT.nn hoH hp0) (WT.nn hoH hc0)).ext0 e1012, ⟨us, e1012.at0 a1', e1012.dts (e10.dts b1)⟩, ⟨ks, e1012.at0 a2', e1012.dts (e10.dts b2)⟩, e1012.at0 hog, (DictA.nil (e1012.dictE (e10.dictE m8 (by rw [List.mem_singleton]; exact og)) (by simp))), ⟨[], hnl12, .nil⟩, hoH, hgH, eH10.fresh hnl, (ne_of_none a1' hnl).symm, (ne_of_none a2' hnl).symm, hp0, hc0⟩
      have hfk := ws.fk
      clear hL1n hL1l hkp1 hocn hkeys hoc0 hfull hu2 e8 e9 e10 hog e1012 hnl12 ho9 m8 c8 ws
      -- the names
      refine ⟨fun σ H11 => ∃ (NL : List (Nat × D)) (o17 : Option V), σ = [some (.ref p), some (.int m), some (.int mx), some (.ref cl), some (.ref kd), some (.ref gl), o6, o7, o8, some (.int 0), o10, o11, o12, o13, o14, some (.ref o), some (.ref nl), o17, none, none] ∧ WT K w H H11 p c (n + 330000) cl kd cs L o g nl [(.inr "glues", .ref g)] [] NL ∧ NmOk NL ∧ (NL.map (·.1)).Perm (List.range L.length), ?_, ?_⟩
      · obtain ⟨ks, hks, hkd⟩ := wt.hkd
        have hkl := hkd.length
        rw [List.length_map] at hkl
        refine ⟨_, rfl, _, rfl, kd, ks, rfl, .inl (.of hks), _, rfl, RgOk.of_le (by omega) (by omega) (by omega) (by omega), fun l2 hl2 => ?_⟩
        have e2 : EX K [] H10 (upd H10 l2 (.lst (rgV 0 (ks.length : Int)))) := Ext.new hl2
        refine ⟨p, c, l2, _, _, rfl, (wt.ext0 e2).pen, upd_same, by rw [rgV_length]; omega, by omega, fun l3 ys H12 hl3 hl3' hperm e12 p12 => ⟨l3, rfl, ⟨_, .of hl3'⟩, ?_⟩⟩
        have wt12 := (wt.ext0 e2).draw e12 p12
        have nl3 : nl ≠ l3 := by
          obtain ⟨xs, z, _⟩ := (wt.ext0 e2).hnl
          exact ne_of_none z hl3
        obtain ⟨ms, rfl, hms⟩ := perm_map hperm
        rw [hkl] at hms
        have hmsl := hms.length_eq
        rw [List.length_range] at hmsl
        refine for_list (xs := ms.map fun (a : Nat) => V.int (a : Int)) (fun i σ H11 => ∃ (NL : List (Nat × D)) (o17 : Option V), σ = [some (.ref p), some (.int m), some (.int mx), some (.ref cl), some (.ref kd), some (.ref gl), o6, o7, o8, some (.int 0), o10, o11, o12, o13, o14, some (.ref o), some (.ref nl), o17, none, none] ∧ WT K w H H11 p c (n + 311000 + 100 * i) cl kd cs L o g nl [(.inr "glues", .ref g)] [] NL ∧ NmOk NL ∧ NL.map (·.1) = ms.take i ∧ H11 l3 = some (.lst (ms.map fun (a : Nat) => V.int (a : Int))))
          ⟨[], none, rfl, wt12, (by intro i x hx; cases hx), rfl, hl3'⟩ (fun i σ H11 _ ⟨_, _, _, _, _, _, h⟩ => .of h) ?_ ?_
        · rintro i v σ H11 hv ⟨NL, o17, rfl, wt11, hnm, hms1, hl11⟩
          rw [List.getElem?_map] at hv
          obtain ⟨a, ha, rfl⟩ := Option.map_eq_some_iff.mp hv
          have hi : i < ms.length := (List.getElem?_eq_some_iff.mp ha).1
          obtain ⟨xs, hxs, hxd⟩ := wt11.hnl
          have hxl := hxd.length
          rw [List.length_map] at hxl
          have hNl : NL.length = i := by
            have := congrArg List.length hms1
            rw [List.length_map, List.length_take] at this
            omega
          refine ⟨_, rfl, tyl hxs, _, rfl, _, rfl, _, rfl, nl, xs, rfl, .inl (.of hxs), _, rfl, sz2, fun l5 hl5 => ?_⟩
          have e13 : EX K [] H11 (upd H11 l5 (.lst [.int 0, .int 95])) := Ext.new hl5
          have wt13 := wt11.ext0 e13
          refine ⟨p, c, l5, _, _, rfl, wt13.pen, .inl (.of upd_same), by simp, by simp, by omega, fun v H14 hv14 e14 p14 => ?_⟩
          have wt14 := wt13.draw e14 p14
          obtain ⟨b, rfl, hb⟩ : ∃ b : Nat, v = .int (b : Int) ∧ (b = 0 ∨ b = 95) := by
            simp only [List.mem_cons, List.not_mem_nil, or_false] at hv14
            rcases hv14 with rfl | rfl
            · exact ⟨0, rfl, .inl rfl⟩
            · exact ⟨95, rfl, .inr rfl⟩
          refine ⟨_, _, rfl, rfl, .inr ⟨by decide, by decide⟩, _, _, rfl, rfl, p, c, i + b * 10, _, congrArg (fun z : Int => [V.ref p, V.int z]) (by omega : ((xs.length : Int) + (b : Int) * 10) = ((i + b * 10 : Nat) : Int)), wt14.pen, by omega, by omega, fun v H15 k d e15 p15 dm hk hd => ?_⟩
          have wt15 := wt14.draw e15 p15
          refine ⟨sz2, fun t ht => ?_⟩
          have e16 : EX K [] H15 (upd H15 t (.tup [.int (a : Int), v])) := Ext.new ht
          have wt16 := wt15.ext0 e16
          have dt16 : Dt (upd H15 t (.tup [.int (a : Int), v])) (.ref t) (nmD (a, d)) := Dt.new ht (.cons (.int _) (.cons hd .nil))
          have hl16 := e16.at0 (wt14.pen.at_ e15 (wt13.pen.at_ e14 (e13.at0 hl11)))
          clear e16
          generalize upd H15 t (.tup [.int (a : Int), v]) = H16 at *
          obtain ⟨xs2, hxs2, hxd2⟩ := wt16.hnl
          have hxl2 := hxd2.length
          rw [List.length_map] at hxl2
          refine ⟨nl, xs2, _, rfl, rfl, hxs2, by rw [sizeLine_eq]; omega, ?_⟩
          refine ⟨NL ++ [(a, d)], _, rfl, (wt16.app hxs2 hxd2 dt16).mono (by omega), fun j x hj => ?_, ?_, ?_⟩
          · by_cases hji : j < NL.length
            · rw [List.getElem?_append_left hji] at hj
              exact hnm j x hj
            · have hjl := (List.getElem?_eq_some_iff.mp hj).1
              rw [List.length_append] at hjl
              have hjl : j < NL.length + 1 := hjl
              have : j = NL.length := by omega
              subst this
              rw [List.getElem?_append_right (Nat.le_refl _), Nat.sub_self] at hj
              cases hj
              exact ⟨_, k, (by omega : i + b * 10 = NL.length ∨ i + b * 10 = NL.length + 950), hk, dm⟩
          · rw [List.map_append, hms1, List.take_add_one, ha]; rfl
          · rw [upd_ne (Ne.symm nl3)]; exact hl16
        · rintro σ H11 ⟨NL, o17, rfl, wt11, hnm, hms1, hl11⟩
          rw [List.length_map] at hms1 wt11
          rw [List.take_length] at hms1
          exact ⟨NL, o17, rfl, wt11.mono (by omega), hnm, by rw [hms1]; exact hms⟩
      rintro σ H11 ⟨NL, o17, rfl, wt11, hnm, hpm⟩
      -- the glues by name
      have hNl : NL.length = L.length := by
        have := hpm.length_eq
        rw [List.length_map, List.length_range] at this
        exact this
      have hNlt : ∀ x ∈ NL, x.1 < L.length := fun x hx => List.mem_range.mp (hpm.mem_iff.mp (List.mem_map.mpr ⟨x, hx, rfl⟩))
      have hNk : (NL.map (·.1)).Nodup := hpm.nodup_iff.mpr List.nodup_range
      have hNd := nm_nd hnm (by omega)
      refine ⟨fun σ H12 => ∃ (o17 o18 : Option V) (sn : V) (sd : D), σ = [some (.ref p), some (.int m), some (.int mx), some (.ref cl), some (.ref kd), some (.ref gl), o6, o7, o8, some (.int 0), o10, o11, o12, o13, o14, some (.ref o), some (.ref nl), o17, o18, none] ∧ WT K w H H12 p c (n + 330000) cl kd cs L o g nl [(.inr "glues", .ref g), (.inr "seed_name", sn)] (galOf L NL) NL ∧ Dt H12 sn sd ∧ (0, sd) ∈ NL, ?_, ?_⟩
      · obtain ⟨xs, hxs, hxd⟩ := wt11.hnl
        have hxl := hxd.length
        rw [List.length_map] at hxl
        refine ⟨_, rfl, nl, rfl, ⟨_, .of hxs⟩, ?_⟩
        refine for_list (xs := xs) (fun i σ H12 => ∃ (o17 o18 : Option V) (ol : List (Key × V)), σ = [some (.ref p), some (.int m), some (.int mx), some (.ref cl), some (.ref kd), some (.ref gl), o6, o7, o8, some (.int 0), o10, o11, o12, o13, o14, some (.ref o), some (.ref nl), o17, o18, none] ∧ WT K w H H12 p c (n + 330000) cl kd cs L o g nl ol (galOf L (NL.take i)) NL ∧ H12 nl = some (.lst xs) ∧
            ((ol = [(.inr "glues", .ref g)] ∧ ∀ x ∈ NL.take i, x.1 ≠ 0) ∨ ∃ sn sd, ol = [(.inr "glues", .ref g), (.inr "seed_name", sn)] ∧ Dt H12 sn sd ∧ (0, sd) ∈ NL.take i))
          ⟨o17, none, _, rfl, wt11, hxs, .inl ⟨rfl, by intro x hx; simp at hx⟩⟩ (fun i σ H12 _ ⟨_, _, _, _, _, h, _⟩ => .of h) ?_ ?_
        · rintro i v σ H12 hv ⟨o17, o18, ol, rfl, wt12, hxs12, hol⟩
          obtain ⟨kd0, hkd0, hvd⟩ := (show DtAll H12 xs (NL.map nmD) from wt12.hnl.elim fun ys z => by have := hxs12.symm.trans z.1; cases this; exact z.2).get hv
          obtain ⟨x, hx, rfl⟩ := Option.map_eq_some_iff.mp (by rw [← List.getElem?_map]; exact hkd0)
          have hxm := List.mem_of_getElem? hx
          have hi : i < NL.length := (List.getElem?_eq_some_iff.mp hx).1
          obtain ⟨t, vn, rfl, htv, hvn⟩ : ∃ (t : Addr) (vn : V), v = .ref t ∧ H12 t = some (.tup [.int (x.1 : Int), vn]) ∧ Dt H12 vn x.2 := by
            unfold nmD at hvd
            cases hvd with
            | tup a b =>
              cases b with
              | cons b1 b2 =>
                cases b1
                cases b2 with
                | cons b3 b4 =>
                  cases b4
                  exact ⟨_, _, rfl, a, b3⟩
          refine ⟨_, _, rfl, .of htv, rfl, _, _, rfl, _, _, rfl, rfl, ?_⟩
          obtain ⟨ks, hks, hkd⟩ := wt12.hkd
          have hkl := hkd.length
          rw [List.length_map] at hkl
          have hLx : L[x.1]? = some (L.getD x.1 nzG) := by
            rw [List.getD_eq_getElem?_getD, List.getElem?_eq_getElem (hNlt x hxm)]; rfl
          obtain ⟨kv, hkv, hkvd⟩ := hkd.get2 (i := x.1) (k := kinD (L.getD x.1 nzG)) (by rw [List.getElem?_map, hLx]; rfl)
          obtain ⟨es, hes, hps⟩ := id wt12.hg
          have hel := hps.length
          have hgl : (galOf L (NL.take i)).length ≤ i := by unfold galOf; rw [List.length_map, List.length_take]; omega
          have hog : valV ol (.inr "glues") = some (.ref g) := by
            rcases hol with ⟨rfl, _⟩ | ⟨sn, sd, rfl, _⟩ <;> rfl
          have hxd8 : x.2.depth ≤ 8 := by
            obtain ⟨mm, j, _, h2, h3⟩ := hnm i x hx
            exact Nat.le_trans h3.depth (by omega)
          refine ⟨_, rfl, _, rfl, kd, ks, _, kv, rfl, rfl, .of hks, atI_nat hkv, _, rfl, _, _, rfl, pget wt12.ho "glues" hog, _, rfl, g, es, x.2, rfl, hes, hvn, hxd8, by rw [sizeLine_eq]; omega, fun H13 m13 c13 => ?_⟩
          have e13 : EX K [g] H12 H13 := Ext.refl.dict hes c13 m13 (.inr (by simp))
          have wt13 := wt12.gput e13 (DictA.put hes hps hkvd m13 c13)
          rw [galOf_new hNd hx] at wt13
          have hxs13 := e13.at_ hxs12 (by rw [List.mem_singleton]; exact (da_lst wt12.hg hxs12).symm)
          refine ⟨_, rfl, _, rfl, eqD3 (.int _) (.int _) num_lq num_lq (by decide) (by decide) ⟨_, rfl, ?_⟩⟩
          by_cases hx0 : NestedKey.num (x.1 : Int) = .num 0
          · have hx0' : x.1 = 0 := by injection hx0 with z; omega
            rw [decide_eq_true hx0]
            rcases hol with ⟨rfl, hol⟩ | ⟨sn, sd, rfl, _, hol⟩
            · refine iteT ⟨_, rfl, _, rfl, _, _, rfl, pput wt13.ho "seed_name" _ (by rw [sizeLine_eq]; simp), ?_⟩
              obtain ⟨e14, wt14⟩ := wt13.oput [(.inr "glues", .ref g), (.inr "seed_name", vn)]
              refine ⟨_, _, _, rfl, wt14, e14.at_ hxs13 (by rw [List.mem_singleton]; exact lst_dk hxs13 wt13.ho), .inr ⟨vn, x.2, rfl, e14.dt (e13.dt hvn), ?_⟩⟩
              rw [List.take_add_one, hx, ← hx0']; simp
            · exfalso
              obtain ⟨j, hj⟩ := List.mem_iff_getElem?.mp hol
              have hj2 := (List.getElem?_eq_some_iff.mp hj).1
              rw [List.length_take] at hj2
              rw [List.getElem?_take, if_pos (by omega)] at hj
              have : j = i := (List.getElem?_inj (l := NL.map (·.1)) (by rw [List.length_map]; omega) hNk).mp (by
                rw [List.getElem?_map, List.getElem?_map, hj, hx, Option.map_some, Option.map_some, hx0'])
              omega
          · rw [decide_eq_false hx0]
            have hx0' : x.1 ≠ 0 := fun z => hx0 (by rw [z]; rfl)
            refine iteF ⟨_, _, _, rfl, wt13, hxs13, ?_⟩
            rcases hol with ⟨rfl, hol⟩ | ⟨sn, sd, rfl, hsn, hol⟩
            · refine .inl ⟨rfl, fun y hy => ?_⟩
              rw [List.take_add_one, hx] at hy
              rcases List.mem_append.mp hy with hy | hy
              · exact hol y hy
              · have : y = x := by simpa using hy
                rw [this]; exact hx0'
            · refine .inr ⟨sn, sd, rfl, e13.dt hsn, ?_⟩
              rw [List.take_add_one]
              exact List.mem_append_left _ hol
        · rintro σ H12 ⟨o17, o18, ol, rfl, wt12, hxs12, hol⟩
          rw [hxl, List.take_length] at wt12 hol
          rcases hol with ⟨rfl, hol⟩ | ⟨sn, sd, rfl, hsn, hol⟩
          · exfalso
            have : 0 ∈ NL.map (·.1) := hpm.mem_iff.mpr (List.mem_range.mpr (List.length_pos_iff.mpr hLn))
            obtain ⟨x, hx, z⟩ := List.mem_map.mp this
            exact hol x hx z
          · exact ⟨_, _, sn, sd, rfl, wt12, hsn, hol⟩
      rintro σ H12 ⟨o17, o18, sn, sd, rfl, wt, hsn, hsd⟩
      -- the order
      obtain ⟨es, hes, hps⟩ := id wt.hg
      refine ⟨_, rfl, _, _, rfl, pget wt.ho "glues" rfl, g, es, rfl, hes, fun l hl => ?_⟩
      have dk : DtAll H12 (es.map (·.2.1)) (NL.map (·.2)) := by
        have h1 := dts_of hes.ks
        rw [hps.keys] at h1
        unfold galOf at h1
        rw [List.map_map] at h1
        exact h1
      obtain ⟨z1, z2⟩ := zipVN dk.length
      have e13 : EX K [] H12 (upd H12 l (.lst (es.map (·.2.1)))) := Ext.new hl
      have nmO : ∀ n ∈ NL.map (·.2), Shw n := fun n hn => by
        obtain ⟨x, hx, rfl⟩ := List.mem_map.mp hn
        obtain ⟨i, hi⟩ := List.mem_iff_getElem?.mp hx
        obtain ⟨mm, j, h1, h2, h3⟩ := hnm i x hi
        have := (List.getElem?_eq_some_iff.mp hi).1
        exact h3.shw (by omega) h2
      refine ⟨l, (es.map (·.2.1)).zip (NL.map (·.2)), _, rfl, ?_, (wt.ext0 e13).e.tabs hT, ⟨rfl, fun b hb => e13.dt (dtVN dk b hb), fun b hb => ?_⟩, fun H14 r eN dm T4 hr4 => ?_⟩
      · rw [z1]; exact .of upd_same
      · exact nmO _ (by rw [← z2]; exact List.mem_map.mpr ⟨b, hb, rfl⟩)
      have e34 : EX K [] (upd H12 l (.lst (es.map (·.2.1)))) H14 := ⟨fun b o e _ ht => eN b o e ht, fun b vs e => eN b _ e (fun _ z => by cases z), fun _ => T4, dm⟩
      obtain ⟨so, hso⟩ : ∃ so : List VN, so = ((es.map (·.2.1)).zip (NL.map (·.2))).mergeSort (PySem.W.dataLe false fun b : VN => .str b.2.data.shown) := ⟨_, rfl⟩
      rw [← hso]
      have hsp : (so.map (·.2)).Perm (NL.map (·.2)) := by
        refine List.Perm.trans ?_ (List.Perm.of_eq z2)
        rw [hso]
        exact (List.mergeSort_perm _ _).map _
      have hss : (so.map (·.2)).Pairwise fun a b => a.data.shown.cps.toList ≤ b.data.shown.cps.toList := by rw [hso]; exact repr_sorted
      have e14 := e13.trans e34
      have dso : DtAll H14 (so.map (·.1)) (so.map (·.2)) := e14.dts (by
        rw [hso]
        exact dtVN2 fun b hb => dtVN dk b ((List.mergeSort_perm _ _).mem_iff.mp hb))
      have wt14 := wt.ext0 e14
      have e15 : EX K [] H14 (upd H14 r (.lst (so.map (·.1)))) := Ext.new hr4
      have wt15 := wt14.ext0 e15
      have hsn15 := (e14.trans e15).dt hsn
      have dso15 := e15.dts dso
      have hr15 : (upd H14 r (.lst (so.map (·.1)))) r = some (.lst (so.map (·.1))) := upd_same
      clear e13 e34 e14 dso wt14 e15 hso
      generalize upd H14 r (.lst (so.map (·.1))) = H15 at *
      refine ⟨_, rfl, _, _, rfl, pput wt15.ho "order" _ (by rw [sizeLine_eq]; simp), ?_⟩
      obtain ⟨e16, wt16⟩ := wt15.oput [(.inr "glues", .ref g), (.inr "seed_name", sn), (.inr "order", .ref r)]
      have hr16 := e16.at_ hr15 (by rw [List.mem_singleton]; exact lst_dk hr15 wt15.ho)
      have hsn16 := e16.dt hsn15
      have dso16 := e16.dts dso15
      clear e16
      obtain ⟨H16, hH16⟩ : ∃ H16, H16 = upd H15 o (.dK [(.inr "glues", .ref g), (.inr "seed_name", sn), (.inr "order", .ref r)]) := ⟨_, rfl⟩
      rw [← hH16] at wt16 hr16 hsn16 dso16
      rw [show upd H15 o (.dK (putK [(.inr "glues", .ref g), (.inr "seed_name", sn)] (.inr "order") (.ref r))) = H16 from hH16.symm]
      -- how far
      refine ⟨_, rfl, _, _, rfl, rfl, ⟨by decide, by decide, by decide⟩, sz4, fun l5 hl5 => ?_⟩
      have e17 : EX K [] H16 (upd H16 l5 (.lst [.int 1, .int 1, .int 1, .int (10 ^ (12 : Int).toNat)])) := Ext.new hl5
      have wt17 := wt16.ext0 e17
      refine ⟨p, c, l5, _, _, rfl, wt17.pen, .inl (.of upd_same), by simp, by simp, by omega, fun v18 H18 hv18 e18 p18 => ?_⟩
      obtain ⟨far, rfl, hfar0, hfar1⟩ : ∃ far : Int, v18 = .int far ∧ 0 ≤ far ∧ far ≤ 1000000000000 := by
        simp only [List.mem_cons, List.not_mem_nil, or_false] at hv18
        rcases hv18 with rfl | rfl | rfl | rfl
        · exact ⟨1, rfl, by omega, by omega⟩
        · exact ⟨1, rfl, by omega, by omega⟩
        · exact ⟨1, rfl, by omega, by omega⟩
        · exact ⟨_, rfl, by decide, by decide⟩
      have wt18 := wt17.draw e18 p18
      have hr18 := wt17.pen.at_ e18 (e17.at0 hr16)
      -- the seed
      refine ⟨_, rfl, p, c, 9, _, rfl, wt18.pen, by omega, by omega, by omega, fun r1 H19 e19 p19 r10 r19 => ⟨_, _, rfl, rfl, _, rfl, _, _, rfl, rfl, .inr ⟨by omega, by omega⟩, ?_⟩⟩
      have wt19 := wt18.draw e19 p19
      have hr19 := wt18.pen.at_ e19 hr18
      refine ⟨_, rfl, p, c, 9, _, rfl, wt19.pen, by omega, by omega, by omega, fun r2 H20 e20 p20 r20 r29 => ⟨_, _, rfl, rfl, _, rfl, _, _, rfl, rfl, .inr ⟨by omega, by omega⟩, ?_⟩⟩
      have wt20 := wt19.draw e20 p20
      have hr20 := wt19.pen.at_ e20 hr19
      refine ⟨sz2, fun ts hts => ?_⟩
      obtain ⟨sd2, hsd2⟩ : ∃ sd2 : Pl, sd2 = ((r1 - 4) * far, (r2 - 4) * far) := ⟨_, rfl⟩
      have e21 : EX K [] H20 (upd H20 ts (.tup [.int ((r1 - 4) * far), .int ((r2 - 4) * far)])) := Ext.new hts
      have dsd : Dt (upd H20 ts (.tup [.int ((r1 - 4) * far), .int ((r2 - 4) * far)])) (.ref ts) (plD sd2) := by rw [hsd2]; exact pl_dt upd_same
      have tsd : (upd H20 ts (.tup [.int ((r1 - 4) * far), .int ((r2 - 4) * far)])) ts = some (.tup [.int sd2.1, .int sd2.2]) := by rw [hsd2]; exact upd_same
      have wt21 := wt20.ext0 e21
      have hr21 := e21.at0 hr20
      have e1621 := (((e17.nil.trans e18).trans e19).trans e20).trans e21.nil
      have hsn21 := e1621.dt hsn16
      have dso21 := e1621.dts dso16
      clear e17 e18 e19 e20 e21 e1621
      generalize upd H20 ts (.tup [.int ((r1 - 4) * far), .int ((r2 - 4) * far)]) = H21 at *
      refine ⟨_, rfl, _, _, rfl, pput wt21.ho "seed" _ (by rw [sizeLine_eq]; simp), ?_⟩
      obtain ⟨e22, wt22⟩ := wt21.oput [(.inr "glues", .ref g), (.inr "seed_name", sn), (.inr "order", .ref r), (.inr "seed", .ref ts)]
      have hr22 := e22.at_ hr21 (by rw [List.mem_singleton]; exact lst_dk hr21 wt21.ho)
      have hsn22 := e22.dt hsn21
      have dso22 := e22.dts dso21
      have dsd22 := e22.dt dsd
      have tsd22 := e22.tup tsd
      clear e22
      obtain ⟨H22, hH22⟩ : ∃ H22, H22 = upd H21 o (.dK [(.inr "glues", .ref g), (.inr "seed_name", sn), (.inr "order", .ref r), (.inr "seed", .ref ts)]) := ⟨_, rfl⟩
      rw [← hH22] at wt22 hr22 hsn22 dso22 dsd22 tsd22
      rw [show upd H21 o (.dK (putK [(.inr "glues", .ref g), (.inr "seed_name", sn), (.inr "order", .ref r)] (.inr "seed") (.ref ts))) = H22 from hH22.symm]
      -- the cells
      obtain ⟨us, hus, hud⟩ := wt22.hcl
      have hul := hud.length
      rw [List.length_map] at hul
      refine ⟨_, rfl, cl, rfl, ⟨us, .of hus⟩, fun q0 hq0 => ?_⟩
      have e23 : EX K [] H22 (upd H22 q0 (.lst [])) := Ext.new hq0
      refine wk_list (xs := us) (fun i H23 => ∃ acc, EX K [] H22 H23 ∧ H23 q0 = some (.lst acc) ∧ DtAll H23 acc (((cs.map (shift sd2)).take i).map plD)) ⟨[], e23, upd_same, by simp; exact .nil⟩ (fun i H23 _ ⟨_, e, _⟩ => .of (e.at0 hus)) ?_ ?_
      · rintro i cv H23 hcv ⟨acc, e23, hq23, ha23⟩
        obtain ⟨kk, hkk, hcd⟩ := hud.get hcv
        obtain ⟨q1, hq1, rfl⟩ := Option.map_eq_some_iff.mp (by rw [← List.getElem?_map]; exact hkk)
        obtain ⟨t, rfl, ht⟩ := pl_tup (e23.dt hcd)
        have hal := ha23.length
        rw [List.length_map, List.length_take, List.length_map] at hal
        refine ⟨rfl, ?_⟩
        refine ⟨_, rfl, t, _, _, _, rfl, rfl, .of ht, rfl, _, rfl, _, _, rfl, pget (e23.at0 wt22.ho) "seed" rfl, ts, _, _, _, rfl, rfl, .of (e23.tup tsd22), rfl, _, _, rfl, rfl, ?_⟩
        refine ⟨_, rfl, t, _, _, _, rfl, rfl, .of ht, rfl, _, rfl, _, _, rfl, pget (e23.at0 wt22.ho) "seed" rfl, ts, _, _, _, rfl, rfl, .of (e23.tup tsd22), rfl, _, _, rfl, rfl, sz2, fun t1 ht1 => ?_⟩
        have e24 : EX K [] H23 (upd H23 t1 (.tup [.int (q1.1 + sd2.1), .int (q1.2 + sd2.2)])) := Ext.new ht1
        have d24 : Dt (upd H23 t1 (.tup [.int (q1.1 + sd2.1), .int (q1.2 + sd2.2)])) (.ref t1) (plD (shift sd2 q1)) := pl_dt upd_same
        have hq24 := e24.at0 hq23
        have e25 : EX K [q0] (upd H23 t1 (.tup [.int (q1.1 + sd2.1), .int (q1.2 + sd2.2)])) (upd (upd H23 t1 (.tup [.int (q1.1 + sd2.1), .int (q1.2 + sd2.2)])) q0 (.lst (acc ++ [.ref t1]))) := Ext.refl.lst hq24 (.inr (by simp))
        refine ⟨acc, hq24, by rw [sizeLine_eq]; omega, acc ++ [.ref t1], (e23.trans e24).lst hq24 (.inl hq0), upd_same, ?_⟩
        rw [List.take_add_one, List.getElem?_map, hq1, List.map_append]
        exact (e25.dts (e24.dts ha23)).app (.cons (e25.dt d24) .nil)
      · rintro H23 ⟨acc, e23, hq23, ha23⟩
        rw [hul, ← List.length_map (f := shift sd2), List.take_length] at ha23
        have wt23 := wt22.ext0 e23
        refine ⟨_, rfl, _, _, rfl, pput wt23.ho "cells" _ (by rw [sizeLine_eq]; simp), ?_⟩
        obtain ⟨e24, wt24⟩ := wt23.oput (OD g r q0 sn (.ref ts))
        have e2224 := e23.nil.trans e24
        -- all of it
        refine ⟨_, rfl, q o ⟨g, r, q0, sn, .ref ts⟩ ⟨so.map (·.2), glN L NL⟩ sd sd2 (cs.map (shift sd2)) _ wt24.e (wt24.e.tabs hT) (wt24.pen.mono (by omega)) ?_ (world_nice hnm (by omega) hfk hsp hss) (by rw [List.length_map]; exact hcl2) (WT.nn wt24.fo wt24.hp).symm (fun z => world_own hnm (by omega) hsp hpm (hkp z) hsd)⟩
        obtain ⟨ges, hge, hgp⟩ := wt24.hg
        refine ⟨wt24.ho, ⟨ges, hge, fun nn hnn => ?_⟩, ⟨_, e24.at_ (e23.at0 hr22) (by rw [List.mem_singleton]; exact lst_dk (e23.at0 hr22) wt23.ho), e2224.dts dso22⟩, ⟨acc, e24.at_ hq23 (by rw [List.mem_singleton]; exact lst_dk hq23 wt23.ho), e24.dts ha23⟩, e2224.dt hsn22, e2224.dt dsd22, hsp.mem_iff.mpr (List.mem_map.mpr ⟨_, hsd, rfl⟩)⟩
        obtain ⟨x, hx, rfl⟩ := List.mem_map.mp (hsp.mem_iff.mp hnn)
        have hLx : L[x.1]? = some (L.getD x.1 nzG) := by
          rw [List.getD_eq_getElem?_getD, List.getElem?_eq_getElem (hNlt x hx)]; rfl
        obtain ⟨v, hv1, hv2⟩ := hgp.some_ (k := x.2) (x := kinD (L.getD x.1 nzG)) (lkA_of_mem (by unfold galOf; rw [List.map_map]; exact hNd) (List.mem_map.mpr ⟨x, hx, rfl⟩))
        refine ⟨v, hv1, ?_⟩
        have : kinD (L.getD x.1 nzG) = kindD ⟨so.map (·.2), glN L NL⟩ x.2 := by
          unfold kinD kl kindD
          dsimp only
          rw [glN_eq hNd hx hLx, glN_eq hNd hx hLx, glN_eq hNd hx hLx, glN_eq hNd hx hLx]
        rw [← this]; exact hv2
end
end TR
/-! text FW -/
set_option Elab.async false
set_option linter.all false
set_option maxRecDepth 100000
set_option maxHeartbeats 4000000
set_option pp.maxSteps 300
set_option pp.deepTerms false
/-! the tiles of a world -/
namespace TR
open PySem PySem.Spec PyProof.Rows L2 VD
section
variable {P : Program} {w : World} {K : PySem.W.Frag} {mg : Str → Option Value} {base : Heap} {Z H H0 H1 H2 : Hp} {B : BA} {W : Wd} {M M' : Bd} {sd : Pl} {bad : List Pl} {o d p c cl kd gl : Addr} {n m : Nat} {al al2 : AL} {S : List Addr} {cs : List Pl} {L : List (Nat → Gu)}
theorem dts_perm {us ys : List V} (pm : ys.Perm us) : ∀ {ks : List D}, DtAll H us ks → ∃ ls : List D, DtAll H ys ls ∧ ls.Perm ks := by
  induction pm with
  | nil => intro ks h; cases h; exact ⟨[], .nil, .refl _⟩
  | cons x _ ih =>
    intro ks h
    cases h with
    | cons a b =>
      obtain ⟨ls, h1, h2⟩ := ih b
      exact ⟨_, .cons a h1, h2.cons _⟩
  | swap x y l =>
    intro ks h
    cases h with
    | cons a b =>
      cases b with
      | cons b1 b2 => exact ⟨_, .cons b1 (.cons a b2), .swap _ _ _⟩
  | trans _ _ ih1 ih2 =>
    intro ks h
    obtain ⟨l1, a1, b1⟩ := ih2 h
    obtain ⟨l2, a2, b2⟩ := ih1 a1
    exact ⟨l2, a2, b2.trans b1⟩
theorem OwnI.dn {A : OwA} {sn : D} (k : ∀ b x, H b = some x → (∀ xs, x ≠ .dK xs) → (∀ ps, x ≠ .tbl ps) → Z b = some x) (ko : ∀ x, H o = some x → (∀ ps, x ≠ .tbl ps) → Z o = some x) (h : OwnI w H o A W sn sd cs) : OwnI w Z o A W sn sd cs := by
  have kt : ∀ b vs, H b = some (.tup vs) → Z b = some (.tup vs) := fun b vs q => k b _ q (fun _ z => by cases z) (fun _ z => by cases z)
  have kl : ∀ b vs, H b = some (.lst vs) → Z b = some (.lst vs) := fun b vs q => k b _ q (fun _ z => by cases z) (fun _ z => by cases z)
  obtain ⟨a, ⟨ges, b1, b2⟩, ⟨us, c1, c2⟩, ⟨ws, d1, d2⟩, e, f, g⟩ := h
  refine ⟨ko _ a (fun _ z => by cases z), ⟨ges, b1.keep (fun x q => ?_) kt, fun n hn => let ⟨v, q1, q2⟩ := b2 n hn; ⟨v, q1, Dt.ext kt _ _ q2⟩⟩, ⟨us, kl _ _ c1, DtAll.ext kt _ _ c2⟩, ⟨ws, kl _ _ d1, DtAll.ext kt _ _ d2⟩, Dt.ext kt _ _ e, Dt.ext kt _ _ f, g⟩
  obtain ⟨ep, q2⟩ := b1.ob
  rw [q2] at q
  cases q
  exact k _ _ q2 (fun _ z => by cases z) (fun _ z => by cases z)
theorem OwnI.draw {A : OwA} {sn : D} (h : OwnI w H o A W sn sd cs) (hp : Pen H p c n) (ho : o ≠ p) (e : EX K [p] H H1) : OwnI w H1 o A W sn sd cs :=
  h.dn (fun b x hb n1 n2 => e.keep b x hb (by
    rw [List.mem_singleton]
    intro z
    obtain ⟨_, _, _, _, _, hp, _⟩ := hp
    rw [z, hp] at hb; cases hb
    exact n1 _ rfl) n2) (fun x hx n2 => e.keep o x hx (by rw [List.mem_singleton]; exact ho) n2)
def spTileSet (K : PySem.W.Frag) (w : World) : Sp := fun vs H Q _ => ∃ (p c o : Addr) (n : Nat) (A : OwA) (W : Wd) (sn : D) (sd : Pl) (cs : List Pl), vs = [.ref p, .ref o] ∧ Pen H p c n ∧ OwnI w H o A W sn sd cs ∧ WNice W ∧ o ≠ p ∧ n < 10000000000 ∧ LamX.Tabs (TabK K) H ∧
  ∀ ts H1, EX K [p] H H1 → LamX.Tabs (TabK K) H1 → Pen H1 p c (n + 2000) → TSO K w H1 ts W → Q (.ref ts) H1
theorem ok_law_t2_tile_set (E : Ev K mg base) : DoesG P w K mg base L2.CX0 7 (He.ga K "_law_t2_tile_set") ["_law_pen_here", "_law_own"] (spTileSet K w) :=
  E.doesG (k := 6) ix_law_t2_tile_set rfl bn_law_t2_tile_set sc_law_t2_tile_set (fun _ _ _ _ ⟨_, _, _, _, _, _, _, _, _, h, _⟩ => by rw [h]; rfl) fun cdv A outer s H vs Q X hr hG hcd h => by
    obtain ⟨p, c, o, n, A1, W, sn, sd, cs, rfl, hp, ow, wn, hop, hn, hT, q⟩ := h
    refine ⟨_, (pss_cons (ps_set (i := 2) sc_law_t2_tile_set.nd rfl (by first | exact Or.inl rfl | exact Or.inr rfl) (pe_lst pa_nil))
      (pss_cons (ps_for PassesOwn.never rfl (pi_list (pe_do (ok_law_shuffled E) (hr.mono (by decide)) (by rfl) (g_law_shuffled E) pass0 (pa_cons (pv 0) (pa_cons (pe_dget (hu_of hr) (pv 1) pe_str (fun _ _ => rfl)) pa_nil)))) (pg_name (i := 3) sc_law_t2_tile_set.nd rfl (by first | exact Or.inl rfl | exact Or.inr rfl))
        (pss_cons (ps_set (i := 4) sc_law_t2_tile_set.nd rfl (by first | exact Or.inl rfl | exact Or.inr rfl) (pe_xget hr (pe_dget (hu_of hr) (pv 1) pe_str (fun _ _ => rfl)) (pv 3) (fun _ _ => rfl)))
      (pss_one (ps_expr (pe_bm PySem.F.plainAttrs_list PySem.F.slot_list_append PySem.F.type_list_append mt_append (pv 2) (pa_cons (pe_doMk (mk_Tile E) (ok_Tile_init E) (hr.mono (by decide)) (by rfl) (g_Tile E) pass0 (pa_cons (pv 3) (pa_cons (pe_ix ix_tup (pv 4) pe_int (fun _ _ => rfl)) (pa_cons (pe_ix ix_tup (pv 4) pe_int (fun _ _ => rfl)) (pa_cons (pe_ix ix_tup (pv 4) pe_int (fun _ _ => rfl)) (pa_cons (pe_ix ix_tup (pv 4) pe_int (fun _ _ => rfl)) pa_nil)))))) pa_nil))))))
      (pss_one (ps_ret (pe_doMkG (mk_TileSet E) (ok_TileSet_init E) (hr.mono (by decide)) hG (by rfl) (g_TileSet E) pass0 (pa_cons (pe_ifExp (pt_cmpR op_eq (pe_do (ok_law_draw E) (hr.mono (by decide)) (by rfl) (g_law_draw E) pass0 (pa_cons (pv 0) (pa_cons pe_int pa_nil))) pe_int (nomark _)) (pv 2) (pe_callTy call_tuple_of (by rfl) (u_tuple E) b_tuple (pa_cons (pv 2) pa_nil))) pa_nil)))))), ?_⟩
    refine ⟨Nat.zero_le _, fun tl htl => ?_⟩
    have e1 : EX K [] H (upd H tl (.lst [])) := Ext.new htl
    have htl1 : (upd H tl (.lst [])) tl = some (.lst []) := upd_same
    have p1 := hp.ext0 e1
    have ow1 := ow.draw hp hop e1.nil
    have npl : p ≠ tl ∧ c ≠ tl := ⟨hp.neP htl, hp.neC htl⟩
    have hp0 : H p ≠ none := by obtain ⟨_, _, _, _, _, z, _⟩ := hp; rw [z]; simp
    generalize upd H tl (.lst []) = H3 at *
    obtain ⟨us, hod, hud⟩ := ow1.od
    have hul := hud.length
    have hwl := wn.len
    refine ⟨_, rfl, _, rfl, _, _, rfl, pget ow1.o "order" rfl, p, c, A1.od, us, n, rfl, p1, hod, by omega, by omega, fun l ys H4 hl hl4 hperm e4 p4 => ⟨l, rfl, ⟨ys, .of hl4⟩, ?_⟩⟩
    obtain ⟨ns, hys, hns⟩ := dts_perm hperm hud
    have hys4 := e4.dts hys
    have hnl := hns.length_eq
    have hyl := hys.length
    have ntl : tl ≠ l := ne_of_none htl1 hl
    have e04 : EX K [p] H H4 := e1.nil.trans e4
    refine for_list (xs := ys) (fun i σ H5 => ∃ (o3 o4 : Option V) (ts : List Addr), σ = [some (.ref p), some (.ref o), some (.ref tl), o3, o4] ∧ EX K [p] H H5 ∧ Pen H5 p c (n + 1000) ∧ H5 l = some (.lst ys) ∧ DtAll H5 ys ns ∧ H5 tl = some (.lst (ts.map V.ref)) ∧ TilesOk K H5 ts (ns.take i) W)
      ⟨none, none, [], rfl, e04, p4, hl4, hys4, p1.at_ e4 htl1, by simp, by simp⟩ (fun i σ H5 _ ⟨_, _, _, _, _, _, h, _⟩ => .of h) ?_ ?_
    · rintro i v σ H5 hv ⟨o3, o4, ts, rfl, e5, p5, hl5, hys5, htl5, hts5⟩
      obtain ⟨nn, hnn, hvd⟩ := hys5.get hv
      have hi : i < ns.length := (List.getElem?_eq_some_iff.mp hnn).1
      have hnm : nn ∈ W.order := hns.mem_iff.mp (List.mem_of_getElem? hnn)
      have ow5 := ow.draw hp hop e5
      obtain ⟨ges, hge, hgg⟩ := ow5.g
      obtain ⟨kv, hk1, hk2⟩ := hgg nn hnm
      obtain ⟨w1, w2, w3, _⟩ := wn.nm nn hnm
      refine ⟨_, rfl, _, _, rfl, pget ow5.o "glues" rfl, _, rfl, A1.g, ges, nn, kv, rfl, hge, hvd, by omega, hk1, ?_⟩
      obtain ⟨t, x0, x1, x2, x3, rfl, ht, d0, d1, d2, d3⟩ := tup4 hk2
      have htsl := hts5.1
      rw [List.length_take] at htsl
      refine ⟨_, rfl, tyl htl5, _, rfl, _, rfl, t, _, _, _, rfl, rfl, .of ht, rfl, _, rfl, t, _, _, _, rfl, rfl, .of ht, rfl, _, rfl, t, _, _, _, rfl, rfl, .of ht, rfl, _, rfl, t, _, _, _, rfl, rfl, .of ht, rfl, ?_⟩
      intro x dx hx hdx hne
      have e6 : EX K [] H5 (upd (upd H5 dx (.own x)) x (.ins (CTile K) dx [])) := (Ext.new hdx).trans (Ext.new (by rw [upd_ne (fun z => hne z.symm)]; exact hx))
      have hx6 : (upd (upd H5 dx (.own x)) x (.ins (CTile K) dx [])) x = some (.ins (CTile K) dx []) := upd_same
      refine ⟨x, dx, v, x0, x1, x2, x3, nn, W.gl nn, rfl, upd_same, e6.dt hvd, w3, e6.dt d0, e6.dt d1, e6.dt d2, e6.dt d3, fun s => ⟨wn.ok.lo nn s, wn.ok.hi nn s⟩, fun H7 e7 to7 => ⟨rfl, ?_⟩⟩
      have e57 : EX K [] H5 H7 := e6.then1 e7 (.inl hx)
      have htl7 := e57.at0 htl5
      have hto : ∀ (j : Nat) (t : Addr) (n : D), ts[j]? = some t → (ns.take i)[j]? = some n → TileO K H7 t n (W.gl n) := fun j t n h1 h2 => (hts5.2 j t n h1 h2).ext e57 (by simp)
      refine ⟨tl, ts.map V.ref, _, rfl, rfl, htl7, by rw [sizeLine_eq, List.length_map]; omega, ?_⟩
      have e8 : EX K [tl] H7 (upd H7 tl (.lst (ts.map V.ref ++ [.ref x]))) := Ext.refl.lst htl7 (.inr (by simp))
      have nto : ∀ {t : Addr} {n : D} {g : Nat → Gu}, TileO K H7 t n g → t ∉ [tl] := fun {t n g} h => by
        obtain ⟨_, _, _, _, _, _, h, _⟩ := h
        rw [List.mem_singleton]
        intro z
        rw [z, htl7] at h; cases h
      refine ⟨_, _, ts ++ [x], rfl, (e5.trans e57.nil).then1 e8 (.inl htl), (p5.ext0 e57).chg Chg.upd npl.1 npl.2, e8.at_ (e57.at0 hl5) (by rw [List.mem_singleton]; exact ntl.symm), e8.dts (e57.dts hys5), by rw [upd_same, List.map_append]; rfl, ?_, fun j t n h1 h2 => ?_⟩
      · rw [List.length_append, List.length_take]
        show ts.length + 1 = _
        omega
      · rw [List.take_add_one, hnn] at h2
        by_cases hj : j < ts.length
        · rw [List.getElem?_append_left hj] at h1
          rw [List.getElem?_append_left (by rw [List.length_take]; omega)] at h2
          exact (hto j t n h1 h2).ext e8 (nto (hto j t n h1 h2))
        · have hj2 := (List.getElem?_eq_some_iff.mp h1).1
          rw [List.length_append] at hj2
          have hj2 : j < ts.length + 1 := hj2
          have hjt : j = ts.length := by omega
          subst hjt
          rw [List.getElem?_append_right (Nat.le_refl _), Nat.sub_self] at h1
          rw [List.getElem?_append_right (by rw [List.length_take]; omega), List.length_take, show ts.length - min i ns.length = 0 by omega] at h2
          cases h1
          cases h2
          exact to7.ext e8 (nto to7)
    · rintro σ H5 ⟨o3, o4, ts, rfl, e5, p5, hl5, hys5, htl5, hts5⟩
      rw [show ys.length = ns.length from hyl, List.take_length] at hts5
      have htsl := hts5.1
      have T5 := e5.tabs hT
      have nto : ∀ {t : Addr} {n : D} {g : Nat → Gu}, TileO K H5 t n g → t ∉ [p] := fun {t n g} h => by
        obtain ⟨_, _, _, _, _, _, h, _⟩ := h
        obtain ⟨_, _, _, _, _, hq, _⟩ := p5
        rw [List.mem_singleton]
        intro z
        rw [z, hq] at h; cases h
      refine ⟨_, rfl, p, c, 2, _, rfl, p5, by omega, by omega, by omega, fun r H6 e6 p6 r0 r2 => ⟨rfl, _, rfl, ?_⟩⟩
      have e06 := e5.trans e6
      have htl6 := p5.at_ e6 htl5
      have hto6 : TilesOk K H6 ts ns W := ⟨hts5.1, fun j t n h1 h2 => (hts5.2 j t n h1 h2).ext e6 (nto (hts5.2 j t n h1 h2))⟩
      by_cases hr0 : V.int r = V.int 0
      case' pos =>
        rw [decide_eq_true hr0]
        obtain ⟨tt, htt⟩ : ∃ tt, tt = tl := ⟨_, rfl⟩
        obtain ⟨H7, hH7⟩ : ∃ H7, H7 = H6 := ⟨_, rfl⟩
        have e67 : EX K [] H6 H7 := by rw [hH7]; exact .refl
        refine iteT ⟨_, rfl, ?_⟩
        rw [← hH7, ← htt]
        have hsq : Sq K H7 tt (ts.map V.ref) := by rw [hH7, htt]; exact .inl (.of htl6)
      case' neg =>
        rw [decide_eq_false hr0]
        refine iteF ⟨_, rfl, tl, ts.map V.ref, rfl, .inl ⟨.of htl6, fun tt htt => ?_⟩⟩
        have e67 : EX K [] H6 (upd H6 tt (.tup (ts.map V.ref))) := Ext.new htt
        have hsq : Sq K (upd H6 tt (.tup (ts.map V.ref))) tt (ts.map V.ref) := .inr (.of upd_same)
        generalize upd H6 tt (.tup (ts.map V.ref)) = H7 at *
      all_goals
        intro x dx hx hdx hne
        have e8 : EX K [] H7 (upd (upd H7 dx (.own x)) x (.ins (CTS K) dx [])) := (Ext.new hdx).trans (Ext.new (by rw [upd_ne (fun z => hne z.symm)]; exact hx))
        have e68 := e67.trans e8
        have e08 := e06.trans e68.nil
        have hx0 := (e06.trans e67.nil).fresh hx
        refine ⟨x, dx, tt, ts, ns, W, rfl, upd_same, ?_, ⟨hto6.1, fun j t n h1 h2 => (hto6.2 j t n h1 h2).ext e68 (by simp)⟩, hns, wn, e08.tabs hT, fun H9 e9 T9 ts9 => ⟨rfl, ?_⟩⟩
        · rcases hsq with h | h
          · exact .inl (sql0 e8 h)
          · exact .inr (sqtS e8 (fun b hb => by cases hb) h)
        · exact q x H9 (e08.then1 e9 (.inl hx0)) T9 (((p6.ext0 e68).ext e9 fun b hb => ⟨.ins (CTS K) dx [], by rw [List.mem_singleton.mp hb]; exact upd_same, (fun _ z => by cases z), fun _ z => by cases z⟩).mono (by omega)) ts9
end
end TR
/-! text M5 -/
set_option Elab.async false
set_option linter.all false
set_option maxRecDepth 100000
set_option maxHeartbeats 4000000
/-! holes in a grown bed; what stays as it is -/
namespace TR
open PySem PySem.Spec PyProof.Rows L2 VD
section
variable {P : Program} {w : World} {K : PySem.W.Frag} {Z H H1 : Hp} {W : Wd} {loc : D → Pl} {M N F S : Bd} {most : Int} {k j : Nat} {p q sd : Pl} {n m sn : D} {ps ps2 : List Pl} {cs : List Pl} {o : Addr}
theorem not_over0 (w : WOk W) (o : Own W loc) (hM : Prp W loc M) (hn : (M.map (·.1)).Nodup) (hl : (W.order.length : Int) ≤ most) : ¬ Over W M most j := fun h => by
  have h1 := prp_len (st_keys (k := j + 1) (W := W) hn) (st_prp w o hM)
  have h2 := h.2
  omega
theorem drs_mem {x : Pl × D} : ∀ {ps : List Pl} {M : Bd}, x ∈ drs M ps → x ∈ M
  | [], _, h => h
  | p :: ps, M, h => (List.mem_filter.mp (drs_mem (ps := ps) (M := drB M p) h)).1
theorem drs_sub : Sub (drs F ps) F := fun p n h => by
  rw [lkB_drs] at h
  split at h
  · cases h
  · exact h
theorem drs_sub2 (h : ∀ q ∈ ps2, q ∈ ps) : Sub (drs F ps) (drs F ps2) := fun p n hp => by
  rw [lkB_drs] at hp ⊢
  split at hp
  · cases hp
  · rename_i c
    rw [if_neg (fun z => c (h _ z))]; exact hp
theorem seed_sub : lkB (st W [(sd, sn)] k) sd = some sn := st_sub_le (W := W) (M := [(sd, sn)]) (Nat.zero_le k) _ _ (by show lkB [(sd, sn)] sd = some sn; rw [lkB_cons, if_pos rfl])
theorem part_of (g : Grown W loc [(sd, sn)] F k) (hp : sd ∉ ps) : Part W loc [(sd, sn)] F (drs F ps) := by
  refine ⟨fun x hx => g.fp x (drs_mem hx), fun q n h => ?_, drs_sub⟩
  rw [lkB_cons] at h
  split at h
  · rename_i c
    cases h
    have c : sd = q := c
    subst c
    rw [lkB_drs, if_neg hp, g.f]
    exact seed_sub
  · cases h
theorem TSO.dn {a : Addr} (k : ∀ b x, H b = some x → (∀ xs, x ≠ .dK xs) → (∀ ps, x ≠ .tbl ps) → Z b = some x) (h : TSO K w H a W) : TSO K w Z a W := by
  have kt : ∀ b vs, H b = some (.tup vs) → Z b = some (.tup vs) := fun b vs q => k b _ q (fun _ z => by cases z) (fun _ z => by cases z)
  have kl : ∀ b vs, H b = some (.lst vs) → Z b = some (.lst vs) := fun b vs q => k b _ q (fun _ z => by cases z) (fun _ z => by cases z)
  have ki : ∀ b C dx fs, H b = some (.ins C dx fs) → Z b = some (.ins C dx fs) := fun b C dx fs q => k b _ q (fun _ z => by cases z) (fun _ z => by cases z)
  have kd : ∀ {d : Addr} {es : Es}, DictE w H d es → DictE w Z d es := fun {d es} m => m.keep (fun x q => by
    obtain ⟨ep, q2⟩ := m.ob
    rw [q2] at q
    cases q
    exact k _ _ q2 (fun _ z => by cases z) (fun _ z => by cases z)) kt
  have kD : ∀ {v : V} {x : D}, Dt H v x → Dt Z v x := fun h => Dt.ext kt _ _ h
  obtain ⟨dx, tl, tb, on, rk, nbg, d, tes, res, ges, ha, ⟨h1, h2⟩, h3, ⟨h4, h5⟩, h6, h7⟩ := h
  refine ⟨dx, tl, tb, on, rk, nbg, d, tes, res, ges, ki _ _ _ _ ha, ⟨kd h1, fun n hn => ?_⟩, kD h3, ⟨kd h4, h5⟩, kl _ _ h6, fun s hs => ⟨kd (h7 s hs).1, fun g => ?_⟩⟩
  · obtain ⟨t, ht, dx', vn, v0, v1, v2, v3, a, b0, b1, b2, b3, b4⟩ := h2 n hn
    exact ⟨t, ht, dx', vn, v0, v1, v2, v3, ki _ _ _ _ a, kD b0, kD b1, kD b2, kD b3, kD b4⟩
  · rcases (h7 s hs).2 g with h | ⟨l, vs, a, b, c⟩
    · exact .inl h
    · exact .inr ⟨l, vs, a, kl _ _ b, DtAll.ext kt _ _ c⟩
open Classical in
/-- what does not change any more: all but the pen and the tables -/
noncomputable def cold (H : Hp) (p : Addr) : Hp := fun b => if b = p then none else if ∃ ps, H b = some (.tbl ps) then none else H b
theorem cold_p {p : Addr} : cold H p p = none := if_pos rfl
theorem cold_frz {p : Addr} : Frz (cold H p) H := by
  refine ⟨fun b o h => ?_, fun b ps h => ?_⟩
  · unfold cold at h
    split at h
    · cases h
    · split at h
      · cases h
      · exact h
  · unfold cold at h
    split at h
    · cases h
    · split at h
      · cases h
      · rename_i c
        exact c ⟨ps, h⟩
theorem cold_at {p : Addr} {b : Addr} {x : HO} (h : H b = some x) (hp : b ≠ p) (ht : ∀ ps, x ≠ .tbl ps) : cold H p b = some x := by
  unfold cold
  rw [if_neg hp, if_neg (fun ⟨ps, z⟩ => ht ps (by rw [h] at z; cases z; rfl))]
  exact h
end
section
variable {P : Program} {w : World} {K : PySem.W.Frag} {H : Hp} {W : Wd} {o p c a : Addr} {n : Nat} {A : OwA} {sn : D} {sd : Pl} {cs : List Pl}
theorem cold_dn (h : Pen H p c n) : ∀ b x, H b = some x → (∀ xs, x ≠ .dK xs) → (∀ ps, x ≠ .tbl ps) → cold H p b = some x := fun b x hb n1 n2 => cold_at hb (by
  intro z
  obtain ⟨_, _, _, _, _, hp, _⟩ := h
  rw [z, hp] at hb
  cases hb
  exact n1 _ rfl) n2
theorem OwnI.cold (h : OwnI w H o A W sn sd cs) (hp : Pen H p c n) (ho : o ≠ p) : OwnI w (cold H p) o A W sn sd cs := h.dn (cold_dn hp) fun x hx n2 => cold_at hx ho n2
theorem TSO.cold (h : TSO K w H a W) (hp : Pen H p c n) : TSO K w (cold H p) a W := h.dn (cold_dn hp)
theorem passNo {X : Cx} : Passes (L2.CX P w) X E0 := fun _ _ _ _ _ _ _ h => by
  obtain ⟨_, _, _, _, _, _, _, _, _, _, _, _, h⟩ := h
  exact (show False from h).elim
end
end TR
/-! text FX -/
set_option Elab.async false
set_option linter.all false
set_option maxRecDepth 100000
set_option maxHeartbeats 4000000
set_option pp.maxSteps 300
set_option pp.deepTerms false
/-! the law -/
namespace TR
open PySem PySem.Spec PyProof.Rows L2 VD
section
variable {P : Program} {w : World} {K : PySem.W.Frag} {mg : Str → Option Value} {base : Heap}
theorem pe_xget2Z {X : Cx} {o e f : Expr} {td ty tx : TE} {k : Nat} {apos cpos : Pos} (hw : X.w = w) (ho : PE X o td) (he : PE X e ty) (hf : PE X f tx) (m : M2 X o "get" apos e f cpos) (hr : Room k X.A) : PE X (.Call (.Attribute o "get" apos) [e, f] [] cpos) (tXGet2 w td ty tx) := by subst hw; exact pe_xget2 hr ho he hf m
theorem BedI.far {Z H : Hp} {B : BA} {W : Wd} {M : Bd} {sd : Pl} {bad : List Pl} {l : Addr} (I : BedI K w Z H B W M sd bad) (hl : H l = none) : B.b ≠ l ∧ B.ly ≠ l ∧ B.cm ≠ l := by
  obtain ⟨o1, h1⟩ := I.ly.some
  obtain ⟨_, a2⟩ := I.cmA
  obtain ⟨o2, h2⟩ := a2.some
  exact ⟨ne_of_none I.o hl, ne_of_none h1 hl, ne_of_none h2 hl⟩
theorem BedI.lst {Z H : Hp} {B : BA} {W : Wd} {M : Bd} {sd : Pl} {bad : List Pl} {l : Addr} {S : List Addr} {H1 : Hp} (I : BedI K w Z H B W M sd bad) (e : EX K [l] H H1) (zl : Z l = none) (h : B.b ≠ l ∧ B.ly ≠ l ∧ B.cm ≠ l) : BedI K w Z H1 B W M sd bad :=
  I.ext e (by simp; exact zl) (by simp; exact h.1) (by simp; exact h.2.1) (by simp; exact h.2.2)
def fltP (c : Int) (hs : List (Pl × Int)) : List Pl := (hs.filter fun y => decide (y.2 > c)).map (·.1)
def holD (y : Pl × Int) : D := .tup [plD y.1, .num y.2]
theorem flt_pos {c : Int} {hs : List (Pl × Int)} {j : Nat} {y : Pl × Int} (h : hs[j]? = some y) (hc : y.2 > c) : fltP c (hs.take (j + 1)) = fltP c (hs.take j) ++ [y.1] := by
  unfold fltP
  rw [List.take_add_one, h, List.filter_append, List.map_append]
  simp [hc]
theorem flt_neg {c : Int} {hs : List (Pl × Int)} {j : Nat} {y : Pl × Int} (h : hs[j]? = some y) (hc : ¬ y.2 > c) : fltP c (hs.take (j + 1)) = fltP c (hs.take j) := by
  unfold fltP
  rw [List.take_add_one, h, List.filter_append, List.map_append]
  simp
  omega
theorem flt_len {c : Int} {hs : List (Pl × Int)} : (fltP c hs).length ≤ hs.length := by
  unfold fltP
  rw [List.length_map]
  exact List.length_filter_le _ _
theorem flt_mem {c : Int} {hs : List (Pl × Int)} {q : Pl} (h : q ∈ fltP c hs) : ∃ y ∈ hs, y.1 = q := by
  obtain ⟨y, hy, e⟩ := List.mem_map.mp h
  exact ⟨y, (List.mem_filter.mp hy).1, e⟩
theorem flt_le {hs : List (Pl × Int)} {q : Pl} (h : q ∈ fltP 1 hs) : q ∈ fltP 0 hs := by
  obtain ⟨y, hy, e⟩ := List.mem_map.mp h
  obtain ⟨h1, h2⟩ := List.mem_filter.mp hy
  have h2 : y.2 > 1 := of_decide_eq_true h2
  exact List.mem_map.mpr ⟨y, List.mem_filter.mpr ⟨h1, decide_eq_true (by omega)⟩, e⟩
theorem dt_numV {H : Hp} {v : V} {i : Int} (h : Dt H v (.num i)) : v = .int i := by cases h; rfl
theorem hol_of {H : Hp} {v : V} {y : Pl × Int} (h : Dt H v (holD y)) : ∃ (t : Addr) (pv : V), v = .ref t ∧ H t = some (.tup [pv, .int y.2]) ∧ Dt H pv (plD y.1) := by
  unfold holD at h
  cases h with
  | tup a b =>
    cases b with
    | cons b1 b2 =>
      cases b2 with
      | cons b3 b4 =>
        cases b3
        cases b4
        exact ⟨_, _, rfl, a, b1⟩
def spLaw (K : PySem.W.Frag) : Sp := fun vs H Q _ => ∃ (a : Addr) (ns : List Int), vs = [.ref a] ∧ SqL K H a (ns.map V.int) ∧ ns.length ≤ 63 ∧ LamX.Tabs (TabK K) H ∧ ∀ H1, Q (.bl true) H1
theorem ok_law (E : Ev K mg base) : DoesG P w K mg base L2.CX0 15 (He.ga K "law") ["_law_script"] (spLaw K) :=
  E.doesG (k := 14) ix_law rfl bn_law sc_law (fun _ _ _ _ ⟨_, _, h, _⟩ => by rw [h]; rfl) fun cdv A outer s H vs Q X hr hG hcd h => by
    obtain ⟨a, ns, rfl, ha, hns, hT, q⟩ := h
    refine ⟨_, (pss_cons (ps_set (i := 1) sc_law.nd rfl (by first | exact Or.inl rfl | exact Or.inr rfl) (pe_do (ok_law_pen E) (hr.mono (by decide)) (by rfl) (g_law_pen E) pass0 (pa_cons (pv 0) pa_nil)))
      (pss_cutE (ps_for PassesOwn.never rfl (pi_range1 (by rfl) (u_range E) (pa_cons (pe_op op_add pe_int (pe_op op_fdiv (pe_callB call_len_seq (by rfl) (u_len E) b_len (pa_cons (pv 0) pa_nil)) pe_int)) pa_nil)) (pg_name (i := 2) sc_law.nd rfl (by first | exact Or.inl rfl | exact Or.inr rfl))
        (pss_cons (ps_set (i := 3) sc_law.nd rfl (by first | exact Or.inl rfl | exact Or.inr rfl) (pe_doG (ok_law_t2_world E) (hr.mono (by decide)) hG (by rfl) (g_law_t2_world E) pass0 (pa_cons (pv 1) (pa_cons (pe_op op_add pe_int (pe_do (ok_law_draw E) (hr.mono (by decide)) (by rfl) (g_law_draw E) pass0 (pa_cons (pv 1) (pa_cons pe_int pa_nil)))) (pa_cons (pe_do (ok_law_draw E) (hr.mono (by decide)) (by rfl) (g_law_draw E) pass0 (pa_cons (pv 1) (pa_cons pe_int pa_nil))) pa_nil)))))
      (pss_cons (ps_set (i := 4) sc_law.nd rfl (by first | exact Or.inl rfl | exact Or.inr rfl) (pe_doG (ok_law_t2_tile_set E) (hr.mono (by decide)) hG (by rfl) (g_law_t2_tile_set E) pass0 (pa_cons (pv 1) (pa_cons (pv 3) pa_nil))))
      (pss_cons (ps_par (i := 5) (j := 6) rfl sc_law.nd rfl rfl (by decide) rfl rfl (pa_cons (pe_xone hr.units (pe_dget (hu_of hr) (pv 3) pe_str (fun _ _ => rfl)) (pe_dget (hu_of hr) (pv 3) pe_str (fun _ _ => rfl))) (pa_cons (pe_doMk (mk_Bed E) (ok_Bed_init E) (hr.mono (by decide)) (by rfl) (g_Bed E) pass0 (pa_cons (pv 4) (pa_cons (pe_dget (hu_of hr) (pv 3) pe_str (fun _ _ => rfl)) (pa_cons (pe_dget (hu_of hr) (pv 3) pe_str (fun _ _ => rfl)) pa_nil)))) pa_nil)) (by rfl))
      (pss_cons (ps_expr (pe_do (ok_law_t2_disturb E) (hr.mono (by decide)) (by rfl) (g_law_t2_disturb E) pass0 (pa_cons (pv 1) (pa_cons (pv 3) (pa_cons (pv 5) (pa_cons (pv 6) (pa_cons (pe_do (ok_law_pick E) (hr.mono (by decide)) (by rfl) (g_law_pick E) pass0 (pa_cons (pv 1) (pa_cons (pe_lst (pa_cons pe_int (pa_cons pe_int (pa_cons pe_int (pa_cons pe_int pa_nil))))) pa_nil))) pa_nil)))))))
      (pss_cons (ps_set (i := 7) sc_law.nd rfl (by first | exact Or.inl rfl | exact Or.inr rfl) (pe_do (ok_law_pick E) (hr.mono (by decide)) (by rfl) (g_law_pick E) pass0 (pa_cons (pv 1) (pa_cons (pe_lst (pa_cons pe_int (pa_cons pe_int (pa_cons (pe_callB call_lenX (by rfl) (u_len E) b_len (pa_cons (pv 5) pa_nil)) (pa_cons (pe_op op_add (pe_callB call_lenX (by rfl) (u_len E) b_len (pa_cons (pv 5) pa_nil)) pe_int) (pa_cons pe_int (pa_cons pe_int (pa_cons pe_int (pa_cons pe_int (pa_cons (pe_un un_neg pe_int) (pa_cons pe_non (pa_cons pe_bl (pa_cons pe_str (pa_cons (pe_tup (pa_cons pe_int pa_nil)) pa_nil)))))))))))))) pa_nil))))
      (pss_cutE (ps_if (pt_not (pt_val (pe_do (ok_law_t2_rounds_right E) (hr.mono (by decide)) (by rfl) (g_law_t2_rounds_right E) pass0 (pa_cons (pv 1) (pa_cons (pv 3) (pa_cons (pv 5) (pa_cons (pv 6) (pa_cons (pv 7) pa_nil))))))))
        (pss_one (ps_ret pe_bl))
        pss_nil)
      (pss_cons (ps_set (i := 3) sc_law.nd rfl (by first | exact Or.inl rfl | exact Or.inr rfl) (pe_doG (ok_law_t2_world E) (hr.mono (by decide)) hG (by rfl) (g_law_t2_world E) pass0 (pa_cons (pv 1) (pa_cons (pe_op op_add pe_int (pe_do (ok_law_draw E) (hr.mono (by decide)) (by rfl) (g_law_draw E) pass0 (pa_cons (pv 1) (pa_cons pe_int pa_nil)))) (pa_cons pe_int pa_nil)))))
      (pss_cons (ps_set (i := 8) sc_law.nd rfl (by first | exact Or.inl rfl | exact Or.inr rfl) (pe_doMk (mk_Bed E) (ok_Bed_init E) (hr.mono (by decide)) (by rfl) (g_Bed E) pass0 (pa_cons (pe_doG (ok_law_t2_tile_set E) (hr.mono (by decide)) hG (by rfl) (g_law_t2_tile_set E) pass0 (pa_cons (pv 1) (pa_cons (pv 3) pa_nil))) (pa_cons (pe_dget (hu_of hr) (pv 3) pe_str (fun _ _ => rfl)) (pa_cons (pe_dget (hu_of hr) (pv 3) pe_str (fun _ _ => rfl)) pa_nil)))))
      (pss_cons (ps_set (i := 7) sc_law.nd rfl (by first | exact Or.inl rfl | exact Or.inr rfl) (pe_callB call_len_seq (by rfl) (u_len E) b_len (pa_cons (pe_dget (hu_of hr) (pv 3) pe_str (fun _ _ => rfl)) pa_nil)))
      (pss_cutE (ps_expr (pe_do (ok_settle E) (hr.mono (by decide)) (by rfl) (g_settle E) passNo (pa_cons (pv 8) (pa_cons (pv 7) pa_nil))))
      (pss_cons (ps_set (i := 9) sc_law.nd rfl (by first | exact Or.inl rfl | exact Or.inr rfl) (pe_lst pa_nil))
      (pss_cutE (ps_for PassesOwn.never rfl (pi_tup (pe_doM0 (pv 8) (c_Bed E) (m_Bed_places E) (ok_Bed_places E) (hr.mono (by decide)) pass0)) (pg_name (i := 10) sc_law.nd rfl (by first | exact Or.inl rfl | exact Or.inr rfl))
        (pss_one (ps_if (pt_cmpR (op_neD hr.units) (pv 10) (pe_dget (hu_of hr) (pv 3) pe_str (fun _ _ => rfl)) (nomark _))
        (pss_one (ps_expr (pe_bm PySem.F.plainAttrs_list PySem.F.slot_list_append PySem.F.type_list_append mt_append (pv 9) (pa_cons (pe_tup (pa_cons (pv 10) (pa_cons (pe_do (ok_law_draw E) (hr.mono (by decide)) (by rfl) (g_law_draw E) pass0 (pa_cons (pv 1) (pa_cons pe_int pa_nil))) pa_nil))) pa_nil))))
        pss_nil)))
      (pss_cons (ps_par (i := 11) (j := 12) rfl sc_law.nd rfl rfl (by decide) rfl rfl (pa_cons (pe_doM0 (pv 8) (c_Bed E) (m_Bed_twin E) (ok_Bed_twin E) (hr.mono (by decide)) pass0) (pa_cons (pe_doM0 (pv 8) (c_Bed E) (m_Bed_twin E) (ok_Bed_twin E) (hr.mono (by decide)) pass0) pa_nil)) (by rfl))
      (pss_cons (ps_expr (pe_doM (pv 11) (c_Bed E) (m_Bed_cut E) (ok_Bed_cut E) (hr.mono (by decide)) pass0 (pa_cons (pe_lc rfl sc_law.nd (pi_list (pv 9)) (own := [("_law_place", 10), ("_law_way", 13)]) (blkOk_by (N := n_law) (sc := defScope s_law) (by decide +kernel)) (fun _ _ _ _ _ => (pg_tupK (K := K) (n := 2) rfl rfl (pgs_cons (pg_name (i := 10) sc_law.nd rfl (by first | exact Or.inl rfl | exact Or.inr rfl)) (pgs_cons (pg_name (i := 13) sc_law.nd rfl (by first | exact Or.inl rfl | exact Or.inr rfl)) pgs_nil)))) (fun _ _ _ _ _ => (pts_one (pt_cmpR op_gt (pv 13) pe_int (nomark _)))) (fun _ _ _ _ _ => (pv 10))) pa_nil)))
      (pss_cons (ps_expr (pe_doM (pv 12) (c_Bed E) (m_Bed_cut E) (ok_Bed_cut E) (hr.mono (by decide)) pass0 (pa_cons (pe_lc rfl sc_law.nd (pi_list (pv 9)) (own := [("_law_place", 10), ("_law_way", 13)]) (blkOk_by (N := n_law) (sc := defScope s_law) (by decide +kernel)) (fun _ _ _ _ _ => (pg_tupK (K := K) (n := 2) rfl rfl (pgs_cons (pg_name (i := 10) sc_law.nd rfl (by first | exact Or.inl rfl | exact Or.inr rfl)) (pgs_cons (pg_name (i := 13) sc_law.nd rfl (by first | exact Or.inl rfl | exact Or.inr rfl)) pgs_nil)))) (fun _ _ _ _ _ => (pts_one (pt_cmpR op_gt (pv 13) pe_int (nomark _)))) (fun _ _ _ _ _ => (pv 10))) pa_nil)))
      (pss_cutE (ps_asg (pe_tup (pa_cons (pe_do (ok_law_t2_numbers E) (hr.mono (by decide)) (by rfl) (g_law_t2_numbers E) pass0 (pa_cons (pe_do (ok_rounds_of E) (hr.mono (by decide)) (by rfl) (g_rounds_of E) passNo (pa_cons (pv 11) (pa_cons (pv 7) pa_nil))) pa_nil)) (pa_cons (pe_do (ok_law_t2_numbers E) (hr.mono (by decide)) (by rfl) (g_law_t2_numbers E) pass0 (pa_cons (pe_do (ok_rounds_of E) (hr.mono (by decide)) (by rfl) (g_rounds_of E) passNo (pa_cons (pv 12) (pa_cons (pv 7) pa_nil))) pa_nil)) pa_nil))) (pg_tupK (K := K) (n := 2) rfl rfl (pgs_cons (pg_name (i := 14) sc_law.nd rfl (by first | exact Or.inl rfl | exact Or.inr rfl)) (pgs_cons (pg_name (i := 15) sc_law.nd rfl (by first | exact Or.inl rfl | exact Or.inr rfl)) pgs_nil))))
      (pss_cons (ps_if (PW.pt (pw_or (pt_not (pt_val (pe_do (ok_law_t2_steps_right E) (hr.mono (by decide)) (by rfl) (g_law_t2_steps_right E) pass0 (pa_cons (pv 1) (pa_cons (pv 11) (pa_cons (pv 14) pa_nil)))))) (pw_or1 (pt_not (pt_val (pe_do (ok_law_t2_steps_right E) (hr.mono (by decide)) (by rfl) (g_law_t2_steps_right E) pass0 (pa_cons (pv 1) (pa_cons (pv 12) (pa_cons (pv 15) pa_nil)))))))))
        (pss_one (ps_ret pe_bl))
        pss_nil)
      (pss_cons (ps_if (pt_cmpR (op_neD hr.units) (pe_lc rfl sc_law.nd (pi_x (pv 15)) (own := [("_law_place", 10)]) (blkOk_by (N := n_law) (sc := defScope s_law) (by decide +kernel)) (fun _ _ _ _ _ => (pg_name (i := 10) sc_law.nd rfl (by first | exact Or.inl rfl | exact Or.inr rfl))) (fun _ _ _ _ _ => (pts_one (pt_cmpR op_gt (pe_xgetZ (w := w) rfl (pv 15) (pv 10) (fun _ _ => rfl) hr) (pe_xget2Z (w := w) rfl (pv 14) (pv 10) pe_int ⟨rfl, rfl, rfl, rfl⟩ hr) (nomark _)))) (fun _ _ _ _ _ => (pv 10))) (pe_lst pa_nil) (nomark _))
        (pss_one (ps_ret pe_bl))
        pss_nil)
      (pss_cons (ps_set (i := 16) sc_law.nd rfl (by first | exact Or.inl rfl | exact Or.inr rfl) (pe_do (ok_rounds_of E) (hr.mono (by decide)) (by rfl) (g_rounds_of E) passNo (pa_cons (pe_doMk (mk_Bed E) (ok_Bed_init E) (hr.mono (by decide)) (by rfl) (g_Bed E) pass0 (pa_cons (pe_fld (pv 8) rfl) (pa_cons (pe_dget (hu_of hr) (pv 3) pe_str (fun _ _ => rfl)) (pa_cons (pe_dget (hu_of hr) (pv 3) pe_str (fun _ _ => rfl)) pa_nil)))) (pa_cons (pv 7) pa_nil))))
      (pss_one (ps_if (pt_cmpR op_gt (pe_callB call_len_seq (by rfl) (u_len E) b_len (pa_cons (pe_do (ok_rounds_of E) (hr.mono (by decide)) (by rfl) (g_rounds_of E) passNo (pa_cons (pv 11) (pa_cons (pv 7) pa_nil))) pa_nil)) (pe_callB call_len_seq (by rfl) (u_len E) b_len (pa_cons (pv 16) pa_nil)) (nomark _))
        (pss_one (ps_ret pe_bl))
        pss_nil))))))))))))))))))))))
      (pss_one (ps_ret pe_bl)))), ?_⟩
    refine ⟨_, rfl, a, ns, rfl, ha, hns, fun p c H1 hp0 e1 p1 => ?_⟩
    have ha1 := sql0 e1 ha
    have T1 := e1.tabs hT
    refine ⟨fun _ _ => True, ?_, fun σ H5 _ => q H5⟩
    obtain ⟨laps, hlaps, hlaps2⟩ : ∃ laps : Nat, (2 + ((ns.map V.int).length : Int) / 30) = (laps : Int) ∧ laps ≤ 4 := by
      rw [List.length_map]
      exact ⟨(2 + (ns.length : Int) / 30).toNat, by omega, by omega⟩
    refine ⟨_, rfl, a, _, rfl, .inl ha1, _, _, rfl, rfl, ⟨by decide, by decide⟩, _, _, rfl, rfl, (laps : Int), congrArg (fun z : Int => [V.int z]) hlaps, by omega, by omega, ?_⟩
    refine for_range (fun i σ H5 => ∃ o2 o3 o4 o5 o6 o7 o8 o9 o10 o11 o12 o13 o14 o15 o16, σ = [some (.ref a), some (.ref p), o2, o3, o4, o5, o6, o7, o8, o9, o10, o11, o12, o13, o14, o15, o16] ∧ Pen H5 p c (10000000 * i) ∧ LamX.Tabs (TabK K) H5)
      ⟨_, _, _, _, _, _, _, _, _, _, _, _, _, _, _, rfl, p1, T1⟩ ?_ (fun _ _ _ => trivial)
    clear e1 p1 T1 ha1 hT ha q
    rintro i σ H ht ⟨o2, o3, o4, o5, o6, o7, o8, o9, o10, o11, o12, o13, o14, o15, o16, rfl, p0, T0⟩
    have hi : i < 4 := by omega
    -- a world
    refine ⟨_, rfl, _, rfl, p, c, 12, _, rfl, p0, by omega, by omega, by omega, fun r1 H1 e1 p1 r10 r11 => ⟨_, _, rfl, rfl, _, rfl, p, c, 3, _, rfl, p1, by omega, by omega, by omega, fun r2 H2 e2 p2 r20 r21 => ?_⟩⟩
    obtain ⟨x1, rfl⟩ : ∃ x : Nat, r1 = (x : Int) := ⟨r1.toNat, by omega⟩
    obtain ⟨x2, rfl⟩ : ∃ x : Nat, r2 = (x : Int) := ⟨r2.toNat, by omega⟩
    refine ⟨p, c, 1 + x1, x2, _, congrArg (fun z : Int => [V.ref p, V.int z, V.int (x2 : Int)]) (by omega : (1 + (x1 : Int)) = ((1 + x1 : Nat) : Int)), p2, by omega, by omega, by omega, by omega, (e1.trans e2).tabs T0, fun o A1 W sn sd cs H3 e3 T3 p3 ow3 wn hcs hop _ => ?_⟩
    -- its tiles
    refine ⟨_, rfl, _, rfl, p, c, o, _, A1, W, sn, sd, cs, rfl, p3, ow3, wn, hop, by omega, T3, fun ts H4 e4 T4 p4 ts4 => ?_⟩
    have ow4 := ow3.draw p3 hop e4
    have owZ := ow4.cold p4 hop
    have tsZ := ts4.cold p4
    have fz4 : Frz (cold H4 p) H4 := cold_frz
    have zp : cold H4 p p = none := cold_p
    generalize cold H4 p = Z at *
    clear e1 e2 e3 e4 p0 p1 p2 p3 T0 ow3 T3 ts4
    obtain ⟨tsd, hsdv, htsd⟩ := pl_tup ow4.hsd
    -- the two beds
    refine fun d G1 hd m1 c1 => ?_
    have e1 : EX K [] H4 G1 := Ext.newC hd c1
    have fz1 := fz4.ext0 e1
    have ow1 := owZ.up fz1.sub
    refine ⟨_, rfl, _, _, rfl, pget ow1.o "seed" rfl, _, rfl, _, _, rfl, pget ow1.o "seed_name" rfl, tsd, plD sd, m1, hsdv, ow1.hsd, plD_d, fun G2 m2 c2 => ?_⟩
    have e2 : EX K [] H4 G2 := Ext.newC hd fun b hb => (c2 b hb).trans (c1 b hb)
    have fz2 := fz4.ext0 e2
    have ow2 := owZ.up fz2.sub
    refine ⟨_, rfl, _, rfl, _, _, rfl, pget ow2.o "seed" rfl, _, rfl, _, _, rfl, pget ow2.o "seed_name" rfl, ?_⟩
    intro x dx hx hdx hne
    have e3 : EX K [] G2 (upd (upd G2 dx (.own x)) x (.ins (CBed K) dx [])) := (Ext.new hdx).trans (Ext.new (by rw [upd_ne (fun z => hne z.symm)]; exact hx))
    have e23 := e2.trans e3
    have ow3 := owZ.up (fz4.ext0 e23).sub
    refine ⟨x, dx, ts, A1.sd, A1.sn, sn, W, Z, sd, rfl, upd_same, fz4.ext0 e23, fz2.none_ hx, tsZ, wn, ow3.hsd, ow3.hsn, ow3.so, e23.tabs T4, fun ly cm H5 e5 T5 hly hcm I5 => ⟨rfl, ?_⟩⟩
    have e25 : EX K [] G2 H5 := e3.then1 e5 (.inl hx)
    have e45 := e2.trans e25
    have fz5 := fz4.ext0 e45
    have m5 := e25.dictE m2 (by simp)
    have hd5 : ∃ ob, G2 d = some ob := by obtain ⟨ep, z⟩ := m2.ob; exact ⟨_, z⟩
    have J5 : DictA w H5 d (bal [(sd, sn)]) := ⟨_, m5, .cons ⟨rfl, (owZ.up fz5.sub).hsn⟩ .nil⟩
    have tw5 : TwI K w Z H5 p c (10000000 * i + 1003000) o d ⟨x, dx, ts, ly, cm, A1.sd, A1.sn⟩ W [(sd, sn)] sd := by
      refine ⟨I5, ⟨fz5, ⟨A1, sn, sd, cs, owZ⟩, wn, J5, fz4.none_ hd, fun y hy => ?_, by simp⟩, (p4.ext0 e45).mono (by omega), zp, ?_, ?_, ⟨A1, sn, cs, owZ, by omega⟩⟩
      · rw [List.mem_singleton.mp hy]; exact owZ.so
      · obtain ⟨ob, z⟩ := hd5
        exact ne_of_none (e3.at0 z (fun ps y => by obtain ⟨ep, z2⟩ := m2.ob; rw [z2] at z; cases z; cases y)) hly
      · obtain ⟨ob, z⟩ := hd5
        exact ne_of_none (e3.at0 z (fun ps y => by obtain ⟨ep, z2⟩ := m2.ob; rw [z2] at z; cases z; cases y)) hcm
    clear e1 e2 e3 e5 e23 e25 e45 J5 m5 I5 ow1 ow2 ow3 m1 m2 c1 c2 fz1 fz2 hd5 hx hdx hly hcm fz5 fz4 p4 T4 ow4
    -- disturbed
    refine ⟨_, _, rfl, _, rfl, _, rfl, _, rfl, _, rfl, _, rfl, sz4, fun l5 hl5 => ?_⟩
    have e6 : EX K [] H5 (upd H5 l5 (.lst [.int 0, .int 0, .int 3, .int 8])) := Ext.new hl5
    refine ⟨p, c, l5, _, _, rfl, (tw5.ext0 e6).pen, .inl (.of upd_same), by simp, by simp, by omega, fun v7 H7 hv7 e7 p7 => ?_⟩
    obtain ⟨many, rfl, hmany⟩ : ∃ many : Nat, v7 = .int (many : Int) ∧ many ≤ 8 := by
      simp only [List.mem_cons, List.not_mem_nil, or_false] at hv7
      rcases hv7 with rfl | rfl | rfl | rfl
      · exact ⟨0, rfl, by omega⟩
      · exact ⟨0, rfl, by omega⟩
      · exact ⟨3, rfl, by omega⟩
      · exact ⟨8, rfl, by omega⟩
    have tw7 := (tw5.ext0 e6).draw e7 p7
    have T7 := e7.tabs (e6.tabs T5)
    refine ⟨p, c, o, d, _, _, W, Z, _, sd, many, rfl, tw7, by rw [lkB_cons, if_pos rfl]; simp, by omega, by simp; omega, T7, fun M H8 e8 T8 tw8 hs8 hl8 => ?_⟩
    have hl8 : M.length ≤ 1 + many := hl8
    clear e6 e7 p7 tw7 T7 tw5 T5 e8
    -- how many at most
    obtain ⟨es8, hes8, hps8⟩ := id tw8.lw.ly
    have hel8 := hps8.length
    rw [tw8.lw.nlt] at hel8
    refine ⟨_, rfl, _, rfl, d, es8, rfl, hes8, _, rfl, d, es8, rfl, hes8, _, _, rfl, rfl, _, rfl, sz1, fun t3 ht3 => ?_⟩
    have e9 : EX K [] H8 (upd H8 t3 (.tup [.int 3])) := Ext.new ht3
    have ht39 : (upd H8 t3 (.tup [.int 3])) t3 = some (.tup [.int 3]) := upd_same
    generalize upd H8 t3 (.tup [.int 3]) = H9 at *
    refine ⟨by rw [sizeLine_eq]; simp, fun l9 hl9 => ?_⟩
    have e10 : EX K [] H9 (upd H9 l9 (.lst [.int 0, .int 1, .int (es8.length : Int), .int ((es8.length : Int) + 1), .int 14, .int 14, .int 14, .int 14, .int (-1), .non, .bl true, .str "9", .ref t3])) := Ext.new hl9
    have tw10 := (tw8.ext0 e9).ext0 e10
    refine ⟨p, c, l9, _, _, rfl, tw10.pen, .inl (.of upd_same), by simp, by simp, by omega, fun v11 H11 hv11 e11 p11 => ?_⟩
    have tw11 := tw10.draw e11 p11
    have ht311 := e11.tup (e10.tup ht39)
    have T11 := e11.tabs (e10.tabs (e9.tabs T8))
    have hv : (Pln H11 v11 ∧ (∀ i, v11 = .int i → i < 0) ∧ ∃ pd, (∀ H', EX K [] H11 H' → Dp K H' v11 pd) ∧ pd.canLay0 = true ∧ pd.depth ≤ 10 ∧ PyData.eqv pd pd = true) ∨ (∃ most : Int, v11 = .int most ∧ 0 ≤ most ∧ most ≤ 15) := by
      simp only [List.mem_cons, List.not_mem_nil, or_false] at hv11
      rcases hv11 with rfl | rfl | rfl | rfl | rfl | rfl | rfl | rfl | rfl | rfl | rfl | rfl | rfl
      · exact .inr ⟨_, rfl, by omega, by omega⟩
      · exact .inr ⟨_, rfl, by omega, by omega⟩
      · exact .inr ⟨_, rfl, by omega, by omega⟩
      · exact .inr ⟨_, rfl, by omega, by omega⟩
      · exact .inr ⟨_, rfl, by omega, by omega⟩
      · exact .inr ⟨_, rfl, by omega, by omega⟩
      · exact .inr ⟨_, rfl, by omega, by omega⟩
      · exact .inr ⟨_, rfl, by omega, by omega⟩
      · exact .inl ⟨trivial, fun i e => (by injection e with e; omega), _, fun _ _ => .int _, by decide, by decide, by decide⟩
      · exact .inl ⟨trivial, fun i e => (by cases e), _, fun _ _ => .non, by decide, by decide, by decide⟩
      · exact .inl ⟨trivial, fun i e => (by cases e), _, fun _ _ => .bl _, by decide, by decide, by decide⟩
      · exact .inl ⟨trivial, fun i e => (by cases e), _, fun _ _ => .str _, by simp only [PyData.canLay0]; decide +kernel, by decide, by decide⟩
      · exact .inl ⟨⟨_, ht311⟩, fun i e => (by cases e), _, fun H' e => .tup (.of (e.tup ht311)) (.cons (.int 3) .nil), by decide, by decide, by decide⟩
    clear hv11 e11 p11 tw10 e10 e9 hl9 ht39 ht311 tw8 T8 hs8 hps8 hes8
    -- whole rounds
    refine ⟨fun σ H => ∃ o2 o3 o4 o5 o6 o7 o8 o9 o10 o11 o12 o13 o14 o15 o16, σ = [some (.ref a), some (.ref p), o2, o3, o4, o5, o6, o7, o8, o9, o10, o11, o12, o13, o14, o15, o16] ∧ Pen H p c (10000000 * i + 2000000) ∧ LamX.Tabs (TabK K) H, ?_, ?_⟩
    · refine ⟨_, rfl, _, rfl, _, rfl, _, rfl, _, rfl, .ref p, v11, p, c, o, d, _, _, W, Z, M, sd, rfl, tw11, by omega, T11, hv, fun H12 e12 T12 p12 => ?_⟩
      exact ⟨true, rfl, iteF ⟨_, _, _, _, _, _, _, _, _, _, _, _, _, _, _, rfl, p12.mono (by omega), T12⟩⟩
    rintro σ H ⟨o2, o3, o4, o5, o6, o7, o8, o9, o10, o11, o12, o13, o14, o15, o16, rfl, p0, T0⟩
    -- a world without strange glues
    refine ⟨_, rfl, _, rfl, p, c, 14, _, rfl, p0, by omega, by omega, by omega, fun r1 H1 e1 p1 r10 r11 => ?_⟩
    obtain ⟨x1, rfl⟩ : ∃ x : Nat, r1 = (x : Int) := ⟨r1.toNat, by omega⟩
    refine ⟨_, _, rfl, rfl, p, c, 2 + x1, 0, _, congrArg (fun z : Int => [V.ref p, V.int z, V.int 0]) (by omega : (2 + (x1 : Int)) = ((2 + x1 : Nat) : Int)), p1, by omega, by omega, by omega, by omega, e1.tabs T0, fun o A1 W sn sd cs H3 e3 T3 p3 ow3 wn hcs hop hown => ?_⟩
    obtain ⟨loc, hO, hloc, hlen⟩ := hown rfl
    refine ⟨_, rfl, _, rfl, p, c, o, _, A1, W, sn, sd, cs, rfl, p3, ow3, wn, hop, by omega, T3, fun ts H4 e4 T4 p4 ts4 => ?_⟩
    have ow4 := ow3.draw p3 hop e4
    have owZ := ow4.cold p4 hop
    have tsZ := ts4.cold p4
    have fz4 : Frz (cold H4 p) H4 := cold_frz
    have zp : cold H4 p p = none := cold_p
    generalize cold H4 p = Z at *
    clear e1 e3 e4 p0 p1 p3 T0 ow3 T3 ts4
    refine ⟨_, rfl, _, _, rfl, pget ow4.o "seed" rfl, _, rfl, _, _, rfl, pget ow4.o "seed_name" rfl, ?_⟩
    intro x dx hx hdx hne
    have e3 : EX K [] H4 (upd (upd H4 dx (.own x)) x (.ins (CBed K) dx [])) := (Ext.new hdx).trans (Ext.new (by rw [upd_ne (fun z => hne z.symm)]; exact hx))
    have ow3 := owZ.up (fz4.ext0 e3).sub
    refine ⟨x, dx, ts, A1.sd, A1.sn, sn, W, Z, sd, rfl, upd_same, fz4.ext0 e3, fz4.none_ hx, tsZ, wn, ow3.hsd, ow3.hsn, ow3.so, e3.tabs T4, fun ly cm H5 e5 T5 hly hcm I5 => ⟨rfl, ?_⟩⟩
    have e45 : EX K [] H4 H5 := e3.then1 e5 (.inl hx)
    have p5 := p4.ext0 e45
    have fz5 := fz4.ext0 e45
    clear e3 e5 e45 ow3 hx hdx hly hcm fz4 p4 T4 ow4
    obtain ⟨B, hB⟩ : ∃ B : BA, B = ⟨x, dx, ts, ly, cm, A1.sd, A1.sn⟩ := ⟨_, rfl⟩
    have hBb : B.b = x := by rw [hB]
    have hBts : B.ts = ts := by rw [hB]
    rw [← hB] at I5
    subst hBb
    obtain ⟨us, hcl, hud⟩ := (owZ.up fz5.sub).cl
    have hul := hud.length
    rw [List.length_map] at hul
    refine ⟨_, rfl, _, _, rfl, pget (owZ.up fz5.sub).o "cells" rfl, A1.cl, us, rfl, .inl (.of hcl), ?_⟩
    have hwO := wn.ok
    have hS : Prp W loc [(sd, sn)] := fun y hy => by rw [List.mem_singleton.mp hy]; exact ⟨owZ.so, hloc.symm⟩
    have hml : us.length = 2 + x1 := by omega
    rw [hml]
    clear hud hcl hul hml us
    -- it grows
    refine ⟨fun σ H6 => ∃ k, σ = [some (.ref a), some (.ref p), o2, some (.ref o), o4, o5, o6, some (.int ((2 + x1 : Nat) : Int)), some (.ref B.b), o9, o10, o11, o12, o13, o14, o15, o16] ∧ BedI K w Z H6 B W (st W [(sd, sn)] k) sd [] ∧ Pen H6 p c (10000000 * i + 3100000) ∧ LamX.Tabs (TabK K) H6 ∧ Run W [(sd, sn)] ((2 + x1 : Nat) : Int) k ∧ Done W [(sd, sn)] k, ?_, ?_⟩
    · refine ⟨_, rfl, _, rfl, B, _, W, Z, _, sd, rfl, I5, T5, .inr ⟨((2 + x1 : Nat) : Int), rfl, by omega, by omega, by simp, fun k H6 hrun hdone e6 T6 I6 => ?_, fun k _ hov => absurd hov (not_over0 hwO hO hS (by simp) (by omega))⟩⟩
      refine ⟨k, rfl, I6, (p5.extD e6 (w := w) fun b hb => ?_).mono (by omega), T6, hrun, hdone⟩
      simp only [List.mem_cons, List.not_mem_nil, or_false] at hb
      rcases hb with rfl | rfl
      · exact ⟨_, I5.ly⟩
      · exact I5.cmA
    rintro σ H6 ⟨k, rfl, I6, p6, T6, hrun, hdone⟩
    have hg : Grown W loc [(sd, sn)] (st W [(sd, sn)] k) k := ⟨hwO, hO, hS, rfl, hdone⟩
    have hFn : ((st W [(sd, sn)] k).map (·.1)).Nodup := st_keys (by simp)
    have hFl : (st W [(sd, sn)] k).length ≤ 2 + x1 := Nat.le_trans (prp_len hFn hg.fp) hlen
    obtain ⟨F, hF⟩ : ∃ F, F = st W [(sd, sn)] k := ⟨_, rfl⟩
    rw [← hF] at I6 hg hFn hFl
    clear I5 p5 T5 fz5
    -- holes
    refine ⟨Nat.zero_le _, fun hol hhol => ?_⟩
    have e7 : EX K [] H6 (upd H6 hol (.lst [])) := Ext.new hhol
    have hol7 : (upd H6 hol (.lst [])) hol = some (.lst []) := upd_same
    have I7 := I6.ext0 e7
    have hfar := I6.far hhol
    have zhol := I6.fz.none_ hhol
    have nph := p6.neP hhol
    have nch := p6.neC hhol
    have p7 := p6.ext0 e7
    have T7 := e7.tabs T6
    clear e7 I6 p6 T6 hhol
    generalize upd H6 hol (.lst []) = H7 at *
    have hsM : (sd, sn) ∈ F := by rw [hF]; exact lkB_mem seed_sub
    refine ⟨fun σ H8 => ∃ (o10 : Option V) (vs : List V) (hs : List (Pl × Int)), σ = [some (.ref a), some (.ref p), o2, some (.ref o), o4, o5, o6, some (.int ((2 + x1 : Nat) : Int)), some (.ref B.b), some (.ref hol), o10, o11, o12, o13, o14, o15, o16] ∧ BedI K w Z H8 B W F sd [] ∧ Pen H8 p c (10000000 * i + 3200000) ∧ LamX.Tabs (TabK K) H8 ∧ H8 hol = some (.lst vs) ∧ DtAll H8 vs (hs.map holD) ∧ hs.length ≤ 15 ∧ ∀ y ∈ hs, lkB F y.1 ≠ none ∧ y.1 ≠ sd, ?_, ?_⟩
    · refine ⟨_, rfl, B.b, _, _, rfl, I7.o, rfl, B, W, Z, F, sd, rfl, I7, fun t H8 e8 ht8 => ⟨t, rfl, ?_⟩⟩
      obtain ⟨us, hus, hud⟩ : ∃ us, H8 t = some (.tup us) ∧ DtAll H8 us ((srt (F.map (·.1))).map plD) := by cases ht8 with | tup a b => exact ⟨_, a, b⟩
      have hul := hud.length
      rw [List.length_map, srt_len, List.length_map] at hul
      refine ⟨⟨us, .of hus⟩, ?_⟩
      refine for_tup (xs := us) (fun j σ H9 => ∃ (o10 : Option V) (vs : List V) (hs : List (Pl × Int)), σ = [some (.ref a), some (.ref p), o2, some (.ref o), o4, o5, o6, some (.int ((2 + x1 : Nat) : Int)), some (.ref B.b), some (.ref hol), o10, o11, o12, o13, o14, o15, o16] ∧ BedI K w Z H9 B W F sd [] ∧ Pen H9 p c (10000000 * i + 3100000 + j) ∧ LamX.Tabs (TabK K) H9 ∧ H9 hol = some (.lst vs) ∧ DtAll H9 vs (hs.map holD) ∧ hs.length ≤ j ∧ (∀ y ∈ hs, lkB F y.1 ≠ none ∧ y.1 ≠ sd) ∧ H9 t = some (.tup us) ∧ DtAll H9 us ((srt (F.map (·.1))).map plD))
        ⟨o10, [], [], rfl, I7.ext0 e8, p7.ext0 e8, e8.tabs T7, e8.at0 hol7, .nil, by simp, (by intro y hy; cases hy), hus, hud⟩ (fun j σ H9 _ ⟨_, _, _, _, _, _, _, _, _, _, _, h, _⟩ => .of h) ?_ ?_
      · rintro j v σ H9 hv ⟨o10, vs, hs, rfl, I9, p9, T9, hol9, hd9, hl9, hin9, hus9, hud9⟩
        obtain ⟨kd, hk, hvd⟩ := hud9.get hv
        obtain ⟨q0, hq0, rfl⟩ := Option.map_eq_some_iff.mp (by rw [← List.getElem?_map]; exact hk)
        have hj : j < us.length := (List.getElem?_eq_some_iff.mp hv).1
        have hqF : q0 ∈ F.map (·.1) := srt_mem.mp (List.mem_of_getElem? hq0)
        have ow9 := owZ.up I9.fz.sub
        refine ⟨_, rfl, _, rfl, _, _, rfl, pget ow9.o "seed" rfl, neD3 hvd ow9.hsd plD_lq plD_lq (by decide) (by decide) ⟨_, rfl, ?_⟩⟩
        by_cases hq : plD q0 ≠ plD sd
        · rw [decide_eq_true hq]
          refine iteT ⟨_, rfl, tyl hol9, _, rfl, _, rfl, p, c, 3, _, rfl, p9, by omega, by omega, by omega, fun r H10 e10 p10 r0 r3 => ⟨sz2, fun tt htt => ?_⟩⟩
          have e11 : EX K [] H10 (upd H10 tt (.tup [v, .int r])) := Ext.new htt
          have d11 : Dt (upd H10 tt (.tup [v, .int r])) (.ref tt) (holD (q0, r)) := Dt.new htt (.cons (e10.dt hvd) (.cons (.int _) .nil))
          have e911 := e10.trans e11.nil
          have hol11 := e11.at0 (p9.at_ e10 hol9)
          have I10 : BedI K w Z H10 B W F sd [] := I9.ext e10 (by simp; exact zp) (by simp; exact (I9.neP p9).1) (by simp; exact (I9.neP p9).2.1) (by simp; exact (I9.neP p9).2.2)
          have I11 := I10.ext0 e11
          have p11 := p10.ext0 e11
          have T11 := e911.tabs T9
          clear e11 e10 p10 I10
          generalize upd H10 tt (.tup [v, .int r]) = H11 at *
          have hvl := hd9.length
          rw [List.length_map] at hvl
          refine ⟨hol, vs, _, rfl, rfl, hol11, by rw [sizeLine_eq]; omega, ?_⟩
          have e12 : EX K [hol] H11 (upd H11 hol (.lst (vs ++ [.ref tt]))) := Ext.refl.lst hol11 (.inr (by simp))
          refine ⟨_, vs ++ [.ref tt], hs ++ [(q0, r)], rfl, I11.lst e12 zhol hfar (S := []), (p11.chg Chg.upd nph nch).mono (by omega), e12.tabs T11, upd_same, ?_, by rw [List.length_append]; simp; omega, fun y hy => ?_, e12.tup (e911.tup hus9), e12.dts (e911.dts hud9)⟩
          · rw [List.map_append]
            exact (e12.dts (e911.dts hd9)).app (.cons (e12.dt d11) .nil)
          · rcases List.mem_append.mp hy with hy | hy
            · exact hin9 y hy
            · rw [List.mem_singleton.mp hy]
              exact ⟨fun z => lkB_none.mp z hqF, fun z => hq (congrArg plD z)⟩
        · rw [decide_eq_false hq]
          exact iteF ⟨_, vs, hs, rfl, I9, p9.mono (by omega), T9, hol9, hd9, by omega, hin9, hus9, hud9⟩
      · rintro σ H9 ⟨o10, vs, hs, rfl, I9, p9, T9, hol9, hd9, hl9, hin9, hus9, hud9⟩
        have := hl9
        exact ⟨o10, vs, hs, rfl, I9, p9.mono (by omega), T9, hol9, hd9, by omega, hin9⟩
    rintro σ H8 ⟨o10, vs, hs, rfl, I8, p8, T8, hol8, hd8, hl8, hin8⟩
    -- the twins
    refine ⟨_, rfl, B.b, _, _, rfl, I8.o, rfl, B, W, Z, F, sd, rfl, I8, T8, fun C1 H9 e9 T9 J9 hb1 hly1 hcm1 _ _ _ => ?_⟩
    have I9 := I8.ext0 e9
    refine ⟨_, rfl, B.b, _, _, rfl, I9.o, rfl, B, W, Z, F, sd, rfl, I9, T9, fun C2 H10 e10 T10 L10 hb2 hly2 hcm2 _ _ _ => ⟨_, _, rfl, ?_⟩⟩
    have I10 := I9.ext0 e10
    have J10 := J9.ext0 e10
    have e810 := e9.trans e10
    have p10 := p8.ext0 e810
    have hol10 := e810.at0 hol8
    have hd10 := e810.dts hd8
    have n1 := I8.far hly1
    have n2 := I8.far hcm1
    have n3 := I9.far hly2
    have n4 := I9.far hcm2
    have n5 := J9.far hly2
    have n6 := J9.far hcm2
    have n7 := ne_of_none hol8 hly1
    have n8 := ne_of_none hol8 hcm1
    have n9 := ne_of_none (e9.at0 hol8) hly2
    have n10 := ne_of_none (e9.at0 hol8) hcm2
    clear e9 e10 e810 I9 J9 I8 p8 hol8 hd8 T8 T9 hb1 hly1 hcm1 hb2 hly2 hcm2 I7 p7 T7
    -- the wide hole
    refine ⟨_, rfl, C1.b, _, _, rfl, J10.o, rfl, _, rfl, hol, rfl, ⟨vs, .of hol10⟩, fun g hg => ?_⟩
    refine wk_list (xs := vs) (fun j H11 => ∃ acc, EX K [] H10 H11 ∧ H11 g = some (.lst acc) ∧ DtAll H11 acc ((fltP 0 (hs.take j)).map plD)) ⟨[], Ext.new hg, upd_same, .nil⟩ (fun j H11 _ ⟨_, e, _⟩ => .of (e.at0 hol10)) ?_ ?_
    · rintro j v H11 hv ⟨acc, e11, hg11, ha11⟩
      obtain ⟨kd, hk, hvd⟩ := hd10.get hv
      obtain ⟨y, hy, rfl⟩ := Option.map_eq_some_iff.mp (by rw [← List.getElem?_map]; exact hk)
      obtain ⟨t, pv, rfl, htv, hpv⟩ := hol_of hvd
      have hal := ha11.length
      have hfl := flt_len (c := 0) (hs := hs.take j)
      rw [List.length_map] at hal
      rw [List.length_take] at hfl
      refine ⟨_, _, rfl, .of (e11.tup htv), rfl, _, _, rfl, _, _, rfl, rfl, rfl, _, rfl, _, _, rfl, rfl, _, rfl, ?_⟩
      by_cases hc : y.2 > 0
      · rw [decide_eq_true hc]
        have e12 : EX K [g] H11 (upd H11 g (.lst (acc ++ [pv]))) := Ext.refl.lst hg11 (.inr (by simp))
        refine iteT ⟨_, rfl, acc, hg11, by rw [sizeLine_eq]; omega, acc ++ [pv], e11.lst hg11 (.inl hg), upd_same, ?_⟩
        rw [flt_pos hy hc, List.map_append]
        exact (e12.dts ha11).app (.cons (e12.dt (e11.dt hpv)) .nil)
      · rw [decide_eq_false hc]
        exact iteF ⟨acc, e11, hg11, by rw [flt_neg hy hc]; exact ha11⟩
    rintro H11 ⟨acc, e11, hg11, ha11⟩
    have hvl := hd10.length
    rw [List.length_map] at hvl
    rw [hvl, List.take_length] at ha11
    have hfl := flt_len (c := 0) (hs := hs)
    refine ⟨C1, g, acc, fltP 0 hs, W, Z, F, sd, rfl, J10.ext0 e11, hg11, ha11, by omega, fun r hr => ?_, e11.tabs T10, fun ps1 _ H12 e12 T12 nd1 m1 JJ => ?_⟩
    · obtain ⟨y, hy, rfl⟩ := flt_mem hr
      exact hin8 y hy
    have hz1 : ∀ b ∈ [C1.ly, C1.cm], Z b = none := by simp; exact ⟨J10.zly, J10.zcm⟩
    obtain ⟨al1, ha1⟩ := J10.cmA
    have I12 : BedI K w Z H12 B W F sd [] := (I10.ext0 e11).ext e12 hz1 (by simp; exact ⟨n1.1, n2.1⟩) (by simp; exact ⟨n1.2.1, n2.2.1⟩) (by simp; exact ⟨n1.2.2, n2.2.2⟩)
    have L12 : BedI K w Z H12 C2 W F sd [] := (L10.ext0 e11).ext e12 hz1 (by simp; exact ⟨L10.neB J10.ly, L10.neB ha1⟩) (by simp; exact ⟨n5.2.1.symm, n5.2.2.symm⟩) (by simp; exact ⟨n6.2.1.symm, n6.2.2.symm⟩)
    have p12 := (p10.ext0 e11).extD e12 (w := w) fun b hb => by
      simp only [List.mem_cons, List.not_mem_nil, or_false] at hb
      rcases hb with rfl | rfl
      · exact ⟨_, (J10.ext0 e11).ly⟩
      · exact (J10.ext0 e11).cmA
    have hol12 := e12.at_ (e11.at0 hol10) (by simp; exact ⟨n7, n8⟩)
    have hd12 := e12.dts (e11.dts hd10)
    have J12 := JJ
    clear JJ e11 e12 hg11 ha11 hg acc hfl hvl I10 J10 L10 p10 hol10 hd10 T10 ha1 al1 hz1
    -- the narrow one
    refine ⟨_, rfl, C2.b, _, _, rfl, L12.o, rfl, _, rfl, hol, rfl, ⟨vs, .of hol12⟩, fun g2 hg => ?_⟩
    refine wk_list (xs := vs) (fun j H13 => ∃ acc, EX K [] H12 H13 ∧ H13 g2 = some (.lst acc) ∧ DtAll H13 acc ((fltP 1 (hs.take j)).map plD)) ⟨[], Ext.new hg, upd_same, .nil⟩ (fun j H13 _ ⟨_, e, _⟩ => .of (e.at0 hol12)) ?_ ?_
    · rintro j v H13 hv ⟨acc, e11, hg11, ha11⟩
      obtain ⟨kd, hk, hvd⟩ := hd12.get hv
      obtain ⟨y, hy, rfl⟩ := Option.map_eq_some_iff.mp (by rw [← List.getElem?_map]; exact hk)
      obtain ⟨t, pv, rfl, htv, hpv⟩ := hol_of hvd
      have hal := ha11.length
      have hfl := flt_len (c := 1) (hs := hs.take j)
      rw [List.length_map] at hal
      rw [List.length_take] at hfl
      refine ⟨_, _, rfl, .of (e11.tup htv), rfl, _, _, rfl, _, _, rfl, rfl, rfl, _, rfl, _, _, rfl, rfl, _, rfl, ?_⟩
      by_cases hc : y.2 > 1
      · rw [decide_eq_true hc]
        have e12 : EX K [g2] H13 (upd H13 g2 (.lst (acc ++ [pv]))) := Ext.refl.lst hg11 (.inr (by simp))
        refine iteT ⟨_, rfl, acc, hg11, by rw [sizeLine_eq]; omega, acc ++ [pv], e11.lst hg11 (.inl hg), upd_same, ?_⟩
        rw [flt_pos hy hc, List.map_append]
        exact (e12.dts ha11).app (.cons (e12.dt (e11.dt hpv)) .nil)
      · rw [decide_eq_false hc]
        exact iteF ⟨acc, e11, hg11, by rw [flt_neg hy hc]; exact ha11⟩
    rintro H13 ⟨acc, e11, hg11, ha11⟩
    have hvl := hd12.length
    rw [List.length_map] at hvl
    rw [hvl, List.take_length] at ha11
    have hfl := flt_len (c := 1) (hs := hs)
    refine ⟨C2, g2, acc, fltP 1 hs, W, Z, F, sd, rfl, L12.ext0 e11, hg11, ha11, by omega, fun r hr => ?_, e11.tabs T12, fun ps2 _ H14 e12 T14 nd2 m2 JJ => ?_⟩
    · obtain ⟨y, hy, rfl⟩ := flt_mem hr
      exact hin8 y hy
    have hz1 : ∀ b ∈ [C2.ly, C2.cm], Z b = none := by simp; exact ⟨L12.zly, L12.zcm⟩
    obtain ⟨al1, ha1⟩ := L12.cmA
    have I14 : BedI K w Z H14 B W F sd [] := (I12.ext0 e11).ext e12 hz1 (by simp; exact ⟨n3.1, n4.1⟩) (by simp; exact ⟨n3.2.1, n4.2.1⟩) (by simp; exact ⟨n3.2.2, n4.2.2⟩)
    have J14 : BedI K w Z H14 C1 W (drs F ps1) sd [] := (J12.ext0 e11).ext e12 hz1 (by simp; exact ⟨n5.1, n6.1⟩) (by simp; exact ⟨n5.2.1, n6.2.1⟩) (by simp; exact ⟨n5.2.2, n6.2.2⟩)
    have p14 := (p12.ext0 e11).extD e12 (w := w) fun b hb => by
      simp only [List.mem_cons, List.not_mem_nil, or_false] at hb
      rcases hb with rfl | rfl
      · exact ⟨_, (L12.ext0 e11).ly⟩
      · exact (L12.ext0 e11).cmA
    have L14 := JJ
    clear JJ e11 e12 hg11 ha11 hg acc hfl hvl I12 J12 L12 p12 hol12 hd12 T12 ha1 al1 hz1
    -- what is left
    have hps1 : sd ∉ ps1 := fun z => by
      obtain ⟨y, hy, e⟩ := flt_mem ((m1 sd).mp z)
      exact (hin8 y hy).2 e
    have hps2 : sd ∉ ps2 := fun z => by
      obtain ⟨y, hy, e⟩ := flt_mem ((m2 sd).mp z)
      exact (hin8 y hy).2 e
    have hps12 : ∀ r ∈ ps2, r ∈ ps1 := fun r hr => (m1 r).mpr (flt_le ((m2 r).mp hr))
    have P1 := part_of hg hps1
    have P2 := part_of hg hps2
    have hMN : Sub (drs F ps1) (drs F ps2) := drs_sub2 hps12
    obtain ⟨M, hM⟩ : ∃ M, M = drs F ps1 := ⟨_, rfl⟩
    obtain ⟨N, hN⟩ : ∃ N, N = drs F ps2 := ⟨_, rfl⟩
    rw [← hM] at P1 J14 hMN
    rw [← hN] at P2 L14 hMN
    clear n1 n2 n3 n4 n5 n6 n7 n8 n9 n10 hM hN hps1 hps2 hps12 m1 m2 nd1 nd2 hin8 hl8 hfar zhol nph nch hsM
    -- rounds and their numbers
    have hMn := J14.nd
    have hNn := L14.nd
    have hMl : M.length ≤ 2 + x1 := Nat.le_trans (prp_len hMn P1.p) hlen
    have hNl : N.length ≤ 2 + x1 := Nat.le_trans (prp_len hNn P2.p) hlen
    have hle : (W.order.length : Int) ≤ ((2 + x1 : Nat) : Int) := by omega
    have noM : ∀ j, ¬ Over W M ((2 + x1 : Nat) : Int) j := fun j => not_over0 hwO hO P1.p hMn hle
    have noN : ∀ j, ¬ Over W N ((2 + x1 : Nat) : Int) j := fun j => not_over0 hwO hO P2.p hNn hle
    refine ⟨fun σ H15 => ∃ nd1 nd2 k1 k2, σ = [some (.ref a), some (.ref p), o2, some (.ref o), o4, o5, o6, some (.int ((2 + x1 : Nat) : Int)), some (.ref B.b), some (.ref hol), o10, some (.ref C1.b), some (.ref C2.b), o13, some (.ref nd1), some (.ref nd2), o16] ∧ BedI K w Z H15 B W F sd [] ∧ BedI K w Z H15 C1 W M sd [] ∧ BedI K w Z H15 C2 W N sd [] ∧ Pen H15 p c (10000000 * i + 3200000) ∧ LamX.Tabs (TabK K) H15 ∧ DictA w H15 nd1 (nums W M k1) ∧ DictA w H15 nd2 (nums W N k2) ∧ Run W M ((2 + x1 : Nat) : Int) k1 ∧ Done W M k1 ∧ Run W N ((2 + x1 : Nat) : Int) k2 ∧ Done W N k2, ?_, ?_⟩
    · refine ⟨_, rfl, _, rfl, C1, _, W, Z, M, sd, rfl, J14, T14, .inr ⟨((2 + x1 : Nat) : Int), rfl, by omega, by omega, by omega, fun k1 t1 H15 hrun1 hdone1 e15 T15 ht1 => ?_, fun k1 _ hov => absurd hov (noM k1)⟩⟩
      have hk1 := hrun1.bound
      refine ⟨.ref t1, W, M, k1, rfl, ht1, by omega, hrun1.len_le (by omega) (by omega), fun nd1 H16 e16 hnd1 da1 => ?_⟩
      have e1416 := e15.trans e16
      have L16 := L14.ext0 e1416
      have T16 := e1416.tabs T14
      refine ⟨_, rfl, _, rfl, C2, _, W, Z, N, sd, rfl, L16, T16, .inr ⟨((2 + x1 : Nat) : Int), rfl, by omega, by omega, by omega, fun k2 t2 H17 hrun2 hdone2 e17 T17 ht2 => ?_, fun k2 _ hov => absurd hov (noN k2)⟩⟩
      have hk2 := hrun2.bound
      refine ⟨.ref t2, W, N, k2, rfl, ht2, by omega, hrun2.len_le (by omega) (by omega), fun nd2 H18 e18 hnd2 da2 => ⟨sz2, fun tt htt => ?_⟩⟩
      refine ⟨_, _, rfl, .of upd_same, rfl, _, _, rfl, _, _, rfl, rfl, ?_⟩
      have e19 : EX K [] H18 (upd H18 tt (.tup [.ref nd1, .ref nd2])) := Ext.new htt
      have e1619 := (e17.trans e18).trans e19
      have e1419 := e1416.trans e1619
      exact ⟨nd1, nd2, k1, k2, rfl, I14.ext0 e1419, J14.ext0 e1419, L14.ext0 e1419, p14.ext0 e1419, e1419.tabs T14, da1.ext e1619 (by simp), da2.ext e19 (by simp), hrun1, hdone1, hrun2, hdone2⟩
    clear I14 J14 L14 p14 T14
    rintro σ H15 ⟨nd1, nd2, k1, k2, rfl, I15, J15, L15, p15, T15, da1, da2, hrun1, hdone1, hrun2, hdone2⟩
    -- steps
    refine ⟨_, rfl, _, rfl, _, rfl, p, c, nd1, _, C1, W, Z, M, _, F, sd, loc, k, k1, rfl, J15, p15, zp, da1, hdone1, hg, P1, by omega, T15, fun H16 e16 T16 p16 => ?_⟩
    have q1 := J15.neP p15
    have q2 := L15.neP p15
    have q3 := I15.neP p15
    have J16 : BedI K w Z H16 C1 W M sd [] := J15.lst e16 zp q1 (S := [])
    have L16 : BedI K w Z H16 C2 W N sd [] := L15.lst e16 zp q2 (S := [])
    have I16 : BedI K w Z H16 B W F sd [] := I15.lst e16 zp q3 (S := [])
    have da16 := da1.ext e16 (by rw [List.mem_singleton]; exact (p15.neD da1).1)
    have db16 := da2.ext e16 (by rw [List.mem_singleton]; exact (p15.neD da2).1)
    clear I15 J15 L15 p15 T15 da1 da2 e16 q1 q2 q3
    refine ⟨true, rfl, iteF ⟨_, rfl, _, rfl, _, rfl, p, c, nd2, _, C2, W, Z, N, _, F, sd, loc, k, k2, rfl, L16, p16, zp, db16, hdone2, hg, P2, by omega, T16, fun H17 e17 T17 p17 => ⟨true, rfl, iteF ?_⟩⟩⟩
    have J17 : BedI K w Z H17 C1 W M sd [] := J16.lst e17 zp (J16.neP p16) (S := [])
    have I17 : BedI K w Z H17 B W F sd [] := I16.lst e17 zp (I16.neP p16) (S := [])
    have da17 := da16.ext e17 (by rw [List.mem_singleton]; exact (p16.neD da16).1)
    have db17 := db16.ext e17 (by rw [List.mem_singleton]; exact (p16.neD db16).1)
    clear I16 J16 L16 p16 T16 da16 db16 e17
    -- none comes later
    obtain ⟨es1, hes1, hps1⟩ := da17
    obtain ⟨es2, hes2, hps2⟩ := db17
    refine ⟨_, rfl, nd2, es2, rfl, hes2, fun u hu l hl => ?_⟩
    refine lc_x (xs := es2.map (·.2.1)) (fun j H3 => EX K [] H17 H3 ∧ H3 l = some (.lst [])) ⟨Ext.new hl, upd_same⟩ (fun j H3 _ ⟨e, _⟩ => ?_) ?_ ?_
    · obtain ⟨ep, h⟩ := hes2.ob
      rw [h] at hu; cases hu
      exact e.at0 h
    · rintro j v H3 hv ⟨e3, hl3⟩
      rw [List.getElem?_map] at hv
      obtain ⟨en, hen, rfl⟩ := Option.map_eq_some_iff.mp hv
      obtain ⟨av, hav, hk, hvv⟩ := hps2.at hen
      have hem := List.mem_of_getElem? hen
      have hlk := lookE_mem hes2.nd hem
      obtain ⟨j2, q0, n0, hj2, hq0, rfl⟩ := nums_mem (List.mem_of_getElem? hav)
      have hk : en.1 = plD q0 := hk
      have hvv : Dt H17 en.2.2 (.num ((j2 : Int) + 1)) := hvv
      obtain ⟨i2, hi2, hi3, hq2⟩ := hg.lesser P1 P2 hMN hrun1 hdone1 hq0
      obtain ⟨v2, hv21, hv22⟩ := hps1.some_ (nums_get hq2 hi3)
      have hvi : en.2.2 = .int ((j2 : Int) + 1) := dt_numV hvv
      have hvi2 : v2 = .int ((i2 : Int) + 1) := dt_numV hv22
      have hcd := hes2.ks en hem
      refine ⟨rfl, _, rfl, _, rfl, nd2, es2, en.1, _, rfl, e3.dictE hes2 (by simp), e3.dt hcd.1, hcd.2, hlk, _, rfl, nd1, rfl, ⟨es1, e3.dictE hes1 (by simp)⟩, _, rfl, es1, en.1, e3.dictE hes1 (by simp), e3.dt hcd.1, hcd.2, ?_⟩
      rw [hk, hv21, hvi]
      refine ⟨_, _, rfl, hvi2, _, rfl, ?_⟩
      rw [decide_eq_false (by omega)]
      exact iteF ⟨e3, hl3⟩
    rintro H18 ⟨e18, hl18⟩
    refine ⟨Nat.zero_le _, fun e0 he0 => ?_⟩
    have e19 : EX K [] H18 (upd H18 e0 (.lst [])) := Ext.new he0
    refine neLL (m := 0) (n := 0) (ks := []) (ls := []) (e19.at0 hl18) upd_same .nil .nil (fun _ z => by cases z) (fun _ z => by cases z) (by decide) (by decide) ⟨_, rfl, iteF ?_⟩
    have e1719 := e18.trans e19
    have J19 := J17.ext0 e1719
    have I19 := I17.ext0 e1719
    have p19 := p17.ext0 e1719
    have T19 := e1719.tabs T17
    clear e18 e19 e1719 J17 I17 p17 T17 hl18 hps1 hps2 hes1 hes2 hl he0 hu
    generalize upd H18 e0 (.lst []) = H19 at *
    -- the seed alone
    have ow19 := owZ.up I19.fz.sub
    refine ⟨_, rfl, _, _, _, _, _, rfl, I19.o, c_Bed E, na_Bed_tile_set E, rfl, _, rfl, _, _, rfl, pget ow19.o "seed" rfl, _, rfl, _, _, rfl, pget ow19.o "seed_name" rfl, ?_⟩
    intro x3 dx3 hx3 hdx3 hne3
    have e20 : EX K [] H19 (upd (upd H19 dx3 (.own x3)) x3 (.ins (CBed K) dx3 [])) := (Ext.new hdx3).trans (Ext.new (by rw [upd_ne (fun z => hne3 z.symm)]; exact hx3))
    have ow20 := owZ.up (I19.fz.ext0 e20).sub
    refine ⟨x3, dx3, B.ts, A1.sd, A1.sn, sn, W, Z, sd, rfl, upd_same, I19.fz.ext0 e20, I19.fz.none_ hx3, I19.ts, wn, ow20.hsd, ow20.hsn, ow20.so, e20.tabs T19, fun ly3 cm3 H21 e21 T21 _ _ I21 => ⟨rfl, ?_⟩⟩
    have e1921 : EX K [] H19 H21 := e20.then1 e21 (.inl hx3)
    refine ⟨_, rfl, ⟨x3, dx3, B.ts, ly3, cm3, A1.sd, A1.sn⟩, _, W, Z, _, sd, rfl, I21, T21, .inr ⟨((2 + x1 : Nat) : Int), rfl, by omega, by omega, by simp, fun k3 t3 H22 hrun3 hdone3 e22 T22 ht3 => ?_, fun k3 _ hov => absurd hov (not_over0 hwO hO hS (by simp) hle)⟩⟩
    have hk3 : k3 = k := end_uniq hrun3 (.inl hdone3) hrun (.inl hdone)
    subst hk3
    have e1922 := e1921.trans e22
    have J22 := J19.ext0 e1922
    refine ⟨_, rfl, _, rfl, C1, _, W, Z, M, sd, rfl, J22, T22, .inr ⟨((2 + x1 : Nat) : Int), rfl, by omega, by omega, by omega, fun k4 t4 H23 hrun4 hdone4 e23 T23 ht4 => ?_, fun k4 _ hov => absurd hov (noM k4)⟩⟩
    have hle4 := hg.rounds_le P1 hrun4
    obtain ⟨us4, hus4, hud4⟩ : ∃ us, H23 t4 = some (.tup us) ∧ DtAll H23 us ((rnds W M k4).map lotD) := by cases ht4 with | tup a b => exact ⟨_, a, b⟩
    obtain ⟨us3, hus3, hud3⟩ : ∃ us, H22 t3 = some (.tup us) ∧ DtAll H22 us ((rnds W [(sd, sn)] k3).map lotD) := by cases ht3 with | tup a b => exact ⟨_, a, b⟩
    have hl4 := hud4.length
    have hl3 := hud3.length
    rw [List.length_map, rnds_len] at hl4 hl3
    refine ⟨t4, us4, rfl, .inr (.of hus4), _, rfl, t3, us3, rfl, .inr (.of (e23.tup hus3)), _, _, rfl, rfl, _, rfl, ?_⟩
    rw [decide_eq_false (by omega)]
    exact iteF ⟨_, _, _, _, _, _, _, _, _, _, _, _, _, _, _, rfl, ((p19.ext0 e1922).ext0 e23).mono (by omega), T23⟩
end
end TR
/-! text Z0 -/
set_option Elab.async false
set_option linter.all false
set_option maxRecDepth 100000
set_option maxHeartbeats 4000000
/-! the law, called -/
namespace TR
open PySem PySem.Spec PyProof.Rows L2
abbrev tabA (K : PySem.W.Frag) (p : He.Defn) : Addr := (He.cT K p).2
abbrev noCodes : Obj := { cls := .none, data := .fields #[] }
abbrev scriptO (us : List Value) : Obj := { cls := .type "list", data := .seq us.toArray }
open Classical in
/-- what is tracked as the law begins: the tables; the script, if the head's facts do not hold it -/
noncomputable def H00 (K : PySem.W.Frag) (a : Addr) (us : List Value) (ns : List Int) : Hp := fun b =>
  if ∃ p ∈ tf, b = tabA K p then some (.tbl #[]) else if b = a ∧ K.lookup a = none then some (.frz (scriptO us) (.lst (ns.map V.int))) else none
section
variable {P : Program} {w : World} {K : PySem.W.Frag} {mg mb : Str → Option Value} {a b : Addr} {us : List Value} {ns : List Int} {s : Shared} {h : Heap} {u : HO} {o : Obj} {p : He.Defn}
theorem h00_tab (hp : p ∈ tf) : H00 K a us ns (tabA K p) = some (.tbl #[]) := if_pos ⟨p, hp, rfl⟩
theorem h00_out (e : H00 K a us ns b = some u) : (∃ p ∈ tf, b = tabA K p ∧ u = .tbl #[]) ∨ (b = a ∧ K.lookup a = none ∧ u = .frz (scriptO us) (.lst (ns.map V.int))) := by
  unfold H00 at e
  split at e
  · rename_i c
    obtain ⟨p, hp, hb⟩ := c
    cases e
    exact .inl ⟨p, hp, hb, rfl⟩
  · split at e
    · rename_i c
      cases e
      exact .inr ⟨c.1, c.2, rfl⟩
    · cases e
/-- neither a list nor an empty table: not tracked -/
theorem h00_free (ht : ∀ p ∈ tf, h.get? (tabA K p) = some noCodes) (ha : h.get? a = some (scriptO us)) (e : h.get? b = some o) (n1 : ∀ vs n, o.data ≠ .seq vs n) (n2 : o.data ≠ .fields #[]) : H00 K a us ns b = none := by
  cases q : H00 K a us ns b with
  | none => rfl
  | some u =>
    exfalso
    rcases h00_out q with ⟨p, hp, rfl, _⟩ | ⟨rfl, _, _⟩
    · rw [ht p hp] at e; cases e; exact n2 rfl
    · rw [ha] at e; cases e; exact n1 _ _ rfl
theorem h00_ns {d : Addr} {m : Str → Option Value} (ht : ∀ p ∈ tf, h.get? (tabA K p) = some noCodes) (ha : h.get? a = some (scriptO us)) (x : h.Ns d m) : (hidT h (H00 K a us ns)).Ns d m := by
  obtain ⟨o, es, ep, h1, h2, r⟩ := x
  refine ⟨o, es, ep, hidT_get h1 (h00_free ht ha h1 (fun vs n z => ?_) fun z => ?_), h2, r⟩ <;> (rw [h2] at z; cases z)
theorem h00_kin (hk : K.In h) (out : ∀ p ∈ tf, K.lookup (tabA K p) = none) : K.In (hidT h (H00 K a us ns)) := fun b o e => hidT_get (hk b o e) (by
  cases q : H00 K a us ns b with
  | none => rfl
  | some u =>
    exfalso
    rcases h00_out q with ⟨p, hp, rfl, _⟩ | ⟨rfl, z, _⟩
    · rw [out p hp] at e; cases e
    · rw [z] at e; cases e)
/-- the law answers True at every script -/
theorem law_call (hk : K.In s.heap) (X : He.SaysX fa fn [] tf ex w s.heap K) (g : s.heap.Ns mainGlobals mg) (bl : s.heap.Ns builtinsNs mb) (bb : ∀ x : Str, x ≠ "__name__" → mb x = bootBuiltins x) (lim : s.heap.NoLimit) (gens : s.gens = #[])
    (bm : ∃ (m : Addr) (ob : Obj), mg "__builtins__" = some (.ref m) ∧ m ≠ builtinsNs ∧ s.heap.get? m = some ob ∧ ob.cls = .type "module" ∧ ob.dict = some builtinsNs ∧ ob.data = .plain)
    (ha : s.heap.get? a = some (scriptO us)) (hi : IntsAre us ns) (hl : ns.length ≤ 63) :
    codeAny (model P w) callerA (.call (.ref (He.ga K "law")) ⟨[.ref a], []⟩) (fun r s' => r = .ok (.ret (.bool true)) ∧ OldK s.heap s'.heap ∧ s'.os = s.os ∧ AllBare s'.gens) s := by
  have ht : ∀ p ∈ tf, s.heap.get? (tabA K p) = some noCodes := X.empty
  have vi := vals_ints hi
  have lu := hi.length
  have hkb := h00_kin (a := a) (us := us) (ns := ns) hk X.out
  have gb := h00_ns (ns := ns) ht ha g
  have mod : L2.Mod K mg (hidT s.heap (H00 K a us ns)) := ⟨hkb, gb, ⟨mb, h00_ns ht ha bl, bb⟩, lim.imp fun mc z => ⟨h00_ns ht ha z.1, z.2⟩⟩
  have ev : Ev K mg (hidT s.heap (H00 K a us ns)) := by
    refine ⟨X.t.d, hkb, gb, fun p hp => ⟨PySem.W.codeHd_of_K hkb (X.hd p hp), ?_, fun z => ?_⟩, X.more⟩
    · obtain ⟨m, ob, q1, q2, q3, q4, q5, q6⟩ := bm
      refine ⟨m, ob, q1, q2, fun z => ?_, fun z => ?_, hidT_get q3 (h00_free ht ha q3 (fun vs n z => ?_) fun z => ?_), q4, q5, q6⟩
      · obtain ⟨og, es, ep, y1, y2, _⟩ := g
        rw [← z, q3] at y1; cases y1
        rw [q6] at y2; cases y2
      · have y := ht p hp
        rw [show tabA K p = m from z.symm, q3] at y
        cases y; cases q6
      · rw [q6] at z; cases z
      · rw [q6] at z; cases z
    · obtain ⟨og, es, ep, y1, y2, _⟩ := g
      have y := ht p hp
      rw [show tabA K p = mainGlobals from z.symm, y1] at y
      cases y; cases y2
  obtain ⟨_, fd, F, bn⟩ := ok_law (P := P) (w := w) ev
  have hS : SqL K (H00 K a us ns) a (ns.map V.int) := by
    cases q : K.lookup a with
    | some ob =>
      have z := hk a ob q
      rw [ha] at z
      cases z
      exact .inr ⟨_, us.toArray, _, q, rfl, rfl, rfl, by rw [List.size_toArray, lu, sizeLine_eq]; omega, by simpa using vi⟩
    | none =>
      refine .inl (.inr ⟨scriptO us, ?_⟩)
      unfold H00
      rw [if_neg, if_pos ⟨rfl, q⟩]
      rintro ⟨p, hp, z⟩
      have y := ht p hp
      rw [← z, ha] at y
      cases y
  have hok : HOk P w (H00 K a us ns) s.heap := fun b u e => by
    rcases h00_out e with ⟨p, hp, rfl, rfl⟩ | ⟨rfl, _, rfl⟩
    · exact ht p hp
    · exact ⟨ha, by rw [List.length_map, sizeLine_eq]; omega, us, _, vi, ha⟩
  have e0 : Env0 P w K mg (hidT s.heap (H00 K a us ns)) callerA [] s (H00 K a us ns) := ⟨rfl, mod, fun b ob e => of_hidT e, Nat.le_of_eq (hidT_size _ _), trivial, fun b hb => (by cases hb), hok, .of_eq gens⟩
  have tabs : LamX.Tabs (TabK K) (H00 K a us ns) := fun q hq => by
    unfold TabK at hq
    simp only [List.mem_cons, List.not_mem_nil, or_false] at hq
    rcases hq with rfl | rfl | rfl
    · exact .nil (h00_tab (p := ("TileSet", some "__init__")) (by simp [tf]))
    · exact .nil (h00_tab (p := ("TileSet", some "in_order")) (by simp [tf]))
    · exact .nil (h00_tab (p := ("_law_t2_world", none)) (by simp [tf]))
  refine codeAny_mono (F.run callerA [] s (H00 K a us ns) ⟨[.ref a], []⟩ [.ref a] [.ref a] (fun v _ => v = .bl true) (fun _ _ _ => False) ⟨rfl, by decide, by decide⟩ rfl e0 (bn s [.ref a] hk rfl) (.cons rfl .nil) ⟨a, ns, rfl, hS, hl, tabs, fun _ => rfl⟩) fun r s' q => ?_
  match r, q with
  | .ok (.ret v), ⟨x, H', os, bare, un, hok', rv, qx⟩ =>
    have qx : x = .bl true := qx
    subst qx
    obtain rfl : v = Value.bool true := rv
    have grown : ∀ p ∈ tf, ∃ more : Array Value, s'.heap.get? (tabA K p) = some { cls := .none, data := .fields more } := fun p hp => by
      obtain ⟨more, z⟩ := un.tbls _ _ (h00_tab (K := K) (a := a) (us := us) (ns := ns) hp)
      exact ⟨_, hok' _ _ z⟩
    have same : ∀ b ob, (¬ ∃ p ∈ tf, b = tabA K p) → s.heap.get? b = some ob → s'.heap.get? b = some ob := fun b ob nb e => by
      cases q : H00 K a us ns b with
      | none => exact un.keep b ob e q (by intro z; cases z) (by intro z; cases z)
      | some u =>
        rcases h00_out q with ⟨p, hp, hb, _⟩ | ⟨rfl, _, rfl⟩
        · exact absurd ⟨p, hp, hb⟩ nb
        · have z := hok' _ _ (un.frzs _ _ _ q)
          rw [ha] at e; cases e
          exact z.1
    refine ⟨rfl, ⟨fun b ob e => ?_, fun b ob e => ?_⟩, os, bare⟩
    · by_cases hb : ∃ p ∈ tf, b = tabA K p
      · obtain ⟨p, hp, rfl⟩ := hb
        obtain ⟨more, hm⟩ := grown p hp
        have y := ht p hp
        have cd := (PySem.W.codeHd_of_K hk (X.hd p hp)).tab y
        rw [y] at e
        cases e
        exact .inr (.inl ⟨cd.isCodeTable, rfl, #[], more, rfl, by rw [Array.empty_append]; exact hm⟩)
      · exact .inl (same b ob hb e)
    · by_cases hb : ∃ p ∈ tf, b = tabA K p
      · obtain ⟨p, hp, rfl⟩ := hb
        exact (grown p hp).imp' _ fun _ z => z
      · exact ⟨ob, same b ob hb e⟩
end
end TR
/-! text Z1 -/
set_option Elab.async false
set_option linter.all false
set_option maxRecDepth 100000
set_option maxHeartbeats 4000000
open PySem PySem.W PySem.Calls PyProof.Rows
theorem PySem.Challenge.cw_tilesregrow_k06_whole_rounds_holds : PySem.Challenge.rw_tilesregrow_k06_whole_rounds.Holds := by
  w_on; o_law
  refine HandSHeadRun.head_any (r := OpenLaw.row PySem.Challenge.rw_tilesregrow_k06_whole_rounds) (q := view (OpenLaw.row PySem.Challenge.rw_tilesregrow_k06_whole_rounds).prog [52]) (H := TR.hk) (ob := TR.ob) (M := 6000) (loose := TR.nms) (d := HandSHeadRun.topDef (OpenLaw.row PySem.Challenge.rw_tilesregrow_k06_whole_rounds).prog 52) (kwd := []) TR.ob_eq
    (by kernel_rfl) (fun s => by kernel_rfl) TR.run (by kernel_rfl) (by kernel_rfl) (by kernel_rfl) (by rfl) (by first | assumption | decide +kernel) (by decide +kernel) ⟨rfl, rfl, rfl, rfl, rfl, by decide +kernel⟩ ?hw ?hc
  case hw => w_witness2
  case hc =>
    refine Att.attach_callB (l := PySem.Challenge.rw_tilesregrow_k06_whole_rounds) (n := 63) rfl (by kernel_rfl) fun w s0 s1 mg mb fa o pm cd doc a us ns G Y ho hd hcd hmg hobj hints hlen hbits hg => ?_
    obtain ⟨K, KX, X⟩ := Y
    have hm : mg ("law" : PySem.Str) = some (.ref fa) := by
      have e : (HandSHeadRun.topDef (OpenLaw.row PySem.Challenge.rw_tilesregrow_k06_whole_rounds).prog 52).name = ("law" : PySem.Str) := by kernel_rfl
      rw [← e]
      exact hmg
    have e := hm.symm.trans (He.glo_ok KX G.T.g (X.t.d.fact 40 (f := .glo "law")))
    cases e
    exact TR.law_call KX X G.T.g G.T.b G.T.builtins G.T.nolimit hg G.T.bmain hobj hints hlen
