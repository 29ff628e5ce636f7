import PyProof.Rows.All
import Wide.All
import OpenK.AllK
import Wide.FinOn
import HandS.Defaults
import HandS.DictTup
import HandS.EndBits
import HandS.EndTab
import HandS.ExcField
import HandS.ExcInit
import HandS.ExcIs
import HandS.ExcValue
import HandS.FStr
import HandS.ForExc
import HandS.ForMost
import HandS.IsInst
import HandS.Lambda
import HandS.List
import HandS.ListItems
import HandS.MakeKw
import HandS.MakeKwOnly
import HandS.More
import HandS.OwnEq
import HandS.RaiseMore
import HandS.SetKeys
import HandS.SortRule
import HandS.Strs
import HandS.Style
import HandS.Text
import HandS.TryMany
import HandS.TryOnly
import HandS.TupAny
import HandS.Wide
import HandS.WideBits
import HandS.WordsDict
import KE.GoesEnumKw
import KE.GoesMore
import KE.GoesZip
import KE.KDictPairs
import KE.KExcInit
import KE.KExcIs
import KE.KExcLine
import KE.KIndexOf
import KE.KSortKey
import KE.RegKIsAll
import KE.SortKeyHeap
import PyProof.DictIter
import PyProof.EqAt
import PyProof.EqKinds
import PyProof.NeKinds
import PyProof.ReprBulk
import PyProof.ReprRoads
import PyProof.Rows.IntBool
import PyProof.Rows.SetFrom
import PyProof.SliceList
import PyProof.StrBlock
import PySem.Challenge.RW_crywalks_k18_refusals_made
set_option Elab.async false
set_option linter.all false
set_option maxRecDepth 100000
set_option maxHeartbeats 2000000 
/-! ### 0. dicts whose keys are of either kind: an int or a text, or a tuple of these -/
/-! ### 77. keys of both kinds: an int or a text, or a tuple of these -/
namespace DL
open L2 PyProof.Rows PySem PySem.Spec PySem.W
abbrev MKey := Key ⊕ List Key
def mIs (P : Program) (w : World) (h : Heap) : MKey → Value → Prop
  | .inl k, v => keyIs k v = true
  | .inr ks, v => ∃ a, v = .ref a ∧ (tupleKind (mixKind P w)).is h ks a
def mHash (P : Program) (w : World) : MKey → Int
  | .inl k => (mixKind P w).hash k
  | .inr ks => (tupleKind (mixKind P w)).hash ks
def mDraws : MKey → Nat
  | .inl _ => 1
  | .inr ks => ks.length + 1
section
variable {P : Program} {w : World} {A : Around} {E : Value → Shared → Prop} {s : Shared}
theorem mIs.ref {h : Heap} {k : MKey} {a : Addr} (x : mIs P w h k (.ref a)) : ∃ ks, k = .inr ks ∧ (tupleKind (mixKind P w)).is h ks a := by
  cases k with
  | inl k => rcases keyIs_shape x with ⟨_, _, _, e⟩ | ⟨_, _, _, e⟩ <;> cases e
  | inr ks =>
    obtain ⟨b, e, y⟩ := x
    cases e
    exact ⟨ks, rfl, y⟩
theorem mIs.val {h : Heap} {k : MKey} {v : Value} (x : mIs P w h k v) (c : carriedByValue v = true) : ∃ q, k = .inl q ∧ (mixKind P w).is q v = true := by
  cases k with
  | inl k => exact ⟨k, rfl, x⟩
  | inr ks =>
    obtain ⟨b, rfl, y⟩ := x
    cases c
theorem mIs.cases {h : Heap} {k : MKey} {v : Value} (x : mIs P w h k v) : (∃ q, k = .inl q ∧ (mixKind P w).is q v = true ∧ carriedByValue v = true) ∨ ∃ ks a, k = .inr ks ∧ v = .ref a ∧ (tupleKind (mixKind P w)).is h ks a := by
  cases k with
  | inl k => exact .inl ⟨k, rfl, x, (mixKind P w).byValue _ _ x⟩
  | inr ks =>
    obtain ⟨b, rfl, y⟩ := x
    exact .inr ⟨ks, b, rfl, rfl, y⟩
theorem mIs.inj {h : Heap} {x y : MKey} {v : Value} (hx : mIs P w h x v) (hy : mIs P w h y v) : x = y := by
  rcases hx.cases with ⟨q, rfl, e, c⟩ | ⟨ks, a, rfl, rfl, e⟩
  · obtain ⟨q', rfl, e'⟩ := hy.val c
    rw [(mixKind P w).inj _ _ _ e e']
  · obtain ⟨ks', rfl, e'⟩ := hy.ref
    rw [(tupleKind (mixKind P w)).inj e e']
theorem mIs.keeps {h h' : Heap} {k : MKey} {v : Value} {d : Addr} {o : Obj} {es ep} (x : mIs P w h k v) (ho : h.get? d = some o) (hd : o.data = .dict es ep) (hs : Heap.SameBut d h h') : mIs P w h' k v := by
  cases k with
  | inl k => exact x
  | inr ks =>
    obtain ⟨a, e, y⟩ := x
    exact ⟨a, e, (tupleKind (mixKind P w)).keeps y ho hd hs⟩
theorem mIs.pyHash {k : MKey} {v : Value} {Q : Int → Shared → Prop} (hu : A.units < cLine) (x : mIs P w s.heap k v) (q : Q (mHash P w k) { s with toks := s.toks + mDraws k }) : wpAny (model P w) A (PySem.pyHash v) Q E s := by
  rcases x.cases with ⟨c, rfl, e, _⟩ | ⟨ks, a, rfl, rfl, e⟩
  · exact (mixKind P w).pyHash e q
  · exact (tupleKind (mixKind P w)).pyHash hu e q
theorem mIs.eqBool {x y : MKey} {u v : Value} {Q : Bool → Shared → Prop} (hu : A.units < cLine) (hx : mIs P w s.heap x u) (hy : mIs P w s.heap y v) (q : Q (decide (x = y)) s) : wpAny (model P w) A (PySem.eqBool u v) Q E s := by
  rcases hx.cases with ⟨c, rfl, e, _⟩ | ⟨ks, a, rfl, rfl, e⟩
  · rcases hy.cases with ⟨c', rfl, e', _⟩ | ⟨ks', a', rfl, rfl, e'⟩
    · refine (mixKind P w).eqBool e e' ?_
      have z : decide ((Sum.inl c : MKey) = Sum.inl c') = decide (c = c') := decide_eq_decide.mpr ⟨fun z => Sum.inl.inj z, fun z => by rw [z]⟩
      rw [← z]; exact q
    · have z : decide ((Sum.inl c : MKey) = Sum.inr ks') = false := decide_eq_false fun z => nomatch z
      rw [z] at q
      obtain ⟨o, items, n, ho, hc, hd, hi⟩ := e'
      rcases keyIs_shape e with ⟨i, t, rfl, rfl⟩ | ⟨i, t, rfl, rfl⟩
      · exact SeqAt.EqAt.int_tuple (items := items) i t ⟨o, ho, hc, n, hd⟩ hu _ _ _ _ q
      · exact SeqAt.EqAt.str_tuple (items := items) i t ⟨o, ho, hc, n, hd⟩ hu _ _ _ _ q
  · rcases hy.cases with ⟨c', rfl, e', _⟩ | ⟨ks', a', rfl, rfl, e'⟩
    · have z : decide ((Sum.inr ks : MKey) = Sum.inl c') = false := decide_eq_false fun z => nomatch z
      rw [z] at q
      obtain ⟨o, items, n, ho, hc, hd, hi⟩ := e
      rcases keyIs_shape e' with ⟨i, t, rfl, rfl⟩ | ⟨i, t, rfl, rfl⟩
      · exact SeqAt.EqAt.tuple_int (items := items) i t ⟨o, ho, hc, n, hd⟩ hu _ _ _ _ q
      · exact SeqAt.EqAt.tuple_str (items := items) i t ⟨o, ho, hc, n, hd⟩ hu _ _ _ _ q
    · refine (tupleKind (mixKind P w)).eqBool hu e e' ?_
      have z : decide ((Sum.inr ks : MKey) = Sum.inr ks') = decide (ks = ks') := decide_eq_decide.mpr ⟨fun z => Sum.inr.inj z, fun z => by rw [z]⟩
      rw [← z]; exact q
theorem mIs.quiet {k : MKey} {v : Value} {Q : Bool → Shared → Prop} (x : mIs P w s.heap k v) (q : Q true s) : wpAny (model P w) A (eqIsQuiet 8 v) Q E s := by
  rcases x.cases with ⟨c, rfl, _, e⟩ | ⟨ks, a, rfl, rfl, e⟩
  · rw [eqIsQuiet_byValue _ e]
    exact wpAny_pure q
  · exact (tupleKind (mixKind P w)).quiet e q
end
end DL

/-! ### 78. finding a key of either kind -/
namespace DL
open L2 PyProof.Rows PySem PySem.Spec PySem.W
abbrev MEnt := MKey × Value × Value
def mEnt (P : Program) (w : World) (x : MEnt) : DictEntry := ⟨mHash P w x.1, x.2.1, x.2.2⟩
theorem places_mem {n : Nat} {f : Nat → Option Int} {h : Int} {j : Nat} : j ∈ placesWithHash n f h ↔ j < n ∧ (f j == some h) = true := by
  unfold placesWithHash
  rw [List.mem_filter, List.mem_range]
theorem places_nodup {n : Nat} {f : Nat → Option Int} {h : Int} : (placesWithHash n f h).Nodup := by
  unfold placesWithHash
  exact List.nodup_range.filter _
section
variable {P : Program} {w : World} {A : Around} {E : Value → Shared → Prop} {s : Shared} {d : Addr} {o : Obj} {es : Array DictEntry} {ep : Nat} {xs : List MEnt} {k : MKey} {key : Value}
theorem ment_at (he : es.toList = xs.map (mEnt P w)) (j : Nat) : es[j]? = (xs[j]?).map (mEnt P w) := by
  rw [← Array.getElem?_toList, he, List.getElem?_map]
theorem ment_size (he : es.toList = xs.map (mEnt P w)) : es.size = xs.length := by
  rw [← Array.length_toList, he, List.length_map]
abbrev mPlaces (P : Program) (w : World) (es : Array DictEntry) (k : MKey) : List Nat := placesWithHash es.size (fun i => es[i]?.map (·.hash)) (mHash P w k)
theorem place_at (he : es.toList = xs.map (mEnt P w)) {i : Nat} (hi : i ∈ mPlaces P w es k) : ∃ x, xs[i]? = some x ∧ es[i]? = some (mEnt P w x) ∧ mHash P w x.1 = mHash P w k := by
  obtain ⟨hlt, hh⟩ := places_mem.mp hi
  rw [ment_size he] at hlt
  refine ⟨xs[i], List.getElem?_eq_getElem hlt, ?_, ?_⟩
  · rw [ment_at he, List.getElem?_eq_getElem hlt]; rfl
  · rw [ment_at he, List.getElem?_eq_getElem hlt] at hh
    simpa [mEnt] using hh
theorem place_of (he : es.toList = xs.map (mEnt P w)) {i : Nat} {x : MEnt} (hx : xs[i]? = some x) (e : x.1 = k) : i ∈ mPlaces P w es k := by
  refine places_mem.mpr ⟨by rw [ment_size he]; exact (List.getElem?_eq_some_iff.mp hx).1, ?_⟩
  rw [ment_at he, hx, ← e]
  simp [mEnt]
theorem mix_once (hn : (xs.map (·.1)).Nodup) {i j : Nat} {x y : MEnt} (hx : xs[i]? = some x) (hy : xs[j]? = some y) (e : x.1 = y.1) : i = j := by
  have hi : (xs.map (·.1))[i]? = some x.1 := by rw [List.getElem?_map, hx]; rfl
  have hj : (xs.map (·.1))[j]? = some x.1 := by rw [List.getElem?_map, hy, e]; rfl
  exact (List.getElem?_inj (List.getElem?_eq_some_iff.mp hi).1 hn).mp (hi.trans hj.symm)
theorem walk_mix {Q : Option Nat → Shared → Prop} (hu : A.units < cLine) (hkey : mIs P w s.heap k key) (ho : s.heap.get? d = some o) (hd : o.data = .dict es ep) (he : es.toList = xs.map (mEnt P w)) (his : ∀ x ∈ xs, mIs P w s.heap x.1 x.2.1)
    (hnone : (∀ (j : Nat) (x : MEnt), xs[j]? = some x → x.1 ≠ k) → Q none s) (hsome : ∀ (j : Nat) (x : MEnt), xs[j]? = some x → x.1 = k → Q (some j) s) :
    wpAny (model P w) A (dictWalkPlain d key (mHash P w k) es (mPlaces P w es k)) Q E s := by
  unfold dictWalkPlain
  refine wpAny_bind ?_
  refine wpAny_forIn_list _ (fun rest b s' => s' = s ∧ b = (none, ()) ∧ ∃ pre, mPlaces P w es k = pre ++ rest ∧ ∀ j ∈ pre, ∀ x, xs[j]? = some x → x.1 ≠ k) _ ?_ ?_ _ _ ⟨rfl, rfl, [], rfl, fun j hj => nomatch hj⟩
  · rintro i rest b s' ⟨rfl, rfl, pre, hp, hno⟩
    obtain ⟨x, hx, hex, hh⟩ := place_at (P := P) (w := w) (k := k) he (show i ∈ mPlaces P w es k by rw [hp]; simp)
    rw [hex]
    dsimp only
    rw [if_pos (show ((mEnt P w x).hash == mHash P w k) = true by simp [mEnt, hh])]
    refine wpAny_bind (wpAny_dictEpoch ho hd (wpAny_bind (mIs.eqBool hu (his x (List.mem_of_getElem? hx)) hkey (wpAny_bind (wpAny_dictEpoch ho hd ?_)))))
    show wpAny _ _ (if (ep != ep) = true then _ else _) _ E _
    rw [if_neg (by simp)]
    by_cases e : x.1 = k
    · rw [decide_eq_true e]
      exact wpAny_bind (wpAny_rule (wpAny_pure (wpAny_pure (hsome i x hx e))))
    · rw [decide_eq_false e]
      refine wpAny_bind (wpAny_rule (wpAny_pure ⟨rfl, rfl, pre ++ [i], by rw [hp]; simp, fun j hj y hy => ?_⟩))
      rcases List.mem_append.mp hj with hj | hj
      · exact hno j hj y hy
      · rw [List.mem_singleton] at hj
        subst hj
        rw [hx] at hy
        cases hy
        exact e
  · rintro b s' ⟨rfl, rfl, pre, hp, hno⟩
    rw [List.append_nil] at hp
    exact wpAny_pure (hnone fun j x hx e => hno j (by rw [← hp]; exact place_of he hx e) x hx e)
theorem tells_mix {stored : List Value} {Q : Bool → Shared → Prop} (hkey : mIs P w s.heap k key) (hst : ∀ v ∈ stored, ∃ k', mIs P w s.heap k' v) (h : Q false s) : wpAny (model P w) A (tableMayTell key stored) Q E s := by
  unfold tableMayTell
  split
  · exact wpAny_pure h
  · refine wpAny_bind (hkey.quiet ?_)
    simp only [Bool.not_true, Bool.false_eq_true, if_false]
    refine wpAny_bind ?_
    refine wpAny_forIn_list _ (fun rest r s' => s' = s ∧ r = (none, ()) ∧ ∀ v ∈ rest, ∃ k', mIs P w s.heap k' v) _ ?_ ?_ _ _ ⟨rfl, rfl, hst⟩
    · rintro x rest r s' ⟨rfl, rfl, hr⟩
      obtain ⟨k', hb⟩ := hr x List.mem_cons_self
      refine wpAny_bind (hb.quiet ?_)
      simp only [Bool.not_true, Bool.false_eq_true, if_false]
      exact wpAny_pure ⟨rfl, rfl, fun v hv => hr v (List.mem_cons_of_mem _ hv)⟩
    · rintro r s' ⟨rfl, rfl, _⟩
      exact wpAny_pure h
theorem find_mix {Q : Option Nat → Shared → Prop} (hu : A.units < cLine) (hkey : mIs P w s.heap k key) (ho : s.heap.get? d = some o) (hd : o.data = .dict es ep) (he : es.toList = xs.map (mEnt P w)) (his : ∀ x ∈ xs, mIs P w s.heap x.1 x.2.1)
    (hn : (xs.map (·.1)).Nodup) (hnone : (∀ (j : Nat) (x : MEnt), xs[j]? = some x → x.1 ≠ k) → Q none s) (hsome : ∀ (j : Nat) (x : MEnt), xs[j]? = some x → x.1 = k → Q (some j) s) :
    wpAny (model P w) A (dictFind d key (mHash P w k)) Q E s := by
  by_cases call : carriedByValue key = true ∧ ∀ x ∈ xs, carriedByValue x.2.1 = true
  · obtain ⟨c1, c2⟩ := call
    obtain ⟨q, rfl, hq⟩ := hkey.val c1
    have hk : KeysOf (mixKind P w) es := fun e he2 => by
      have : e ∈ xs.map (mEnt P w) := he ▸ Array.mem_toList_iff.mpr he2
      obtain ⟨x, hx, rfl⟩ := List.mem_map.mp this
      obtain ⟨q', e', hq'⟩ := (his x hx).val (c2 x hx)
      exact ⟨q', hq', by show mHash P w x.1 = _; rw [e']; rfl⟩
    refine wpAny_dictFind_of (knd := mixKind P w) hq ho hd hk ?_
    cases hf : es.findIdx? (fun e => (mixKind P w).is q e.key) with
    | none =>
      refine hnone fun j x hx e => ?_
      have h1 := Array.findIdx?_eq_none_iff.mp hf (mEnt P w x) (by rw [← Array.mem_toList_iff, he]; exact List.mem_map.mpr ⟨x, List.mem_of_getElem? hx, rfl⟩)
      have h2 := his x (List.mem_of_getElem? hx)
      rw [e] at h2
      have h3 : (mixKind P w).is q x.2.1 = true := h2
      rw [show (mEnt P w x).key = x.2.1 from rfl, h3] at h1
      cases h1
    | some i =>
      obtain ⟨hlt, hi, _⟩ := Array.findIdx?_eq_some_iff_getElem.mp hf
      have hl2 : i < xs.length := by rw [← ment_size he]; exact hlt
      have hx : xs[i]? = some xs[i] := List.getElem?_eq_getElem hl2
      have e2 : es[i]? = some (mEnt P w xs[i]) := by rw [ment_at he, hx]; rfl
      rw [Array.getElem?_eq_getElem hlt] at e2
      rw [Option.some.inj e2] at hi
      exact hsome i _ hx (mIs.inj (his _ (List.mem_of_getElem? hx)) (show mIs P w s.heap (.inl q) xs[i].2.1 from hi))
  · unfold dictFind
    try with_reducible refine wpAny_holding ?_
    refine wpAny_bind (wpAny_dictEntries ho hd ?_)
    have nstr : (es.all fun e => isExactStrKey e.key) = true → carriedByValue key = true → False := fun h c => call ⟨c, fun x hx => by
      have := Array.all_eq_true_iff_forall_mem.mp h (mEnt P w x) (by rw [← Array.mem_toList_iff, he]; exact List.mem_map.mpr ⟨x, hx, rfl⟩)
      rw [show (mEnt P w x).key = x.2.1 from rfl] at this
      cases hv : x.2.1 <;> rw [hv] at this <;> first | rfl | cases this⟩
    have hst : ∀ v ∈ (mPlaces P w es k).filterMap (fun i => es[i]?.map (·.key)), ∃ k', mIs P w s.heap k' v := by
      intro v hv
      obtain ⟨i, hi, e2⟩ := List.mem_filterMap.mp hv
      obtain ⟨x, hx, hex, _⟩ := place_at (P := P) (w := w) (k := k) he hi
      rw [hex] at e2
      cases e2
      exact ⟨x.1, his x (List.mem_of_getElem? hx)⟩
    have hany : ∀ a, key = .ref a → ¬ (es.any fun e => e.key == Value.ref a && e.hash != mHash P w k) = true := by
      rintro a rfl h
      rw [← Array.any_toList, List.any_eq_true] at h
      obtain ⟨e, hin, hc⟩ := h
      rw [he] at hin
      obtain ⟨x, hx, rfl⟩ := List.mem_map.mp hin
      simp only [mEnt, Bool.and_eq_true, beq_iff_eq, bne_iff_ne, ne_eq] at hc
      obtain ⟨hxa, hne⟩ := hc
      have := his x hx
      rw [hxa] at this
      exact hne (by rw [this.inj hkey])
    have start : ∃ kk, kk = k := ⟨k, rfl⟩
    rcases hkey.cases with ⟨q, ek, hq, cq⟩ | ⟨ks, a, ek, rfl, hq⟩
    · rcases keyIs_shape hq with ⟨i, t, eq, rfl⟩ | ⟨z, t, eq, rfl⟩
      · dsimp only
        by_cases hb : ((Value.int i t :: ((mPlaces P w es k).filterMap (fun i => es[i]?.map (·.key)))).all carriedByValue) = true
        · rw [if_pos hb]
          exact walk_mix hu hkey ho hd he his hnone hsome
        · rw [if_neg hb]
          by_cases hone : (((mPlaces P w es k).filterMap (fun i => es[i]?.map (·.key))) == [Value.int i t]) = true <;> (first | rw [if_pos hone] | rw [if_neg hone]) <;> (first | refine wpAny_bind (wpAny_pure ?_) | refine wpAny_bind (tells_mix hkey hst ?_)) <;> (
            rw [if_neg (by simp)]
            refine wpAny_bind ?_
            refine wpAny_forIn_list _ (fun rest b s' => s' = s ∧ ∃ pre hit, b = (none, hit) ∧ mPlaces P w es k = pre ++ rest ∧ ((hit = none ∧ ∀ j ∈ pre, ∀ x, xs[j]? = some x → x.1 ≠ k) ∨ ∃ j x, hit = some j ∧ j ∈ pre ∧ xs[j]? = some x ∧ x.1 = k)) _ ?_ ?_ _ _ ⟨rfl, [], none, rfl, rfl, .inl ⟨rfl, fun j hj => nomatch hj⟩⟩
            · rintro i rest b s' ⟨rfl, pre, hit, rfl, hp, hH⟩
              obtain ⟨x, hx, hex, hh⟩ := place_at (P := P) (w := w) (k := k) he (show i ∈ mPlaces P w es k by rw [hp]; simp)
              have nin : i ∉ pre := fun hm => by
                have nd : (mPlaces P w es k).Nodup := places_nodup
                rw [hp, List.nodup_append] at nd
                exact nd.2.2 i hm i (by simp) rfl
              rw [hex]
              dsimp only
              rw [if_pos (show ((mEnt P w x).hash == mHash P w k) = true by simp [mEnt, hh])]
              refine wpAny_bind (wpAny_dictEpoch ho hd (wpAny_bind (mIs.eqBool hu (his x (List.mem_of_getElem? hx)) hkey (wpAny_bind (wpAny_dictEpoch ho hd ?_)))))
              show wpAny _ _ (if (ep != ep) = true then _ else _) _ E _
              rw [if_neg (by simp)]
              by_cases e : x.1 = k
              · rw [decide_eq_true e]
                rcases hH with ⟨rfl, hno⟩ | ⟨j, y, rfl, hj, hy, e'⟩
                · first | rw [if_pos rfl] | skip
                  simp only [Option.isSome_none, Bool.false_eq_true, if_false]
                  first | refine wpAny_bind (wpAny_pure ?_) | skip
                  refine wpAny_bind (wpAny_rule ?_)
                  split
                  · exact wpAny_pure (wpAny_pure (hsome i x hx e))
                  · exact wpAny_pure ⟨rfl, pre ++ [i], some i, rfl, by rw [hp]; simp, .inr ⟨i, x, rfl, by simp, hx, e⟩⟩
                · exact absurd (mix_once hn hy hx (by rw [e, e']) ▸ hj) nin
              · rw [decide_eq_false e]
                simp only [Bool.false_eq_true, if_false]
                refine wpAny_bind (wpAny_rule ?_)
                first | rw [if_neg (by simp)] | skip
                refine wpAny_pure ⟨rfl, pre ++ [i], hit, rfl, by rw [hp]; simp, ?_⟩
                rcases hH with ⟨h0, hno⟩ | ⟨j, y, h0, hj, hy, e'⟩
                · refine .inl ⟨h0, fun j hj y hy => ?_⟩
                  rcases List.mem_append.mp hj with hj | hj
                  · exact hno j hj y hy
                  · rw [List.mem_singleton] at hj
                    subst hj
                    rw [hx] at hy
                    cases hy
                    exact e
                · exact .inr ⟨j, y, h0, List.mem_append_left _ hj, hy, e'⟩
            · rintro b s' ⟨rfl, pre, hit, rfl, hp, hH⟩
              rw [List.append_nil] at hp
              rcases hH with ⟨rfl, hno⟩ | ⟨j, y, rfl, hj, hy, e'⟩
              · exact wpAny_pure (hnone fun j x hx e => hno j (by rw [← hp]; exact place_of he hx e) x hx e)
              · exact wpAny_pure (hsome j y hy e'))
      · dsimp only
        rw [if_neg (fun h => nstr h rfl)]
        by_cases hb : ((Value.str z t :: ((mPlaces P w es k).filterMap (fun i => es[i]?.map (·.key)))).all carriedByValue) = true
        · rw [if_pos hb]
          exact walk_mix hu hkey ho hd he his hnone hsome
        · rw [if_neg hb]
          by_cases hone : (((mPlaces P w es k).filterMap (fun i => es[i]?.map (·.key))) == [Value.str z t]) = true <;> (first | rw [if_pos hone] | rw [if_neg hone]) <;> (first | refine wpAny_bind (wpAny_pure ?_) | refine wpAny_bind (tells_mix hkey hst ?_)) <;> (
            rw [if_neg (by simp)]
            refine wpAny_bind ?_
            refine wpAny_forIn_list _ (fun rest b s' => s' = s ∧ ∃ pre hit, b = (none, hit) ∧ mPlaces P w es k = pre ++ rest ∧ ((hit = none ∧ ∀ j ∈ pre, ∀ x, xs[j]? = some x → x.1 ≠ k) ∨ ∃ j x, hit = some j ∧ j ∈ pre ∧ xs[j]? = some x ∧ x.1 = k)) _ ?_ ?_ _ _ ⟨rfl, [], none, rfl, rfl, .inl ⟨rfl, fun j hj => nomatch hj⟩⟩
            · rintro i rest b s' ⟨rfl, pre, hit, rfl, hp, hH⟩
              obtain ⟨x, hx, hex, hh⟩ := place_at (P := P) (w := w) (k := k) he (show i ∈ mPlaces P w es k by rw [hp]; simp)
              have nin : i ∉ pre := fun hm => by
                have nd : (mPlaces P w es k).Nodup := places_nodup
                rw [hp, List.nodup_append] at nd
                exact nd.2.2 i hm i (by simp) rfl
              rw [hex]
              dsimp only
              rw [if_pos (show ((mEnt P w x).hash == mHash P w k) = true by simp [mEnt, hh])]
              refine wpAny_bind (wpAny_dictEpoch ho hd (wpAny_bind (mIs.eqBool hu (his x (List.mem_of_getElem? hx)) hkey (wpAny_bind (wpAny_dictEpoch ho hd ?_)))))
              show wpAny _ _ (if (ep != ep) = true then _ else _) _ E _
              rw [if_neg (by simp)]
              by_cases e : x.1 = k
              · rw [decide_eq_true e]
                rcases hH with ⟨rfl, hno⟩ | ⟨j, y, rfl, hj, hy, e'⟩
                · first | rw [if_pos rfl] | skip
                  simp only [Option.isSome_none, Bool.false_eq_true, if_false]
                  first | refine wpAny_bind (wpAny_pure ?_) | skip
                  refine wpAny_bind (wpAny_rule ?_)
                  split
                  · exact wpAny_pure (wpAny_pure (hsome i x hx e))
                  · exact wpAny_pure ⟨rfl, pre ++ [i], some i, rfl, by rw [hp]; simp, .inr ⟨i, x, rfl, by simp, hx, e⟩⟩
                · exact absurd (mix_once hn hy hx (by rw [e, e']) ▸ hj) nin
              · rw [decide_eq_false e]
                simp only [Bool.false_eq_true, if_false]
                refine wpAny_bind (wpAny_rule ?_)
                first | rw [if_neg (by simp)] | skip
                refine wpAny_pure ⟨rfl, pre ++ [i], hit, rfl, by rw [hp]; simp, ?_⟩
                rcases hH with ⟨h0, hno⟩ | ⟨j, y, h0, hj, hy, e'⟩
                · refine .inl ⟨h0, fun j hj y hy => ?_⟩
                  rcases List.mem_append.mp hj with hj | hj
                  · exact hno j hj y hy
                  · rw [List.mem_singleton] at hj
                    subst hj
                    rw [hx] at hy
                    cases hy
                    exact e
                · exact .inr ⟨j, y, h0, List.mem_append_left _ hj, hy, e'⟩
            · rintro b s' ⟨rfl, pre, hit, rfl, hp, hH⟩
              rw [List.append_nil] at hp
              rcases hH with ⟨rfl, hno⟩ | ⟨j, y, rfl, hj, hy, e'⟩
              · exact wpAny_pure (hnone fun j x hx e => hno j (by rw [← hp]; exact place_of he hx e) x hx e)
              · exact wpAny_pure (hsome j y hy e'))
    · dsimp only
      rw [if_neg (by simp [carriedByValue])]
      rw [if_neg (hany a rfl)]
      by_cases hone : (((mPlaces P w es k).filterMap (fun i => es[i]?.map (·.key))) == [Value.ref a]) = true <;> (first | rw [if_pos hone] | rw [if_neg hone]) <;> (first | refine wpAny_bind (wpAny_pure ?_) | refine wpAny_bind (tells_mix hkey hst ?_)) <;> (
        rw [if_neg (by simp)]
        refine wpAny_bind ?_
        refine wpAny_forIn_list _ (fun rest b s' => s' = s ∧ ∃ pre hit, b = (none, hit) ∧ mPlaces P w es k = pre ++ rest ∧ ((hit = none ∧ ∀ j ∈ pre, ∀ x, xs[j]? = some x → x.1 ≠ k) ∨ ∃ j x, hit = some j ∧ j ∈ pre ∧ xs[j]? = some x ∧ x.1 = k)) _ ?_ ?_ _ _ ⟨rfl, [], none, rfl, rfl, .inl ⟨rfl, fun j hj => nomatch hj⟩⟩
        · rintro i rest b s' ⟨rfl, pre, hit, rfl, hp, hH⟩
          obtain ⟨x, hx, hex, hh⟩ := place_at (P := P) (w := w) (k := k) he (show i ∈ mPlaces P w es k by rw [hp]; simp)
          have nin : i ∉ pre := fun hm => by
            have nd : (mPlaces P w es k).Nodup := places_nodup
            rw [hp, List.nodup_append] at nd
            exact nd.2.2 i hm i (by simp) rfl
          rw [hex]
          dsimp only
          rw [if_pos (show ((mEnt P w x).hash == mHash P w k) = true by simp [mEnt, hh])]
          refine wpAny_bind (wpAny_dictEpoch ho hd (wpAny_bind (mIs.eqBool hu (his x (List.mem_of_getElem? hx)) hkey (wpAny_bind (wpAny_dictEpoch ho hd ?_)))))
          show wpAny _ _ (if (ep != ep) = true then _ else _) _ E _
          rw [if_neg (by simp)]
          by_cases e : x.1 = k
          · rw [decide_eq_true e]
            rcases hH with ⟨rfl, hno⟩ | ⟨j, y, rfl, hj, hy, e'⟩
            · first | rw [if_pos rfl] | skip
              simp only [Option.isSome_none, Bool.false_eq_true, if_false]
              first | refine wpAny_bind (wpAny_pure ?_) | skip
              refine wpAny_bind (wpAny_rule ?_)
              split
              · exact wpAny_pure (wpAny_pure (hsome i x hx e))
              · exact wpAny_pure ⟨rfl, pre ++ [i], some i, rfl, by rw [hp]; simp, .inr ⟨i, x, rfl, by simp, hx, e⟩⟩
            · exact absurd (mix_once hn hy hx (by rw [e, e']) ▸ hj) nin
          · rw [decide_eq_false e]
            simp only [Bool.false_eq_true, if_false]
            refine wpAny_bind (wpAny_rule ?_)
            first | rw [if_neg (by simp)] | skip
            refine wpAny_pure ⟨rfl, pre ++ [i], hit, rfl, by rw [hp]; simp, ?_⟩
            rcases hH with ⟨h0, hno⟩ | ⟨j, y, h0, hj, hy, e'⟩
            · refine .inl ⟨h0, fun j hj y hy => ?_⟩
              rcases List.mem_append.mp hj with hj | hj
              · exact hno j hj y hy
              · rw [List.mem_singleton] at hj
                subst hj
                rw [hx] at hy
                cases hy
                exact e
            · exact .inr ⟨j, y, h0, List.mem_append_left _ hj, hy, e'⟩
        · rintro b s' ⟨rfl, pre, hit, rfl, hp, hH⟩
          rw [List.append_nil] at hp
          rcases hH with ⟨rfl, hno⟩ | ⟨j, y, rfl, hj, hy, e'⟩
          · exact wpAny_pure (hnone fun j x hx e => hno j (by rw [← hp]; exact place_of he hx e) x hx e)
          · exact wpAny_pure (hsome j y hy e'))
end
end DL

/-! ### 79. a dict whose keys are of either kind -/
namespace DL
open L2 PyProof.Rows PySem PySem.Spec PySem.W
def DictM (P : Program) (w : World) (h : Heap) (d : Addr) (xs : List MEnt) : Prop :=
  ∃ o es ep, h.get? d = some o ∧ o.ExactDict ∧ o.data = .dict es ep ∧ es.toList = xs.map (mEnt P w) ∧ (∀ x ∈ xs, mIs P w h x.1 x.2.1) ∧ (xs.map (·.1)).Nodup
def atM (xs : List MEnt) (k : MKey) : Option MEnt := xs.find? fun x => decide (x.1 = k)
def ptM (k : MKey) (key v : Value) : List MEnt → List MEnt
  | [] => [(k, key, v)]
  | x :: xs => if x.1 = k then (x.1, x.2.1, v) :: xs else x :: ptM k key v xs
theorem atM_none {xs : List MEnt} {k : MKey} (h : ∀ (j : Nat) (x : MEnt), xs[j]? = some x → x.1 ≠ k) : atM xs k = none := by
  unfold atM
  rw [List.find?_eq_none]
  intro x hx e
  obtain ⟨j, hj⟩ := List.mem_iff_getElem?.mp hx
  exact h j x hj (of_decide_eq_true e)
theorem atM_some {xs : List MEnt} {k : MKey} (hn : (xs.map (·.1)).Nodup) {j : Nat} {x : MEnt} (hx : xs[j]? = some x) (e : x.1 = k) : atM xs k = some x := by
  cases h : atM xs k with
  | none => exact absurd (decide_eq_true e) (by have := List.find?_eq_none.mp h x (List.mem_of_getElem? hx); exact this)
  | some y =>
    have hy := List.find?_some h
    obtain ⟨i, hi⟩ := List.mem_iff_getElem?.mp (List.mem_of_find?_eq_some h)
    have := mix_once hn hx hi (by rw [e]; exact (of_decide_eq_true hy).symm)
    subst this
    rw [hx] at hi
    exact hi.symm
theorem ptM_new {k : MKey} {key v : Value} : ∀ {xs : List MEnt}, (∀ (j : Nat) (x : MEnt), xs[j]? = some x → x.1 ≠ k) → ptM k key v xs = xs ++ [(k, key, v)]
  | [], _ => rfl
  | x :: xs, h => by
    unfold ptM
    rw [if_neg (h 0 x rfl), ptM_new fun j y hy => h (j + 1) y (by simpa using hy)]; rfl
theorem ptM_old {k : MKey} {key v : Value} : ∀ {xs : List MEnt} {j : Nat} {x : MEnt}, (xs.map (·.1)).Nodup → xs[j]? = some x → x.1 = k → ptM k key v xs = xs.modify j fun x => (x.1, x.2.1, v)
  | [], _, _, _, h, _ => by simp at h
  | y :: xs, 0, x, hn, h, e => by
    simp only [List.getElem?_cons_zero, Option.some.injEq] at h
    subst h
    unfold ptM
    rw [if_pos e]; rfl
  | y :: xs, j + 1, x, hn, h, e => by
    simp only [List.getElem?_cons_succ] at h
    rw [List.map_cons, List.nodup_cons] at hn
    unfold ptM
    rw [if_neg (fun z => hn.1 (by rw [z, ← e]; exact List.mem_map.mpr ⟨x, List.mem_of_getElem? h, rfl⟩)), ptM_old hn.2 h e]; rfl
theorem ptM_mem {k : MKey} {key v : Value} : ∀ {xs : List MEnt} {x : MEnt}, x ∈ ptM k key v xs → x = (k, key, v) ∨ ∃ y ∈ xs, x.1 = y.1 ∧ x.2.1 = y.2.1
  | [], x, h => .inl (List.mem_singleton.mp h)
  | y :: xs, x, h => by
    unfold ptM at h
    by_cases e : y.1 = k
    · rw [if_pos e] at h
      rcases List.mem_cons.mp h with rfl | h
      · exact .inr ⟨y, List.mem_cons_self, rfl, rfl⟩
      · exact .inr ⟨x, List.mem_cons_of_mem _ h, rfl, rfl⟩
    · rw [if_neg e] at h
      rcases List.mem_cons.mp h with rfl | h
      · exact .inr ⟨_, List.mem_cons_self, rfl, rfl⟩
      · rcases ptM_mem h with h | ⟨z, hz, h⟩
        · exact .inl h
        · exact .inr ⟨z, List.mem_cons_of_mem _ hz, h⟩
theorem ptM_nodup {k : MKey} {key v : Value} : ∀ {xs : List MEnt}, (xs.map (·.1)).Nodup → ((ptM k key v xs).map (·.1)).Nodup
  | [], _ => by simp [ptM]
  | y :: xs, hn => by
    rw [List.map_cons, List.nodup_cons] at hn
    unfold ptM
    by_cases e : y.1 = k
    · rw [if_pos e, List.map_cons, List.nodup_cons]; exact hn
    · rw [if_neg e, List.map_cons, List.nodup_cons]
      refine ⟨fun h => ?_, ptM_nodup hn.2⟩
      obtain ⟨z, hz, ez⟩ := List.mem_map.mp h
      rcases ptM_mem hz with rfl | ⟨u, hu, e1, _⟩
      · exact e ez.symm
      · exact hn.1 (by rw [← ez, e1]; exact List.mem_map.mpr ⟨u, hu, rfl⟩)
theorem ptM_length {k : MKey} {key v : Value} : ∀ {xs : List MEnt}, (ptM k key v xs).length ≤ xs.length + 1
  | [] => Nat.le_refl _
  | y :: xs => by
    unfold ptM
    split
    · simp
    · have := ptM_length (k := k) (key := key) (v := v) (xs := xs)
      simp only [List.length_cons]; omega
section
variable {P : Program} {w : World} {A : Around} {E : Value → Shared → Prop} {s : Shared} {d : Addr} {xs : List MEnt} {k : MKey} {key : Value}
theorem DictM.typeIs (x : DictM P w s.heap d xs) : s.TypeIs (.ref d) "dict" := let ⟨o, _, _, ho, hc, _⟩ := x; ⟨o, ho, hc.1⟩
theorem DictM.new (h : Heap) : DictM P w (h.push { cls := .type "dict", data := .dict #[] }) h.objs.size [] :=
  ⟨_, #[], 0, Heap.get?_push_size _ rfl, ⟨rfl, rfl, rfl⟩, rfl, rfl, by simp, List.nodup_nil⟩
theorem get_mix {Q : Option Value → Shared → Prop} (hu : A.units < cLine) (hkey : mIs P w s.heap k key) (hm : DictM P w s.heap d xs) (h : Q ((atM xs k).map (·.2.2)) { s with toks := s.toks + mDraws k }) : wpAny (model P w) A (dictGet d key) Q E s := by
  obtain ⟨o, es, ep, ho, _, hd, he, his, hn⟩ := hm
  unfold dictGet
  try with_reducible refine wpAny_holding ?_
  refine wpAny_bind (mIs.pyHash hu hkey (wpAny_bind (find_mix (s := { s with toks := s.toks + mDraws k }) hu hkey ho hd he his hn ?_ ?_)))
  · intro hno
    rw [atM_none hno] at h
    exact wpAny_pure h
  · intro j x hj e
    rw [atM_some hn hj e] at h
    refine wpAny_bind (wpAny_dictEntries (s := { s with toks := s.toks + mDraws k }) ho hd ?_)
    rw [ment_at he j, hj]
    exact wpAny_pure h
theorem set_mix {v : Value} {Q : Unit → Shared → Prop} (hu : A.units < cLine) (hkey : mIs P w s.heap k key) (hm : DictM P w s.heap d xs)
    (hQ : ∀ h', DictM P w h' d (ptM k key v xs) → Heap.SameBut d s.heap h' → Q () { s with heap := h', toks := s.toks + mDraws k }) (hsz : xs.length ≤ sizeLine) : wpAny (model P w) A (dictSet d key v) Q E s := by
  obtain ⟨o, es, ep, ho, hc, hd, he, his, hn⟩ := hm
  have keep : ∀ {h'}, Heap.SameBut d s.heap h' → ∀ x ∈ ptM k key v xs, mIs P w h' x.1 x.2.1 := fun {h'} hs x hx => by
    rcases ptM_mem hx with rfl | ⟨y, hy, e1, e2⟩
    · exact hkey.keeps ho hd hs
    · rw [e1, e2]; exact (his y hy).keeps ho hd hs
  unfold dictSet
  try with_reducible refine wpAny_holding ?_
  refine wpAny_bind (mIs.pyHash hu hkey ?_)
  unfold dictSetHashed
  try with_reducible refine wpAny_holding ?_
  refine wpAny_bind (find_mix (s := { s with toks := s.toks + mDraws k }) hu hkey ho hd he his hn ?_ ?_)
  · intro hno
    refine wpAny_bind (wpAny_rule (wpAny_updateDictKeys (hz := by have e := ment_size he; omega) (s := { s with toks := s.toks + mDraws k }) ho hd (hQ _ ⟨_, _, ep + 1, Heap.get?_update_self _ ho (Obj.isFreed_of_dict (Obj.data_mapDictKeys hd _)),
      hc.mapDictKeys _, Obj.data_mapDictKeys hd _, ?_, keep (Heap.SameBut.update ..), ptM_nodup hn⟩ (Heap.SameBut.update ..))))
    rw [ptM_new hno]
    simp [he, mEnt]
  · intro j x hj e
    refine wpAny_bind (wpAny_rule (wpAny_bind (wpAny_updateDict (s := { s with toks := s.toks + mDraws k }) ho hd (wpAny_point (hQ _ ⟨_, _, ep, Heap.get?_update_self _ ho (Obj.isFreed_of_dict (Obj.data_mapDict hd _)),
      hc.mapDict _, Obj.data_mapDict hd _, ?_, keep (Heap.SameBut.update ..), ptM_nodup hn⟩ (Heap.SameBut.update ..))))))
    rw [ptM_old hn hj e]
    obtain ⟨l⟩ := es
    have he' : l = xs.map (mEnt P w) := he
    subst he'
    simp only [List.modify_toArray]
    rw [show ∀ f : MEnt → DictEntry, ∀ g : DictEntry → DictEntry, ∀ g' : MEnt → MEnt, (∀ x, g (f x) = f (g' x)) → (xs.map f).modify j g = (xs.modify j g').map f from fun f g g' hg => by
      apply List.ext_getElem?
      intro i
      simp only [List.getElem?_modify, List.getElem?_map]
      cases xs[i]? with
      | none => rfl
      | some y => by_cases ij : j = i <;> simp [ij, hg]]
    intro x; rfl
theorem in_mix {Q : Value → Shared → Prop} (hu : A.in1.units < cLine) (hkey : mIs P w s.heap k key) (hd : (d == sysModules) = false) (hm : DictM P w s.heap d xs)
    (h : Q (.bool (atM xs k).isSome) { s with toks := s.toks + mDraws k }) : wpAny (model P w) A (compareOp .In key (.ref d)) Q E s := by
  show wpAny _ _ (do return .bool (← contains (.ref d) key)) Q E s
  refine wpAny_bind ?_
  unfold contains
  try with_reducible refine wpAny_holding ?_
  refine wpAny_bind (wpAny_specialOf hm.typeIs slot_dict_contains.lookup ?_)
  show wpAny _ _ (if (some (Value.builtin "dict.__contains__") == some Value.none) = true then _ else _) _ E s
  rw [if_neg (by rw [beq_builtin_none]; exact Bool.false_ne_true)]
  refine wpAny_bind (wpAny_callSpecialUnlessNone?_slot (name := Str.ofString "__contains__") hm.typeIs slot_dict_contains
    (wpAny_call_entry slot_dict_contains hm.typeIs entry_dict_contains ?_ (args_dict_contains _ _)))
  show wpAny _ _ (dictGet d key >>= _) _ _ s
  refine wpAny_bind (get_mix hu hkey hm ?_)
  cases hf : atM xs k with
  | some p =>
    rw [hf] at h
    show wpAny _ _ (ret (.bool true)) _ _ _
    exact wpAny_pure ⟨_, rfl, wpAny_truthy_bool (wpAny_pure h)⟩
  | none =>
    rw [hf] at h
    show wpAny _ _ (Builtin.Dict.pendingKey? d key >>= _) _ _ _
    exact wpAny_bind (wpAny_pendingKey_other hd (wpAny_pure ⟨_, rfl, wpAny_truthy_bool (wpAny_pure h)⟩))
theorem notIn_mix {Q : Value → Shared → Prop} (hu : A.in1.units < cLine) (hkey : mIs P w s.heap k key) (hd : (d == sysModules) = false) (hm : DictM P w s.heap d xs)
    (h : Q (.bool (!(atM xs k).isSome)) { s with toks := s.toks + mDraws k }) : wpAny (model P w) A (compareOp .NotIn key (.ref d)) Q E s := by
  show wpAny _ _ (do return .bool (!(← contains (.ref d) key))) Q E s
  refine wpAny_bind ?_
  unfold contains
  try with_reducible refine wpAny_holding ?_
  refine wpAny_bind (wpAny_specialOf hm.typeIs slot_dict_contains.lookup ?_)
  show wpAny _ _ (if (some (Value.builtin "dict.__contains__") == some Value.none) = true then _ else _) _ E s
  rw [if_neg (by rw [beq_builtin_none]; exact Bool.false_ne_true)]
  refine wpAny_bind (wpAny_callSpecialUnlessNone?_slot (name := Str.ofString "__contains__") hm.typeIs slot_dict_contains
    (wpAny_call_entry slot_dict_contains hm.typeIs entry_dict_contains ?_ (args_dict_contains _ _)))
  show wpAny _ _ (dictGet d key >>= _) _ _ s
  refine wpAny_bind (get_mix hu hkey hm ?_)
  cases hf : atM xs k with
  | some p =>
    rw [hf] at h
    show wpAny _ _ (ret (.bool true)) _ _ _
    exact wpAny_pure ⟨_, rfl, wpAny_truthy_bool (wpAny_pure h)⟩
  | none =>
    rw [hf] at h
    show wpAny _ _ (Builtin.Dict.pendingKey? d key >>= _) _ _ _
    exact wpAny_bind (wpAny_pendingKey_other hd (wpAny_pure ⟨_, rfl, wpAny_truthy_bool (wpAny_pure h)⟩))
theorem item_mix {p : MEnt} {Q : Value → Shared → Prop} (hu : A.in1.units < cLine) (hkey : mIs P w s.heap k key) (hm : DictM P w s.heap d xs) (hp : atM xs k = some p)
    (h : Q p.2.2 { s with toks := s.toks + mDraws k }) : wpAny (model P w) A (getItem (.ref d) key) Q E s := by
  unfold getItem
  try with_reducible refine wpAny_holding ?_
  refine wpAny_bind (wpAny_sequenceKey hm.typeIs (by decide) ?_)
  refine wpAny_bind (wpAny_callSpecial?_slot (name := Str.ofString "__getitem__") hm.typeIs slot_dict_getitem
    (wpAny_call_entry slot_dict_getitem hm.typeIs entry_dict_getitem ?_ (args_dict_getitem _ _)))
  show wpAny _ _ (dictGet d key >>= _) _ _ s
  refine wpAny_bind (get_mix hu hkey hm ?_)
  rw [hp]
  exact wpAny_pure ⟨p.2.2, rfl, wpAny_pure h⟩
theorem put_mix {v : Value} {Q : Unit → Shared → Prop} (hu : A.in1.units < cLine) (hkey : mIs P w s.heap k key) (hm : DictM P w s.heap d xs)
    (hQ : ∀ h', DictM P w h' d (ptM k key v xs) → Heap.SameBut d s.heap h' → Q () { s with heap := h', toks := s.toks + mDraws k }) (hsz : xs.length ≤ sizeLine) :
    wpAny (model P w) A (setItem (.ref d) key v) Q E s := by
  unfold setItem
  try with_reducible refine wpAny_holding ?_
  refine wpAny_bind (wpAny_sequenceKey hm.typeIs (by decide) ?_)
  refine wpAny_bind (wpAny_callSpecial?_slot (name := Str.ofString "__setitem__") hm.typeIs slot_dict_setitem
    (wpAny_call_entry slot_dict_setitem hm.typeIs entry_dict_setitem ?_ (args_dict_setitem _ _ _)))
  show wpAny _ _ (Builtin.Dict.notOrdered "__setitem__" ⟨[.ref d, key, v], []⟩ >>= _) _ _ s
  refine wpAny_bind (wpAny_notOrdered_dict hm.typeIs ?_)
  show wpAny _ _ (dictSet d key v >>= _) _ _ s
  exact wpAny_bind (set_mix (hsz := hsz) hu hkey hm fun h' hm' hs' => wpAny_pure ⟨.none, rfl, wpAny_pure (hQ h' hm' hs')⟩)
end
end DL

/-! ### 80. such a dict in the abstract heap -/
namespace DL
open L2 PyProof.Rows PySem PySem.Spec PySem.W
abbrev MV := MKey × V × V
abbrev mixRel : List MV → List MEnt → Prop := Paired fun (p : MV) (q : MEnt) => p.1 = q.1 ∧ RelV p.2.1 q.2.1 ∧ RelV p.2.2 q.2.2
def mEntF (hf : MKey → Int) (x : MEnt) : DictEntry := ⟨hf x.1, x.2.1, x.2.2⟩
/-- hf: how keys are hashed; mHash P w in the world w -/
def mixO (hf : MKey → Int) (a : Addr) (o : Obj) (kvs : List MV) : HO := .ext fun h => kvs.length ≤ sizeLine ∧ (a == sysModules) = false ∧
  ∃ xs es ep, mixRel kvs xs ∧ h.get? a = some o ∧ o.ExactDict ∧ o.data = .dict es ep ∧ es.toList = xs.map (mEntF hf) ∧ (xs.map (·.1)).Nodup
/-- the module's names, and how keys are hashed -/
structure MG where
  g : Str → Option Value
  hf : MKey → Int
abbrev mhOf (P : Program) (w : World) (mg : Str → Option Value) : MG := ⟨mg, mHash P w⟩
def KeyAt (H : Hp) : MKey → V → Prop
  | .inl k, v => v = kV k
  | .inr ks, v => ∃ b, v = .ref b ∧ H b = some (.tup (ks.map kV))
def mval (kvs : List MV) (k : MKey) : Option V := (kvs.find? fun p => decide (p.1 = k)).map (·.2.2)
def mput (k : MKey) (y v : V) : List MV → List MV
  | [] => [(k, y, v)]
  | x :: xs => if x.1 = k then (x.1, x.2.1, v) :: xs else x :: mput k y v xs
theorem mixRel.val {k : MKey} : ∀ {kvs : List MV} {xs : List MEnt}, mixRel kvs xs → RelO (mval kvs k) ((atM xs k).map (·.2.2))
  | _, _, .nil => trivial
  | p :: kvs, q :: xs, .cons r t => by
    unfold mval atM
    rw [List.find?_cons, List.find?_cons, r.1]
    by_cases e : q.1 = k
    · rw [decide_eq_true e]; exact r.2.2
    · rw [decide_eq_false e]; exact mixRel.val t
theorem mixRel.put {k : MKey} {y v : V} {u r : Value} (ry : RelV y u) (rv : RelV v r) : ∀ {kvs : List MV} {xs : List MEnt}, mixRel kvs xs → mixRel (mput k y v kvs) (ptM k u r xs)
  | _, _, .nil => .cons ⟨rfl, ry, rv⟩ .nil
  | p :: kvs, q :: xs, .cons h t => by
    unfold mput ptM
    rw [h.1]
    by_cases e : q.1 = k
    · rw [if_pos e, if_pos e]; exact .cons ⟨rfl, h.2.1, rv⟩ t
    · rw [if_neg e, if_neg e]; exact .cons h (mixRel.put ry rv t)
theorem mput_len {k : MKey} {y v : V} : ∀ {kvs : List MV}, (mput k y v kvs).length ≤ kvs.length + 1
  | [] => Nat.le_refl _
  | x :: xs => by
    unfold mput
    split
    · simp
    · have := mput_len (k := k) (y := y) (v := v) (kvs := xs)
      simp only [List.length_cons]; omega
section
variable {X : Cx} {pins : List (Addr × Obj)} {σ : L2.St} {H : Hp} {s : Shared} {a : Addr} {y v : V} {u r : Value} {A : Around} {E : Value → Shared → Prop} {kvs : List MV} {k : MKey}
theorem key_mix {P : Program} {w : World} {h : Heap} (ok : HOk P w H h) (ky : KeyAt H k y) (ry : RelV y u) : mIs P w h k u := by
  cases k with
  | inl k =>
    have e : y = kV k := ky
    subst e
    exact kV_is (P := P) (w := w) ry
  | inr ks =>
    obtain ⟨b, rfl, eb⟩ := ky
    cases (show u = Value.ref b from ry)
    exact ⟨b, rfl, key_of ok eb⟩
theorem mix_of {o : Obj} (I : Inv X pins σ H s) (e : H a = some (mixO (mHash X.prog X.w) a o kvs)) (ks : ∀ p ∈ kvs, ∀ u, RelV p.2.1 u → mIs X.prog X.w s.heap p.1 u) : kvs.length ≤ sizeLine ∧ (a == sysModules) = false ∧ ∃ xs, mixRel kvs xs ∧ DictM X.prog X.w s.heap a xs := by
  obtain ⟨⟨z, hd, xs, es, ep, rel, ho, hc, hda, he, hn⟩, _, _⟩ := I.hok a _ e
  refine ⟨z, hd, xs, rel, o, es, ep, ho, hc, hda, he, ?_, hn⟩
  intro x hx
  obtain ⟨j, hj⟩ := List.mem_iff_getElem?.mp hx
  have : ∀ {kvs : List MV} {xs : List MEnt} {j : Nat}, mixRel kvs xs → xs[j]? = some x → ∃ p ∈ kvs, p.1 = x.1 ∧ RelV p.2.1 x.2.1 := by
    intro kvs xs j rel hj
    induction rel generalizing j with
    | nil => simp at hj
    | cons r t ih =>
      cases j with
      | zero =>
        simp only [List.getElem?_cons_zero, Option.some.injEq] at hj
        subst hj
        exact ⟨_, List.mem_cons_self, r.1, r.2.1⟩
      | succ j =>
        simp only [List.getElem?_cons_succ] at hj
        obtain ⟨p, hp, z⟩ := ih hj
        exact ⟨p, List.mem_cons_of_mem _ hp, z⟩
  obtain ⟨p, hp, e1, r1⟩ := this rel hj
  rw [← e1]
  exact ks p hp _ r1
/-- d[y], there -/
theorem m_getItem {o : Obj} {Q : Value → Shared → Prop} (hu : A.units + 1 < cLine) (I : Inv X pins σ H s) (e : H a = some (mixO (mHash X.prog X.w) a o kvs)) (ks : ∀ p ∈ kvs, ∀ u, RelV p.2.1 u → mIs X.prog X.w s.heap p.1 u) (ku : mIs X.prog X.w s.heap k u) (hv : mval kvs k = some v)
    (h : ∀ w' s', Inv X pins σ H s' → RelV v w' → Q w' s') : wpAny (model X.prog X.w) A (getItem (.ref a) u) Q E s := by
  obtain ⟨_, _, xs, rel, dm⟩ := mix_of I e ks
  obtain ⟨w', hw, rw'⟩ := RelO.some_of (v := v) (o := (atM xs k).map (·.2.2)) (by have := rel.val (k := k); rw [hv] at this; exact this)
  obtain ⟨p, hp, hp2⟩ := Option.map_eq_some_iff.mp hw
  refine item_mix hu ku dm hp ?_
  rw [hp2]
  exact h w' _ (I.tok _) rw'
/-- y in d -/
theorem m_in {o : Obj} {Q : Value → Shared → Prop} (hu : A.units + 1 < cLine) (I : Inv X pins σ H s) (e : H a = some (mixO (mHash X.prog X.w) a o kvs)) (ks : ∀ p ∈ kvs, ∀ u, RelV p.2.1 u → mIs X.prog X.w s.heap p.1 u) (ku : mIs X.prog X.w s.heap k u)
    (h : ∀ s', Inv X pins σ H s' → Q (.bool (mval kvs k).isSome) s') : wpAny (model X.prog X.w) A (compareOp .In u (.ref a)) Q E s := by
  obtain ⟨_, hd, xs, rel, dm⟩ := mix_of I e ks
  refine in_mix hu ku hd dm ?_
  have q := (rel.val (k := k)).isSome_eq
  rw [Option.isSome_map] at q
  rw [← q]
  exact h _ (I.tok _)
/-- y not in d -/
theorem m_notIn {o : Obj} {Q : Value → Shared → Prop} (hu : A.units + 1 < cLine) (I : Inv X pins σ H s) (e : H a = some (mixO (mHash X.prog X.w) a o kvs)) (ks : ∀ p ∈ kvs, ∀ u, RelV p.2.1 u → mIs X.prog X.w s.heap p.1 u) (ku : mIs X.prog X.w s.heap k u)
    (h : ∀ s', Inv X pins σ H s' → Q (.bool (!(mval kvs k).isSome)) s') : wpAny (model X.prog X.w) A (compareOp .NotIn u (.ref a)) Q E s := by
  obtain ⟨_, hd, xs, rel, dm⟩ := mix_of I e ks
  refine notIn_mix hu ku hd dm ?_
  have q := (rel.val (k := k)).isSome_eq
  rw [Option.isSome_map] at q
  rw [← q]
  exact h _ (I.tok _)
/-- d[y] = v -/
theorem m_setItem {o : Obj} {Q : Unit → Shared → Prop} (hu : A.units + 1 < cLine) (I : Inv X pins σ H s) (e : H a = some (mixO (mHash X.prog X.w) a o kvs)) (ks : ∀ p ∈ kvs, ∀ u, RelV p.2.1 u → mIs X.prog X.w s.heap p.1 u) (ku : mIs X.prog X.w s.heap k u) (hl : kvs.length < sizeLine) (ry : RelV y u) (rv : RelV v r)
    (h : ∀ o' s', Inv X pins σ (upd H a (mixO (mHash X.prog X.w) a o' (mput k y v kvs))) s' → Q () s') : wpAny (model X.prog X.w) A (setItem (.ref a) u r) Q E s := by
  obtain ⟨z, hd, xs, rel, dm⟩ := mix_of I e ks
  have xl : xs.length = kvs.length := (Paired.length rel).symm
  refine put_mix hu ku dm (fun h' dm' hs => ?_) (by omega)
  obtain ⟨o', es, ep, ho, hc, hda, he, his, hn⟩ := dm'
  refine h o' _ (d_write I (by rw [e]; trivial) hs ⟨o', ho⟩ ?_)
  have l2 := mput_len (k := k) (y := y) (v := v) (kvs := kvs)
  refine ⟨⟨by omega, hd, _, es, ep, rel.put ry rv, ho, hc, hda, he, hn⟩, ⟨o', ho⟩, ?_⟩
  rintro h1 h2 ⟨z1, z2, xs, es, ep, rel, ho, hc, hda, he, hn⟩ st
  exact ⟨z1, z2, xs, es, ep, rel, st _ ho, hc, hda, he, hn⟩
end
/-- a new one, empty -/
theorem mixO_new {P : Program} {w : World} {H : Hp} {h : Heap} (hs : (h.objs.size == sysModules) = false) : ObjOk P w H (h.push { cls := .type "dict", data := .dict #[] }) h.objs.size (mixO (mHash P w) h.objs.size { cls := .type "dict", data := .dict #[] } []) := by
  refine ⟨⟨by show 0 ≤ _; omega, hs, [], #[], 0, .nil, Heap.get?_push_size _ rfl, ⟨rfl, rfl, rfl⟩, rfl, rfl, List.nodup_nil⟩, ⟨_, Heap.get?_push_size _ rfl⟩, ?_⟩
  rintro h1 h2 ⟨z1, z2, xs, es, ep, rel, ho, hc, hda, he, hn⟩ st
  exact ⟨z1, z2, xs, es, ep, rel, st _ ho, hc, hda, he, hn⟩
end DL
namespace L2
abbrev Cx.mh (X : Cx) : DL.MG := DL.mhOf X.prog X.w X.mg
end L2

/-! ### 81. such a dict is walked -/
namespace DL
open L2 PyProof.Rows PySem PySem.Spec PySem.W
/-- its keys, its items, each turn -/
def Itxk (hf : MKey → Int) (d : Addr) (o : Obj) (kvs : List MV) : It :=
  ⟨fun i H => H d = some (mixO hf d o kvs) ∧ i < kvs.length, fun i H x H' => H' = H ∧ ∃ k v, kvs[i]? = some (k, x, v), fun i H => H d = some (mixO hf d o kvs) ∧ kvs.length ≤ i⟩
def Itxi (hf : MKey → Int) (d : Addr) (o : Obj) (kvs : List MV) : It :=
  ⟨fun i H => H d = some (mixO hf d o kvs) ∧ i < kvs.length, fun i H x H' => ∃ T k y v, kvs[i]? = some (k, y, v) ∧ x = .ref T ∧ H T = none ∧ H' = upd H T (.tup [y, v]), fun i H => H d = some (mixO hf d o kvs) ∧ kvs.length ≤ i⟩
section
variable {X : Cx} {pins : List (Addr × Obj)} {σ : L2.St} {H : Hp} {s : Shared} {d : Addr} {o : Obj} {kvs : List MV} {hf : MKey → Int}
theorem mix_raw (I : Inv X pins σ H s) (e : H d = some (mixO hf d o kvs)) : (d == sysModules) = false ∧ s.heap.get? d = some o ∧ o.ExactDict ∧ ∃ (es : Array DictEntry) (ep : Nat), o.data = .dict es ep ∧ es.size = kvs.length ∧
    ∀ (i : Nat) (k : MKey) (y v : V), kvs[i]? = some (k, y, v) → ∃ en, es[i]? = some en ∧ RelV y en.key ∧ RelV v en.val := by
  obtain ⟨⟨z, hd, xs, es, ep, rel, ho, hc, hda, he, hn⟩, _, _⟩ := I.hok d _ e
  have l1 : es.size = xs.length := by rw [← Array.length_toList, he, List.length_map]
  refine ⟨hd, ho, hc, es, ep, hda, by rw [l1]; exact (Paired.length rel).symm, fun i k y v hi => ?_⟩
  obtain ⟨q, hq, r⟩ := L2.paired_get rel hi
  exact ⟨mEntF hf q, by rw [← Array.getElem?_toList, he, List.getElem?_map, hq]; rfl, r.2.1, r.2.2⟩
end
section
variable {P : Program} {w : World} {K : PySem.W.Frag} {tg : Expr} {d : Addr} {o : Obj} {es : Array DictEntry} {ep : Nat} {hf : MKey → Int}
theorem turn_keysX {kvs : List MV} (it : Addr) (hod : o.data = .dict es ep) : Turn P w K tg (Itxk hf d o kvs) [it] it (fun i h => h.IsKeyIter it d i kvs.length ep) where
  mem := by simp
  obj := fun i h st b hb => by
    have e : b = it := by simpa using hb
    subst e
    obtain ⟨oi, e, c, dd⟩ := st
    exact ⟨oi, e, fun v z => by rw [dd] at z; cases z⟩
  keep := fun i h h' st k => st.at fun oi e => k it (by simp) oi e
  item := by
    intro X hP hw hK hc i pins s σ H E I hfp st hg
    subst hP hw hK
    obtain ⟨hd, hi⟩ := hg
    obtain ⟨f0, f1, f2, f3, f4, f5⟩ := hfp it (by simp)
    obtain ⟨hs, hgd, hx, es', ep', hdt, hsz, ent⟩ := mix_raw I hd
    obtain ⟨rfl, rfl⟩ := L2.dict_ep hod hdt
    obtain ⟨⟨k, y, v⟩, hkv⟩ : ∃ p, kvs[i]? = some p := ⟨kvs[i], List.getElem?_eq_getElem hi⟩
    obtain ⟨en, hen, hkey, hval⟩ := ent i k y v hkv
    refine L2.next_key_item st hgd hdt hsz hen fun h' st' sb => ?_
    have I1 : Inv X pins σ H { s with heap := h' } := I.turned (t' := s.toks) (fun b ob hb e => (sb.2 b hb).trans e) f0 f1 f3 f4 f5
    obtain ⟨oi, e, c, dd⟩ := id st'
    exact ⟨en.key, rfl, go_of (s := { s with heap := h' }) e c dd (by decide) ⟨y, H, I1, hkey, ⟨rfl, k, v, hkv⟩, st', fun b hb => (hfp b hb).1⟩⟩
  done := by
    intro X hP hw hK hc i pins s σ H E I hfp st hg
    subst hP hw hK
    obtain ⟨hd, hi⟩ := hg
    obtain ⟨f0, f1, f2, f3, f4, f5⟩ := hfp it (by simp)
    obtain ⟨hs, hgd, hx, es', ep', hdt, hsz, ent⟩ := mix_raw I hd
    obtain ⟨rfl, rfl⟩ := L2.dict_ep hod hdt
    exact L2.next_key_end (I.ok.hd hc) st hgd hdt hsz hi fun h' eb => ⟨rfl, I.turned (t' := s.toks) (fun b ob hb e => eb b ob hb e) f0 f1 f3 f4 f5⟩
  self := fun A i s Q E st h => wpAny_pyIter_keyiter st h
theorem turn_itemsX {kvs : List MV} {elts : List Expr} {kk : Nat} {tpos : Pos} (it : Addr) (hod : o.data = .dict es ep) :
    Turn P w K (.Tuple elts kk tpos) (Itxi hf d o kvs) [it] it (fun i h => ∃ ok ov, IsItemIter h it d i kvs.length ep ok ov) where
  mem := by simp
  obj := fun i h st b hb => by
    have e : b = it := by simpa using hb
    subst e
    obtain ⟨ok, ov, e⟩ := st
    exact ⟨_, e, fun v z => nomatch z⟩
  keep := fun i h h' st k => let ⟨ok, ov, e⟩ := st; ⟨ok, ov, k it (by simp) _ e⟩
  item := by
    intro X hP hw hK hc i pins s σ H E I hfp st hg
    subst hP hw hK
    obtain ⟨hd, hi⟩ := hg
    obtain ⟨hs, hgd, hx, es', ep', hdt, hsz, ent⟩ := mix_raw I hd
    obtain ⟨rfl, rfl⟩ := L2.dict_ep hod hdt
    obtain ⟨⟨k, y, v⟩, hkv⟩ : ∃ p, kvs[i]? = some p := ⟨kvs[i], List.getElem?_eq_getElem hi⟩
    obtain ⟨en, hen, hkey, hval⟩ := ent i k y v hkv
    obtain ⟨ok, ov, he⟩ := st
    rw [← hsz] at he
    have hlt : it < s.heap.objs.size := Heap.lt_size he
    obtain ⟨hi2, hen2⟩ := Array.getElem?_eq_some_iff.mp hen
    refine DT.nextI (es := es') (ep := ep') he ⟨o, hgd, hx, hdt⟩ hi2 fun h' ho hT hz hk => ?_
    rw [hen2] at ho hT
    refine ⟨_, rfl, wpAny_letOwnedTupleGo_items (s := { s with heap := h' }) ho fun h'' he' sb => ?_⟩
    have hT2 : h''.get? s.heap.objs.size = some { cls := .type "tuple", data := .seq #[en.key, en.val] } := (sb.2 _ (Nat.ne_of_gt hlt)).trans hT
    have new : ObjOk X.prog X.w (upd H s.heap.objs.size (.tup [y, v])) h'' s.heap.objs.size (.tup [y, v]) :=
      ⟨by show 2 ≤ sizeLine; decide, [en.key, en.val], .cons hkey (.cons hval .nil), ⟨_, hT2, rfl, _, rfl⟩⟩
    have I1 : Inv X pins σ (upd H s.heap.objs.size (.tup [y, v])) { s with heap := h'' } :=
      I.turnedNew (t' := s.toks) (ch := [it]) (fun b ob hb e => (sb.2 b (by simpa using hb)).trans (hk b ob (by simpa using hb) e)) hfp (Nat.le_refl _) new
    refine ⟨.ref s.heap.objs.size, _, I1, rfl, ⟨_, k, y, v, hkv, rfl, I.hok.fresh (Nat.le_refl _), rfl⟩, ⟨en.key, en.val, ?_⟩, fun b hb => ?_⟩
    · rw [← hsz]; exact he'
    · have e : b = it := by simpa using hb
      rw [e, upd_ne (Nat.ne_of_lt hlt)]
      exact (hfp it (by simp)).1
  done := by
    intro X hP hw hK hc i pins s σ H E I hfp st hg
    subst hP hw hK
    obtain ⟨hd, hi⟩ := hg
    obtain ⟨f0, f1, f2, f3, f4, f5⟩ := hfp it (by simp)
    obtain ⟨hs, hgd, hx, es', ep', hdt, hsz, ent⟩ := mix_raw I hd
    obtain ⟨rfl, rfl⟩ := L2.dict_ep hod hdt
    obtain ⟨ok, ov, he⟩ := st
    rw [← hsz] at he
    exact DT.endI (es := es') (ep := ep') (I.ok.hd hc) he ⟨o, hgd, hx, hdt⟩ (by omega) fun h' eb => ⟨rfl, I.turned (t' := s.toks) (fun b ob hb e => eb b ob hb e) f0 f1 f3 f4 f5⟩
  self := fun A i s Q E st h => let ⟨_, _, e⟩ := st; PySem.W.kcp_self e h
end
section
variable {X : Cx} {tg e : Expr} {td : TE} {apos cpos : Pos}
def iItemsX (hf : MKey → Int) (td : TE) : TI := fun σ H R => td σ H fun x H1 => ∃ d o kvs, x = .ref d ∧ H1 d = some (mixO hf d o kvs) ∧ R (Itxi hf d o kvs) H1
theorem iter_keysX {hf : MKey → Int} {pins : List (Addr × Obj)} {s : Shared} {σ : L2.St} {H : Hp} {R : It → Hp → Prop} {a : Addr} {o : Obj} {ws : List MV} (I : Inv X pins σ H s) (hd : H a = some (mixO hf a o ws)) (q : R (Itxk hf a o ws) H) :
    wpAny (model X.prog X.w) X.A (pyIter (.ref a)) (PIE X pins σ tg R) X.xe s := by
  obtain ⟨hs, hgd, hx, es, ep, hdt, hsz, ent⟩ := mix_raw I hd
  refine L2.iter_keys hs hgd hx hdt (pi_one (tk := s.toks) I _ (turn_keysX _ hdt) ⟨_, Heap.get?_push_size _ rfl, rfl, ?_⟩ q)
  rw [hsz] <;> rfl
theorem iter_itemsX {hf : MKey → Int} {pins : List (Addr × Obj)} {s1 : Shared} {σ : L2.St} {H1 : Hp} {R : It → Hp → Prop} {d : Addr} {o : Obj} {kvs : List MV} {elts : List Expr} {kk : Nat} {tpos : Pos} (I1 : Inv X pins σ H1 s1) (hd : H1 d = some (mixO hf d o kvs)) (q : R (Itxi hf d o kvs) H1) :
    s1.TypeIs (.ref d) "dict" ∧ (∃ od, s1.heap.get? d = some od ∧ od.dict = none) ∧ wpAny (model X.prog X.w) X.A (call (.builtin "dict.items") [.ref d]) (fun v s2 => wpAny (model X.prog X.w) X.A (pyIter v) (PIE X pins σ (.Tuple elts kk tpos) R) X.xe s2) X.xe s1 := by
  obtain ⟨hs, hgd, hx, es, ep, hdt, hsz, ent⟩ := mix_raw I1 hd
  have raw : DT.Raw s1.heap d es ep := ⟨o, hgd, hx, hdt⟩
  refine ⟨raw.typeIs, ⟨o, hgd, hx.2.1⟩, ?_⟩
  have I2 : Inv X pins σ H1 { s1 with heap := s1.heap.push { cls := .type "dict_items", data := .fields #[.ref d] } } := I1.kept (t' := s1.toks) fun b ob q => Heap.get?_push_of_some _ q
  refine DT.callItems (es := es) (ep := ep) hs raw ?_
  refine DT.iterI (d := d) (es := es) (ep := ep) ⟨_, Heap.get?_push_size _ rfl, rfl, rfl⟩ (raw.push _) (pi_one (tk := s1.toks) I2 _ (turn_itemsX _ hdt) ⟨.none, .none, ?_⟩ q)
  rw [hsz]
  exact Heap.get?_push_size _ rfl
end
end DL

/-! ### 82. dict(..) of pairs -/
namespace DL
open L2 PyProof.Rows PySem PySem.Spec PySem.W
theorem mIs.mono {P : Program} {w : World} {h h' : Heap} {k : MKey} {v : Value} (x : mIs P w h k v) (q : ∀ b o, v = .ref b → h.get? b = some o → h'.get? b = some o) : mIs P w h' k v := by
  cases k with
  | inl k => exact x
  | inr ks =>
    obtain ⟨a, e, o, its, n, ho, hc, hd, hi⟩ := x
    exact ⟨a, e, o, its, n, q _ _ e ho, hc, hd, hi⟩
theorem DictM.mono {P : Program} {w : World} {h h' : Heap} {d : Addr} {xs : List MEnt} (x : DictM P w h d xs) (q : ∀ o, h.get? d = some o → h'.get? d = some o) (qk : ∀ x ∈ xs, ∀ b o, x.2.1 = .ref b → h.get? b = some o → h'.get? b = some o) : DictM P w h' d xs := by
  obtain ⟨o, es, ep, ho, hc, hd, he, his, hn⟩ := x
  exact ⟨o, es, ep, q _ ho, hc, hd, he, fun y hy => (his y hy).mono (qk y hy), hn⟩
def mmerge (acc : List MEnt) (more : List MEnt) : List MEnt := more.foldl (fun acc q => ptM q.1 q.2.1 q.2.2 acc) acc
theorem mmerge_len : ∀ {more acc : List MEnt}, (mmerge acc more).length ≤ acc.length + more.length
  | [], acc => Nat.le_refl _
  | q :: more, acc => by
    have h1 := ptM_length (k := q.1) (key := q.2.1) (v := q.2.2) (xs := acc)
    have h2 := mmerge_len (more := more) (acc := ptM q.1 q.2.1 q.2.2 acc)
    show (mmerge (ptM q.1 q.2.1 q.2.2 acc) more).length ≤ _
    rw [List.length_cons]
    omega
section
variable {prog : Program} {w : World} {A : Around} {E : Value → Shared → Prop}
theorem upd_loopX {R : Result → Shared → Prop} {S I l : Addr} {items : Array Value} {res : Value} (hh : A.handled = none) (hu : A.in1.in1.units < cLine) (hlI : l ≠ I) (hSI : S ≠ I) (hSl : S ≠ l) :
    ∀ (rest : List MEnt) (i : Nat) (acc : List MEnt) (ix : Int) (t : Tok) (s : Shared), items.size = i + rest.length → acc.length + rest.length ≤ sizeLine →
      (∀ (j : Nat) (q : MEnt), rest[j]? = some q → ∃ (b : Addr), items[i + j]? = some (.ref b) ∧ b ≠ S ∧ b ≠ I ∧ IsTup s.heap b #[q.2.1, q.2.2] ∧ mIs prog w s.heap q.1 q.2.1 ∧ q.2.1 ≠ .ref S ∧ q.2.1 ≠ .ref I) →
      (∀ x ∈ acc, x.2.1 ≠ .ref S ∧ x.2.1 ≠ .ref I) →
      s.heap.IsListIter I l i → s.heap.IsList l items → DictM prog w s.heap S acc →
      (∀ h' tk, DictM prog w h' S (mmerge acc rest) → (∀ b o, b ≠ S → b ≠ I → s.heap.get? b = some o → h'.get? b = some o) → R (.ok (.ret res)) { s with heap := h', toks := tk }) →
      codeAny (model prog w) A (.builtin "dict.update.loop" ⟨[.ref S, .ref I, .int ix t, res], []⟩) R s
  | [], i, acc, ix, t, s, hsz, hln, ht, ha, hit, hl, hm, hR => by
    refine codeAny_builtin L2.ud_entry ?_
    rw [Around.under_plainId L2.ud_plain _]
    show wpAny _ A.in1 (pyNext (.ref I) >>= _) _ _ s
    refine wpAny_bind (wpAny_pyNext_list_end (A := A.in1) hh hit hl (by first | exact Array.getElem?_eq_none (Nat.le_of_eq hsz) | (simp at hsz; simp; omega)) fun h' he => ?_)
    show wpAny _ A.in1 (Builtin.Dict.addKeywords S [] >>= _) _ _ _
    refine wpAny_bind (wpAny_pure (wpAny_pure ?_))
    exact hR h' s.toks (hm.mono (fun o e => he S o hSI e) fun x hx b o eb e => he b o (fun z => (ha x hx).2 (by rw [eb, z])) e) fun b o _ hb e => he b o hb e
  | q :: rest, i, acc, ix, t, s, hsz, hln, ht, ha, hit, hl, hm, hR => by
    obtain ⟨b, hb, hbS, hbI, htup, hk, nS, nI⟩ := ht 0 q rfl
    rw [List.length_cons] at hsz hln
    refine codeAny_builtin L2.ud_entry ?_
    rw [Around.under_plainId L2.ud_plain _]
    show wpAny _ A.in1 (pyNext (.ref I) >>= _) _ _ s
    refine wpAny_bind (wpAny_pyNext_list_item (x := .ref b) hit hl (by simpa using hb) fun h1 hit1 hs1 => ?_)
    have ht1 : IsTup h1 b #[q.2.1, q.2.2] := htup.extBut hs1.extBut hbI
    have hl1 : h1.IsList l items := hl.extBut hs1.extBut hlI
    have hm1 : DictM prog w h1 S acc := hm.mono (fun o e => hs1.extBut S o hSI e) fun x hx c o ec e => hs1.extBut c o (fun z => (ha x hx).2 (by rw [ec, z])) e
    have hk1 : mIs prog w h1 q.1 q.2.1 := hk.mono fun c o ec e => hs1.extBut c o (fun z => nI (by rw [ec, z])) e
    obtain ⟨o, ho, hc, n, hd⟩ := id ht1
    show wpAny _ A.in1 (holding [Value.ref b] _ >>= _) _ _ _
    refine wpAny_bind (wpAny_holding ?_)
    refine wpAny_bind (wpAny_tryCatch ?_)
    unfold Builtin.Dict.pairItems
    refine wpAny_bind (wpAny_typeOf (T := "tuple") ⟨o, ho, hc⟩ ?_)
    rw [if_pos (by first | decide | rfl | simp)]
    refine wpAny_bind (wpAny_seqItems ho hd (wpAny_pure ?_))
    show wpAny _ A.in1 (holding [q.2.1, q.2.2] (dictSet S q.2.1 q.2.2)) _ _ _
    refine wpAny_holding (set_mix (k := q.1) (by have e : A.in1.in1.units = A.units + 1 + 1 := rfl; have e2 : A.in1.units = A.units + 1 := rfl; omega) hk1 hm1 (fun h2 hm2 hs2 => ?_) (by omega))
    refine wpAny_pure ⟨plainId_quiet L2.ud_plain _, upd_loopX (items := items) hh hu hlI hSI hSl rest (i + 1) (ptM q.1 q.2.1 q.2.2 acc) (ix + 1) 0 _ (show items.size = i + 1 + rest.length by omega) ?_ (fun j q' e => ?_) (fun x hx => ?_) ?_ ?_ hm2 fun h' tk hd' k => ?_⟩
    · have z := ptM_length (k := q.1) (key := q.2.1) (v := q.2.2) (xs := acc)
      omega
    · obtain ⟨b', hb', hbS', hbI', htup', hk', nS', nI'⟩ := ht (j + 1) q' (by simpa using e)
      refine ⟨b', ?_, hbS', hbI', (htup'.extBut hs1.extBut hbI').extBut hs2.extBut hbS', ?_, nS', nI'⟩
      · rw [show i + 1 + j = i + (j + 1) by omega]
        exact hb'
      · exact (hk'.mono fun c o ec e => hs1.extBut c o (fun z => nI' (by rw [ec, z])) e).mono fun c o ec e => hs2.extBut c o (fun z => nS' (by rw [ec, z])) e
    · rcases ptM_mem hx with rfl | ⟨y, hy, _, e2⟩
      · exact ⟨nS, nI⟩
      · rw [e2]; exact ha y hy
    · exact hit1.at fun o' e => hs2.extBut I o' (Ne.symm hSI) e
    · exact hl1.extBut hs2.extBut (Ne.symm hSl)
    · exact hR h' tk hd' fun c oc h3 h4 e => k c oc h3 h4 (hs2.extBut c oc h3 (hs1.extBut c oc h4 e))
/-- dict(l) of a list of pairs whose keys are of either kind -/
theorem call_dictX {s : Shared} {l : Addr} {ol : Obj} {items : Array Value} {n : Nat} {prs : List MEnt} {Q : Value → Shared → Prop} (hh : A.handled = none) (hu : A.units + 8 < cLine) (hl : s.heap.get? l = some ol) (hc : ol.cls = .type "list") (hd : ol.dict = none)
    (hdat : ol.data = .seq items n) (hsz : items.size = prs.length) (hln : prs.length ≤ sizeLine)
    (ht : ∀ (j : Nat) (q : MEnt), prs[j]? = some q → ∃ (b : Addr), items[j]? = some (.ref b) ∧ IsTup s.heap b #[q.2.1, q.2.2] ∧ mIs prog w s.heap q.1 q.2.1)
    (h : ∀ h' tk, DictM prog w h' s.heap.objs.size (mmerge [] prs) → (∀ b o, s.heap.get? b = some o → h'.get? b = some o) → Q (.ref s.heap.objs.size) { s with heap := h', toks := tk }) :
    wpAny (model prog w) A (call (.type "dict") [.ref l]) Q E s := by
  refine callType_codes (Q₁ := fun obj s₁ => obj = .ref s.heap.objs.size ∧ s₁ = { s with heap := s.heap.push { cls := .type "dict", data := .dict #[] } }) PySem.F.kt_called_dict (PySem.F.kt_typeCall_dict_1 _) PySem.F.entry_dict_init (kt_code_dict_new _ ⟨rfl, rfl⟩) ?_
  rintro obj s₁ ⟨rfl, rfl⟩
  have hnew : DictM prog w (s.heap.push { cls := .type "dict", data := .dict #[] }) s.heap.objs.size [] := DictM.new s.heap
  have k0 : ∀ b o, s.heap.get? b = some o → (s.heap.push { cls := .type "dict", data := .dict #[] }).get? b = some o := fun b o e => Heap.get?_push_of_some _ e
  have hnT : Shared.TypeIs { s with heap := s.heap.push { cls := .type "dict", data := .dict #[] } } (.ref s.heap.objs.size) "dict" := hnew.typeIs
  refine ⟨hnT, PySem.F.args_dict_init_2 _ _, ?_⟩
  unfold Builtin.«dict.__init__»
  refine wpAny_bind ?_
  unfold Builtin.Dict.selfAndRest
  refine wpAny_bind (wpAny_notOrdered_dict hnT ?_)
  show wpAny _ _ (pure (s.heap.objs.size, [Value.ref l])) _ _ _
  refine wpAny_pure ?_
  show wpAny _ _ (Builtin.Dict.updateFrom "dict.__init__" s.heap.objs.size (.ref l) [] .none) _ _ _
  unfold Builtin.Dict.updateFrom
  refine wpAny_bind (wpAny_typeOf (T := "list") ⟨ol, k0 _ _ hl, hc⟩ ?_)
  rw [if_pos (by first | decide | rfl | simp)]
  refine wpAny_bind (L2.miss_list (k0 _ _ hl) hc hdat hd hh fun h1 tk1 hk1 => ?_)
  rw [if_pos (show (none : Option Value).isNone = true from rfl)]
  refine wpAny_bind (wpAny_rule ?_)
  have hl1 : h1.IsList l items := ⟨ol, hk1 _ _ (k0 _ _ hl), hc, n, hdat⟩
  have hS1 : s.heap.objs.size < h1.objs.size := by
    have e : (s.heap.push { cls := .type "dict", data := .dict #[] }).get? s.heap.objs.size = some { cls := .type "dict", data := .dict #[] } := Heap.get?_push_size _ rfl
    exact Heap.lt_size (hk1 _ _ e)
  refine wpAny_bind (wpAny_pyIter_list hl1 ?_)
  have k2 : ∀ b o, h1.get? b = some o → (h1.push { cls := .type "list_iterator", data := .fields #[.ref l, .int 0 0] }).get? b = some o := fun b o e => Heap.get?_push_of_some _ e
  have hlt : l < s.heap.objs.size := Heap.lt_size hl
  have key := upd_loopX (prog := prog) (w := w) (A := A.in1) (R := wants (fun r s₂ => r = .none ∧ Q (.ref s.heap.objs.size) s₂) E) (S := s.heap.objs.size) (I := h1.objs.size) (l := l) (items := items) (res := Value.none) hh
    (by have e : A.in1.in1.in1.units = A.units + 1 + 1 + 1 := rfl; omega) (Nat.ne_of_lt (Nat.lt_trans hlt hS1)) (Nat.ne_of_lt hS1) (Nat.ne_of_gt hlt) prs 0 [] 0 0
    { s with heap := h1.push { cls := .type "list_iterator", data := .fields #[.ref l, .int 0 0] }, toks := tk1 } (by rw [hsz, Nat.zero_add]) (by rw [List.length_nil, Nat.zero_add]; exact hln)
    (fun j q e => by
      obtain ⟨b, e1, e2, e3⟩ := ht j q e
      have hb : b < s.heap.objs.size := e2.lt
      have kl : ∀ c, q.2.1 = .ref c → c < s.heap.objs.size := fun c ec => by
        obtain ⟨ks, _, o, its, n', hoc, _⟩ := (ec ▸ e3 : mIs prog w s.heap q.1 (.ref c)).ref
        exact Heap.lt_size hoc
      exact ⟨b, by rw [Nat.zero_add]; exact e1, Nat.ne_of_lt hb, Nat.ne_of_lt (Nat.lt_trans hb hS1), e2.keeps fun c o z => k2 _ _ (hk1 _ _ (k0 _ _ z)),
        e3.mono fun c o _ z => k2 _ _ (hk1 _ _ (k0 _ _ z)), fun z => Nat.lt_irrefl _ (kl _ z), fun z => Nat.lt_irrefl _ (Nat.lt_trans hS1 (kl _ z))⟩)
    (fun x hx => nomatch hx)
    ⟨_, Heap.get?_push_size _ rfl, rfl, rfl⟩ (hl1.at fun o e => k2 _ _ e) ((hnew.mono (fun o e => hk1 _ _ e) fun x hx => nomatch hx).mono (fun o e => k2 _ _ e) fun x hx => nomatch hx)
    (fun h' tk hd' k => ⟨rfl, h h' tk hd' fun b o e => k b o (Nat.ne_of_lt (Heap.lt_size e)) (Nat.ne_of_lt (Nat.lt_trans (Heap.lt_size e) hS1)) (k2 _ _ (hk1 _ _ (k0 _ _ e)))⟩)
  first
    | exact wpAny_pure ⟨plainId_quiet L2.ud_plain _, key⟩
    | exact wpAny_bind (wpAny_pure (wpAny_pure ⟨plainId_quiet L2.ud_plain _, key⟩))
end
end DL

namespace DL
open L2 PyProof.Rows PySem PySem.Spec

/-! ### 1. data as trees -/
/-- a class of the text: its name, its fields in the order in which they are stored -/
structure CI where
  nm : Str
  fl : List Str
inductive D where
  | non
  | bl (b : Bool)
  | int (i : Int)
  | str (s : Str)
  | ty (n : String)
  | tup (xs : List D)
  | lst (xs : List D)
  | lsk (xs : List D)
  | tpk (xs : List D)
  | dct (kvs : List (Key × D))
  | mxd (kvs : List (MKey × D))
  | ins (c : CI) (fs : List D)
  | cls (c : CI)
  | exc (c : CI) (fs : List D) (a : Addr) (d : Option Addr)
  | exv (c : CI) (fs : List D)
  | ref (a : Addr)
/-- what may still be changed -/
inductive DO where
  | lst (xs : List D)
  | dct (kvs : List (Key × D))
  | ins (c : CI) (fs : List D)
  | tb (q : Str)
  | mx (kvs : List (MKey × D))
abbrev DH := Addr → Option DO
def upG (G : DH) (a : Addr) (o : DO) : DH := fun b => if b = a then some o else G b
theorem upG_same {G : DH} {a : Addr} {o : DO} : upG G a o a = some o := by unfold upG; rw [if_pos rfl]
theorem upG_ne {G : DH} {a b : Addr} {o : DO} (h : b ≠ a) : upG G a o b = G b := by unfold upG; rw [if_neg h]
theorem upG_upG {G : DH} {a : Addr} {o u : DO} : upG (upG G a o) a u = upG G a u := by
  funext b; unfold upG; split <;> rfl
theorem upG_none {G : DH} {a b : Addr} {o : DO} (h : upG G a o b = none) : b ≠ a ∧ G b = none := by
  by_cases e : b = a
  · rw [e, upG_same] at h; cases h
  · rw [upG_ne e] at h; exact ⟨e, h⟩
theorem some_ne {G : DH} {a b : Addr} {o : DO} (h : G a = some o) (h' : G b = none) : a ≠ b := by
  intro e; rw [e, h'] at h; cases h
abbrev Sl := List (Option D)
abbrev DQ := D → DH → Prop
/-- an exception: its class, its fields -/
structure Exn where
  c : CI
  fs : List D
abbrev DW := Exn → Sl → DH → Prop
abbrev DE := DW → Sl → DH → DQ → Prop
abbrev DA := DW → Sl → DH → (List D → DH → Prop) → Prop
abbrev DT := DW → Sl → DH → (Bool → DH → Prop) → Prop
structure DEnds where
  nx : Sl → DH → Prop
  rt : DQ
  ex : DW
  bk : Sl → DH → Prop := fun _ _ => False
  ct : Sl → DH → Prop := fun _ _ => False
abbrev DS := DEnds → Sl → DH → Prop

/-- a list, a tuple of the text's own -/
def KSeq (K : PySem.W.Frag) (T : String) (a : Addr) (vs : List V) : Prop :=
  ∃ (o : Obj) (its : Array Value) (n : Nat), K.lookup a = some o ∧ o.cls = .type T ∧ o.dict = none ∧ o.data = .seq its n ∧ its.size ≤ sizeLine ∧ Vals vs its.toList
def TupAt (K : PySem.W.Frag) (H : Hp) (G : DH) (a : Addr) (vs : List V) : Prop := (G a = none ∧ H a = some (.tup vs)) ∨ KSeq K "tuple" a vs
def LskAt (K : PySem.W.Frag) (H : Hp) (G : DH) (a : Addr) (vs : List V) : Prop := (G a = none ∧ ∃ o, H a = some (.frz o (.lst vs))) ∨ KSeq K "list" a vs

/-- a tuple that is known to have no dict (so that dict(..) may read it) -/
def TpkAt (H : Hp) (G : DH) (a : Addr) (vs : List V) : Prop := G a = none ∧ ∃ o : Obj, o.dict = none ∧ H a = some (.frz o (.tup vs))
/-- a key as data -/
def kyK : Key → D
  | .inl i => .int i
  | .inr s => .str s
/-- a key of either kind -/
def keyD : MKey → D
  | .inl k => kyK k
  | .inr ks => .tup (ks.map kyK)
mutual
inductive Rp (K : PySem.W.Frag) (mg : MG) (H : Hp) (G : DH) : D → V → Prop
  | non : Rp K mg H G .non .non
  | bl (b : Bool) : Rp K mg H G (.bl b) (.bl b)
  | int (i : Int) : Rp K mg H G (.int i) (.int i)
  | str (x : Str) : Rp K mg H G (.str x) (.str x)
  | ty (n : String) : Rp K mg H G (.ty n) (.ty n)
  | tup {a : Addr} {vs : List V} {xs : List D} : TupAt K H G a vs → RpL K mg H G xs vs → Rp K mg H G (.tup xs) (.ref a)
  | lst {a : Addr} {vs : List V} {xs : List D} : G a = none → H a = some (.lst vs) → RpL K mg H G xs vs → Rp K mg H G (.lst xs) (.ref a)
  | lsk {a : Addr} {vs : List V} {xs : List D} : LskAt K H G a vs → RpL K mg H G xs vs → Rp K mg H G (.lsk xs) (.ref a)
  | tpk {a : Addr} {vs : List V} {xs : List D} : TpkAt H G a vs → RpL K mg H G xs vs → Rp K mg H G (.tpk xs) (.ref a)
  | dct {a : Addr} {vs : List (Key × V)} {xs : List (Key × D)} : G a = none → Rd H a (.dK vs) → RpK K mg H G xs vs → Rp K mg H G (.dct xs) (.ref a)
  | mxd {a : Addr} {o : Obj} {vs : List MV} {xs : List (MKey × D)} : G a = none → H a = some (mixO mg.hf a o vs) → RpX K mg H G xs vs → Rp K mg H G (.mxd xs) (.ref a)
  | ins {c : CI} {C a dx : Addr} {fs : List (Str × V)} {ds : List D} : mg.g c.nm = some (.ref C) → G a = none → H a = some (.ins C dx fs) → fs.map (·.1) = c.fl → RpL K mg H G ds (fs.map (·.2)) → Rp K mg H G (.ins c ds) (.ref a)
  | cls {c : CI} {C : Addr} : mg.g c.nm = some (.ref C) → Rp K mg H G (.cls c) (.ref C)
  | exc0 {c : CI} {a C : Addr} : mg.g c.nm = some (.ref C) → Rp K mg H G (.exc c [] a none) (.ref a)
  | exc {c : CI} {C a d : Addr} {fs : List (Str × V)} {ds : List D} : mg.g c.nm = some (.ref C) → G d = none → H d = some (.xd fs) → fs.map (·.1) = c.fl → RpL K mg H G ds (fs.map (·.2)) → Rp K mg H G (.exc c ds a (some d)) (.ref a)
  | exv {c : CI} {C a dx : Addr} {fs : List (Str × V)} {ds : List D} : mg.g c.nm = some (.ref C) → G a = none → H a = some (exo a C (some dx)) → G dx = none → H dx = some (exd dx fs) → fs.map (·.1) = c.fl → RpL K mg H G ds (fs.map (·.2)) → Rp K mg H G (.exv c ds) (.ref a)
  | exw {c : CI} {C a : Addr} : mg.g c.nm = some (.ref C) → G a = none → H a = some (ExO (.ref C) a) → Rp K mg H G (.exv c []) (.ref a)
  | ref (a : Addr) : Rp K mg H G (.ref a) (.ref a)
inductive RpL (K : PySem.W.Frag) (mg : MG) (H : Hp) (G : DH) : List D → List V → Prop
  | nil : RpL K mg H G [] []
  | cons {d : D} {v : V} {ds : List D} {vs : List V} : Rp K mg H G d v → RpL K mg H G ds vs → RpL K mg H G (d :: ds) (v :: vs)
inductive RpK (K : PySem.W.Frag) (mg : MG) (H : Hp) (G : DH) : List (Key × D) → List (Key × V) → Prop
  | nil : RpK K mg H G [] []
  | cons {k : Key} {d : D} {v : V} {ds : List (Key × D)} {vs : List (Key × V)} : Rp K mg H G d v → RpK K mg H G ds vs → RpK K mg H G ((k, d) :: ds) ((k, v) :: vs)
inductive RpX (K : PySem.W.Frag) (mg : MG) (H : Hp) (G : DH) : List (MKey × D) → List MV → Prop
  | nil : RpX K mg H G [] []
  | cons {k : MKey} {d : D} {y v : V} {ds : List (MKey × D)} {vs : List MV} : Rp K mg H G (keyD k) y → Rp K mg H G d v → RpX K mg H G ds vs → RpX K mg H G ((k, d) :: ds) ((k, y, v) :: vs)
end
/-- what nobody may change any more stands (a dict that is walked is locked for good) -/
def Ext (H : Hp) (G : DH) (H' : Hp) (G' : DH) : Prop := ∀ a o, G a = none → H a = some o → (H' a = some o ∨ ∃ ob kvs, o = .dK kvs ∧ H' a = some (.frz ob (.dK kvs))) ∧ G' a = none
theorem Ext.refl (H : Hp) (G : DH) : Ext H G H G := fun _ _ g h => ⟨.inl h, g⟩
theorem Ext.trans {H H1 H2 : Hp} {G G1 G2 : DH} (a : Ext H G H1 G1) (b : Ext H1 G1 H2 G2) : Ext H G H2 G2 := fun x o g h => by
  obtain ⟨h1, g1⟩ := a x o g h
  rcases h1 with h1 | ⟨ob, kvs, rfl, h1⟩
  · exact b x o g1 h1
  · obtain ⟨h2, g2⟩ := b x _ g1 h1
    rcases h2 with h2 | ⟨_, _, e, _⟩
    · exact ⟨.inr ⟨ob, kvs, rfl, h2⟩, g2⟩
    · cases e
theorem Ext.get {H H' : Hp} {G G' : DH} {a : Addr} {o : HO} (e : Ext H G H' G') (g : G a = none) (h : H a = some o) (n : ∀ kvs, o ≠ .dK kvs := by intro _ z; cases z) : H' a = some o ∧ G' a = none := by
  obtain ⟨h1, g1⟩ := e a o g h
  rcases h1 with h1 | ⟨_, kvs, z, _⟩
  · exact ⟨h1, g1⟩
  · exact absurd z (n kvs)
theorem Ext.rd {H H' : Hp} {G G' : DH} {a : Addr} {vs : List (Key × V)} (e : Ext H G H' G') (g : G a = none) (h : Rd H a (.dK vs)) : Rd H' a (.dK vs) ∧ G' a = none := by
  rcases h with h | ⟨o, h⟩
  · obtain ⟨h1, g1⟩ := e a _ g h
    rcases h1 with h1 | ⟨ob, kvs, z, h1⟩
    · exact ⟨.inl h1, g1⟩
    · cases z; exact ⟨.inr ⟨ob, h1⟩, g1⟩
  · obtain ⟨h1, g1⟩ := e.get g h
    exact ⟨.inr ⟨o, h1⟩, g1⟩
section
variable {K : PySem.W.Frag} {mg : MG} {H H' : Hp} {G G' : DH}
theorem TupAt.ext {a : Addr} {vs : List V} (e : Ext H G H' G') (h : TupAt K H G a vs) : TupAt K H' G' a vs := by
  rcases h with ⟨g, h⟩ | h
  · obtain ⟨h2, g2⟩ := e.get g h
    exact .inl ⟨g2, h2⟩
  · exact .inr h
theorem LskAt.ext {a : Addr} {vs : List V} (e : Ext H G H' G') (h : LskAt K H G a vs) : LskAt K H' G' a vs := by
  rcases h with ⟨g, o, h⟩ | h
  · obtain ⟨h2, g2⟩ := e.get g h
    exact .inl ⟨g2, o, h2⟩
  · exact .inr h
theorem TpkAt.ext {a : Addr} {vs : List V} (e : Ext H G H' G') (h : TpkAt H G a vs) : TpkAt H' G' a vs := by
  obtain ⟨g, o, d, h⟩ := h
  obtain ⟨h2, g2⟩ := e.get g h
  exact ⟨g2, o, d, h2⟩
mutual
theorem Rp.ext (e : Ext H G H' G') : ∀ {d : D} {v : V}, Rp K mg H G d v → Rp K mg H' G' d v
  | _, _, .non => .non
  | _, _, .bl b => .bl b
  | _, _, .int i => .int i
  | _, _, .str x => .str x
  | _, _, .ty n => .ty n
  | _, _, .tup h r => .tup (h.ext e) (RpL.ext e r)
  | _, _, .lst g h r => .lst (e.get g h).2 (e.get g h).1 (RpL.ext e r)
  | _, _, .lsk h r => .lsk (h.ext e) (RpL.ext e r)
  | _, _, .tpk h r => .tpk (h.ext e) (RpL.ext e r)
  | _, _, .dct g h r => .dct (e.rd g h).2 (e.rd g h).1 (RpK.ext e r)
  | _, _, .mxd g h r => .mxd (e.get g h).2 (e.get g h).1 (RpX.ext e r)
  | _, _, .ins m g h n r => .ins m (e.get g h).2 (e.get g h).1 n (RpL.ext e r)
  | _, _, .cls m => .cls m
  | _, _, .exc0 m => .exc0 m
  | _, _, .exc m g h n r => .exc m (e.get g h).2 (e.get g h).1 n (RpL.ext e r)
  | _, _, .exv m g h gd hd n r => .exv m (e.get g h (by intro _ z; unfold exo at z; cases z)).2 (e.get g h (by intro _ z; unfold exo at z; cases z)).1 (e.get gd hd (by intro _ z; unfold exd at z; cases z)).2 (e.get gd hd (by intro _ z; unfold exd at z; cases z)).1 n (RpL.ext e r)
  | _, _, .exw m g h => .exw m (e.get g h (by intro _ z; unfold ExO at z; cases z)).2 (e.get g h (by intro _ z; unfold ExO at z; cases z)).1
  | _, _, .ref a => .ref a
theorem RpL.ext (e : Ext H G H' G') : ∀ {ds : List D} {vs : List V}, RpL K mg H G ds vs → RpL K mg H' G' ds vs
  | _, _, .nil => .nil
  | _, _, .cons r t => .cons (Rp.ext e r) (RpL.ext e t)
theorem RpK.ext (e : Ext H G H' G') : ∀ {ds : List (Key × D)} {vs : List (Key × V)}, RpK K mg H G ds vs → RpK K mg H' G' ds vs
  | _, _, .nil => .nil
  | _, _, .cons r t => .cons (Rp.ext e r) (RpK.ext e t)
theorem RpX.ext (e : Ext H G H' G') : ∀ {ds : List (MKey × D)} {vs : List MV}, RpX K mg H G ds vs → RpX K mg H' G' ds vs
  | _, _, .nil => .nil
  | _, _, .cons q r t => .cons (Rp.ext e q) (Rp.ext e r) (RpX.ext e t)
end
theorem RpL.length : ∀ {ds : List D} {vs : List V}, RpL K mg H G ds vs → ds.length = vs.length
  | _, _, .nil => rfl
  | _, _, .cons _ t => congrArg (· + 1) (RpL.length t)
theorem RpL.get : ∀ {ds : List D} {vs : List V} {i : Nat} {d : D}, RpL K mg H G ds vs → ds[i]? = some d → ∃ v, vs[i]? = some v ∧ Rp K mg H G d v
  | _, _, _, _, .nil, e => by simp at e
  | _, _, 0, _, .cons r _, e => by simp at e; subst e; exact ⟨_, rfl, r⟩
  | _, _, i + 1, d, .cons _ t, e => by
    obtain ⟨v, h1, h2⟩ := RpL.get (i := i) (d := d) t (by simpa using e)
    exact ⟨v, by simpa using h1, h2⟩
theorem RpL.getV : ∀ {ds : List D} {vs : List V} {i : Nat} {v : V}, RpL K mg H G ds vs → vs[i]? = some v → ∃ d, ds[i]? = some d ∧ Rp K mg H G d v
  | _, _, _, _, .nil, e => by simp at e
  | _, _, 0, _, .cons r _, e => by simp at e; subst e; exact ⟨_, rfl, r⟩
  | _, _, i + 1, v, .cons _ t, e => by
    obtain ⟨d, h1, h2⟩ := RpL.getV (i := i) (v := v) t (by simpa using e)
    exact ⟨d, by simpa using h1, h2⟩
theorem RpL.append : ∀ {ds es : List D} {vs us : List V}, RpL K mg H G ds vs → RpL K mg H G es us → RpL K mg H G (ds ++ es) (vs ++ us)
  | _, _, _, _, .nil, s => s
  | _, _, _, _, .cons r t, s => .cons r (RpL.append t s)
theorem RpL.set {d : D} {v : V} (r : Rp K mg H G d v) : ∀ {ds : List D} {vs : List V} (i : Nat), RpL K mg H G ds vs → RpL K mg H G (ds.set i d) (vs.set i v)
  | _, _, _, .nil => .nil
  | _, _, 0, .cons _ t => .cons r t
  | _, _, i + 1, .cons q t => .cons q (RpL.set r i t)
theorem RpL.take : ∀ {ds : List D} {vs : List V} (n : Nat), RpL K mg H G ds vs → RpL K mg H G (ds.take n) (vs.take n)
  | _, _, 0, _ => .nil
  | _, _, _ + 1, .nil => .nil
  | _, _, n + 1, .cons r t => .cons r (RpL.take n t)
theorem RpL.drop : ∀ {ds : List D} {vs : List V} (n : Nat), RpL K mg H G ds vs → RpL K mg H G (ds.drop n) (vs.drop n)
  | _, _, 0, h => h
  | _, _, _ + 1, .nil => .nil
  | _, _, n + 1, .cons _ t => RpL.drop n t
theorem RpL.one {d : D} {v : V} (r : Rp K mg H G d v) : RpL K mg H G [d] [v] := .cons r .nil
theorem RpL.dropLast {ds : List D} {vs : List V} (r : RpL K mg H G ds vs) : RpL K mg H G ds.dropLast vs.dropLast := by
  rw [List.dropLast_eq_take, List.dropLast_eq_take, r.length]
  exact r.take _
theorem RpL.reverse {ds : List D} {vs : List V} (r : RpL K mg H G ds vs) : RpL K mg H G ds.reverse vs.reverse := by
  induction ds generalizing vs with
  | nil => cases r; exact .nil
  | cons d ds ih => cases r with
    | cons r t => rw [List.reverse_cons, List.reverse_cons]; exact (ih t).append (.one r)
theorem RpL.map_inv {ds : List D} {vs : List V} (r : RpL K mg H G ds vs) : ∀ {f : Int → D}, True := fun {_} => trivial
theorem RpK.length : ∀ {ds : List (Key × D)} {vs : List (Key × V)}, RpK K mg H G ds vs → ds.length = vs.length
  | _, _, .nil => rfl
  | _, _, .cons _ t => congrArg (· + 1) (RpK.length t)

/-- a table of code objects that bear the name q -/
def TbAt (H : Hp) (G : DH) (a : Addr) (q : Str) : Prop := ∃ ps : Array Value, H a = some (.tbl ps) ∧ TriplesOk ps.toList ∧ ∀ (pos : Pos) (cv : Value), codeAmong pos ps.toList = some cv → ∃ c, cv = .ref c ∧ H c = some (LamX.CodeO c q) ∧ G c = none
theorem codeO_dK {c : Addr} {q : Str} : ∀ kvs, LamX.CodeO c q ≠ .dK kvs := fun _ z => by
  unfold LamX.CodeO at z
  cases z
/-- what is live is as G says -/
inductive ObOk (K : PySem.W.Frag) (mg : MG) (H : Hp) (G : DH) (a : Addr) : DO → Prop
  | lst {vs : List V} {xs : List D} : H a = some (.lst vs) → RpL K mg H G xs vs → ObOk K mg H G a (.lst xs)
  | dct {vs : List (Key × V)} {xs : List (Key × D)} : H a = some (.dK vs) → RpK K mg H G xs vs → ObOk K mg H G a (.dct xs)
  | ins {c : CI} {C dx : Addr} {fs : List (Str × V)} {ds : List D} : mg.g c.nm = some (.ref C) → H a = some (.ins C dx fs) → fs.map (·.1) = c.fl.take ds.length → RpL K mg H G ds (fs.map (·.2)) → ObOk K mg H G a (.ins c ds)
  | tb {q : Str} : TbAt H G a q → ObOk K mg H G a (.tb q)
  | mx {o : Obj} {vs : List MV} {xs : List (MKey × D)} : H a = some (mixO mg.hf a o vs) → RpX K mg H G xs vs → ObOk K mg H G a (.mx xs)
def HpOk (K : PySem.W.Frag) (mg : MG) (H : Hp) (G : DH) : Prop := ∀ a o, G a = some o → ObOk K mg H G a o
theorem ObOk.there {a : Addr} {o : DO} (h : ObOk K mg H G a o) : ∃ u, H a = some u := by
  cases h with
  | lst h _ => exact ⟨_, h⟩
  | dct h _ => exact ⟨_, h⟩
  | ins _ h _ _ => exact ⟨_, h⟩
  | tb h => obtain ⟨ps, h, _⟩ := h; exact ⟨_, h⟩
  | mx h _ => exact ⟨_, h⟩
theorem HpOk.free {p : Addr} (h : HpOk K mg H G) (hp : H p = none) : G p = none := by
  cases e : G p with
  | none => rfl
  | some o =>
    obtain ⟨u, hu⟩ := (h p o e).there
    rw [hp] at hu; cases hu
theorem ObOk.ext {a : Addr} {o : DO} (e : Ext H G H' G') (hh : ∀ u, H a = some u → H' a = some u) (h : ObOk K mg H G a o) : ObOk K mg H' G' a o := by
  cases h with
  | lst h r => exact .lst (hh _ h) (r.ext e)
  | dct h r => exact .dct (hh _ h) (r.ext e)
  | ins m h n r => exact .ins m (hh _ h) n (r.ext e)
  | mx h r => exact .mx (hh _ h) (r.ext e)
  | tb h =>
    obtain ⟨ps, h1, h2, h3⟩ := h
    refine .tb ⟨ps, hh _ h1, h2, fun pos cv hc => ?_⟩
    obtain ⟨c, e1, e2, e3⟩ := h3 pos cv hc
    obtain ⟨k1, k2⟩ := e.get e3 e2 codeO_dK
    exact ⟨c, e1, k1, k2⟩
/-- the object at a is changed, all else stands -/
theorem HpOk.upd {a : Addr} {o : DO} {u : HO} (h : HpOk K mg H G) (e : Ext H G (L2.upd H a u) (upG G a o)) (new : ObOk K mg (L2.upd H a u) (upG G a o) a o) : HpOk K mg (L2.upd H a u) (upG G a o) := fun b w hb => by
  by_cases hba : b = a
  · subst hba; rw [upG_same] at hb; cases hb; exact new
  · rw [upG_ne hba] at hb
    exact (h b w hb).ext e fun u hu => by rw [L2.upd_ne hba]; exact hu
/-- a new live object -/
theorem Ext.new {p : Addr} {o : DO} {u : HO} (hp : H p = none) : Ext H G (L2.upd H p u) (upG G p o) := fun a w g h => by
  have ne : a ≠ p := fun z => by rw [z, hp] at h; cases h
  rw [L2.upd_ne ne, upG_ne ne]; exact ⟨.inl h, g⟩
/-- a new object that nobody changes -/
theorem Ext.newF {p : Addr} {u : HO} (hp : H p = none) : Ext H G (L2.upd H p u) G := fun a w g h => by
  have ne : a ≠ p := fun z => by rw [z, hp] at h; cases h
  rw [L2.upd_ne ne]; exact ⟨.inl h, g⟩
/-- a live object is changed -/
theorem Ext.write {a : Addr} {w o : DO} {u : HO} (ha : G a = some w) : Ext H G (L2.upd H a u) (upG G a o) := fun b v g h => by
  have ne : b ≠ a := fun z => by rw [z, ha] at g; cases g
  rw [L2.upd_ne ne, upG_ne ne]; exact ⟨.inl h, g⟩
theorem HpOk.newF {p : Addr} {u : HO} (h : HpOk K mg H G) (hp : H p = none) : HpOk K mg (L2.upd H p u) G := fun b w hb =>
  (h b w hb).ext (Ext.newF hp) fun v hv => by
    have ne : b ≠ p := fun z => by rw [z, hp] at hv; cases hv
    rw [L2.upd_ne ne]; exact hv
/-- some live objects are let go -/
def Sub (G' G : DH) : Prop := ∀ a o, G' a = some o → G a = some o
theorem Sub.refl (G : DH) : Sub G G := fun _ _ h => h
theorem Sub.none {a : Addr} (s : Sub G' G) (h : G a = none) : G' a = none := by
  cases e : G' a with
  | none => rfl
  | some o => rw [s a o e] at h; cases h
theorem Sub.ext (s : Sub G' G) : Ext H G H G' := fun a o g h => ⟨.inl h, s.none g⟩
theorem HpOk.sub (h : HpOk K mg H G) (s : Sub G' G) : HpOk K mg H G' := fun a o e => (h a o (s a o e)).ext s.ext fun _ z => z

/-- the slots -/
def StOk (K : PySem.W.Frag) (mg : MG) (H : Hp) (G : DH) (δ : Sl) (σ : L2.St) : Prop :=
  δ.length = σ.length ∧ ∀ (i : Nat) (d : D), δ[i]? = some (some d) → ∃ v, σ[i]? = some (some v) ∧ Rp K mg H G d v
theorem StOk.ext {δ : Sl} {σ : L2.St} (e : Ext H G H' G') (h : StOk K mg H G δ σ) : StOk K mg H' G' δ σ :=
  ⟨h.1, fun i d hd => let ⟨v, h1, h2⟩ := h.2 i d hd; ⟨v, h1, h2.ext e⟩⟩
theorem StOk.set {δ : Sl} {σ : L2.St} {d : D} {v : V} (i : Nat) (h : StOk K mg H G δ σ) (r : Rp K mg H G d v) : StOk K mg H G (δ.set i (some d)) (σ.set i (some v)) := by
  refine ⟨by rw [List.length_set, List.length_set]; exact h.1, fun j e hj => ?_⟩
  by_cases hij : i = j
  · subst hij
    have hl : i < δ.length := by
      have := (List.getElem?_eq_some_iff.mp hj).1
      rw [List.length_set] at this; exact this
    rw [List.getElem?_set_self hl] at hj
    cases hj
    exact ⟨v, List.getElem?_set_self (by rw [← h.1]; exact hl), r⟩
  · rw [List.getElem?_set_ne hij] at hj
    obtain ⟨w, h1, h2⟩ := h.2 j e hj
    exact ⟨w, by rw [List.getElem?_set_ne hij]; exact h1, h2⟩
theorem StOk.clear {δ : Sl} {σ : L2.St} (i : Nat) {o : Option V} (h : StOk K mg H G δ σ) : StOk K mg H G (δ.set i none) (σ.set i o) := by
  refine ⟨by rw [List.length_set, List.length_set]; exact h.1, fun j e hj => ?_⟩
  by_cases hij : i = j
  · subst hij
    have hl : i < δ.length := by
      have := (List.getElem?_eq_some_iff.mp hj).1
      rw [List.length_set] at this; exact this
    rw [List.getElem?_set_self hl] at hj
    cases hj
  · rw [List.getElem?_set_ne hij] at hj
    obtain ⟨w, h1, h2⟩ := h.2 j e hj
    exact ⟨w, by rw [List.getElem?_set_ne hij]; exact h1, h2⟩
theorem StOk.start {ds : List D} {vs : List V} {N : List Str} (r : RpL K mg H G ds vs) : StOk K mg H G (ds.map some ++ List.replicate (N.length - ds.length) none) (L2.start N vs) := by
  unfold L2.start
  refine ⟨by rw [List.length_append, List.length_append, List.length_map, List.length_map, List.length_replicate, List.length_replicate, r.length], fun i d h => ?_⟩
  by_cases hi : i < ds.length
  · rw [List.getElem?_append_left (by simpa using hi), List.getElem?_map] at h
    cases e : ds[i]? with
    | none => rw [e] at h; cases h
    | some d' =>
      rw [e] at h; cases h
      obtain ⟨v, h1, h2⟩ := r.get e
      exact ⟨v, by rw [List.getElem?_append_left (by rw [List.length_map, ← r.length]; exact hi), List.getElem?_map, h1]; rfl, h2⟩
  · rw [List.getElem?_append_right (by simpa using hi), List.getElem?_replicate] at h
    split at h <;> cases h
end
/-- an exception's class and dict -/
def ExOk (K : PySem.W.Frag) (mg : MG) (H : Hp) (G : DH) (x : Exn) (cls : Value) (d : Option Addr) : Prop :=
  ∃ C, mg.g x.c.nm = some (.ref C) ∧ cls = .ref C ∧
    ((x.fs = [] ∧ d = none) ∨ ∃ (a : Addr) (fs : List (Str × V)), d = some a ∧ G a = none ∧ H a = some (.xd fs) ∧ fs.map (·.1) = x.c.fl ∧ RpL K mg H G x.fs (fs.map (·.2)))
theorem ExOk.ext {K : PySem.W.Frag} {mg : MG} {H H' : Hp} {G G' : DH} {x : Exn} {cls : Value} {d : Option Addr} (e : Ext H G H' G') (h : ExOk K mg H G x cls d) : ExOk K mg H' G' x cls d := by
  obtain ⟨C, h1, h2, h3⟩ := h
  refine ⟨C, h1, h2, ?_⟩
  rcases h3 with h3 | ⟨a, fs, h4, g, h5, h6, h7⟩
  · exact .inl h3
  · obtain ⟨h5', g'⟩ := e.get g h5
    exact .inr ⟨a, fs, h4, g', h5', h6, h7.ext e⟩

/-! ### 2. the judgements -/
section
variable (X : Cx)
def upE (Wx : WX) (t : DE) : TE := fun σ H Q => ∃ (W : DW) (δ : Sl) (G : DH) (R : DQ), StOk X.K X.mh H G δ σ ∧ HpOk X.K X.mh H G ∧ t W δ G R ∧
  (∀ d G' H' v, R d G' → Ext H G H' G' → HpOk X.K X.mh H' G' → Rp X.K X.mh H' G' d v → Q v H') ∧
  ∀ ex δ' G' σ' H' cls dd, W ex δ' G' → Ext H G H' G' → StOk X.K X.mh H' G' δ' σ' → HpOk X.K X.mh H' G' → ExOk X.K X.mh H' G' ex cls dd → Wx cls dd σ' H'
def upT (Wx : WX) (t : DT) : TT := fun σ H Q => ∃ (W : DW) (δ : Sl) (G : DH) (R : Bool → DH → Prop), StOk X.K X.mh H G δ σ ∧ HpOk X.K X.mh H G ∧ t W δ G R ∧
  (∀ b G' H', R b G' → Ext H G H' G' → HpOk X.K X.mh H' G' → Q b H') ∧
  ∀ ex δ' G' σ' H' cls dd, W ex δ' G' → Ext H G H' G' → StOk X.K X.mh H' G' δ' σ' → HpOk X.K X.mh H' G' → ExOk X.K X.mh H' G' ex cls dd → Wx cls dd σ' H'
def upA (Wx : WX) (t : DA) : TA := fun σ H Q => ∃ (W : DW) (δ : Sl) (G : DH) (R : List D → DH → Prop), StOk X.K X.mh H G δ σ ∧ HpOk X.K X.mh H G ∧ t W δ G R ∧
  (∀ ds G' H' vs, R ds G' → Ext H G H' G' → HpOk X.K X.mh H' G' → RpL X.K X.mh H' G' ds vs → Q vs H') ∧
  ∀ ex δ' G' σ' H' cls dd, W ex δ' G' → Ext H G H' G' → StOk X.K X.mh H' G' δ' σ' → HpOk X.K X.mh H' G' → ExOk X.K X.mh H' G' ex cls dd → Wx cls dd σ' H'
def upS (Wx : WX) (t : DS) : TS := fun D σ H => ∃ (DD : DEnds) (δ : Sl) (G : DH), StOk X.K X.mh H G δ σ ∧ HpOk X.K X.mh H G ∧ t DD δ G ∧
  (∀ δ' G' σ' H', DD.nx δ' G' → Ext H G H' G' → StOk X.K X.mh H' G' δ' σ' → HpOk X.K X.mh H' G' → D.nx σ' H') ∧
  (∀ d G' H' v, DD.rt d G' → Ext H G H' G' → HpOk X.K X.mh H' G' → Rp X.K X.mh H' G' d v → D.rt v H') ∧
  (∀ δ' G' σ' H', DD.bk δ' G' → Ext H G H' G' → StOk X.K X.mh H' G' δ' σ' → HpOk X.K X.mh H' G' → D.bk σ' H') ∧
  (∀ δ' G' σ' H', DD.ct δ' G' → Ext H G H' G' → StOk X.K X.mh H' G' δ' σ' → HpOk X.K X.mh H' G' → D.ct σ' H') ∧
  ∀ ex δ' G' σ' H' cls dd, DD.ex ex δ' G' → Ext H G H' G' → StOk X.K X.mh H' G' δ' σ' → HpOk X.K X.mh H' G' → ExOk X.K X.mh H' G' ex cls dd → Wx cls dd σ' H'
end
/-- what is known of the context: no repr runs, there is room; cm: nothing is being handled -/
structure Gd (X : Cx) (lv : Nat) (cm : Bool) : Prop where
  gu : X.A.guards = some []
  dp : X.A.depth + 3 * lv + 5 < recursionLimit
  un : X.A.units + 16 * lv + 200 < cLine
  hd : cm = true → X.A.handled = none
  cl : cm = true → X.calm = true
  po : PassesOwn (model X.prog X.w) X.A X.env X.xe
theorem Gd.room {X : Cx} {lv : Nat} (g : Gd X lv true) : Room lv X.A := ⟨g.hd rfl, g.dp, g.un⟩
theorem Gd.mono {X : Cx} {lv k : Nat} {cm : Bool} (g : Gd X lv cm) (h : k ≤ lv) : Gd X k cm :=
  ⟨g.gu, by have := g.dp; omega, by have := g.un; omega, g.hd, g.cl, g.po⟩
def PD (X : Cx) (lv : Nat) (cm : Bool) (e : Expr) (t : DE) : Prop := Gd X lv cm → ∀ Wx, Takes X Wx → PE X e (upE X Wx t)
def PDT (X : Cx) (lv : Nat) (cm : Bool) (e : Expr) (t : DT) : Prop := Gd X lv cm → ∀ Wx, Takes X Wx → PT X e (upT X Wx t)
def PDA (X : Cx) (lv : Nat) (cm : Bool) (es : List Expr) (t : DA) : Prop := Gd X lv cm → ∀ Wx, Takes X Wx → PA X es (upA X Wx t)
def PDS (X : Cx) (lv : Nat) (cm : Bool) (st : Stmt) (t : DS) : Prop := Gd X lv cm → ∀ Wx, Takes X Wx → PS X st (upS X Wx t)
def PDSs (X : Cx) (lv : Nat) (cm : Bool) (st : List Stmt) (t : DS) : Prop := Gd X lv cm → ∀ Wx, Takes X Wx → PSs X st (upS X Wx t)
theorem pe_imp {X : Cx} {e : Expr} {t t' : TE} (h : PE X e t) (i : ∀ σ H Q, t' σ H Q → t σ H Q) : PE X e t' := ⟨fun pins s σ H Q I q => h.run pins s σ H Q I (i _ _ _ q)⟩
theorem pt_imp {X : Cx} {e : Expr} {t t' : TT} (h : PT X e t) (i : ∀ σ H Q, t' σ H Q → t σ H Q) : PT X e t' := ⟨fun pins s σ H Q I q => h.run pins s σ H Q I (i _ _ _ q)⟩
theorem pa_imp {X : Cx} {e : List Expr} {t t' : TA} (h : PA X e t) (i : ∀ σ H Q, t' σ H Q → t σ H Q) : PA X e t' := ⟨fun pos pins s σ H Q I q => h.run pos pins s σ H Q I (i _ _ _ q)⟩
theorem ps_imp {X : Cx} {e : Stmt} {t t' : TS} (h : PS X e t) (i : ∀ D σ H, t' D σ H → t D σ H) : PS X e t' := ⟨fun pins s σ H D I q => h.run pins s σ H D I (i _ _ _ q)⟩
theorem pss_imp {X : Cx} {e : List Stmt} {t t' : TS} (h : PSs X e t) (i : ∀ D σ H, t' D σ H → t D σ H) : PSs X e t' := ⟨fun pins s σ H D I q => h.run pins s σ H D I (i _ _ _ q)⟩
end DL

namespace DL
open L2 PyProof.Rows PySem PySem.Spec

/-! ### 3. names, constants, operators, tests -/
/-- what simp does not look into -/
inductive Shut {α β : Sort _} (a : α) (b : β) : Type
  | mk : Shut a b
/-- either way -/
def Br (b : Bool) (A B : Prop) (_ : Shut A B) : Prop := if b = true then A else B
theorem Br_true {A B : Prop} {t : Shut A B} : Br true A B t = A := if_pos rfl
theorem Br_false {A B : Prop} {t : Shut A B} : Br false A B t = B := if_neg Bool.false_ne_true
theorem br_t {A B : Prop} {t : Shut A B} (h : Br true A B t) : A := Br_true (t := t) ▸ h
theorem br_f {A B : Prop} {t : Shut A B} (h : Br false A B t) : B := Br_false (t := t) ▸ h
theorem br_pos {p : Prop} [Decidable p] {A B : Prop} {t : Shut A B} (hp : p) (h : A) : Br (decide p) A B t := by unfold Br; rw [if_pos (decide_eq_true hp)]; exact h
theorem br_neg {p : Prop} [Decidable p] {A B : Prop} {t : Shut A B} (hp : ¬ p) (h : B) : Br (decide p) A B t := by unfold Br; rw [if_neg (by simpa using hp)]; exact h
theorem br_npos {p : Prop} [Decidable p] {A B : Prop} {t : Shut A B} (hp : p) (h : B) : Br (!decide p) A B t := by unfold Br; rw [if_neg (by simpa using hp)]; exact h
theorem br_nneg {p : Prop} [Decidable p] {A B : Prop} {t : Shut A B} (hp : ¬ p) (h : A) : Br (!decide p) A B t := by unfold Br; rw [if_pos (by simpa using hp)]; exact h
theorem br_both {b : Bool} {A B : Prop} {t : Shut A B} (h : b = true → A) (k : b = false → B) : Br b A B t := by
  cases b with
  | true => rw [Br_true]; exact h rfl
  | false => rw [Br_false]; exact k rfl
def dVar (i : Nat) : DE := fun _ δ G Q => match δ[i]? with
  | some (some d) => Q d G
  | _ => False
def dC (d : D) : DE := fun _ _ G Q => Q d G
abbrev R1D := D → DH → DQ → Prop
abbrev R2D := D → D → DH → DQ → Prop
def dUn (r : R1D) (a : DE) : DE := fun W δ G Q => a W δ G fun x G1 => r x G1 Q
def dBin (r : R2D) (a b : DE) : DE := fun W δ G Q => a W δ G fun x G1 => b W δ G1 fun y G2 => r x y G2 Q
def dTest (t : DE) : DT := fun W δ G Q => t W δ G fun d G1 => match d with
  | .bl b => Q b G1
  | _ => False
def dNot (t : DT) : DT := fun W δ G Q => t W δ G fun b G1 => Q (!b) G1
def dAnd (t u : DT) : DT := fun W δ G Q => t W δ G fun b G1 => Br b (u W δ G1 Q) (Q false G1) .mk
def dOr (t u : DT) : DT := fun W δ G Q => t W δ G fun b G1 => Br b (Q true G1) (u W δ G1 Q) .mk
def dVal (t : DT) : DE := fun W δ G Q => t W δ G fun b G1 => Q (.bl b) G1
def dAndV (a b : DE) : DE := fun W δ G Q => a W δ G fun d G1 => match d with
  | .bl k => Br k (b W δ G1 Q) (Q (.bl false) G1) .mk
  | _ => False
def dOrV (a b : DE) : DE := fun W δ G Q => a W δ G fun d G1 => match d with
  | .bl k => Br k (Q (.bl true) G1) (b W δ G1 Q) .mk
  | _ => False
def dNotV (a : DE) : DE := fun W δ G Q => a W δ G fun d G1 => match d with
  | .bl b => Q (.bl (!b)) G1
  | _ => False
def dIf (c : DT) (a b : DE) : DE := fun W δ G Q => c W δ G fun k G1 => Br k (a W δ G1 Q) (b W δ G1 Q) .mk
def dNil : DA := fun _ _ G Q => Q [] G
def dCons (a : DE) (r : DA) : DA := fun W δ G Q => a W δ G fun x G1 => r W δ G1 fun xs G2 => Q (x :: xs) G2

section
variable {X : Cx} {lv : Nat} {cm : Bool} {a b c : Expr} {ta tb tc : DE} {pos : Pos}

theorem pd_var {i : Nat} {x : Str} (hN : X.N[i]? = some x) (hv : Vis X.env.scope x) (hd : (x == ("__debug__" : Str)) = false := by decide) (hcd : (x == ("__classdict__" : Str)) = false := by decide) : PD X lv cm (.Name x pos) (dVar i) := fun _ Wx _ =>
  pe_imp (pe_var hN hv hd hcd) fun σ H Q ⟨W, δ, G, R, hs, hg, ht, lQ, lW⟩ => by
    unfold dVar at ht
    split at ht
    · rename_i d hd'
      obtain ⟨v, h1, h2⟩ := hs.2 i d hd'
      exact ⟨v, h1, lQ d G H v ht (Ext.refl _ _) hg h2⟩
    · exact ht.elim
theorem pd_const {d : D} {v : V} {e : Expr} (h : PE X e (tC v)) (hr : ∀ K mg H G, Rp K mg H G d v) : PD X lv cm e (dC d) := fun _ Wx _ =>
  pe_imp h fun σ H Q ⟨W, δ, G, R, hs, hg, ht, lQ, lW⟩ => lQ d G H v ht (Ext.refl _ _) hg (hr _ _ _ _)
theorem pd_int {i : Int} {j : Nat} : PD X lv cm (.Constant (.int i) j pos) (dC (.int i)) := pd_const pe_int fun _ _ _ _ => .int i
theorem pd_bl {i : Bool} {j : Nat} : PD X lv cm (.Constant (.bool i) j pos) (dC (.bl i)) := pd_const pe_bl fun _ _ _ _ => .bl i
theorem pd_str {i : Str} {j : Nat} : PD X lv cm (.Constant (.str i) j pos) (dC (.str i)) := pd_const pe_str fun _ _ _ _ => .str i
theorem pd_non {j : Nat} : PD X lv cm (.Constant .none j pos) (dC .non) := pd_const pe_non fun _ _ _ _ => .non
/-- a module's constant -/
theorem pd_glob {x : Str} {d : D} {v : V} {u : Value} (hm : X.mg x = some u) (r : RelV v u) (hr : ∀ K mg H G, Rp K mg H G d v) (hg : Gl X x := by rfl) (hd : (x == ("__debug__" : Str)) = false := by decide) : PD X lv cm (.Name x pos) (dC d) :=
  pd_const (pe_glob hg hm r hd) hr

/-- one step: a value, then what is done with it -/
theorem up_un {Wx : WX} {r : R1D} {rV : V → Hp → VK → Prop} {σ : L2.St} {H : Hp} {Q : VK} (h : upE X Wx (dUn r ta) σ H Q)
    (hr : ∀ (dx : D) (x : V) (H : Hp) (G : DH) (Q : VK) (R : DQ), HpOk X.K X.mh H G → Rp X.K X.mh H G dx x → r dx G R → (∀ d G' H' v, R d G' → Ext H G H' G' → HpOk X.K X.mh H' G' → Rp X.K X.mh H' G' d v → Q v H') → rV x H Q) :
    tUn rV (upE X Wx ta) σ H Q := by
  obtain ⟨W, δ, G, R, hs, hg, ht, lQ, lW⟩ := h
  exact ⟨W, δ, G, _, hs, hg, ht, fun dx G1 H1 x h1 e1 g1 r1 => hr dx x H1 G1 Q R g1 r1 h1 fun d G' H' v hd e2 g2 r2 => lQ d G' H' v hd (e1.trans e2) g2 r2, lW⟩
theorem up_bin {Wx : WX} {r : R2D} {rV : R2} {σ : L2.St} {H : Hp} {Q : VK} (h : upE X Wx (dBin r ta tb) σ H Q)
    (hr : ∀ (dx dy : D) (x y : V) (H : Hp) (G : DH) (Q : VK) (R : DQ), HpOk X.K X.mh H G → Rp X.K X.mh H G dx x → Rp X.K X.mh H G dy y → r dx dy G R → (∀ d G' H' v, R d G' → Ext H G H' G' → HpOk X.K X.mh H' G' → Rp X.K X.mh H' G' d v → Q v H') → rV x y H Q) :
    tOp rV (upE X Wx ta) (upE X Wx tb) σ H Q := by
  obtain ⟨W, δ, G, R, hs, hg, ht, lQ, lW⟩ := h
  exact ⟨W, δ, G, _, hs, hg, ht, fun dx G1 H1 x h1 e1 g1 r1 =>
    ⟨W, δ, G1, _, hs.ext e1, g1, h1, fun dy G2 H2 y h2 e2 g2 r2 => hr dx dy x y H2 G2 Q R g2 (r1.ext e2) r2 h2 fun d G' H' v hd e3 g3 r3 => lQ d G' H' v hd ((e1.trans e2).trans e3) g3 r3,
      fun ex δ' G' σ' H' cls dd hw e2 => lW ex δ' G' σ' H' cls dd hw (e1.trans e2)⟩, lW⟩
/-- an operation on data -/
def OpD (X : Cx) (lv : Nat) (cm : Bool) (f : Value → Value → Sem Value) (r : R2D) : Prop := Gd X lv cm → ∀ (pins : List (Addr × Obj)) (s : Shared) (σ : L2.St) (H : Hp) (G : DH) (dx dy : D) (x y : V) (v u : Value) (Q : VK) (R : DQ),
  Inv X pins σ H s → RelV x v → RelV y u → HpOk X.K X.mh H G → Rp X.K X.mh H G dx x → Rp X.K X.mh H G dy y → r dx dy G R →
  (∀ d G' H' v, R d G' → Ext H G H' G' → HpOk X.K X.mh H' G' → Rp X.K X.mh H' G' d v → Q v H') → wpAny (model X.prog X.w) X.A (f v u) (EP X pins σ Q) X.xe s
def UnD (X : Cx) (lv : Nat) (cm : Bool) (f : Value → Sem Value) (r : R1D) : Prop := Gd X lv cm → ∀ (pins : List (Addr × Obj)) (s : Shared) (σ : L2.St) (H : Hp) (G : DH) (dx : D) (x : V) (v : Value) (Q : VK) (R : DQ),
  Inv X pins σ H s → RelV x v → HpOk X.K X.mh H G → Rp X.K X.mh H G dx x → r dx G R →
  (∀ d G' H' v, R d G' → Ext H G H' G' → HpOk X.K X.mh H' G' → Rp X.K X.mh H' G' d v → Q v H') → wpAny (model X.prog X.w) X.A (f v) (EP X pins σ Q) X.xe s
/-- as a relation of values -/
def upR2 (X : Cx) (r : R2D) : R2 := fun x y H Q => ∃ (dx dy : D) (G : DH) (R : DQ), HpOk X.K X.mh H G ∧ Rp X.K X.mh H G dx x ∧ Rp X.K X.mh H G dy y ∧ r dx dy G R ∧
  ∀ d G' H' v, R d G' → Ext H G H' G' → HpOk X.K X.mh H' G' → Rp X.K X.mh H' G' d v → Q v H'
theorem OpD.opR {f : Value → Value → Sem Value} {r : R2D} (o : OpD X lv cm f r) (gd : Gd X lv cm) : OpR X f (upR2 X r) := fun pins s σ H x y v u Q I rx ry ⟨dx, dy, G, R, hg, r1, r2, h, l⟩ =>
  o gd pins s σ H G dx dy x y v u Q R I rx ry hg r1 r2 h l
def upR1 (X : Cx) (r : R1D) : V → Hp → VK → Prop := fun x H Q => ∃ (dx : D) (G : DH) (R : DQ), HpOk X.K X.mh H G ∧ Rp X.K X.mh H G dx x ∧ r dx G R ∧
  ∀ d G' H' v, R d G' → Ext H G H' G' → HpOk X.K X.mh H' G' → Rp X.K X.mh H' G' d v → Q v H'
theorem UnD.unR {f : Value → Sem Value} {r : R1D} (o : UnD X lv cm f r) (gd : Gd X lv cm) : UnR X f (upR1 X r) := fun pins s σ H x v Q I rx ⟨dx, G, R, hg, r1, h, l⟩ =>
  o gd pins s σ H G dx x v Q R I rx hg r1 h l
theorem up_binR {Wx : WX} {r : R2D} {σ : L2.St} {H : Hp} {Q : VK} (h : upE X Wx (dBin r ta tb) σ H Q) : tOp (upR2 X r) (upE X Wx ta) (upE X Wx tb) σ H Q :=
  up_bin h fun dx dy x y H G Q R g r1 r2 h l => ⟨dx, dy, G, R, g, r1, r2, h, l⟩
theorem up_unR {Wx : WX} {r : R1D} {σ : L2.St} {H : Hp} {Q : VK} (h : upE X Wx (dUn r ta) σ H Q) : tUn (upR1 X r) (upE X Wx ta) σ H Q :=
  up_un h fun dx x H G Q R g r1 h l => ⟨dx, G, R, g, r1, h, l⟩

theorem pd_bin {op : Operator} {r : R2D} (ho : OpD X lv cm (binaryOp op) r) (ha : PD X lv cm a ta) (hb : PD X lv cm b tb) : PD X lv cm (.BinOp a op b pos) (dBin r ta tb) := fun gd Wx tk =>
  pe_imp (pe_op (ho.opR gd) (ha gd Wx tk) (hb gd Wx tk)) fun σ H Q h => up_binR h
theorem pd_un {op : UnaryOp} {r : R1D} (ho : UnD X lv cm (unaryOp op) r) (ha : PD X lv cm a ta) : PD X lv cm (.UnaryOp op a pos) (dUn r ta) := fun gd Wx tk =>
  pe_imp (pe_un (ho.unR gd) (ha gd Wx tk)) fun σ H Q h => up_unR h
theorem pd_cmp {op : CmpOp} {r : R2D} (ho : OpD X lv cm (compareOp op) r) (ha : PD X lv cm a ta) (hb : PD X lv cm b tb) (hm : behindInMarks op b = false := by rfl) : PD X lv cm (.Compare a [op] [b] pos) (dBin r ta tb) := fun gd Wx tk =>
  pe_imp (pe_cmpR (ho.opR gd) (ha gd Wx tk) (hb gd Wx tk) hm) fun σ H Q h => up_binR h

/-! tests -/
theorem up_test {Wx : WX} {t : DE} {σ : L2.St} {H : Hp} {Q : Bool → Hp → Prop} (h : upT X Wx (dTest t) σ H Q) : upE X Wx t σ H fun x H' => ∃ k, x = .bl k ∧ Q k H' := by
  obtain ⟨W, δ, G, R, hs, hg, ht, lQ, lW⟩ := h
  refine ⟨W, δ, G, _, hs, hg, ht, fun d G1 H1 v h1 e1 g1 r1 => ?_, lW⟩
  cases r1 with
  | bl k => exact ⟨k, rfl, lQ k G1 H1 h1 e1 g1⟩
  | _ => exact h1.elim
theorem pdt_val {e : Expr} {t : DE} (h : PD X lv cm e t) (he : ∀ whole, isTrue e X.env whole = (do let v ← whole; standAt e.pos; holding [v] (truthy v)) := by intro _; rfl) : PDT X lv cm e (dTest t) := fun gd Wx tk =>
  pt_imp (pt_val (h gd Wx tk) he) fun σ H Q h => up_test h
theorem pdt_cmp {op : CmpOp} {r : R2D} (ho : OpD X lv cm (compareOp op) r) (ha : PD X lv cm a ta) (hb : PD X lv cm b tb) (hm : behindInMarks op b = false := by rfl) : PDT X lv cm (.Compare a [op] [b] pos) (dTest (dBin r ta tb)) := fun gd Wx tk =>
  pt_imp (pt_cmpR (ho.opR gd) (ha gd Wx tk) (hb gd Wx tk) hm) fun σ H Q ⟨W, δ, G, R, hs, hg, ht, lQ, lW⟩ => up_binR ⟨W, δ, G, _, hs, hg, ht, fun d G1 H1 v h1 e1 g1 r1 => by
    cases r1 with
    | bl k => exact ⟨k, rfl, lQ k G1 H1 h1 e1 g1⟩
    | _ => exact h1.elim, lW⟩
/-- a < b < c -/
def dChain (r r' : R2D) (a b c : DE) : DE := fun W δ G Q => a W δ G fun x G1 => b W δ G1 fun y G2 => r x y G2 fun z G3 => match z with
  | .bl k => Br k (c W δ G3 fun u G4 => r' y u G4 Q) (Q (.bl false) G3) .mk
  | _ => False
theorem up_chain {Wx : WX} {r r' : R2D} {σ : L2.St} {H : Hp} {Q : VK} (h : upE X Wx (dChain r r' ta tb tc) σ H Q) : tChain (upR2 X r) (upR2 X r') (upE X Wx ta) (upE X Wx tb) (upE X Wx tc) σ H Q := by
  obtain ⟨W, δ, G, R, hs, hg, ht, lQ, lW⟩ := h
  refine ⟨W, δ, G, _, hs, hg, ht, fun dx G1 H1 x h1 e1 g1 r1 =>
    ⟨W, δ, G1, _, hs.ext e1, g1, h1, fun dy G2 H2 y h2 e2 g2 r2 => ⟨dx, dy, G2, _, g2, r1.ext e2, r2, h2, fun d G3 H3 v hd e3 g3 r3 => ?_⟩,
      fun ex δ' G' σ' H' cls dd hw e2 => lW ex δ' G' σ' H' cls dd hw (e1.trans e2)⟩, lW⟩
  have e13 := (e1.trans e2).trans e3
  cases r3 with
  | bl k =>
    refine ⟨k, rfl, ?_⟩
    cases k with
    | false => rw [if_neg Bool.false_ne_true]; exact lQ _ G3 H3 _ hd e13 g3 (.bl false)
    | true =>
      rw [if_pos rfl]
      exact ⟨W, δ, G3, _, hs.ext e13, g3, hd, fun du G4 H4 u h4 e4 g4 r4 => ⟨dy, du, G4, R, g4, (r2.ext e3).ext e4, r4, h4, fun d G5 H5 v hd e5 g5 r5 => lQ d G5 H5 v hd ((e13.trans e4).trans e5) g5 r5⟩,
        fun ex δ' G' σ' H' cls dd hw e2 => lW ex δ' G' σ' H' cls dd hw (e13.trans e2)⟩
  | _ => exact hd.elim
theorem pd_chain {op op' : CmpOp} {r r' : R2D} (ho : OpD X lv cm (compareOp op) r) (ho' : OpD X lv cm (compareOp op') r') (ha : PD X lv cm a ta) (hb : PD X lv cm b tb) (hc : PD X lv cm c tc) (hm : lastMarks [op, op'] [b, c] = false := by with_unfolding_all rfl) :
    PD X lv cm (.Compare a [op, op'] [b, c] pos) (dChain r r' ta tb tc) := fun gd Wx tk => pe_imp (pe_chain (ho.opR gd) (ho'.opR gd) (ha gd Wx tk) (hb gd Wx tk) (hc gd Wx tk) hm) fun σ H Q h => up_chain h
theorem pdt_chain {op op' : CmpOp} {r r' : R2D} (ho : OpD X lv cm (compareOp op) r) (ho' : OpD X lv cm (compareOp op') r') (ha : PD X lv cm a ta) (hb : PD X lv cm b tb) (hc : PD X lv cm c tc) (hm : lastMarks [op, op'] [b, c] = false := by with_unfolding_all rfl) :
    PDT X lv cm (.Compare a [op, op'] [b, c] pos) (dTest (dChain r r' ta tb tc)) := fun gd Wx tk => pt_imp (pt_chain (ho.opR gd) (ho'.opR gd) (ha gd Wx tk) (hb gd Wx tk) (hc gd Wx tk) hm) fun σ H Q ⟨W, δ, G, R, hs, hg, ht, lQ, lW⟩ => up_chain ⟨W, δ, G, _, hs, hg, ht, fun d G1 H1 v h1 e1 g1 r1 => by
    cases r1 with
    | bl k => exact ⟨k, rfl, lQ k G1 H1 h1 e1 g1⟩
    | _ => exact h1.elim, lW⟩
theorem pdt_not {t : DT} (h : PDT X lv cm a t) : PDT X lv cm (.UnaryOp .Not a pos) (dNot t) := fun gd Wx tk => pt_imp (pt_not (h gd Wx tk)) fun σ H Q ⟨W, δ, G, R, hs, hg, ht, lQ, lW⟩ =>
  ⟨W, δ, G, _, hs, hg, ht, fun k G1 H1 h1 e1 g1 => lQ (!k) G1 H1 h1 e1 g1, lW⟩
def PDW (X : Cx) (lv : Nat) (cm : Bool) (e : Expr) (t : DT) : Prop := Gd X lv cm → ∀ Wx, Takes X Wx → PW X e (upT X Wx t)
theorem pw_imp {e : Expr} {t t' : TT} (h : PW X e t) (i : ∀ σ H Q, t' σ H Q → t σ H Q) : PW X e t' := ⟨fun wh pins s σ H Q I q => h.run wh pins s σ H Q I (i _ _ _ q)⟩
theorem PDW.pt {t : DT} (h : PDW X lv cm a t) : PDT X lv cm a t := fun gd Wx tk => (h gd Wx tk).pt
theorem pdw_and1 {t : DT} (h : PDT X lv cm a t) : PDW X lv cm (.BoolOp .And [a] pos) t := fun gd Wx tk => pw_and1 (h gd Wx tk)
theorem pdw_or1 {t : DT} (h : PDT X lv cm a t) : PDW X lv cm (.BoolOp .Or [a] pos) t := fun gd Wx tk => pw_or1 (h gd Wx tk)
theorem pdw_and {t u : DT} {rest : List Expr} (ha : PDT X lv cm a t) (hb : PDW X lv cm (.BoolOp .And (b :: rest) pos) u) : PDW X lv cm (.BoolOp .And (a :: b :: rest) pos) (dAnd t u) := fun gd Wx tk =>
  pw_imp (pw_and (ha gd Wx tk) (hb gd Wx tk)) fun σ H Q ⟨W, δ, G, R, hs, hg, ht, lQ, lW⟩ => ⟨W, δ, G, _, hs, hg, ht, fun k G1 H1 h1 e1 g1 => by
    cases k with
    | true =>
      replace h1 := br_t h1
      rw [if_pos rfl]
      exact ⟨W, δ, G1, _, hs.ext e1, g1, h1, fun k' G2 H2 h2 e2 g2 => lQ k' G2 H2 h2 (e1.trans e2) g2, fun ex δ' G' σ' H' cls dd hw e2 => lW ex δ' G' σ' H' cls dd hw (e1.trans e2)⟩
    | false =>
      replace h1 := br_f h1
      rw [if_neg Bool.false_ne_true]
      exact lQ false G1 H1 h1 e1 g1, lW⟩
theorem pdw_or {t u : DT} {rest : List Expr} (ha : PDT X lv cm a t) (hb : PDW X lv cm (.BoolOp .Or (b :: rest) pos) u) : PDW X lv cm (.BoolOp .Or (a :: b :: rest) pos) (dOr t u) := fun gd Wx tk =>
  pw_imp (pw_or (ha gd Wx tk) (hb gd Wx tk)) fun σ H Q ⟨W, δ, G, R, hs, hg, ht, lQ, lW⟩ => ⟨W, δ, G, _, hs, hg, ht, fun k G1 H1 h1 e1 g1 => by
    cases k with
    | false =>
      replace h1 := br_f h1
      rw [if_neg Bool.false_ne_true]
      exact ⟨W, δ, G1, _, hs.ext e1, g1, h1, fun k' G2 H2 h2 e2 g2 => lQ k' G2 H2 h2 (e1.trans e2) g2, fun ex δ' G' σ' H' cls dd hw e2 => lW ex δ' G' σ' H' cls dd hw (e1.trans e2)⟩
    | true =>
      replace h1 := br_t h1
      rw [if_pos rfl]
      exact lQ true G1 H1 h1 e1 g1, lW⟩
theorem pd_one {op} (h : PD X lv cm a ta) : PD X lv cm (.BoolOp op [a] pos) ta := fun gd Wx tk => pe_one (h gd Wx tk)
theorem pd_and {rest : List Expr} (ha : PD X lv cm a ta) (hb : PD X lv cm (.BoolOp .And (b :: rest) pos) tb) : PD X lv cm (.BoolOp .And (a :: b :: rest) pos) (dAndV ta tb) := fun gd Wx tk =>
  pe_imp (pe_and (ha gd Wx tk) (hb gd Wx tk)) fun σ H Q ⟨W, δ, G, R, hs, hg, ht, lQ, lW⟩ => ⟨W, δ, G, _, hs, hg, ht, fun d G1 H1 v h1 e1 g1 r1 => by
    cases r1 with
    | bl k =>
      refine ⟨k, rfl, ?_⟩
      cases k with
      | true =>
        rw [if_pos rfl]
        exact ⟨W, δ, G1, _, hs.ext e1, g1, h1, fun k' G2 H2 v2 h2 e2 g2 r2 => lQ k' G2 H2 v2 h2 (e1.trans e2) g2 r2, fun ex δ' G' σ' H' cls dd hw e2 => lW ex δ' G' σ' H' cls dd hw (e1.trans e2)⟩
      | false =>
        rw [if_neg Bool.false_ne_true]
        exact lQ _ G1 H1 _ h1 e1 g1 (.bl false)
    | _ => exact h1.elim, lW⟩
theorem pd_or {rest : List Expr} (ha : PD X lv cm a ta) (hb : PD X lv cm (.BoolOp .Or (b :: rest) pos) tb) : PD X lv cm (.BoolOp .Or (a :: b :: rest) pos) (dOrV ta tb) := fun gd Wx tk =>
  pe_imp (pe_or (ha gd Wx tk) (hb gd Wx tk)) fun σ H Q ⟨W, δ, G, R, hs, hg, ht, lQ, lW⟩ => ⟨W, δ, G, _, hs, hg, ht, fun d G1 H1 v h1 e1 g1 r1 => by
    cases r1 with
    | bl k =>
      refine ⟨k, rfl, ?_⟩
      cases k with
      | false =>
        rw [if_neg Bool.false_ne_true]
        exact ⟨W, δ, G1, _, hs.ext e1, g1, h1, fun k' G2 H2 v2 h2 e2 g2 r2 => lQ k' G2 H2 v2 h2 (e1.trans e2) g2 r2, fun ex δ' G' σ' H' cls dd hw e2 => lW ex δ' G' σ' H' cls dd hw (e1.trans e2)⟩
      | true =>
        rw [if_pos rfl]
        exact lQ _ G1 H1 _ h1 e1 g1 (.bl true)
    | _ => exact h1.elim, lW⟩
theorem pd_not (ha : PD X lv cm a ta) : PD X lv cm (.UnaryOp .Not a pos) (dNotV ta) := fun gd Wx tk =>
  pe_imp (pe_not (ha gd Wx tk)) fun σ H Q ⟨W, δ, G, R, hs, hg, ht, lQ, lW⟩ => ⟨W, δ, G, _, hs, hg, ht, fun d G1 H1 v h1 e1 g1 r1 => by
    cases r1 with
    | bl k => exact ⟨k, rfl, lQ _ G1 H1 _ h1 e1 g1 (.bl _)⟩
    | _ => exact h1.elim, lW⟩
theorem pd_ifExp {t : DT} (hc : PDT X lv cm c t) (ha : PD X lv cm a ta) (hb : PD X lv cm b tb) : PD X lv cm (.IfExp c a b pos) (dIf t ta tb) := fun gd Wx tk =>
  pe_imp (pe_ifExp (hc gd Wx tk) (ha gd Wx tk) (hb gd Wx tk)) fun σ H Q ⟨W, δ, G, R, hs, hg, ht, lQ, lW⟩ => ⟨W, δ, G, _, hs, hg, ht, fun k G1 H1 h1 e1 g1 => by
    cases k with
    | true =>
      replace h1 := br_t h1
      rw [if_pos rfl]
      exact ⟨W, δ, G1, _, hs.ext e1, g1, h1, fun k' G2 H2 v2 h2 e2 g2 r2 => lQ k' G2 H2 v2 h2 (e1.trans e2) g2 r2, fun ex δ' G' σ' H' cls dd hw e2 => lW ex δ' G' σ' H' cls dd hw (e1.trans e2)⟩
    | false =>
      replace h1 := br_f h1
      rw [if_neg Bool.false_ne_true]
      exact ⟨W, δ, G1, _, hs.ext e1, g1, h1, fun k' G2 H2 v2 h2 e2 g2 r2 => lQ k' G2 H2 v2 h2 (e1.trans e2) g2 r2, fun ex δ' G' σ' H' cls dd hw e2 => lW ex δ' G' σ' H' cls dd hw (e1.trans e2)⟩, lW⟩
/-! argument lists, displays -/
theorem pda_nil : PDA X lv cm [] dNil := fun gd Wx tk => pa_imp pa_nil fun σ H Q ⟨W, δ, G, R, hs, hg, ht, lQ, lW⟩ => lQ [] G H [] ht (Ext.refl _ _) hg .nil
theorem pda_cons {es : List Expr} {t : DA} (ha : PD X lv cm a ta) (hr : PDA X lv cm es t) (hs : starEach (a :: es) X.env = (false, eval a X.env) :: starEach es X.env := by rfl) : PDA X lv cm (a :: es) (dCons ta t) := fun gd Wx tk =>
  pa_imp (pa_cons (ha gd Wx tk) (hr gd Wx tk) hs) fun σ H Q ⟨W, δ, G, R, hs, hg, ht, lQ, lW⟩ => ⟨W, δ, G, _, hs, hg, ht, fun dx G1 H1 x h1 e1 g1 r1 =>
    ⟨W, δ, G1, _, hs.ext e1, g1, h1, fun ds G2 H2 vs h2 e2 g2 r2 => lQ (dx :: ds) G2 H2 (x :: vs) h2 (e1.trans e2) g2 (.cons (r1.ext e2) r2), fun ex δ' G' σ' H' cls dd hw e2 => lW ex δ' G' σ' H' cls dd hw (e1.trans e2)⟩, lW⟩
def dTup (t : DA) : DE := fun W δ G Q => t W δ G fun xs G1 => xs.length ≤ sizeLine ∧ Q (.tup xs) G1
/-- a list that nobody changes -/
def dLst (t : DA) : DE := fun W δ G Q => t W δ G fun xs G1 => xs.length ≤ sizeLine ∧ Q (.lst xs) G1
/-- a list that is changed later on -/
def dLstM (t : DA) : DE := fun W δ G Q => t W δ G fun xs G1 => xs.length ≤ sizeLine ∧ ∀ p, G1 p = none → Q (.ref p) (upG G1 p (.lst xs))
theorem pd_tup {es : List Expr} {t : DA} {x1} (h : PDA X lv cm es t) : PD X lv cm (.Tuple es x1 pos) (dTup t) := fun gd Wx tk =>
  pe_imp (pe_tup (h gd Wx tk)) fun σ H Q ⟨W, δ, G, R, hs, hg, ht, lQ, lW⟩ => ⟨W, δ, G, _, hs, hg, ht, fun ds G1 H1 vs ⟨hl, h1⟩ e1 g1 r1 => ⟨by rw [← r1.length]; exact hl, fun p hp =>
    lQ (.tup ds) G1 (L2.upd H1 p (.tup vs)) (.ref p) h1 (e1.trans (Ext.newF hp)) (g1.newF hp) (.tup (.inl ⟨g1.free hp, upd_same⟩) (r1.ext (Ext.newF hp)))⟩, lW⟩
theorem pd_lst {es : List Expr} {t : DA} (h : PDA X lv cm es t) : PD X lv cm (.List es pos) (dLst t) := fun gd Wx tk =>
  pe_imp (pe_lst (h gd Wx tk)) fun σ H Q ⟨W, δ, G, R, hs, hg, ht, lQ, lW⟩ => ⟨W, δ, G, _, hs, hg, ht, fun ds G1 H1 vs ⟨hl, h1⟩ e1 g1 r1 => ⟨by rw [← r1.length]; exact hl, fun p hp =>
    lQ (.lst ds) G1 (L2.upd H1 p (.lst vs)) (.ref p) h1 (e1.trans (Ext.newF hp)) (g1.newF hp) (.lst (g1.free hp) upd_same (r1.ext (Ext.newF hp)))⟩, lW⟩
theorem HpOk.new {H : Hp} {G : DH} {p : Addr} {o : DO} {u : HO} (h : HpOk X.K X.mh H G) (hp : H p = none) (new : ObOk X.K X.mh (L2.upd H p u) (upG G p o) p o) : HpOk X.K X.mh (L2.upd H p u) (upG G p o) := h.upd (Ext.new hp) new
theorem pd_lstM {es : List Expr} {t : DA} (h : PDA X lv cm es t) : PD X lv cm (.List es pos) (dLstM t) := fun gd Wx tk =>
  pe_imp (pe_lst (h gd Wx tk)) fun σ H Q ⟨W, δ, G, R, hs, hg, ht, lQ, lW⟩ => ⟨W, δ, G, _, hs, hg, ht, fun ds G1 H1 vs ⟨hl, h1⟩ e1 g1 r1 => ⟨by rw [← r1.length]; exact hl, fun p hp =>
    lQ (.ref p) _ (L2.upd H1 p (.lst vs)) (.ref p) (h1 p (g1.free hp)) (e1.trans (Ext.new hp)) (g1.new hp (.lst upd_same (r1.ext (Ext.new hp)))) (.ref p)⟩, lW⟩
end
end DL

namespace DL
open L2 PyProof.Rows PySem PySem.Spec

/-! ### 4. data: dicts, looks, equality -/
section
variable {α : Type}
def lkK (kvs : List (Key × α)) (k : Key) : Option α := match kvs with
  | [] => none
  | p :: r => if p.1 = k then some p.2 else lkK r k
def ptK (kvs : List (Key × α)) (k : Key) (v : α) : List (Key × α) := match kvs with
  | [] => [(k, v)]
  | p :: r => if p.1 = k then (p.1, v) :: r else p :: ptK r k v
def dpK (kvs : List (Key × α)) (k : Key) : List (Key × α) := kvs.filter fun kv => decide (kv.1 ≠ k)
def mgK (kvs more : List (Key × α)) : List (Key × α) := more.foldl (fun acc kv => ptK acc kv.1 kv.2) kvs
theorem ptK_length (kvs : List (Key × α)) (k : Key) (v : α) : (ptK kvs k v).length ≤ kvs.length + 1 := by
  induction kvs with
  | nil => simp [ptK]
  | cons p r ih =>
    unfold ptK
    split
    · simp
    · simpa using ih
theorem ptK_new {kvs : List (Key × α)} {k : Key} {v : α} (h : lkK kvs k = none) : ptK kvs k v = kvs ++ [(k, v)] := by
  induction kvs with
  | nil => rfl
  | cons p r ih =>
    unfold lkK at h
    unfold ptK
    split
    · rename_i e; rw [if_pos e] at h; cases h
    · rename_i e; rw [if_neg e] at h; rw [ih h]; rfl
theorem lkK_ptK (kvs : List (Key × α)) (k j : Key) (v : α) : lkK (ptK kvs k v) j = if k = j then some v else lkK kvs j := by
  induction kvs with
  | nil => simp [ptK, lkK]
  | cons p r ih =>
    unfold ptK
    by_cases e : p.1 = k
    · rw [if_pos e]
      simp only [lkK]
      by_cases e2 : k = j
      · rw [if_pos e2, if_pos (e.trans e2)]
      · rw [if_neg e2, if_neg fun z => e2 (e ▸ z), if_neg fun z => e2 (e ▸ z)]
    · rw [if_neg e]
      simp only [lkK, ih]
      by_cases e2 : p.1 = j
      · rw [if_pos e2, if_neg fun z => e (e2.trans z.symm), if_pos e2]
      · rw [if_neg e2, if_neg e2]
theorem lkK_mem {kvs : List (Key × α)} {k : Key} {v : α} (h : lkK kvs k = some v) : (k, v) ∈ kvs := by
  induction kvs with
  | nil => cases h
  | cons p r ih =>
    unfold lkK at h
    by_cases e : p.1 = k
    · rw [if_pos e] at h; cases h; rw [← e]; exact List.mem_cons_self
    · rw [if_neg e] at h; exact List.mem_cons_of_mem _ (ih h)
theorem lkK_of_mem {kvs : List (Key × α)} {k : Key} {v : α} (nd : (kvs.map (·.1)).Nodup) (h : (k, v) ∈ kvs) : lkK kvs k = some v := by
  induction kvs with
  | nil => cases h
  | cons p r ih =>
    rw [List.map_cons, List.nodup_cons] at nd
    unfold lkK
    rcases List.mem_cons.mp h with e | e
    · rw [← e, if_pos rfl]
    · rw [if_neg fun z => nd.1 (by rw [z]; exact List.mem_map_of_mem (f := (·.1)) e)]
      exact ih nd.2 e
theorem lkK_none {kvs : List (Key × α)} {k : Key} : lkK kvs k = none ↔ k ∉ kvs.map (·.1) := by
  induction kvs with
  | nil => simp [lkK]
  | cons p r ih =>
    unfold lkK
    by_cases e : p.1 = k
    · rw [if_pos e]; simp [e]
    · rw [if_neg e, ih, List.map_cons, List.mem_cons, not_or]
      exact ⟨fun h => ⟨fun z => e z.symm, h⟩, fun h => h.2⟩
theorem lkK_append {kvs more : List (Key × α)} {k : Key} : lkK (kvs ++ more) k = (lkK kvs k).or (lkK more k) := by
  induction kvs with
  | nil => rfl
  | cons p r ih =>
    show (if p.1 = k then some p.2 else lkK (r ++ more) k) = (if p.1 = k then some p.2 else lkK r k).or _
    by_cases e : p.1 = k
    · rw [if_pos e, if_pos e]; rfl
    · rw [if_neg e, if_neg e, ih]
theorem mgK_new {kvs more : List (Key × α)} (h : ((kvs ++ more).map (·.1)).Nodup) : mgK kvs more = kvs ++ more := by
  induction more generalizing kvs with
  | nil => simp [mgK]
  | cons p r ih =>
    have h1 : lkK kvs p.1 = none := lkK_none.mpr fun z => by
      rw [List.map_append, List.map_cons] at h
      exact (List.nodup_append.mp h).2.2 _ z _ List.mem_cons_self rfl
    show mgK (ptK kvs p.1 p.2) r = _
    rw [ptK_new h1, ih (by simpa using h)]
    simp
theorem ptK_keys_nodup {kvs : List (Key × α)} {k : Key} {v : α} (h : (kvs.map (·.1)).Nodup) : ((ptK kvs k v).map (·.1)).Nodup := by
  induction kvs with
  | nil => simp [ptK]
  | cons p r ih =>
    unfold ptK
    by_cases e : p.1 = k
    · rw [if_pos e]; simpa using h
    · rw [if_neg e]
      rw [List.map_cons, List.nodup_cons] at h ⊢
      refine ⟨fun z => h.1 ?_, ih h.2⟩
      obtain ⟨q, hq, eq⟩ := List.mem_map.mp z
      have : lkK (ptK r k v) p.1 ≠ none := fun w => (lkK_none.mp w) z
      rw [lkK_ptK, if_neg fun w => e w.symm] at this
      by_cases w : p.1 ∈ r.map (·.1)
      · exact w
      · exact absurd (lkK_none.mpr w) this
end
section
variable {K : PySem.W.Frag} {mg : MG} {H H' : Hp} {G G' : DH}
theorem RpK.keys : ∀ {ds : List (Key × D)} {vs : List (Key × V)}, RpK K mg H G ds vs → ds.map (·.1) = vs.map (·.1)
  | _, _, .nil => rfl
  | _, _, .cons _ t => by rw [List.map_cons, List.map_cons, t.keys]
theorem RpK.look {k : Key} : ∀ {ds : List (Key × D)} {vs : List (Key × V)}, RpK K mg H G ds vs → (∀ d, lkK ds k = some d → ∃ v, valV vs k = some v ∧ Rp K mg H G d v) ∧ (lkK ds k = none → valV vs k = none)
  | _, _, .nil => ⟨(fun d h => by cases h), fun _ => rfl⟩
  | _, _, .cons (k := j) (d := d0) (v := v0) (ds := ds) (vs := vs) r t => by
    by_cases e : j = k
    · exact ⟨fun d h => by
        have h' : (if j = k then some d0 else lkK ds k) = some d := h
        rw [if_pos e] at h'; cases h'
        exact ⟨v0, valV_pos e, r⟩, fun h => by
        have h' : (if j = k then some d0 else lkK ds k) = none := h
        rw [if_pos e] at h'; cases h'⟩
    · obtain ⟨t1, t2⟩ := RpK.look (k := k) t
      have ev : valV ((j, v0) :: vs) k = valV vs k := valV_neg (p := (j, v0)) e
      exact ⟨fun d h => by
        have h' : (if j = k then some d0 else lkK ds k) = some d := h
        rw [if_neg e] at h'
        rw [ev]; exact t1 d h', fun h => by
        have h' : (if j = k then some d0 else lkK ds k) = none := h
        rw [if_neg e] at h'
        rw [ev]; exact t2 h'⟩
theorem RpK.append : ∀ {ds es : List (Key × D)} {vs us : List (Key × V)}, RpK K mg H G ds vs → RpK K mg H G es us → RpK K mg H G (ds ++ es) (vs ++ us)
  | _, _, _, _, .nil, s => s
  | _, _, _, _, .cons r t, s => .cons r (RpK.append t s)
theorem any_keys {κ α β : Type} [DecidableEq κ] {k : κ} : ∀ {as : List (κ × α)} {bs : List (κ × β)}, as.map (·.1) = bs.map (·.1) → (as.any fun kv => decide (kv.1 = k)) = (bs.any fun kv => decide (kv.1 = k))
  | [], [], _ => rfl
  | [], _ :: _, h => by cases h
  | _ :: _, [], h => by cases h
  | a :: as, b :: bs, h => by
    rw [List.map_cons, List.map_cons, List.cons.injEq] at h
    rw [List.any_cons, List.any_cons, h.1, any_keys h.2]
theorem RpK.mapPut {k : Key} {d : D} {v : V} (r : Rp K mg H G d v) : ∀ {ds : List (Key × D)} {vs : List (Key × V)}, RpK K mg H G ds vs →
    RpK K mg H G (ds.map fun kv => if kv.1 = k then (kv.1, d) else kv) (vs.map fun kv => if kv.1 = k then (kv.1, v) else kv)
  | _, _, .nil => .nil
  | _, _, .cons (k := j) r0 t => by
    rw [List.map_cons, List.map_cons]
    by_cases e : j = k
    · rw [if_pos e, if_pos e]; exact .cons r (t.mapPut r)
    · rw [if_neg e, if_neg e]; exact .cons r0 (t.mapPut r)
theorem map_same {α : Type} {k : Key} {v : α} : ∀ {kvs : List (Key × α)}, k ∉ kvs.map (·.1) → kvs.map (fun kv => if kv.1 = k then (kv.1, v) else kv) = kvs
  | [], _ => rfl
  | p :: r, h => by
    rw [List.map_cons, List.mem_cons, not_or] at h
    rw [List.map_cons, if_neg fun z => h.1 z.symm, map_same h.2]
theorem ptK_eq {α : Type} {kvs : List (Key × α)} (k : Key) (v : α) (nd : (kvs.map (·.1)).Nodup) :
    ptK kvs k v = if (kvs.any fun kv => decide (kv.1 = k)) = true then kvs.map (fun kv => if kv.1 = k then (kv.1, v) else kv) else kvs ++ [(k, v)] := by
  induction kvs with
  | nil => rfl
  | cons p r ih =>
    rw [List.map_cons, List.nodup_cons] at nd
    unfold ptK
    by_cases e : p.1 = k
    · rw [if_pos e, List.any_cons, decide_eq_true e, Bool.true_or, if_pos rfl, List.map_cons, if_pos e, map_same (by rw [← e]; exact nd.1)]
    · rw [if_neg e, List.any_cons, decide_eq_false e, Bool.false_or, ih nd.2, List.map_cons, if_neg e]
      split <;> rfl
end
/-- a live object as it stands now -/
def rs (G : DH) (d : D) : D := match d with
  | .ref a => match G a with
    | some (.lst xs) => .lst xs
    | some (.dct kvs) => .dct kvs
    | some (.ins c fs) => .ins c fs
    | some (.tb _) => .ref a
    | some (.mx kvs) => .mxd kvs
    | none => .ref a
  | d => d
mutual
/-- plain data -/
def py : D → PyData
  | .bl b => .bool b
  | .int i => .int i
  | .str s => .str s
  | .tup xs => .tuple (pyL xs)
  | .lst xs => .list (pyL xs)
  | .lsk xs => .list (pyL xs)
  | .tpk xs => .tuple (pyL xs)
  | .dct kvs => .dict (pyK kvs)
  | .non => .none
  | .ty _ => .none
  | .mxd _ => .none
  | .ins _ _ => .none
  | .cls _ => .none
  | .exc _ _ _ _ => .none
  | .exv _ _ => .none
  | .ref _ => .none
def pyL : List D → List PyData
  | [] => []
  | x :: xs => py x :: pyL xs
def pyK : List (Key × D) → List (PyData × PyData)
  | [] => []
  | (.inl i, d) :: r => (.int i, py d) :: pyK r
  | (.inr s, d) :: r => (.str s, py d) :: pyK r
end
theorem pyL_map : ∀ xs : List D, pyL xs = xs.map py
  | [] => by simp only [pyL, List.map_nil]
  | x :: xs => by simp only [pyL, List.map_cons, pyL_map xs]
mutual
/-- nested at most n deep, no dict, no object -/
def okN : Nat → D → Bool
  | _, .non => true
  | _, .bl _ => true
  | _, .int _ => true
  | _, .str s => PyData.strOk s
  | n, .tup xs => decide (1 ≤ n) && okNL (n - 1) xs
  | n, .lst xs => decide (1 ≤ n) && okNL (n - 1) xs
  | n, .lsk xs => decide (1 ≤ n) && okNL (n - 1) xs
  | n, .tpk xs => decide (1 ≤ n) && okNL (n - 1) xs
  | _, _ => false
def okNL : Nat → List D → Bool
  | _, [] => true
  | n, x :: xs => okN n x && okNL n xs
end
theorem okNL_iff {n : Nat} : ∀ {xs : List D}, okNL n xs = true ↔ ∀ x ∈ xs, okN n x = true
  | [] => by simp [okNL]
  | x :: xs => by simp [okNL, okNL_iff (xs := xs)]
def deq (x y : D) : Bool := PyData.eqv (py x) (py y)
section
variable {K : PySem.W.Frag} {mg : MG} {H H' : Hp} {G G' : DH}
theorem KSeq.sqL {a : Addr} {vs : List V} (h : KSeq K "list" a vs) : SqL K H a vs := let ⟨o, its, n, h1, h2, h3, h4, h5, h6⟩ := h; .inr ⟨o, its, n, h1, h2, h3, h4, h5, h6⟩
theorem KSeq.sqT {a : Addr} {vs : List V} (h : KSeq K "tuple" a vs) : SqT K H a vs := let ⟨o, its, n, h1, h2, _, h4, h5, h6⟩ := h; .inr ⟨o, its, n, h1, h2, h4, h5, h6⟩
theorem TupAt.sqT {a : Addr} {vs : List V} (h : TupAt K H G a vs) : SqT K H a vs := h.elim (fun h => .inl (.inl h.2)) KSeq.sqT
theorem TpkAt.sqT {a : Addr} {vs : List V} (h : TpkAt H G a vs) : SqT K H a vs := let ⟨_, o, _, h⟩ := h; .inl (.inr ⟨o, h⟩)
theorem LskAt.sqL {a : Addr} {vs : List V} (h : LskAt K H G a vs) : SqL K H a vs := h.elim (fun h => .inl (.inr h.2)) KSeq.sqL
mutual
theorem Rp.dp : ∀ {n : Nat} {d : D} {v : V}, okN n d = true → Rp K mg H G d v → Dp K H v (py d)
  | _, _, _, _, .non => by unfold py; exact .non
  | _, _, _, _, .bl b => by rw [py]; exact .bl b
  | _, _, _, _, .int i => by rw [py]; exact .int i
  | _, _, _, _, .str x => by rw [py]; exact .str x
  | _, .ty _, _, h, .ty _ => by simp [okN] at h
  | _, _, _, h, .tup t r => by
    rw [py]
    simp only [okN, Bool.and_eq_true] at h
    exact .tup t.sqT (RpL.dp h.2 r)
  | _, _, _, h, .lst g t r => by
    rw [py]
    simp only [okN, Bool.and_eq_true] at h
    exact .lst (.inl (.inl t)) (RpL.dp h.2 r)
  | _, _, _, h, .lsk t r => by
    rw [py]
    simp only [okN, Bool.and_eq_true] at h
    exact .lst t.sqL (RpL.dp h.2 r)
  | _, _, _, h, .tpk t r => by
    rw [py]
    simp only [okN, Bool.and_eq_true] at h
    exact .tup t.sqT (RpL.dp h.2 r)
  | _, .dct _, _, h, .dct g t r => by simp [okN] at h
  | _, .mxd _, _, h, .mxd g t r => by simp [okN] at h
  | _, .exv _ _, _, h, .exv m g t gd hd n r => by simp [okN] at h
  | _, .exv _ _, _, h, .exw m g t => by simp [okN] at h
  | _, .ins _ _, _, h, .ins m g t n r => by simp [okN] at h
  | _, .cls _, _, h, .cls _ => by simp [okN] at h
  | _, .ref _, _, h, .ref _ => by simp [okN] at h
theorem RpL.dp : ∀ {n : Nat} {ds : List D} {vs : List V}, okNL n ds = true → RpL K mg H G ds vs → DpAll K H vs (pyL ds)
  | _, _, _, _, .nil => by rw [pyL]; exact .nil
  | _, _, _, h, .cons r t => by
    rw [pyL]
    simp only [okNL, Bool.and_eq_true] at h
    exact .cons (Rp.dp h.1 r) (RpL.dp h.2 t)
end
mutual
theorem okN_lay : ∀ {n : Nat} {d : D}, okN n d = true → (py d).canLay0 = true ∧ (py d).depth ≤ n
  | _, .non, _ => by simp [py, PyData.canLay0, PyData.depth]
  | _, .bl b, _ => by simp [py, PyData.canLay0, PyData.depth]
  | _, .int i, _ => by simp [py, PyData.canLay0, PyData.depth]
  | _, .str s, h => by
    simp only [okN] at h
    simp [py, PyData.canLay0, PyData.depth, h]
  | n, .tup xs, h => by
    simp only [okN, Bool.and_eq_true, decide_eq_true_eq] at h
    have := okNL_lay h.2
    simp only [py, PyData.canLay0, PyData.depth]
    exact ⟨this.1, by omega⟩
  | n, .lst xs, h => by
    simp only [okN, Bool.and_eq_true, decide_eq_true_eq] at h
    have := okNL_lay h.2
    simp only [py, PyData.canLay0, PyData.depth]
    exact ⟨this.1, by omega⟩
  | n, .lsk xs, h => by
    simp only [okN, Bool.and_eq_true, decide_eq_true_eq] at h
    have := okNL_lay h.2
    simp only [py, PyData.canLay0, PyData.depth]
    exact ⟨this.1, by omega⟩
  | n, .tpk xs, h => by
    simp only [okN, Bool.and_eq_true, decide_eq_true_eq] at h
    have := okNL_lay h.2
    simp only [py, PyData.canLay0, PyData.depth]
    exact ⟨this.1, by omega⟩
  | _, .ty _, h => by simp [okN] at h
  | _, .dct _, h => by simp [okN] at h
  | _, .mxd _, h => by simp [okN] at h
  | _, .exv _ _, h => by simp [okN] at h
  | _, .ins _ _, h => by simp [okN] at h
  | _, .cls _, h => by simp [okN] at h
  | _, .ref _, h => by simp [okN] at h
theorem okNL_lay : ∀ {n : Nat} {xs : List D}, okNL n xs = true → PyData.canLayAll0 (pyL xs) = true ∧ PyData.depthAll (pyL xs) ≤ n
  | _, [], _ => by simp [pyL, PyData.canLayAll0, PyData.depthAll]
  | n, x :: xs, h => by
    simp only [okNL, Bool.and_eq_true] at h
    have h1 := okN_lay h.1
    have h2 := okNL_lay h.2
    simp only [pyL, PyData.canLayAll0, PyData.depthAll, Bool.and_eq_true]
    exact ⟨⟨h1.1, h2.1⟩, by omega⟩
end
end
end DL

namespace DL
open L2 PyProof.Rows PySem PySem.Spec

/-! ### 5. operators -/
section
variable {X : Cx} {lv : Nat} {cm : Bool}
def rII (C : Int → Int → Prop) (g : Int → Int → D) : R2D := fun x y G Q => match x, y with
  | .int i, .int j => C i j ∧ Q (g i j) G
  | _, _ => False
/-- from a rule of two ints -/
theorem opd_II {f : Value → Value → Sem Value} {C C' : Int → Int → Prop} {g : Int → Int → D} {gV : Int → Int → V} (ho : OpR X f (rI C' gV)) (hc : ∀ i j, C i j → C' i j) (hr : ∀ i j K mg H G, Rp K mg H G (g i j) (gV i j)) : OpD X lv cm f (rII C g) := by
  intro gd pins s σ H G dx dy x y v u Q R I rx ry hg r1 r2 h l
  cases r1 with
  | int i => cases r2 with
    | int j => exact ho pins s σ H _ _ v u Q I rx ry ⟨i, j, rfl, rfl, hc i j h.1, l _ G H _ h.2 (Ext.refl _ _) hg (hr i j _ _ _ _)⟩
    | _ => exact h.elim
  | _ => exact h.elim
theorem opd_II0 {f : Value → Value → Sem Value} {g : Int → Int → D} {gV : Int → Int → V} (ho : OpR X f (rI0 gV)) (hr : ∀ i j K mg H G, Rp K mg H G (g i j) (gV i j)) : OpD X lv cm f (rII (fun _ _ => True) g) := by
  intro gd pins s σ H G dx dy x y v u Q R I rx ry hg r1 r2 h l
  cases r1 with
  | int i => cases r2 with
    | int j => exact ho pins s σ H _ _ v u Q I rx ry ⟨i, j, rfl, rfl, l _ G H _ h.2 (Ext.refl _ _) hg (hr i j _ _ _ _)⟩
    | _ => exact h.elim
  | _ => exact h.elim
def cmp (p : Int → Int → Bool) : R2D := fun x y G Q => match x, y with
  | .int i, .int j => Q (.bl (p i j)) G
  | _, _ => False
theorem opd_cmp {f : Value → Value → Sem Value} {p : Int → Int → Bool} (ho : OpR X f (rI0 fun i j => .bl (p i j))) : OpD X lv cm f (cmp p) := by
  intro gd pins s σ H G dx dy x y v u Q R I rx ry hg r1 r2 h l
  cases r1 with
  | int i => cases r2 with
    | int j => exact ho pins s σ H _ _ v u Q I rx ry ⟨i, j, rfl, rfl, l _ G H _ h (Ext.refl _ _) hg (.bl _)⟩
    | _ => exact h.elim
  | _ => exact h.elim
abbrev rLt : R2D := cmp fun i j => decide (i < j)
abbrev rLe : R2D := cmp fun i j => decide (i ≤ j)
abbrev rGt : R2D := cmp fun i j => decide (j < i)
abbrev rGe : R2D := cmp fun i j => decide (j ≤ i)
theorem od_lt : OpD X lv cm (compareOp .Lt) rLt := opd_cmp op_lt
theorem od_le : OpD X lv cm (compareOp .LtE) rLe := opd_cmp op_le
theorem od_gt : OpD X lv cm (compareOp .Gt) rGt := opd_cmp op_gt
theorem od_ge : OpD X lv cm (compareOp .GtE) rGe := opd_cmp op_ge
def rSub : R2D := fun x y G Q => match x, y with
  | .int i, .int j => Q (.int (i - j)) G
  | _, _ => False
theorem od_sub : OpD X lv cm (binaryOp .Sub) rSub := by
  intro gd pins s σ H G dx dy x y v u Q R I rx ry hg r1 r2 h l
  cases r1 with
  | int i => cases r2 with
    | int j => exact op_sub pins s σ H _ _ v u Q I rx ry ⟨i, j, rfl, rfl, l _ G H _ h (Ext.refl _ _) hg (.int _)⟩
    | _ => exact h.elim
  | _ => exact h.elim
/-- both small enough together -/
def MulOk (i j : Int) : Prop := i.natAbs.log2 + j.natAbs.log2 < 1000000
def rMul : R2D := fun x y G Q => match x, y with
  | .int i, .int j => MulOk i j ∧ Q (.int (i * j)) G
  | _, _ => False
theorem od_mul : OpD X lv cm (binaryOp .Mult) rMul := by
  intro gd pins s σ H G dx dy x y v u Q R I rx ry hg r1 r2 h l
  cases r1 with
  | int i => cases r2 with
    | int j => exact op_mulW pins s σ H _ _ v u Q I rx ry ⟨i, j, rfl, rfl, h.1, l _ G H _ h.2 (Ext.refl _ _) hg (.int _)⟩
    | _ => exact h.elim
  | _ => exact h.elim
/-- // by a positive number -/
def rDivP : R2D := fun x y G Q => match x, y with
  | .int i, .int j => (0 < j ∧ j.natAbs.log2 < 9000) ∧ Q (.int (i / j)) G
  | _, _ => False
theorem od_divP : OpD X lv cm (binaryOp .FloorDiv) rDivP := by
  intro gd pins s σ H G dx dy x y v u Q R I rx ry hg r1 r2 h l
  cases r1 with
  | int i => cases r2 with
    | int j => exact op_fdivW pins s σ H _ _ v u Q I rx ry ⟨i, j, rfl, rfl, h.1, l _ G H _ h.2 (Ext.refl _ _) hg (.int _)⟩
    | _ => exact h.elim
  | _ => exact h.elim
/-- // by any number but 0 -/
def rDiv : R2D := fun x y G Q => match x, y with
  | .int i, .int j => (j ≠ 0 ∧ j.natAbs.log2 < 9000) ∧ Q (.int (i.fdiv j)) G
  | _, _ => False
theorem op_fdivA : OpR X (binaryOp .FloorDiv) (rI (fun _ j => j ≠ 0 ∧ j.natAbs.log2 < 9000) fun i j => .int (i.fdiv j)) := opI fun _ _ _ _ _ _ _ hc q => floordiv_int hc.1 q (.inl (PyProof.noPylong_of_log2 hc.2))
theorem od_div : OpD X lv cm (binaryOp .FloorDiv) rDiv := by
  intro gd pins s σ H G dx dy x y v u Q R I rx ry hg r1 r2 h l
  cases r1 with
  | int i => cases r2 with
    | int j => exact op_fdivA pins s σ H _ _ v u Q I rx ry ⟨i, j, rfl, rfl, h.1, l _ G H _ h.2 (Ext.refl _ _) hg (.int _)⟩
    | _ => exact h.elim
  | _ => exact h.elim
def rModP : R2D := fun x y G Q => match x, y with
  | .int i, .int j => 0 < j ∧ Q (.int (i % j)) G
  | _, _ => False
theorem od_modP : OpD X lv cm (binaryOp .Mod) rModP := by
  intro gd pins s σ H G dx dy x y v u Q R I rx ry hg r1 r2 h l
  cases r1 with
  | int i => cases r2 with
    | int j => exact op_mod pins s σ H _ _ v u Q I rx ry ⟨i, j, rfl, rfl, h.1, l _ G H _ h.2 (Ext.refl _ _) hg (.int _)⟩
    | _ => exact h.elim
  | _ => exact h.elim
def rPow : R2D := fun x y G Q => match x, y with
  | .int i, .int j => (0 ≤ j ∧ j ≤ 1000000 ∧ i.natAbs < 2 ^ 64) ∧ Q (.int (i ^ j.toNat)) G
  | _, _ => False
theorem od_pow : OpD X lv cm (binaryOp .Pow) rPow := by
  intro gd pins s σ H G dx dy x y v u Q R I rx ry hg r1 r2 h l
  cases r1 with
  | int i => cases r2 with
    | int j => exact op_pow pins s σ H _ _ v u Q I rx ry ⟨i, j, rfl, rfl, h.1, l _ G H _ h.2 (Ext.refl _ _) hg (.int _)⟩
    | _ => exact h.elim
  | _ => exact h.elim
def rNeg : R1D := fun x G Q => match x with
  | .int i => Q (.int (-i)) G
  | _ => False
theorem od_neg : UnD X lv cm (unaryOp .USub) rNeg := by
  intro gd pins s σ H G dx x v Q R I rx hg r1 h l
  cases r1 with
  | int i => exact un_neg pins s σ H _ v Q I rx ⟨i, rfl, l _ G H _ h (Ext.refl _ _) hg (.int _)⟩
  | _ => exact h.elim
/-- the live list, as the heap has it -/
theorem rs_lst {H : Hp} {G : DH} {d : D} {v : V} {xs : List D} (hg : HpOk X.K X.mh H G) (r : Rp X.K X.mh H G d v) (h : rs G d = .lst xs) : ∃ a vs, v = .ref a ∧ H a = some (.lst vs) ∧ RpL X.K X.mh H G xs vs := by
  cases r with
  | lst g e r => cases h; exact ⟨_, _, rfl, e, r⟩
  | ref a =>
    unfold rs at h
    cases e : G a with
    | none => simp only [e] at h; cases h
    | some o =>
      simp only [e] at h
      have q := hg a o e
      cases q with
      | lst e2 r => cases h; exact ⟨a, _, rfl, e2, r⟩
      | dct _ _ => cases h
      | ins _ _ _ _ => cases h
      | tb _ => cases h
      | mx _ _ => cases h
  | _ => cases h
theorem rs_dct {H : Hp} {G : DH} {d : D} {v : V} {kvs : List (Key × D)} (hg : HpOk X.K X.mh H G) (r : Rp X.K X.mh H G d v) (h : rs G d = .dct kvs) : ∃ a vs, v = .ref a ∧ Rd H a (.dK vs) ∧ RpK X.K X.mh H G kvs vs := by
  cases r with
  | dct g e r => cases h; exact ⟨_, _, rfl, e, r⟩
  | ref a =>
    unfold rs at h
    cases e : G a with
    | none => simp only [e] at h; cases h
    | some o =>
      simp only [e] at h
      have q := hg a o e
      cases q with
      | dct e2 r => cases h; exact ⟨a, _, rfl, .inl e2, r⟩
      | lst _ _ => cases h
      | ins _ _ _ _ => cases h
      | tb _ => cases h
      | mx _ _ => cases h
  | _ => cases h
theorem rs_mxd {H : Hp} {G : DH} {d : D} {v : V} {kvs : List (MKey × D)} (hg : HpOk X.K X.mh H G) (r : Rp X.K X.mh H G d v) (h : rs G d = .mxd kvs) : ∃ a o vs, v = .ref a ∧ H a = some (mixO (mHash X.prog X.w) a o vs) ∧ RpX X.K X.mh H G kvs vs := by
  cases r with
  | mxd g e r => cases h; exact ⟨_, _, _, rfl, e, r⟩
  | ref a =>
    unfold rs at h
    cases e : G a with
    | none => simp only [e] at h; cases h
    | some o =>
      simp only [e] at h
      have q := hg a o e
      cases q with
      | mx e2 r => cases h; exact ⟨a, _, _, rfl, e2, r⟩
      | lst _ _ => cases h
      | ins _ _ _ _ => cases h
      | tb _ => cases h
      | dct _ _ => cases h
  | _ => cases h
theorem rs_tup {H : Hp} {G : DH} {d : D} {v : V} {xs : List D} (r : Rp X.K X.mh H G d v) (h : rs G d = .tup xs) : ∃ a vs, v = .ref a ∧ TupAt X.K H G a vs ∧ RpL X.K X.mh H G xs vs := by
  cases r with
  | tup e r => cases h; exact ⟨_, _, rfl, e, r⟩
  | ref a =>
    unfold rs at h
    cases e : G a with
    | none => simp only [e] at h; cases h
    | some o => simp only [e] at h; cases o <;> cases h
  | _ => cases h
theorem rs_str {H : Hp} {G : DH} {d : D} {v : V} {x : Str} (r : Rp X.K X.mh H G d v) (h : rs G d = .str x) : v = .str x := by
  cases r with
  | str y => cases h; rfl
  | ref a =>
    unfold rs at h
    cases e : G a with
    | none => simp only [e] at h; cases h
    | some o => simp only [e] at h; cases o <;> cases h
  | _ => cases h
theorem rs_int {H : Hp} {G : DH} {d : D} {v : V} {x : Int} (r : Rp X.K X.mh H G d v) (h : rs G d = .int x) : v = .int x := by
  cases r with
  | int y => cases h; rfl
  | ref a =>
    unfold rs at h
    cases e : G a with
    | none => simp only [e] at h; cases h
    | some o => simp only [e] at h; cases o <;> cases h
  | _ => cases h
theorem rs_tpk {H : Hp} {G : DH} {d : D} {v : V} {xs : List D} (r : Rp X.K X.mh H G d v) (h : rs G d = .tpk xs) : ∃ a vs, v = .ref a ∧ TpkAt H G a vs ∧ RpL X.K X.mh H G xs vs := by
  cases r with
  | tpk e r => cases h; exact ⟨_, _, rfl, e, r⟩
  | ref a =>
    unfold rs at h
    cases e : G a with
    | none => simp only [e] at h; cases h
    | some o => simp only [e] at h; cases o <;> cases h
  | _ => cases h
theorem rs_lsk {H : Hp} {G : DH} {d : D} {v : V} {xs : List D} (r : Rp X.K X.mh H G d v) (h : rs G d = .lsk xs) : ∃ a vs, v = .ref a ∧ LskAt X.K H G a vs ∧ RpL X.K X.mh H G xs vs := by
  cases r with
  | lsk e r => cases h; exact ⟨_, _, rfl, e, r⟩
  | ref a =>
    unfold rs at h
    cases e : G a with
    | none => simp only [e] at h; cases h
    | some o => simp only [e] at h; cases o <;> cases h
  | _ => cases h
/-- + -/
def rAdd : R2D := fun x y G Q => match rs G x, rs G y with
  | .int i, .int j => Q (.int (i + j)) G
  | .str s, .str t => s.length + t.length ≤ sizeLine ∧ Q (.str (s ++ t)) G
  | .lst xs, .lst ys => xs.length + ys.length ≤ sizeLine ∧ Q (.lst (xs ++ ys)) G
  | .tup xs, .tup ys => xs.length + ys.length ≤ sizeLine ∧ xs ≠ [] ∧ Q (.tup (xs ++ ys)) G
  | _, _ => False
theorem od_add : OpD X lv cm (binaryOp .Add) rAdd := by
  intro gd pins s σ H G dx dy x y v u Q R I rx ry hg r1 r2 h l
  unfold rAdd at h
  cases e1 : rs G dx with
  | int i =>
    cases e2 : rs G dy with
    | int j =>
      rw [e1, e2] at h
      cases rs_int r1 e1
      cases rs_int r2 e2
      exact op_add pins s σ H _ _ v u Q I rx ry ⟨i, j, rfl, rfl, l _ G H _ h (Ext.refl _ _) hg (.int _)⟩
    | _ => rw [e1, e2] at h; exact h.elim
  | str i =>
    cases e2 : rs G dy with
    | str j =>
      rw [e1, e2] at h
      cases rs_str r1 e1
      cases rs_str r2 e2
      exact op_add_str pins s σ H _ _ v u Q I rx ry ⟨i, j, rfl, rfl, h.1, l _ G H _ h.2 (Ext.refl _ _) hg (.str _)⟩
    | _ => rw [e1, e2] at h; exact h.elim
  | lst xs =>
    cases e2 : rs G dy with
    | lst ys =>
      rw [e1, e2] at h
      obtain ⟨a, vs, rfl, ha, ra⟩ := rs_lst hg r1 e1
      obtain ⟨b, us, rfl, hb, rb⟩ := rs_lst hg r2 e2
      exact op_cat pins s σ H _ _ v u Q I rx ry ⟨a, b, vs, us, rfl, rfl, ha, hb, by rw [← ra.length, ← rb.length]; exact h.1, fun p hp =>
        l _ G _ _ h.2 (Ext.newF hp) (hg.newF hp) (.lst (hg.free hp) upd_same ((ra.append rb).ext (Ext.newF hp)))⟩
    | _ => rw [e1, e2] at h; exact h.elim
  | tup xs =>
    cases e2 : rs G dy with
    | tup ys =>
      rw [e1, e2] at h
      obtain ⟨a, vs, rfl, ha, ra⟩ := rs_tup r1 e1
      obtain ⟨b, us, rfl, hb, rb⟩ := rs_tup r2 e2
      refine op_catT pins s σ H _ _ v u Q I rx ry ⟨a, b, vs, us, rfl, rfl, ha.sqT, hb.sqT, fun z => ?_, by rw [← ra.length, ← rb.length]; exact h.1, fun z => ?_, fun z => fun p hp => ?_⟩
      · subst z; cases ra; exact h.2.1 rfl
      · subst z; cases rb
        have q := h.2.2
        rw [List.append_nil] at q
        exact l _ G H _ q (Ext.refl _ _) hg (.tup ha ra)
      · exact l _ G _ _ h.2.2 (Ext.newF hp) (hg.newF hp) (.tup (.inl ⟨hg.free hp, upd_same⟩) ((ra.append rb).ext (Ext.newF hp)))
    | _ => rw [e1, e2] at h; exact h.elim
  | _ => rw [e1] at h; exact h.elim
/-- == and != of plain data -/
def isS (d : D) : Bool := match d with
  | .str _ => true
  | _ => false
def okQ (x y : D) : Bool := (isS x && isS y) || (okN 60 x && okN 60 y)
def rEq : R2D := fun x y G Q => okQ (rs G x) (rs G y) = true ∧ Q (.bl (deq (rs G x) (rs G y))) G
def rNe : R2D := fun x y G Q => okQ (rs G x) (rs G y) = true ∧ Q (.bl (!deq (rs G x) (rs G y))) G
theorem okQ_cases {x y : D} (h : okQ x y = true) : (∃ s t, x = .str s ∧ y = .str t) ∨ (okN 60 x = true ∧ okN 60 y = true) := by
  unfold okQ at h
  rcases Bool.or_eq_true _ _ ▸ h with h | h
  · rw [Bool.and_eq_true] at h
    cases x with
    | str s => cases y with
      | str t => exact .inl ⟨s, t, rfl, rfl⟩
      | _ => exact absurd h.2 Bool.false_ne_true
    | _ => exact absurd h.1 Bool.false_ne_true
  · rw [Bool.and_eq_true] at h
    exact .inr h
theorem deq_strV {s t : Str} : decide (V.str s = V.str t) = deq (.str s) (.str t) := by
  rw [L2.dec_str]
  simp only [deq, py, PyData.eqv]
theorem rs_dp {H : Hp} {G : DH} {d : D} {v : V} (hg : HpOk X.K X.mh H G) (r : Rp X.K X.mh H G d v) {n : Nat} (h : okN n (rs G d) = true) : Dp X.K H v (py (rs G d)) := by
  cases r with
  | ref a =>
    cases e : G a with
    | none => simp only [rs, e, okN] at h; exact absurd h Bool.false_ne_true
    | some o =>
      have q := hg a o e
      cases q with
      | lst e2 r =>
        simp only [rs, e] at h ⊢
        rw [py]
        simp only [okN, Bool.and_eq_true] at h
        exact .lst (.inl (.inl e2)) (RpL.dp h.2 r)
      | dct _ _ => simp only [rs, e, okN] at h; exact absurd h Bool.false_ne_true
      | ins _ _ _ _ => simp only [rs, e, okN] at h; exact absurd h Bool.false_ne_true
      | tb _ => simp only [rs, e, okN] at h; exact absurd h Bool.false_ne_true
      | mx _ _ => simp only [rs, e, okN] at h; exact absurd h Bool.false_ne_true
  | non => exact Rp.dp (K := X.K) (mg := X.mh) (G := G) h .non
  | bl b => exact Rp.dp (K := X.K) (mg := X.mh) (G := G) h (.bl b)
  | int i => exact Rp.dp (K := X.K) (mg := X.mh) (G := G) h (.int i)
  | str i => exact Rp.dp (K := X.K) (mg := X.mh) (G := G) h (.str i)
  | ty i => exact Rp.dp (K := X.K) (mg := X.mh) (G := G) h (.ty i)
  | tup a b => exact Rp.dp h (.tup a b)
  | lst a b c => exact Rp.dp h (.lst a b c)
  | lsk a b => exact Rp.dp h (.lsk a b)
  | tpk a b => exact Rp.dp h (.tpk a b)
  | dct a b c => exact Rp.dp h (.dct a b c)
  | mxd a b c => exact Rp.dp h (.mxd a b c)
  | ins a b c d e => exact Rp.dp h (.ins a b c d e)
  | cls a => exact Rp.dp h (.cls (K := X.K) (H := H) (G := G) a)
  | exc0 _ => simp only [rs, okN] at h; exact absurd h Bool.false_ne_true
  | exv _ _ _ _ _ _ _ => simp only [rs, okN] at h; exact absurd h Bool.false_ne_true
  | exw _ _ _ => simp only [rs, okN] at h; exact absurd h Bool.false_ne_true
  | exc _ _ _ _ _ => simp only [rs, okN] at h; exact absurd h Bool.false_ne_true
theorem shaped_py {d : D} (h : okN 60 d = true) : SeqAt.shaped (py d) = true := by
  obtain ⟨h1, h2⟩ := okN_lay h
  unfold SeqAt.shaped
  rw [h1, decide_eq_true (by omega)]; rfl
theorem Gd.un64 {X : Cx} (gd : Gd X lv cm) : X.A.units + 64 < cLine := by have := gd.un; omega
theorem od_eq : OpD X lv cm (compareOp .Eq) rEq := by
  intro gd pins s σ H G dx dy x y v u Q R I rx ry hg r1 r2 h l
  rcases okQ_cases h.1 with ⟨a, b, e1, e2⟩ | hk
  · cases rs_str r1 e1
    cases rs_str r2 e2
    refine L2.op_eq pins s σ H _ _ v u Q I rx ry ⟨rfl, l _ G H _ ?_ (Ext.refl _ _) hg (.bl _)⟩
    rw [deq_strV, ← e1, ← e2]; exact h.2
  · exact op_eqD gd.un64 pins s σ H _ _ v u Q I rx ry ⟨_, _, rs_dp hg r1 hk.1, rs_dp hg r2 hk.2, shaped_py hk.1, shaped_py hk.2, l _ G H _ h.2 (Ext.refl _ _) hg (.bl _)⟩
theorem od_ne : OpD X lv cm (compareOp .NotEq) rNe := by
  intro gd pins s σ H G dx dy x y v u Q R I rx ry hg r1 r2 h l
  rcases okQ_cases h.1 with ⟨a, b, e1, e2⟩ | hk
  · cases rs_str r1 e1
    cases rs_str r2 e2
    refine L2.op_ne pins s σ H _ _ v u Q I rx ry ⟨rfl, l _ G H _ ?_ (Ext.refl _ _) hg (.bl _)⟩
    rw [deq_strV, ← e1, ← e2]; exact h.2
  · exact op_neD gd.un64 pins s σ H _ _ v u Q I rx ry ⟨_, _, rs_dp hg r1 hk.1, rs_dp hg r2 hk.2, shaped_py hk.1, shaped_py hk.2, l _ G H _ h.2 (Ext.refl _ _) hg (.bl _)⟩
/-- == and != of texts, ints -/
def isN (d : D) : Bool := match d with
  | .non => true
  | _ => false
def rIsN : R2D := fun x y G Q => match y with
  | .non => Q (.bl (isN x)) G
  | _ => False
def rNotN : R2D := fun x y G Q => match y with
  | .non => Q (.bl (!isN x)) G
  | _ => False
theorem isN_v {H : Hp} {G : DH} {d : D} {v : V} (r : Rp X.K X.mh H G d v) : decide (v = .non) = isN d := by
  cases r with
  | non => rfl
  | _ => exact decide_eq_false (fun z => by cases z)
theorem od_isN : OpD X lv cm (compareOp .Is) rIsN := by
  intro gd pins s σ H G dx dy x y v u Q R I rx ry hg r1 r2 h l
  cases r2 with
  | non => exact op_isN pins s σ H _ _ v u Q I rx ry ⟨rfl, by rw [isN_v r1]; exact l _ G H _ h (Ext.refl _ _) hg (.bl _)⟩
  | _ => exact h.elim
theorem od_notN : OpD X lv cm (compareOp .IsNot) rNotN := by
  intro gd pins s σ H G dx dy x y v u Q R I rx ry hg r1 r2 h l
  cases r2 with
  | non => exact op_notN pins s σ H _ _ v u Q I rx ry ⟨rfl, by rw [isN_v r1]; exact l _ G H _ h (Ext.refl _ _) hg (.bl _)⟩
  | _ => exact h.elim
end
end DL

namespace DL
open L2 PyProof.Rows PySem PySem.Spec

/-! ### 6. in, places, slices, built-in functions -/
def kyD : D → Option Key
  | .int i => some (.inl i)
  | .str s => some (.inr s)
  | _ => none
theorem dget_rd {H : Hp} {a : Addr} {kvs : List (Key × V)} {k : Key} (e : Rd H a (.dK kvs)) : DGet H a (kV k) (valV kvs k) := .inl ⟨kvs, k, e, rfl, rfl⟩
/-- d[k] of a dict with keys of either kind -/
def lkX (kvs : List (MKey × D)) (k : MKey) : Option D := (kvs.find? fun p => decide (p.1 = k)).map (·.2)
/-- d[k] = v -/
def ptX (k : MKey) (v : D) : List (MKey × D) → List (MKey × D)
  | [] => [(k, v)]
  | x :: xs => if x.1 = k then (x.1, v) :: xs else x :: ptX k v xs
def strIn (c z : Str) : Bool := !(Builtin.Str.occurrences z c 0 z.length 1).isEmpty
theorem strIn_one (c : Nat) (z : Str) : strIn ⟨#[c]⟩ z = decide (c ∈ z.cps.toList) := PySem.StrLaws.found_one z c
section
variable {X : Cx} {lv : Nat} {cm : Bool}
theorem key_v {H : Hp} {G : DH} {d : D} {v : V} {k : Key} (r : Rp X.K X.mh H G d v) (h : kyD d = some k) : v = kV k := by
  cases r with
  | int i => cases h; rfl
  | str i => cases h; rfl
  | _ => cases h
theorem kV_rp {H : Hp} {G : DH} {k : Key} {v : V} (r : Rp X.K X.mh H G (kyK k) v) : v = kV k := by
  cases k with
  | inl i => cases r; rfl
  | inr i => cases r; rfl
theorem kV_rpL {H : Hp} {G : DH} : ∀ {ks : List Key} {vs : List V}, RpL X.K X.mh H G (ks.map kyK) vs → vs = ks.map kV
  | [], _, .nil => rfl
  | k :: ks, _, .cons r t => by rw [kV_rp r, kV_rpL t]; rfl
/-- a key that is told, in the heap -/
theorem key_is {pins : List (Addr × Obj)} {s : Shared} {σ : L2.St} {H : Hp} {G : DH} {k : MKey} {v : V} {u : Value} (I : Inv X pins σ H s) (r : Rp X.K X.mh H G (keyD k) v) (ru : RelV v u) : mIs X.prog X.w s.heap k u := by
  cases k with
  | inl k =>
    cases (kV_rp (show Rp X.K X.mh H G (kyK k) v from r))
    exact kV_is (P := X.prog) (w := X.w) ru
  | inr ks =>
    cases (show Rp X.K X.mh H G (.tup (ks.map kyK)) v from r) with
    | tup ta rl =>
      cases (show u = Value.ref _ from ru)
      obtain ⟨its, rv, hp, hz⟩ := I.tuple (X := X) ta.sqT
      rw [kV_rpL rl] at rv
      obtain ⟨o, ho, hc, n, hd⟩ := hp
      exact ⟨_, rfl, o, its.toArray, n, ho, hc, hd, by simpa using L2.items_are rv⟩
theorem keys_are {pins : List (Addr × Obj)} {s : Shared} {σ : L2.St} {H : Hp} {G : DH} (I : Inv X pins σ H s) : ∀ {kvs : List (MKey × D)} {vs : List MV}, RpX X.K X.mh H G kvs vs → ∀ p ∈ vs, ∀ u, RelV p.2.1 u → mIs X.prog X.w s.heap p.1 u
  | _, _, .nil, _, h => nomatch h
  | _, _, .cons q r t, p, h => by
    rcases List.mem_cons.mp h with rfl | h
    · exact fun u ru => key_is I q ru
    · exact keys_are I t p h
theorem RpX.val {H : Hp} {G : DH} {k : MKey} : ∀ {kvs : List (MKey × D)} {vs : List MV}, RpX X.K X.mh H G kvs vs → (∀ d, lkX kvs k = some d → ∃ v, mval vs k = some v ∧ Rp X.K X.mh H G d v) ∧ (lkX kvs k = none → mval vs k = none)
  | _, _, .nil => ⟨(fun d h => nomatch h), fun _ => rfl⟩
  | _, _, .cons (k := k1) (d := d1) (y := y1) (v := v1) q r t => by
    obtain ⟨h1, h2⟩ := RpX.val (k := k) t
    unfold lkX mval at h1 h2 ⊢
    rw [List.find?_cons, List.find?_cons]
    by_cases e : k1 = k
    · rw [decide_eq_true e]
      exact ⟨fun d hd => by cases hd; exact ⟨_, rfl, r⟩, fun z => nomatch z⟩
    · rw [decide_eq_false e]
      exact ⟨h1, h2⟩
theorem RpX.some_eq {H : Hp} {G : DH} {k : MKey} {kvs : List (MKey × D)} {vs : List MV} (r : RpX X.K X.mh H G kvs vs) : (mval vs k).isSome = (lkX kvs k).isSome := by
  obtain ⟨h1, h2⟩ := r.val (k := k)
  cases e : lkX kvs k with
  | none => rw [h2 e]; rfl
  | some d => obtain ⟨v, hv, _⟩ := h1 d e; rw [hv]; rfl
theorem RpX.length {H : Hp} {G : DH} : ∀ {kvs : List (MKey × D)} {vs : List MV}, RpX X.K X.mh H G kvs vs → kvs.length = vs.length
  | _, _, .nil => rfl
  | _, _, .cons _ _ t => congrArg (· + 1) (RpX.length t)
theorem RpX.put {H : Hp} {G : DH} {k : MKey} {d : D} {y v : V} (q : Rp X.K X.mh H G (keyD k) y) (r : Rp X.K X.mh H G d v) : ∀ {kvs : List (MKey × D)} {vs : List MV}, RpX X.K X.mh H G kvs vs → RpX X.K X.mh H G (ptX k d kvs) (mput k y v vs)
  | _, _, .nil => .cons q r .nil
  | _, _, .cons (k := k1) q1 r1 t => by
    unfold ptX mput
    by_cases e : k1 = k
    · rw [if_pos e, if_pos e]; exact .cons q1 r t
    · rw [if_neg e, if_neg e]; exact .cons q1 r1 (RpX.put q r t)
theorem Gd.un1 (gd : Gd X lv cm) : X.A.units + 1 < cLine := by have := gd.un; omega
/-- what the items answer, asked whether they are x -/
noncomputable def eqAsk (h : Heap) (x : PyData) (u : Value) : Bool := by
  classical exact if q : ∃ p as, Reads h u p as then PyData.eqv (Classical.choose q) x else false
theorem eqAsk_of {h : Heap} {x p : PyData} {u : Value} {as : List Addr} (hp : p.canLay0 = true) (r : Reads h u p as) : eqAsk h x u = PyData.eqv p x := by
  have q : ∃ p as, Reads h u p as := ⟨p, as, r⟩
  unfold eqAsk
  rw [dif_pos q]
  obtain ⟨as', r'⟩ := Classical.choose_spec q
  rw [← SeqAt.Reads.unique p _ u as as' hp r r']
theorem ask_all {pins : List (Addr × Obj)} {s : Shared} {σ : L2.St} {H : Hp} {G : DH} {A : Around} (I : Inv X pins σ H s) (hu : A.units + 64 < cLine) {dx : D} {v : Value} {as : List Addr} (hx : okN 60 dx = true) (rx : Reads s.heap v (py dx) as) :
    ∀ {xs : List D} {vs : List V} {us : List Value}, RpL X.K X.mh H G xs vs → Vals vs us → okNL 60 xs = true → (∀ u ∈ us, SeqAt.EqAt A s u v (eqAsk s.heap (py dx) u)) ∧ us.any (eqAsk s.heap (py dx)) = xs.any fun d => deq d dx
  | _, _, _, .nil, .nil, _ => ⟨(fun u h => by cases h), rfl⟩
  | _, _, _, .cons r t, .cons q ts, h => by
    simp only [okNL, Bool.and_eq_true] at h
    obtain ⟨bs, rd⟩ := Dp.reads I _ _ _ (Rp.dp h.1 r) q
    obtain ⟨i1, i2⟩ := ask_all I hu hx rx t ts h.2
    obtain ⟨l1, l2⟩ := okN_lay h.1
    obtain ⟨l3, l4⟩ := okN_lay hx
    have e := eqAsk_of (x := py dx) l1 rd
    refine ⟨fun w hw => ?_, by rw [List.any_cons, List.any_cons, e, i2]; rfl⟩
    rcases List.mem_cons.mp hw with rfl | hw
    · rw [e]; exact SeqAt.eqAt_reads _ _ _ _ _ _ _ _ rd rx l1 l3 (by omega)
    · exact i1 w hw
def inD (x : D) (ys : List D) : Bool := ys.any fun d => deq d x
def rInB (G : DH) (x y : D) (K : Bool → Prop) : Prop := match rs G y with
  | .dct kvs => match kyD x with
    | some k => K (lkK kvs k).isSome
    | none => False
  | .mxd kvs => ∃ k, x = keyD k ∧ K (lkX kvs k).isSome
  | .str z => match x with
    | .str c => K (strIn c z)
    | _ => False
  | .lst ys => (okN 60 (rs G x) = true ∧ okNL 60 ys = true) ∧ K (inD (rs G x) ys)
  | .tup ys => (okN 60 (rs G x) = true ∧ okNL 60 ys = true) ∧ K (inD (rs G x) ys)
  | _ => False
def rIn : R2D := fun x y G Q => rInB G x y fun b => Q (.bl b) G
def rNotIn : R2D := fun x y G Q => rInB G x y fun b => Q (.bl (!b)) G
theorem isSome_look {k : Key} {kvs : List (Key × D)} {vs : List (Key × V)} {H : Hp} {G : DH} (r : RpK X.K X.mh H G kvs vs) : (valV vs k).isSome = (lkK kvs k).isSome := by
  obtain ⟨h1, h2⟩ := r.look (k := k)
  cases e : lkK kvs k with
  | none => rw [h2 e]; rfl
  | some d => obtain ⟨v, hv, _⟩ := h1 d e; rw [hv]; rfl
theorem od_in : OpD X lv cm (compareOp .In) rIn := by
  intro gd pins s σ H G dx dy x y v u Q R I rx ry hg r1 r2 h l
  unfold rIn rInB at h
  have fin : ∀ b, R (.bl b) G → EP X pins σ Q (.bool b) s := fun b hb => ⟨.bl b, H, I, rfl, l _ G H _ hb (Ext.refl _ _) hg (.bl _)⟩
  cases e2 : rs G dy with
  | dct kvs =>
    simp only [e2] at h
    obtain ⟨a, vs, rfl, ha, ra⟩ := rs_dct hg r2 e2
    cases ek : kyD dx with
    | none => simp only [ek] at h
    | some k =>
      simp only [ek] at h
      cases key_v r1 ek
      obtain rfl : u = Value.ref a := ry
      refine d_in gd.un1 I (dget_rd (k := k) ha) rx fun s' I' => ⟨.bl _, H, I', rfl, ?_⟩
      rw [isSome_look ra]
      exact l _ G H _ h (Ext.refl _ _) hg (.bl _)
  | mxd kvs =>
    simp only [e2] at h
    obtain ⟨a, o, vs, rfl, ha, ra⟩ := rs_mxd hg r2 e2
    obtain ⟨k, rfl, h⟩ := h
    obtain rfl : u = Value.ref a := ry
    refine m_in gd.un1 I ha (keys_are I ra) (key_is I r1 rx) fun s' I' => ⟨.bl _, H, I', rfl, ?_⟩
    rw [ra.some_eq]
    exact l _ G H _ h (Ext.refl _ _) hg (.bl _)
  | str z =>
    simp only [e2] at h
    cases rs_str r2 e2
    cases r1 with
    | str c => exact op_in_str pins s σ H _ _ v u Q I rx ry ⟨c, z, rfl, rfl, l _ G H _ h (Ext.refl _ _) hg (.bl _)⟩
    | _ => exact h.elim
  | lst ys =>
    simp only [e2] at h
    obtain ⟨a, vs, rfl, ha, ra⟩ := rs_lst hg r2 e2
    obtain rfl : u = Value.ref a := ry
    obtain ⟨its, rv, pl, hz⟩ := I.list (X := X) (.inl (.inl ha))
    obtain ⟨as, rd⟩ := Dp.reads I _ _ _ (rs_dp hg r1 h.1.1) rx
    obtain ⟨k1, k2⟩ := ask_all (A := X.A.in1) I (by have := gd.un; show X.A.units + 1 + 64 < _; omega) h.1.1 rd ra rv h.1.2
    refine SeqAt.in_listAt _ pl.isList (fun w hw => k1 w (by simpa using hw)) (fin _ ?_)
    rw [show its.toArray.any (eqAsk s.heap (py (rs G dx))) = its.any (eqAsk s.heap (py (rs G dx))) by simp, k2]
    exact h.2
  | tup ys =>
    simp only [e2] at h
    obtain ⟨a, vs, rfl, ha, ra⟩ := rs_tup r2 e2
    obtain rfl : u = Value.ref a := ry
    obtain ⟨its, rv, pl, hz⟩ := I.tuple (X := X) ha.sqT
    obtain ⟨as, rd⟩ := Dp.reads I _ _ _ (rs_dp hg r1 h.1.1) rx
    obtain ⟨k1, k2⟩ := ask_all (A := X.A.in1) I (by have := gd.un; show X.A.units + 1 + 64 < _; omega) h.1.1 rd ra rv h.1.2
    refine SeqAt.in_tupleAt _ pl (fun w hw => k1 w (by simpa using hw)) (fin _ ?_)
    rw [show its.toArray.any (eqAsk s.heap (py (rs G dx))) = its.any (eqAsk s.heap (py (rs G dx))) by simp, k2]
    exact h.2
  | _ => simp only [e2] at h
theorem od_notIn : OpD X lv cm (compareOp .NotIn) rNotIn := by
  intro gd pins s σ H G dx dy x y v u Q R I rx ry hg r1 r2 h l
  unfold rNotIn rInB at h
  have fin : ∀ b, R (.bl b) G → EP X pins σ Q (.bool b) s := fun b hb => ⟨.bl b, H, I, rfl, l _ G H _ hb (Ext.refl _ _) hg (.bl _)⟩
  cases e2 : rs G dy with
  | dct kvs =>
    simp only [e2] at h
    obtain ⟨a, vs, rfl, ha, ra⟩ := rs_dct hg r2 e2
    cases ek : kyD dx with
    | none => simp only [ek] at h
    | some k =>
      simp only [ek] at h
      cases key_v r1 ek
      obtain rfl : u = Value.ref a := ry
      refine d_notIn gd.un1 I (dget_rd (k := k) ha) rx fun s' I' => ⟨.bl _, H, I', rfl, ?_⟩
      rw [isSome_look ra]
      exact l _ G H _ h (Ext.refl _ _) hg (.bl _)
  | mxd kvs =>
    simp only [e2] at h
    obtain ⟨a, o, vs, rfl, ha, ra⟩ := rs_mxd hg r2 e2
    obtain ⟨k, rfl, h⟩ := h
    obtain rfl : u = Value.ref a := ry
    refine m_notIn gd.un1 I ha (keys_are I ra) (key_is I r1 rx) fun s' I' => ⟨.bl _, H, I', rfl, ?_⟩
    rw [ra.some_eq]
    exact l _ G H _ h (Ext.refl _ _) hg (.bl _)
  | str z =>
    simp only [e2] at h
    cases rs_str r2 e2
    cases r1 with
    | str c => exact op_notin_str pins s σ H _ _ v u Q I rx ry ⟨c, z, rfl, rfl, l _ G H _ h (Ext.refl _ _) hg (.bl _)⟩
    | _ => exact h.elim
  | lst ys =>
    simp only [e2] at h
    obtain ⟨a, vs, rfl, ha, ra⟩ := rs_lst hg r2 e2
    obtain rfl : u = Value.ref a := ry
    obtain ⟨its, rv, pl, hz⟩ := I.list (X := X) (.inl (.inl ha))
    obtain ⟨as, rd⟩ := Dp.reads I _ _ _ (rs_dp hg r1 h.1.1) rx
    obtain ⟨k1, k2⟩ := ask_all (A := X.A.in1) I (by have := gd.un; show X.A.units + 1 + 64 < _; omega) h.1.1 rd ra rv h.1.2
    refine SeqAt.notIn_listAt _ pl.isList (fun w hw => k1 w (by simpa using hw)) (fin _ ?_)
    rw [show its.toArray.any (eqAsk s.heap (py (rs G dx))) = its.any (eqAsk s.heap (py (rs G dx))) by simp, k2]
    exact h.2
  | tup ys =>
    simp only [e2] at h
    obtain ⟨a, vs, rfl, ha, ra⟩ := rs_tup r2 e2
    obtain rfl : u = Value.ref a := ry
    obtain ⟨its, rv, pl, hz⟩ := I.tuple (X := X) ha.sqT
    obtain ⟨as, rd⟩ := Dp.reads I _ _ _ (rs_dp hg r1 h.1.1) rx
    obtain ⟨k1, k2⟩ := ask_all (A := X.A.in1) I (by have := gd.un; show X.A.units + 1 + 64 < _; omega) h.1.1 rd ra rv h.1.2
    refine SeqAt.notIn_tupleAt _ pl (fun w hw => k1 w (by simpa using hw)) (fin _ ?_)
    rw [show its.toArray.any (eqAsk s.heap (py (rs G dx))) = its.any (eqAsk s.heap (py (rs G dx))) by simp, k2]
    exact h.2
  | _ => simp only [e2] at h

/-! places -/
def atD (xs : List D) (i : Int) (K : D → Prop) : Prop := match atI xs i with
  | some d => K d
  | none => False
def rIx : R2D := fun x y G Q => match rs G x with
  | .lst xs => match y with
    | .int i => atD xs i fun d => Q d G
    | _ => False
  | .lsk xs => match y with
    | .int i => atD xs i fun d => Q d G
    | _ => False
  | .tup xs => match y with
    | .int i => atD xs i fun d => Q d G
    | _ => False
  | .str z => match y with
    | .int i => z.length ≤ sizeLine ∧ (match atI z.cps.toList i with
      | some c => Q (.str ⟨#[c]⟩) G
      | none => False)
    | _ => False
  | .dct kvs => match kyD y with
    | some k => (match lkK kvs k with
      | some d => Q d G
      | none => False)
    | none => False
  | .mxd kvs => ∃ k d, (y = keyD k ∧ lkX kvs k = some d) ∧ Q d G
  | _ => False
theorem atI_rp {H : Hp} {G : DH} {xs : List D} {vs : List V} {i : Int} {d : D} (r : RpL X.K X.mh H G xs vs) (h : atI xs i = some d) : ∃ v, atI vs i = some v ∧ Rp X.K X.mh H G d v := by
  unfold atI at h ⊢
  rw [← r.length]
  cases e : ixN xs.length i with
  | none => rw [e] at h; cases h
  | some j =>
    rw [e] at h
    exact r.get h
def IxD (X : Cx) (lv : Nat) (cm : Bool) (r : R2D) : Prop := Gd X lv cm → IxR X (upR2 X r)
theorem ixd : IxD X lv cm rIx := by
  intro gd value slice pins s σ H x y v u Q I rx ry ⟨dx, dy, G, R, hg, r1, r2, h, l⟩ hs
  unfold rIx at h
  cases e1 : rs G dx with
  | lst xs =>
    simp only [e1] at h
    obtain ⟨a, vs, rfl, ha, ra⟩ := rs_lst hg r1 e1
    cases r2 with
    | int i =>
      simp only [atD] at h
      cases ei : atI xs i with
      | none => simp only [ei] at h
      | some d =>
        simp only [ei] at h
        obtain ⟨w, hw, rw'⟩ := atI_rp ra ei
        exact ix_list value slice pins s σ H _ _ v u Q I rx ry ⟨a, vs, i, w, rfl, rfl, .inl (.inl ha), hw, l _ G H _ h (Ext.refl _ _) hg rw'⟩ hs
    | _ => exact h.elim
  | lsk xs =>
    simp only [e1] at h
    obtain ⟨a, vs, rfl, ha, ra⟩ := rs_lsk r1 e1
    cases r2 with
    | int i =>
      simp only [atD] at h
      cases ei : atI xs i with
      | none => simp only [ei] at h
      | some d =>
        simp only [ei] at h
        obtain ⟨w, hw, rw'⟩ := atI_rp ra ei
        exact ix_list value slice pins s σ H _ _ v u Q I rx ry ⟨a, vs, i, w, rfl, rfl, ha.sqL, hw, l _ G H _ h (Ext.refl _ _) hg rw'⟩ hs
    | _ => exact h.elim
  | tup xs =>
    simp only [e1] at h
    obtain ⟨a, vs, rfl, ha, ra⟩ := rs_tup r1 e1
    cases r2 with
    | int i =>
      simp only [atD] at h
      cases ei : atI xs i with
      | none => simp only [ei] at h
      | some d =>
        simp only [ei] at h
        obtain ⟨w, hw, rw'⟩ := atI_rp ra ei
        exact ix_tup value slice pins s σ H _ _ v u Q I rx ry ⟨a, vs, i, w, rfl, rfl, ha.sqT, hw, l _ G H _ h (Ext.refl _ _) hg rw'⟩ hs
    | _ => exact h.elim
  | str z =>
    simp only [e1] at h
    cases rs_str r1 e1
    cases r2 with
    | int i =>
      cases ei : atI z.cps.toList i with
      | none => simp only [ei] at h; exact h.2.elim
      | some c =>
        simp only [ei] at h
        exact ix_str value slice pins s σ H _ _ v u Q I rx ry ⟨z, i, c, rfl, rfl, h.1, ei, l _ G H _ h.2 (Ext.refl _ _) hg (.str _)⟩ hs
    | _ => exact h.elim
  | dct kvs =>
    simp only [e1] at h
    obtain ⟨a, vs, rfl, ha, ra⟩ := rs_dct hg r1 e1
    cases ek : kyD dy with
    | none => simp only [ek] at h
    | some k =>
      simp only [ek] at h
      cases el : lkK kvs k with
      | none => simp only [el] at h
      | some d =>
        simp only [el] at h
        cases key_v r2 ek
        obtain rfl : v = Value.ref a := rx
        obtain ⟨w, hw, rw'⟩ := (ra.look (k := k)).1 d el
        have g : DGet H a (kV k) (some w) := by rw [← hw]; exact dget_rd ha
        exact tail_any (dict_typeIs I g) PySem.F.slot_dict_getitem.lookup (d_getItem gd.un1 I g ry fun w' s3 I3 rw2 => ⟨w, H, I3, rw2, l _ G H _ h (Ext.refl _ _) hg rw'⟩) hs
  | mxd kvs =>
    simp only [e1] at h
    obtain ⟨a, o, vs, rfl, ha, ra⟩ := rs_mxd hg r1 e1
    obtain ⟨k, d, ⟨rfl, el⟩, h⟩ := h
    obtain rfl : v = Value.ref a := rx
    obtain ⟨w, hw, rw'⟩ := (ra.val (k := k)).1 d el
    obtain ⟨_, _, xs, _, dm⟩ := mix_of I ha (keys_are I ra)
    exact tail_any dm.typeIs PySem.F.slot_dict_getitem.lookup (m_getItem gd.un1 I ha (keys_are I ra) (key_is I r2 ry) hw fun w' s3 I3 rw2 => ⟨w, H, I3, rw2, l _ G H _ h (Ext.refl _ _) hg rw'⟩) hs
  | _ => simp only [e1] at h
theorem pd_ix {a b : Expr} {ta tb : DE} {pos : Pos} (ha : PD X lv cm a ta) (hb : PD X lv cm b tb) (hs : PlainIx b := by intro _ _; rfl) : PD X lv cm (.Subscript a b pos) (dBin rIx ta tb) := fun gd Wx tk =>
  pe_imp (pe_ix (ixd (lv := lv) (cm := cm) gd) (ha gd Wx tk) (hb gd Wx tk) hs) fun σ H Q h => up_binR h

/-! slices -/
def dPart (t : Option DE) : DW → Sl → DH → (Option Int → DH → Prop) → Prop := fun W δ G Q => match t with
  | none => Q none G
  | some t => t W δ G fun d G1 => match d with
    | .int i => Q (some i) G1
    | _ => False
def cutD (xs : List D) (lo hi : Option Int) : List D := (xs.drop (HT.sIx xs.length 0 lo)).take (HT.sIx xs.length xs.length hi - HT.sIx xs.length 0 lo)
def rSl (x : D) (lo hi : Option Int) (G : DH) (Q : DQ) : Prop := match rs G x with
  | .lst xs => Q (.lst (cutD xs lo hi)) G
  | .lsk xs => Q (.lst (cutD xs lo hi)) G
  | .tup xs => ¬ (HT.sIx xs.length 0 lo = 0 ∧ HT.sIx xs.length xs.length hi = xs.length) ∧ Q (.tup (cutD xs lo hi)) G
  | .str z => z.length ≤ sizeLine ∧ Q (.str (cutS z lo hi)) G
  | _ => False
def dSl (te : DE) (tl th : Option DE) : DE := fun W δ G Q => te W δ G fun x G1 => dPart tl W δ G1 fun lo G2 => dPart th W δ G2 fun hi G3 => rSl x lo hi G3 Q
def upO (X : Cx) (Wx : WX) (t : DW → Sl → DH → (Option Int → DH → Prop) → Prop) : TO := fun σ H Q => ∃ (W : DW) (δ : Sl) (G : DH) (R : Option Int → DH → Prop), StOk X.K X.mh H G δ σ ∧ HpOk X.K X.mh H G ∧ t W δ G R ∧
  (∀ o G' H', R o G' → Ext H G H' G' → HpOk X.K X.mh H' G' → Q o H') ∧
  ∀ ex δ' G' σ' H' cls dd, W ex δ' G' → Ext H G H' G' → StOk X.K X.mh H' G' δ' σ' → HpOk X.K X.mh H' G' → ExOk X.K X.mh H' G' ex cls dd → Wx cls dd σ' H'
def PDO (X : Cx) (lv : Nat) (cm : Bool) (e : Option Expr) (t : Option DE) : Prop := Gd X lv cm → ∀ Wx, Takes X Wx → PO X e (upO X Wx (dPart t))
theorem po_imp {e : Option Expr} {t t' : TO} (h : PO X e t) (i : ∀ σ H Q, t' σ H Q → t σ H Q) : PO X e t' := ⟨fun pins s σ H Q I q => h.run pins s σ H Q I (i _ _ _ q)⟩
theorem pdo_none : PDO X lv cm none none := fun gd Wx tk => po_imp po_none fun σ H Q ⟨W, δ, G, R, hs, hg, ht, lQ, lW⟩ => lQ none G H ht (Ext.refl _ _) hg
theorem pdo_some {e : Expr} {t : DE} (h : PD X lv cm e t) : PDO X lv cm (some e) (some t) := fun gd Wx tk => po_imp (po_some (h gd Wx tk)) fun σ H Q ⟨W, δ, G, R, hs, hg, ht, lQ, lW⟩ =>
  ⟨W, δ, G, _, hs, hg, ht, fun d G1 H1 v h1 e1 g1 r1 => by
    cases r1 with
    | int i => exact ⟨i, rfl, lQ (some i) G1 H1 h1 e1 g1⟩
    | _ => exact h1.elim, lW⟩
def upSl (X : Cx) : V → Option Int → Option Int → Hp → VK → Prop := fun x lo hi H Q => ∃ (dx : D) (G : DH) (R : DQ), HpOk X.K X.mh H G ∧ Rp X.K X.mh H G dx x ∧ rSl dx lo hi G R ∧
  ∀ d G' H' v, R d G' → Ext H G H' G' → HpOk X.K X.mh H' G' → Rp X.K X.mh H' G' d v → Q v H'
theorem cut_rp {H : Hp} {G : DH} {xs : List D} {vs : List V} (r : RpL X.K X.mh H G xs vs) (lo hi : Option Int) : RpL X.K X.mh H G (cutD xs lo hi) (cutV vs lo hi) := by
  unfold cutD cutV
  rw [← r.length]
  exact (r.drop _).take _
theorem sld : SlR X (upSl X) := by
  intro pins s σ H x v vl vu lo hi sl Q I rx hs pl pu ⟨dx, G, R, hg, r1, h, l⟩
  unfold rSl at h
  cases e1 : rs G dx with
  | lst xs =>
    simp only [e1] at h
    obtain ⟨a, vs, rfl, ha, ra⟩ := rs_lst hg r1 e1
    exact sl_list pins s σ H _ v vl vu lo hi sl Q I rx hs pl pu ⟨a, vs, rfl, .inl (.inl ha), fun p hp => l _ G _ _ h (Ext.newF hp) (hg.newF hp) (.lst (hg.free hp) upd_same ((cut_rp ra lo hi).ext (Ext.newF hp)))⟩
  | lsk xs =>
    simp only [e1] at h
    obtain ⟨a, vs, rfl, ha, ra⟩ := rs_lsk r1 e1
    exact sl_list pins s σ H _ v vl vu lo hi sl Q I rx hs pl pu ⟨a, vs, rfl, ha.sqL, fun p hp => l _ G _ _ h (Ext.newF hp) (hg.newF hp) (.lst (hg.free hp) upd_same ((cut_rp ra lo hi).ext (Ext.newF hp)))⟩
  | tup xs =>
    simp only [e1] at h
    obtain ⟨a, vs, rfl, ha, ra⟩ := rs_tup r1 e1
    exact sl_tup pins s σ H _ v vl vu lo hi sl Q I rx hs pl pu ⟨a, vs, rfl, ha.sqT, by rw [← ra.length]; exact h.1, fun p hp => l _ G _ _ h.2 (Ext.newF hp) (hg.newF hp) (.tup (.inl ⟨hg.free hp, upd_same⟩) ((cut_rp ra lo hi).ext (Ext.newF hp)))⟩
  | str z =>
    simp only [e1] at h
    cases rs_str r1 e1
    exact sl_str pins s σ H _ v vl vu lo hi sl Q I rx hs pl pu ⟨z, rfl, h.1, l _ G H _ h.2 (Ext.refl _ _) hg (.str _)⟩
  | _ => simp only [e1] at h
theorem pd_sl {e : Expr} {lo hi : Option Expr} {te : DE} {tl th : Option DE} {p2 pos : Pos} (he : PD X lv cm e te) (hl : PDO X lv cm lo tl) (hh : PDO X lv cm hi th) : PD X lv cm (.Subscript e (.Slice lo hi none p2) pos) (dSl te tl th) := fun gd Wx tk =>
  pe_imp (pe_slice sld (he gd Wx tk) (hl gd Wx tk) (hh gd Wx tk)) fun σ H Q ⟨W, δ, G, R, hs, hg, ht, lQ, lW⟩ =>
    ⟨W, δ, G, _, hs, hg, ht, fun dx G1 H1 x h1 e1 g1 r1 => ⟨W, δ, G1, _, hs.ext e1, g1, h1, fun o G2 H2 h2 e2 g2 => ⟨W, δ, G2, _, hs.ext (e1.trans e2), g2, h2, fun o' G3 H3 h3 e3 g3 =>
      ⟨dx, G3, R, g3, r1.ext (e2.trans e3), h3, fun d G' H' v hd e4 g4 r4 => lQ d G' H' v hd (((e1.trans e2).trans e3).trans e4) g4 r4⟩,
        fun ex δ' G' σ' H' cls dd hw e3 => lW ex δ' G' σ' H' cls dd hw ((e1.trans e2).trans e3)⟩, fun ex δ' G' σ' H' cls dd hw e2 => lW ex δ' G' σ' H' cls dd hw (e1.trans e2)⟩, lW⟩
end
end DL

namespace DL
open L2 PyProof.Rows PySem PySem.Spec

/-! ### 7. calls of what Python brings -/
abbrev RLD := List D → DH → DQ → Prop
def dCB (r : RLD) (t : DA) : DE := fun W δ G Q => t W δ G fun ds G1 => r ds G1 Q
def upRL (X : Cx) (r : RLD) : List V → Hp → VK → Prop := fun vs H Q => ∃ (ds : List D) (G : DH) (R : DQ), HpOk X.K X.mh H G ∧ RpL X.K X.mh H G ds vs ∧ r ds G R ∧
  ∀ d G' H' v, R d G' → Ext H G H' G' → HpOk X.K X.mh H' G' → Rp X.K X.mh H' G' d v → Q v H'
def CallD (X : Cx) (lv : Nat) (cm : Bool) (f : Value) (r : RLD) : Prop := Gd X lv cm → CallR X f (upRL X r)
section
variable {X : Cx} {lv : Nat} {cm : Bool}
theorem up_cb {Wx : WX} {r : RLD} {t : DA} {σ : L2.St} {H : Hp} {Q : VK} (h : upE X Wx (dCB r t) σ H Q) : tCB (upRL X r) (upA X Wx t) σ H Q := by
  obtain ⟨W, δ, G, R, hs, hg, ht, lQ, lW⟩ := h
  exact ⟨W, δ, G, _, hs, hg, ht, fun ds G1 H1 vs h1 e1 g1 r1 => ⟨ds, G1, R, g1, r1, h1, fun d G' H' v hd e2 g2 r2 => lQ d G' H' v hd (e1.trans e2) g2 r2⟩, lW⟩
theorem pd_callB {x : Str} {id : String} {r : RLD} {e : Expr} {es : List Expr} {t : DA} {p pos : Pos} (hc : CallD X lv cm (.builtin id) r) (hv : bootBuiltins x = some (.builtin id)) (hm : X.mg x = none) (ha : PDA X lv cm (e :: es) t) (hg : Gl X x := by rfl)
    (hn : x ≠ "__name__" := by decide) (hdb : (x == ("__debug__" : Str)) = false := by decide)
    (he : starEach (e :: es) X.env = (false, eval e X.env) :: starEach es X.env := by rfl) (hpl : (backTo pos (starEach es X.env)).any (·.1) = false := by rfl) : PD X lv cm (.Call (.Name x p) (e :: es) [] pos) (dCB r t) := fun gd Wx tk =>
  pe_imp (pe_callB (hc gd) hg hm hv (ha gd Wx tk) hn hdb he hpl) fun σ H Q h => up_cb h
theorem pd_callTy {x : Str} {T : String} {r : RLD} {e : Expr} {es : List Expr} {t : DA} {p pos : Pos} (hc : CallD X lv cm (.type T) r) (hv : bootBuiltins x = some (.type T)) (hm : X.mg x = none) (ha : PDA X lv cm (e :: es) t) (hg : Gl X x := by rfl)
    (hn : x ≠ "__name__" := by decide) (hdb : (x == ("__debug__" : Str)) = false := by decide)
    (he : starEach (e :: es) X.env = (false, eval e X.env) :: starEach es X.env := by rfl) (hpl : (backTo pos (starEach es X.env)).any (·.1) = false := by rfl) : PD X lv cm (.Call (.Name x p) (e :: es) [] pos) (dCB r t) := fun gd Wx tk =>
  pe_imp (pe_callTy (hc gd) hg hm hv (ha gd Wx tk) hn hdb he hpl) fun σ H Q h => up_cb h
/-- a built-in class as a value -/
theorem pd_ty {x : Str} {n : String} {p : Pos} (hv : bootBuiltins x = some (.type n)) (hm : X.mg x = none) (hg : Gl X x := by rfl) (hn : x ≠ "__name__" := by decide) (hd : (x == ("__debug__" : Str)) = false := by decide) : PD X lv cm (.Name x p) (dC (.ty n)) :=
  pd_const (v := .ty n) (pe_bltn hg hm hv rfl hn hd) fun _ _ _ _ => .ty n

/-! len, abs, max, min, int, str, divmod -/
def rLen : RLD := fun ds G Q => match ds with
  | [d] => match rs G d with
    | .lst xs => Q (.int xs.length) G
    | .lsk xs => Q (.int xs.length) G
    | .tpk xs => Q (.int xs.length) G
    | .tup xs => Q (.int xs.length) G
    | .str s => s.length ≤ sizeLine ∧ Q (.int s.length) G
    | .dct kvs => Q (.int kvs.length) G
    | _ => False
  | _ => False
theorem one_rp {H : Hp} {G : DH} {d : D} {vs : List V} (r : RpL X.K X.mh H G [d] vs) : ∃ v, vs = [v] ∧ Rp X.K X.mh H G d v := by
  cases r with
  | cons r t => cases t; exact ⟨_, rfl, r⟩
theorem two_rp {H : Hp} {G : DH} {d e : D} {vs : List V} (r : RpL X.K X.mh H G [d, e] vs) : ∃ v u, vs = [v, u] ∧ Rp X.K X.mh H G d v ∧ Rp X.K X.mh H G e u := by
  cases r with
  | cons r t => cases t with
    | cons r2 t => cases t; exact ⟨_, _, rfl, r, r2⟩
theorem cd_len : CallD X lv cm (.builtin "len") rLen := by
  intro gd pins s σ H vs us Q I rv ⟨ds, G, R, hg, r0, h, l⟩
  match ds, r0, h with
  | [d], r0, h =>
    obtain ⟨v, rfl, r⟩ := one_rp r0
    unfold rLen at h
    simp only at h
    cases e1 : rs G d with
    | lst xs =>
      simp only [e1] at h
      obtain ⟨a, ws, rfl, ha, ra⟩ := rs_lst hg r e1
      exact call_len_seq pins s σ H _ us Q I rv ⟨a, ws, rfl, .inl (.inl (.inl ha)), by rw [← ra.length]; exact l _ G H _ h (Ext.refl _ _) hg (.int _)⟩
    | lsk xs =>
      simp only [e1] at h
      obtain ⟨a, ws, rfl, ha, ra⟩ := rs_lsk r e1
      exact call_len_seq pins s σ H _ us Q I rv ⟨a, ws, rfl, .inl ha.sqL, by rw [← ra.length]; exact l _ G H _ h (Ext.refl _ _) hg (.int _)⟩
    | tpk xs =>
      simp only [e1] at h
      obtain ⟨a, ws, rfl, ha, ra⟩ := rs_tpk r e1
      exact call_len_seq pins s σ H _ us Q I rv ⟨a, ws, rfl, .inr ha.sqT, by rw [← ra.length]; exact l _ G H _ h (Ext.refl _ _) hg (.int _)⟩
    | tup xs =>
      simp only [e1] at h
      obtain ⟨a, ws, rfl, ha, ra⟩ := rs_tup r e1
      exact call_len_seq pins s σ H _ us Q I rv ⟨a, ws, rfl, .inr ha.sqT, by rw [← ra.length]; exact l _ G H _ h (Ext.refl _ _) hg (.int _)⟩
    | str z =>
      simp only [e1] at h
      cases rs_str r e1
      exact call_len_str pins s σ H _ us Q I rv ⟨z, rfl, h.1, l _ G H _ h.2 (Ext.refl _ _) hg (.int _)⟩
    | dct kvs =>
      simp only [e1] at h
      obtain ⟨a, ws, rfl, ha, ra⟩ := rs_dct hg r e1
      obtain ⟨u, rfl, ru⟩ := vals1 rv
      cases ru
      exact d_len I ha fun t s' I' => ⟨.int ws.length, H, I', ⟨t, rfl⟩, by rw [← ra.length]; exact l _ G H _ h (Ext.refl _ _) hg (.int _)⟩
    | _ => simp only [e1] at h
  | [], _, h => exact h.elim
  | _ :: _ :: _, _, h => exact h.elim
def rAbs : RLD := fun ds G Q => match ds with
  | [.int i] => Q (.int (if i < 0 then -i else i)) G
  | _ => False
theorem cd_abs : CallD X lv cm (.builtin "abs") rAbs := by
  intro gd pins s σ H vs us Q I rv ⟨ds, G, R, hg, r0, h, l⟩
  unfold rAbs at h
  split at h
  · rename_i i
    obtain ⟨v, rfl, r⟩ := one_rp r0
    cases r
    exact call_abs pins s σ H _ us Q I rv ⟨i, rfl, l _ G H _ h (Ext.refl _ _) hg (.int _)⟩
  · exact h.elim
def rMax2 : RLD := fun ds G Q => match ds with
  | [.int i, .int j] => Q (.int (if j > i then j else i)) G
  | _ => False
def rMin2 : RLD := fun ds G Q => match ds with
  | [.int i, .int j] => Q (.int (if j < i then j else i)) G
  | _ => False
theorem cd_max2 : CallD X lv true (.builtin "max") rMax2 := by
  intro gd pins s σ H vs us Q I rv ⟨ds, G, R, hg, r0, h, l⟩
  unfold rMax2 at h
  split at h
  · rename_i i j
    obtain ⟨v, u, rfl, r, r2⟩ := two_rp r0
    cases r; cases r2
    exact call_max2 (gd.cl rfl) pins s σ H _ us Q I rv ⟨i, j, rfl, l _ G H _ h (Ext.refl _ _) hg (.int _)⟩
  · exact h.elim
theorem cd_min2 : CallD X lv true (.builtin "min") rMin2 := by
  intro gd pins s σ H vs us Q I rv ⟨ds, G, R, hg, r0, h, l⟩
  unfold rMin2 at h
  split at h
  · rename_i i j
    obtain ⟨v, u, rfl, r, r2⟩ := two_rp r0
    cases r; cases r2
    exact call_min2 (gd.cl rfl) pins s σ H _ us Q I rv ⟨i, j, rfl, l _ G H _ h (Ext.refl _ _) hg (.int _)⟩
  · exact h.elim
def rInt1 : RLD := fun ds G Q => match ds with
  | [.int i] => Q (.int i) G
  | [.bl k] => Q (.int (if k then 1 else 0)) G
  | [.str a] => a.length ≤ 640 ∧ (match PySem.intText? a with
    | some n => Q (.int n) G
    | none => False)
  | _ => False
theorem cd_int : CallD X lv cm (.type "int") rInt1 := by
  intro gd pins s σ H vs us Q I rv ⟨ds, G, R, hg, r0, h, l⟩
  unfold rInt1 at h
  split at h
  · rename_i i
    obtain ⟨v, rfl, r⟩ := one_rp r0
    cases r
    exact call_int1 pins s σ H _ us Q I rv (.inl ⟨i, rfl, l _ G H _ h (Ext.refl _ _) hg (.int _)⟩)
  · rename_i i
    obtain ⟨v, rfl, r⟩ := one_rp r0
    cases r
    exact call_int1 pins s σ H _ us Q I rv (.inr ⟨i, rfl, l _ G H _ h (Ext.refl _ _) hg (.int _)⟩)
  · rename_i a
    obtain ⟨v, rfl, r⟩ := one_rp r0
    cases r
    obtain ⟨h1, h2⟩ := h
    cases en : PySem.intText? a with
    | none => simp only [en] at h2
    | some n =>
      simp only [en] at h2
      exact call_int_str pins s σ H _ us Q I rv ⟨a, n, rfl, en, h1, l _ G H _ h2 (Ext.refl _ _) hg (.int _)⟩
  · exact h.elim
def rStr1 : RLD := fun ds G Q => match ds with
  | [.int i] => i.natAbs.log2 < 1920 ∧ Q (.str (toString i)) G
  | [.str a] => Q (.str a) G
  | _ => False
theorem cd_str : CallD X lv cm (.type "str") rStr1 := by
  intro gd pins s σ H vs us Q I rv ⟨ds, G, R, hg, r0, h, l⟩
  unfold rStr1 at h
  split at h
  · rename_i i
    obtain ⟨v, rfl, r⟩ := one_rp r0
    cases r
    exact call_str_int pins s σ H _ us Q I rv ⟨i, rfl, h.1, l _ G H _ h.2 (Ext.refl _ _) hg (.str _)⟩
  · rename_i a
    obtain ⟨v, rfl, r⟩ := one_rp r0
    cases r
    exact SkE.call_str_str pins s σ H _ us Q I rv ⟨a, rfl, l _ G H _ h (Ext.refl _ _) hg (.str _)⟩
  · exact h.elim
def rDivmod : RLD := fun ds G Q => match ds with
  | [.int i, .int j] => (0 < j ∧ j.natAbs.log2 < 9000) ∧ Q (.tup [.int (i / j), .int (i % j)]) G
  | _ => False
theorem cd_divmod : CallD X lv cm (.builtin "divmod") rDivmod := by
  intro gd pins s σ H vs us Q I rv ⟨ds, G, R, hg, r0, h, l⟩
  unfold rDivmod at h
  split at h
  · rename_i i j
    obtain ⟨v, u, rfl, r, r2⟩ := two_rp r0
    cases r; cases r2
    exact call_divmodW pins s σ H _ us Q I rv ⟨i, j, rfl, ⟨h.1.1, PyProof.noPylong_of_log2 h.1.2⟩, fun p hp => l _ G _ _ h.2 (Ext.newF hp) (hg.newF hp) (.tup (.inl ⟨hg.free hp, upd_same⟩) (.cons (.int _) (.cons (.int _) .nil)))⟩
  · exact h.elim
/-! list(..), tuple(..), dict(..) -/
/-- what list(..) makes of it -/
def itemsD (d : D) (K : List D → Prop) : Prop := match d with
  | .lst xs => K xs
  | .lsk xs => K xs
  | .tup xs => K xs
  | .tpk xs => K xs
  | _ => False
def itemsT (d : D) (K : List D → Prop) : Prop := match d with
  | .lst xs => K xs
  | .lsk xs => K xs
  | .tup xs => K xs
  | _ => False
def rListF : RLD := fun ds G Q => match ds with
  | [d] => itemsD (rs G d) fun xs => Q (.lst xs) G
  | _ => False
def rListM : RLD := fun ds G Q => match ds with
  | [d] => itemsD (rs G d) fun xs => ∀ p, G p = none → Q (.ref p) (upG G p (.lst xs))
  | _ => False
theorem items_sq {H : Hp} {G : DH} {d : D} {v : V} {K : List D → Prop} (hg : HpOk X.K X.mh H G) (r : Rp X.K X.mh H G d v) (h : itemsD (rs G d) K) : ∃ a vs xs, v = .ref a ∧ (SqL X.K H a vs ∨ SqT X.K H a vs) ∧ RpL X.K X.mh H G xs vs ∧ K xs := by
  unfold itemsD at h
  split at h
  · rename_i xs e; obtain ⟨a, vs, h1, h2, h3⟩ := rs_lst hg r e; exact ⟨a, vs, xs, h1, .inl (.inl (.inl h2)), h3, h⟩
  · rename_i xs e; obtain ⟨a, vs, h1, h2, h3⟩ := rs_lsk r e; exact ⟨a, vs, xs, h1, .inl h2.sqL, h3, h⟩
  · rename_i xs e; obtain ⟨a, vs, h1, h2, h3⟩ := rs_tup r e; exact ⟨a, vs, xs, h1, .inr h2.sqT, h3, h⟩
  · rename_i xs e; obtain ⟨a, vs, h1, h2, h3⟩ := rs_tpk r e; exact ⟨a, vs, xs, h1, .inr h2.sqT, h3, h⟩
  · exact h.elim
theorem cd_listF : CallD X lv cm (.type "list") rListF := by
  intro gd pins s σ H vs us Q I rv ⟨ds, G, R, hg, r0, h, l⟩
  match ds, r0, h with
  | [d], r0, h =>
    obtain ⟨v, rfl, r⟩ := one_rp r0
    obtain ⟨a, ws, xs, rfl, hq, ra, h⟩ := items_sq hg r h
    exact call_list_of pins s σ H _ us Q I rv ⟨a, ws, rfl, hq, fun p hp => l _ G _ _ h (Ext.newF hp) (hg.newF hp) (.lst (hg.free hp) upd_same (ra.ext (Ext.newF hp)))⟩
  | [], _, h => exact h.elim
  | _ :: _ :: _, _, h => exact h.elim
theorem cd_listM : CallD X lv cm (.type "list") rListM := by
  intro gd pins s σ H vs us Q I rv ⟨ds, G, R, hg, r0, h, l⟩
  match ds, r0, h with
  | [d], r0, h =>
    obtain ⟨v, rfl, r⟩ := one_rp r0
    obtain ⟨a, ws, xs, rfl, hq, ra, h⟩ := items_sq hg r h
    exact call_list_of pins s σ H _ us Q I rv ⟨a, ws, rfl, hq, fun p hp => l _ _ _ _ (h p (hg.free hp)) (Ext.new hp) (HpOk.new hg hp (.lst upd_same (ra.ext (Ext.new hp)))) (.ref p)⟩
  | [], _, h => exact h.elim
  | _ :: _ :: _, _, h => exact h.elim
def rTuple : RLD := fun ds G Q => match ds with
  | [d] => itemsT (rs G d) fun xs => Q (.tup xs) G
  | _ => False
theorem cd_tuple : CallD X lv cm (.type "tuple") rTuple := by
  intro gd pins s σ H vs us Q I rv ⟨ds, G, R, hg, r0, h, l⟩
  match ds, r0, h with
  | [d], r0, h =>
    obtain ⟨v, rfl, r⟩ := one_rp r0
    unfold rTuple at h
    simp only at h
    unfold itemsT at h
    split at h
    · rename_i xs e
      obtain ⟨a, ws, rfl, ha, ra⟩ := rs_lst hg r e
      exact call_tuple_of pins s σ H _ us Q I rv ⟨a, ws, rfl, .inl ⟨.inl (.inl ha), fun p hp => l _ G _ _ h (Ext.newF hp) (hg.newF hp) (.tup (.inl ⟨hg.free hp, upd_same⟩) (ra.ext (Ext.newF hp)))⟩⟩
    · rename_i xs e
      obtain ⟨a, ws, rfl, ha, ra⟩ := rs_lsk r e
      exact call_tuple_of pins s σ H _ us Q I rv ⟨a, ws, rfl, .inl ⟨ha.sqL, fun p hp => l _ G _ _ h (Ext.newF hp) (hg.newF hp) (.tup (.inl ⟨hg.free hp, upd_same⟩) (ra.ext (Ext.newF hp)))⟩⟩
    · rename_i xs e
      obtain ⟨a, ws, rfl, ha, ra⟩ := rs_tup r e
      exact call_tuple_of pins s σ H _ us Q I rv ⟨a, ws, rfl, .inr ⟨ha.sqT, l _ G H _ h (Ext.refl _ _) hg (.tup ha ra)⟩⟩
    · exact h.elim
  | [], _, h => exact h.elim
  | _ :: _ :: _, _, h => exact h.elim
/-! all, any, sum, max, min of lists -/
theorem ints_v {H : Hp} {G : DH} : ∀ {ns : List Int} {vs : List V}, RpL X.K X.mh H G (ns.map D.int) vs → vs = ns.map V.int
  | [], _, .nil => rfl
  | n :: ns, _, .cons r t => by cases r; rw [List.map_cons, ints_v t]
theorem bls_v {H : Hp} {G : DH} : ∀ {ns : List Bool} {vs : List V}, RpL X.K X.mh H G (ns.map D.bl) vs → vs = ns.map V.bl
  | [], _, .nil => rfl
  | n :: ns, _, .cons r t => by cases r; rw [List.map_cons, bls_v t]
theorem strs_v {H : Hp} {G : DH} : ∀ {ns : List Str} {vs : List V}, RpL X.K X.mh H G (ns.map D.str) vs → vs = ns.map V.str
  | [], _, .nil => rfl
  | n :: ns, _, .cons r t => by cases r; rw [List.map_cons, strs_v t]
def lstD (d : D) (K : List D → Prop) : Prop := match d with
  | .lst xs => K xs
  | .lsk xs => K xs
  | _ => False
theorem lst_sq {H : Hp} {G : DH} {d : D} {v : V} {K : List D → Prop} (hg : HpOk X.K X.mh H G) (r : Rp X.K X.mh H G d v) (h : lstD (rs G d) K) : ∃ a vs xs, v = .ref a ∧ SqL X.K H a vs ∧ RpL X.K X.mh H G xs vs ∧ K xs := by
  unfold lstD at h
  split at h
  · rename_i xs e; obtain ⟨a, vs, h1, h2, h3⟩ := rs_lst hg r e; exact ⟨a, vs, xs, h1, .inl (.inl h2), h3, h⟩
  · rename_i xs e; obtain ⟨a, vs, h1, h2, h3⟩ := rs_lsk r e; exact ⟨a, vs, xs, h1, h2.sqL, h3, h⟩
  · exact h.elim
def rAll : RLD := fun ds G Q => match ds with
  | [d] => lstD (rs G d) fun xs => ∃ bs : List Bool, xs = bs.map D.bl ∧ Q (.bl (bs.all id)) G
  | _ => False
def rAny : RLD := fun ds G Q => match ds with
  | [d] => lstD (rs G d) fun xs => ∃ bs : List Bool, xs = bs.map D.bl ∧ Q (.bl (bs.any id)) G
  | _ => False
def rSum : RLD := fun ds G Q => match ds with
  | [d] => lstD (rs G d) fun xs => ∃ ns : List Int, xs = ns.map D.int ∧ Q (.int ns.sum) G
  | _ => False
def rMaxL : RLD := fun ds G Q => match ds with
  | [d] => lstD (rs G d) fun xs => ∃ ns : List Int, xs = ns.map D.int ∧ 0 < ns.length ∧ ∀ m, m ∈ ns → (∀ y ∈ ns, y ≤ m) → Q (.int m) G
  | _ => False
def rMinL : RLD := fun ds G Q => match ds with
  | [d] => lstD (rs G d) fun xs => ∃ ns : List Int, xs = ns.map D.int ∧ 0 < ns.length ∧ ∀ m, m ∈ ns → (∀ y ∈ ns, m ≤ y) → Q (.int m) G
  | _ => False
theorem cd_all : CallD X lv true (.builtin "all") rAll := by
  intro gd pins s σ H vs us Q I rv ⟨ds, G, R, hg, r0, h, l⟩
  match ds, r0, h with
  | [d], r0, h =>
    obtain ⟨v, rfl, r⟩ := one_rp r0
    obtain ⟨a, ws, xs, rfl, hq, ra, bs, rfl, h⟩ := lst_sq hg r h
    cases bls_v ra
    exact cr_all (gd.cl rfl) pins s σ H _ us Q I rv ⟨a, bs, rfl, hq, l _ G H _ h (Ext.refl _ _) hg (.bl _)⟩
  | [], _, h => exact h.elim
  | _ :: _ :: _, _, h => exact h.elim
theorem cd_any : CallD X lv true (.builtin "any") rAny := by
  intro gd pins s σ H vs us Q I rv ⟨ds, G, R, hg, r0, h, l⟩
  match ds, r0, h with
  | [d], r0, h =>
    obtain ⟨v, rfl, r⟩ := one_rp r0
    obtain ⟨a, ws, xs, rfl, hq, ra, bs, rfl, h⟩ := lst_sq hg r h
    cases bls_v ra
    exact cr_any (gd.cl rfl) pins s σ H _ us Q I rv ⟨a, bs, rfl, hq, l _ G H _ h (Ext.refl _ _) hg (.bl _)⟩
  | [], _, h => exact h.elim
  | _ :: _ :: _, _, h => exact h.elim
theorem cd_sum : CallD X lv true (.builtin "sum") rSum := by
  intro gd pins s σ H vs us Q I rv ⟨ds, G, R, hg, r0, h, l⟩
  match ds, r0, h with
  | [d], r0, h =>
    obtain ⟨v, rfl, r⟩ := one_rp r0
    obtain ⟨a, ws, xs, rfl, hq, ra, bs, rfl, h⟩ := lst_sq hg r h
    cases ints_v ra
    exact cr_sum (gd.cl rfl) pins s σ H _ us Q I rv ⟨a, bs, rfl, hq, l _ G H _ h (Ext.refl _ _) hg (.int _)⟩
  | [], _, h => exact h.elim
  | _ :: _ :: _, _, h => exact h.elim
theorem cd_maxL : CallD X lv true (.builtin "max") rMaxL := by
  intro gd pins s σ H vs us Q I rv ⟨ds, G, R, hg, r0, h, l⟩
  match ds, r0, h with
  | [d], r0, h =>
    obtain ⟨v, rfl, r⟩ := one_rp r0
    obtain ⟨a, ws, xs, rfl, hq, ra, bs, rfl, hl, h⟩ := lst_sq hg r h
    cases ints_v ra
    exact cr_max (gd.cl rfl) pins s σ H _ us Q I rv ⟨a, bs, rfl, hq, hl, fun m h1 h2 => l _ G H _ (h m h1 h2) (Ext.refl _ _) hg (.int _)⟩
  | [], _, h => exact h.elim
  | _ :: _ :: _, _, h => exact h.elim
theorem cd_minL : CallD X lv true (.builtin "min") rMinL := by
  intro gd pins s σ H vs us Q I rv ⟨ds, G, R, hg, r0, h, l⟩
  match ds, r0, h with
  | [d], r0, h =>
    obtain ⟨v, rfl, r⟩ := one_rp r0
    obtain ⟨a, ws, xs, rfl, hq, ra, bs, rfl, hl, h⟩ := lst_sq hg r h
    cases ints_v ra
    exact cr_min (gd.cl rfl) pins s σ H _ us Q I rv ⟨a, bs, rfl, hq, hl, fun m h1 h2 => l _ G H _ (h m h1 h2) (Ext.refl _ _) hg (.int _)⟩
  | [], _, h => exact h.elim
  | _ :: _ :: _, _, h => exact h.elim
/-! isinstance with a built-in class -/
def tyD : D → Option String
  | .non => some "NoneType"
  | .bl _ => some "bool"
  | .int _ => some "int"
  | .str _ => some "str"
  | .tup _ => some "tuple"
  | .lst _ => some "list"
  | .lsk _ => some "list"
  | .tpk _ => some "tuple"
  | .dct _ => some "dict"
  | _ => none
def isT (a b : String) : Bool := a == b || (a == "bool" && b == "int")
def tysA : List String := ["NoneType", "bool", "int", "str", "tuple", "list", "dict"]
def tysB : List String := ["bool", "int", "str", "tuple", "list", "dict"]
theorem kitB_ok : ∀ a ∈ tysA, ∀ b ∈ tysB, kitB a b = some (isT a b) := by decide +kernel
theorem tyX_of {H : Hp} {G : DH} {d : D} {v : V} {a : String} (hg : HpOk X.K X.mh H G) (r : Rp X.K X.mh H G d v) (h : tyD (rs G d) = some a) : TyX X.K H v (.type a) ∧ a ∈ tysA := by
  cases e : rs G d with
  | lst xs => rw [e] at h; cases h; obtain ⟨p, vs, rfl, h2, _⟩ := rs_lst hg r e; exact ⟨.base (.lst h2), by decide⟩
  | dct xs => rw [e] at h; cases h; obtain ⟨p, vs, rfl, h2, _⟩ := rs_dct hg r e; exact h2.elim (fun h2 => ⟨.base (.dK h2), by decide⟩) fun ⟨o, h2⟩ => ⟨.fDict h2, by decide⟩
  | tup xs =>
    rw [e] at h; cases h; obtain ⟨p, vs, rfl, h2, _⟩ := rs_tup r e
    refine ⟨?_, by decide⟩
    rcases h2 with ⟨_, h2⟩ | ⟨o, its, n, h3, h4, _⟩
    · exact .base (.tup h2)
    · exact .kTuple h3 h4
  | lsk xs =>
    rw [e] at h; cases h; obtain ⟨p, vs, rfl, h2, _⟩ := rs_lsk r e
    refine ⟨?_, by decide⟩
    rcases h2 with ⟨_, o, h2⟩ | ⟨o, its, n, h3, h4, _⟩
    · exact .base (.frz h2)
    · exact .kList h3 h4
  | tpk xs =>
    rw [e] at h; cases h; obtain ⟨p, vs, rfl, ⟨_, o, _, h2⟩, _⟩ := rs_tpk r e
    exact ⟨.fTuple h2, by decide⟩
  | str x => rw [e] at h; cases h; cases rs_str r e; exact ⟨.base (.str x), by decide⟩
  | int x => rw [e] at h; cases h; cases rs_int r e; exact ⟨.base (.int x), by decide⟩
  | non =>
    rw [e] at h; cases h
    cases r with
    | non => exact ⟨.base .non, by decide⟩
    | ref b =>
      unfold rs at e
      cases eb : G b with
      | none => simp only [eb] at e; cases e
      | some o => simp only [eb] at e; cases o <;> cases e
    | _ => cases e
  | bl k =>
    rw [e] at h; cases h
    cases r with
    | bl k => exact ⟨.base (.bl k), by decide⟩
    | ref b =>
      unfold rs at e
      cases eb : G b with
      | none => simp only [eb] at e; cases e
      | some o => simp only [eb] at e; cases o <;> cases e
    | _ => cases e
  | _ => rw [e] at h; cases h
def rIsi : RLD := fun ds G Q => match ds with
  | [d, .ty T] => match tyD (rs G d) with
    | some a => (tysB.contains T = true) ∧ Q (.bl (isT a T)) G
    | none => False
  | _ => False
theorem cd_isi : CallD X lv cm (.builtin "isinstance") rIsi := by
  intro gd pins s σ H vs us Q I rv ⟨ds, G, R, hg, r0, h, l⟩
  unfold rIsi at h
  split at h
  · rename_i d T
    obtain ⟨v, u, rfl, r, r2⟩ := two_rp r0
    cases r2
    cases e : tyD (rs G d) with
    | none => simp only [e] at h
    | some a =>
      simp only [e] at h
      obtain ⟨t1, t2⟩ := tyX_of hg r e
      exact call_isi pins s σ H _ us Q I rv ⟨v, .ty T, _, _, _, rfl, .ty T, t1, kit_ty (kitB_ok a t2 T (by simpa using h.1)), l _ G H _ h.2 (Ext.refl _ _) hg (.bl _)⟩
  · exact h.elim
end
end DL

namespace DL
open L2 PyProof.Rows PySem PySem.Spec

/-! ### 8. statements -/
def dNext : DS := fun D δ G => D.nx δ G
def thn' (D : DEnds) (u : DS) : DEnds := { D with nx := u D }
def trn' (D : DEnds) (N : Sl → DH → Prop) : DEnds := { D with nx := N, ct := N, bk := D.nx }
theorem thn_nx {D : DEnds} {u : DS} : (thn' D u).nx = u D := rfl
theorem thn_rt {D : DEnds} {u : DS} : (thn' D u).rt = D.rt := rfl
theorem thn_ex {D : DEnds} {u : DS} : (thn' D u).ex = D.ex := rfl
theorem thn_bk {D : DEnds} {u : DS} : (thn' D u).bk = D.bk := rfl
theorem thn_ct {D : DEnds} {u : DS} : (thn' D u).ct = D.ct := rfl
theorem trn_nx {D : DEnds} {N : Sl → DH → Prop} : (trn' D N).nx = N := rfl
theorem trn_rt {D : DEnds} {N : Sl → DH → Prop} : (trn' D N).rt = D.rt := rfl
theorem trn_ex {D : DEnds} {N : Sl → DH → Prop} : (trn' D N).ex = D.ex := rfl
theorem trn_bk {D : DEnds} {N : Sl → DH → Prop} : (trn' D N).bk = D.nx := rfl
theorem trn_ct {D : DEnds} {N : Sl → DH → Prop} : (trn' D N).ct = N := rfl
def dSeq (t u : DS) : DS := fun D δ G => t (thn' D u) δ G
def dPass : DS := dNext
def dBrk : DS := fun D δ G => D.bk δ G
def dCnt : DS := fun D δ G => D.ct δ G
def dDrop (t : DE) : DS := fun D δ G => t D.ex δ G fun _ G1 => D.nx δ G1
def dRet (t : DE) : DS := fun D δ G => t D.ex δ G D.rt
def dRetN : DS := fun D _ G => D.rt .non G
def dIfS (c : DT) (t u : DS) : DS := fun D δ G => c D.ex δ G fun b G1 => Br b (t D δ G1) (u D δ G1) .mk
/-- a target: the value, then what follows -/
abbrev DG := D → DW → Sl → DH → (Sl → DH → Prop) → Prop
abbrev DGs := List D → DW → Sl → DH → (Sl → DH → Prop) → Prop
def gdName (i : Nat) : DG := fun d _ δ G Q => Q (δ.set i (some d)) G
def gdNil : DGs := fun ds _ δ G Q => ds = [] ∧ Q δ G
def gdCons (t : DG) (u : DGs) : DGs := fun ds W δ G Q => match ds with
  | d :: r => t d W δ G fun δ' G' => u r W δ' G' Q
  | [] => False
def gdTup (n : Nat) (t : DGs) : DG := fun d W δ G Q => match rs G d with
  | .tup xs => xs.length = n ∧ t xs W δ G Q
  | _ => False
def dAsg (t : DE) (g : DG) : DS := fun D δ G => t D.ex δ G fun x G1 => g x D.ex δ G1 D.nx
def dPar (i j : Nat) (t : DA) : DS := fun D δ G => t D.ex δ G fun ds G1 => match ds with
  | [a, b] => D.nx ((δ.set i (some a)).set j (some b)) G1
  | _ => False
section
variable {X : Cx} {lv : Nat} {cm : Bool} {st : Stmt} {rest : List Stmt} {t u : DS} {e : Expr} {te : DE} {pos : Pos}
theorem pdss_nil : PDSs X lv cm [] dNext := fun gd Wx tk => pss_imp pss_nil fun D σ H ⟨DD, δ, G, hs, hg, ht, l1, l2, l3, l4, l5⟩ => l1 δ G σ H ht (Ext.refl _ _) hs hg
theorem pdss_cons (h1 : PDS X lv cm st t) (h2 : PDSs X lv cm rest u) : PDSs X lv cm (st :: rest) (dSeq t u) := fun gd Wx tk =>
  pss_imp (pss_cons (h1 gd Wx tk) (h2 gd Wx tk)) fun D σ H ⟨DD, δ, G, hs, hg, ht, l1, l2, l3, l4, l5⟩ => ⟨{ DD with nx := u DD }, δ, G, hs, hg, ht,
    fun δ' G' σ' H' h e s g => ⟨DD, δ', G', s, g, h, fun δ2 G2 σ2 H2 h2 e2 => l1 δ2 G2 σ2 H2 h2 (e.trans e2), fun d G2 H2 v h2 e2 => l2 d G2 H2 v h2 (e.trans e2), fun δ2 G2 σ2 H2 h2 e2 => l3 δ2 G2 σ2 H2 h2 (e.trans e2),
      fun δ2 G2 σ2 H2 h2 e2 => l4 δ2 G2 σ2 H2 h2 (e.trans e2), fun ex δ2 G2 σ2 H2 cls dd h2 e2 => l5 ex δ2 G2 σ2 H2 cls dd h2 (e.trans e2)⟩, l2, l3, l4, l5⟩
theorem pdss_one (h1 : PDS X lv cm st t) : PDSs X lv cm [st] t := fun gd Wx tk => pss_one (h1 gd Wx tk)
theorem pds_pass : PDS X lv cm (.Pass pos) dPass := fun gd Wx tk => ps_imp ps_pass fun D σ H ⟨DD, δ, G, hs, hg, ht, l1, l2, l3, l4, l5⟩ => l1 δ G σ H ht (Ext.refl _ _) hs hg
theorem pds_break : PDS X lv cm (.Break pos) dBrk := fun gd Wx tk => ps_imp ps_break fun D σ H ⟨DD, δ, G, hs, hg, ht, l1, l2, l3, l4, l5⟩ => l3 δ G σ H ht (Ext.refl _ _) hs hg
theorem pds_cont : PDS X lv cm (.Continue pos) dCnt := fun gd Wx tk => ps_imp ps_continue fun D σ H ⟨DD, δ, G, hs, hg, ht, l1, l2, l3, l4, l5⟩ => l4 δ G σ H ht (Ext.refl _ _) hs hg
theorem pds_expr (he : PD X lv cm e te) (hs : swapsWith e none pos.line X.env = pure false := by rfl) : PDS X lv cm (.Expr e pos) (dDrop te) := fun gd Wx tk =>
  ps_imp (ps_expr (he gd Wx tk) hs) fun D σ H ⟨DD, δ, G, hs, hg, ht, l1, l2, l3, l4, l5⟩ => ⟨DD.ex, δ, G, _, hs, hg, ht, fun d G1 H1 v h1 e1 g1 _ => l1 δ G1 σ H1 h1 e1 (hs.ext e1) g1, l5⟩
theorem pds_ret (he : PD X lv cm e te) : PDS X lv cm (.Return (some e) pos) (dRet te) := fun gd Wx tk =>
  ps_imp (ps_ret (he gd Wx tk)) fun D σ H ⟨DD, δ, G, hs, hg, ht, l1, l2, l3, l4, l5⟩ => ⟨DD.ex, δ, G, _, hs, hg, ht, fun d G1 H1 v h1 e1 g1 r1 => l2 d G1 H1 v h1 e1 g1 r1, l5⟩
theorem pds_retN : PDS X lv cm (.Return none pos) dRetN := fun gd Wx tk => ps_imp ps_retN fun D σ H ⟨DD, δ, G, hs, hg, ht, l1, l2, l3, l4, l5⟩ => l2 .non G H .non ht (Ext.refl _ _) hg .non
theorem pds_if {c : Expr} {a b : List Stmt} {tc : DT} (hc : PDT X lv cm c tc) (ha : PDSs X lv cm a t) (hb : PDSs X lv cm b u) : PDS X lv cm (.If c a b pos) (dIfS tc t u) := fun gd Wx tk =>
  ps_imp (ps_if (hc gd Wx tk) (ha gd Wx tk) (hb gd Wx tk)) fun D σ H ⟨DD, δ, G, hs, hg, ht, l1, l2, l3, l4, l5⟩ => ⟨DD.ex, δ, G, _, hs, hg, ht, fun k G1 H1 h1 e g1 => by
    cases k with
    | true =>
      replace h1 := br_t h1
      rw [if_pos rfl]
      exact ⟨DD, δ, G1, hs.ext e, g1, h1, fun δ2 G2 σ2 H2 h2 e2 => l1 δ2 G2 σ2 H2 h2 (e.trans e2), fun d G2 H2 v h2 e2 => l2 d G2 H2 v h2 (e.trans e2), fun δ2 G2 σ2 H2 h2 e2 => l3 δ2 G2 σ2 H2 h2 (e.trans e2),
        fun δ2 G2 σ2 H2 h2 e2 => l4 δ2 G2 σ2 H2 h2 (e.trans e2), fun ex δ2 G2 σ2 H2 cls dd h2 e2 => l5 ex δ2 G2 σ2 H2 cls dd h2 (e.trans e2)⟩
    | false =>
      replace h1 := br_f h1
      rw [if_neg Bool.false_ne_true]
      exact ⟨DD, δ, G1, hs.ext e, g1, h1, fun δ2 G2 σ2 H2 h2 e2 => l1 δ2 G2 σ2 H2 h2 (e.trans e2), fun d G2 H2 v h2 e2 => l2 d G2 H2 v h2 (e.trans e2), fun δ2 G2 σ2 H2 h2 e2 => l3 δ2 G2 σ2 H2 h2 (e.trans e2),
        fun δ2 G2 σ2 H2 h2 e2 => l4 δ2 G2 σ2 H2 h2 (e.trans e2), fun ex δ2 G2 σ2 H2 cls dd h2 e2 => l5 ex δ2 G2 σ2 H2 cls dd h2 (e.trans e2)⟩, l5⟩
/-! targets -/
def upG1 (X : Cx) (Wx : WX) (g : DG) : TG := fun v σ H Q => ∃ (W : DW) (δ : Sl) (G : DH) (d : D) (R : Sl → DH → Prop), StOk X.K X.mh H G δ σ ∧ HpOk X.K X.mh H G ∧ Rp X.K X.mh H G d v ∧ g d W δ G R ∧
  (∀ δ' G' σ' H', R δ' G' → Ext H G H' G' → StOk X.K X.mh H' G' δ' σ' → HpOk X.K X.mh H' G' → Q σ' H') ∧
  ∀ ex δ' G' σ' H' cls dd, W ex δ' G' → Ext H G H' G' → StOk X.K X.mh H' G' δ' σ' → HpOk X.K X.mh H' G' → ExOk X.K X.mh H' G' ex cls dd → Wx cls dd σ' H'
def upGs (X : Cx) (Wx : WX) (g : DGs) : TGs := fun vs σ H Q => ∃ (W : DW) (δ : Sl) (G : DH) (ds : List D) (R : Sl → DH → Prop), StOk X.K X.mh H G δ σ ∧ HpOk X.K X.mh H G ∧ RpL X.K X.mh H G ds vs ∧ g ds W δ G R ∧
  (∀ δ' G' σ' H', R δ' G' → Ext H G H' G' → StOk X.K X.mh H' G' δ' σ' → HpOk X.K X.mh H' G' → Q σ' H') ∧
  ∀ ex δ' G' σ' H' cls dd, W ex δ' G' → Ext H G H' G' → StOk X.K X.mh H' G' δ' σ' → HpOk X.K X.mh H' G' → ExOk X.K X.mh H' G' ex cls dd → Wx cls dd σ' H'
def PDG (X : Cx) (lv : Nat) (cm : Bool) (tg : Expr) (g : DG) : Prop := Gd X lv cm → ∀ Wx, Takes X Wx → PG X tg (upG1 X Wx g)
def PDGs (X : Cx) (lv : Nat) (cm : Bool) (tg : List Expr) (g : DGs) : Prop := Gd X lv cm → ∀ Wx, Takes X Wx → PGs X tg (upGs X Wx g)
theorem pg_imp {e : Expr} {t t' : TG} (h : PG X e t) (i : ∀ v σ H Q, t' v σ H Q → t v σ H Q) : PG X e t' := ⟨fun pins s σ H v u Q I r q => h.run pins s σ H v u Q I r (i _ _ _ _ q)⟩
theorem pgs_imp {e : List Expr} {t t' : TGs} (h : PGs X e t) (i : ∀ v σ H Q, t' v σ H Q → t v σ H Q) : PGs X e t' := ⟨fun pins s σ H v u Q I r q => h.run pins s σ H v u Q I r (i _ _ _ _ q)⟩
theorem pdg_name {i : Nat} {x : Str} (hN : X.N.Nodup) (hi : X.N[i]? = some x) (hx : Loc X.env.scope x) (hf : X.fn x = true ∨ X.env.scope.names.lookup x = some .local := by first | exact .inl rfl | exact .inr rfl | assumption) : PDG X lv cm (.Name x pos) (gdName i) := fun gd Wx tk =>
  pg_imp (pg_name hN hi hx hf) fun v σ H Q ⟨W, δ, G, d, R, hs, hg, r, h, l1, l2⟩ => l1 _ G _ H h (Ext.refl _ _) (hs.set i r) hg
theorem pdgs_nil : PDGs X lv cm [] gdNil := fun gd Wx tk => pgs_imp pgs_nil fun vs σ H Q ⟨W, δ, G, ds, R, hs, hg, r, ⟨e, h⟩, l1, l2⟩ => by
  subst e; cases r; exact ⟨rfl, l1 δ G σ H h (Ext.refl _ _) hs hg⟩
theorem pdgs_cons {es : List Expr} {t : DG} {u : DGs} (h1 : PDG X lv cm e t) (h2 : PDGs X lv cm es u) (hs : (assignEach (e :: es) X.env).map (·.2) = assign e X.env :: (assignEach es X.env).map (·.2) := by rfl) : PDGs X lv cm (e :: es) (gdCons t u) := fun gd Wx tk =>
  pgs_imp (pgs_cons (h1 gd Wx tk) (h2 gd Wx tk) hs) fun vs σ H Q ⟨W, δ, G, ds, R, hs, hg, r, h, l1, l2⟩ => by
    cases r with
    | nil => exact h.elim
    | cons r rr => exact ⟨_, _, rfl, W, δ, G, _, _, hs, hg, r, h, fun δ' G' σ' H' h' e' s' g' => ⟨W, δ', G', _, R, s', g', rr.ext e', h', fun δ2 G2 σ2 H2 hh e2 => l1 δ2 G2 σ2 H2 hh (e'.trans e2), fun ex δ2 G2 σ2 H2 cls dd hh e2 => l2 ex δ2 G2 σ2 H2 cls dd hh (e'.trans e2)⟩, l2⟩
theorem pdg_tup {es : List Expr} {k : Nat} {t : DGs} {n : Nat} (h : PDGs X lv true es t) (hn : (assignEach es X.env).length = n := by rfl) (hst : (assignEach es X.env).findIdx? (·.1) = none := by rfl) : PDG X lv true (.Tuple es k pos) (gdTup n t) := fun gd Wx tk =>
  pg_imp (pg_tup (gd.cl rfl) (h gd Wx tk) hn hst) fun v σ H Q ⟨W, δ, G, d, R, hs, hg, r, h, l1, l2⟩ => by
    unfold gdTup at h
    split at h
    · rename_i xs e
      obtain ⟨a, vs, rfl, ha, ra⟩ := rs_tup r e
      exact ⟨a, vs, rfl, ha.sqT, by rw [← ra.length]; exact h.1, W, δ, G, xs, R, hs, hg, ra, h.2, l1, l2⟩
    · exact h.elim
theorem up_asg {Wx : WX} {g : DG} {D : Ends} {σ : L2.St} {H : Hp} (h : upS X Wx (dAsg te g) D σ H) : tAsg (upE X Wx te) (upG1 X Wx g) D σ H := by
  obtain ⟨DD, δ, G, hs, hg, ht, l1, l2, l3, l4, l5⟩ := h
  exact ⟨DD.ex, δ, G, _, hs, hg, ht, fun d G1 H1 v h1 e1 g1 r1 => ⟨DD.ex, δ, G1, d, _, hs.ext e1, g1, r1, h1, fun δ' G' σ' H' h' e' => l1 δ' G' σ' H' h' (e1.trans e'), fun ex δ2 G2 σ2 H2 cls dd hh e2 => l5 ex δ2 G2 σ2 H2 cls dd hh (e1.trans e2)⟩, l5⟩
theorem pds_asg {tg : Expr} {g : DG} (he : PD X lv cm e te) (hg : PDG X lv cm tg g) (hs : swapsWithSole [tg] e pos.line X.env = pure false := by rfl) (hw : swappedStores [tg] e X.env = pure none := by rfl)
    (h1 : (assignEach [tg] X.env).map (·.2) = [assign tg X.env] := by rfl) : PDS X lv cm (.Assign [tg] e pos) (dAsg te g) := fun gd Wx tk => ps_imp (ps_asg (he gd Wx tk) (hg gd Wx tk) hs hw h1) fun D σ H h => up_asg h
theorem pds_set {i : Nat} {x : Str} {pos' : Pos} (hN : X.N.Nodup) (hi : X.N[i]? = some x) (hx : Loc X.env.scope x) (he : PD X lv cm e te) (hs : swapsWith e (some (.Name x pos')) pos.line X.env = pure false := by rfl)
    (hf : X.fn x = true ∨ X.env.scope.names.lookup x = some .local := by first | exact .inl rfl | exact .inr rfl | assumption) : PDS X lv cm (.Assign [.Name x pos'] e pos) (dAsg te (gdName i)) := fun gd Wx tk =>
  ps_imp (ps_set hN hi hx (he gd Wx tk) hs hf) fun D σ H ⟨DD, δ, G, hs, hg, ht, l1, l2, l3, l4, l5⟩ => ⟨DD.ex, δ, G, _, hs, hg, ht, fun d G1 H1 v h1 e1 g1 r1 => l1 _ G1 _ H1 h1 e1 ((hs.ext e1).set i r1) g1, l5⟩
theorem pds_par {i j : Nat} {x y : Str} {a b : Expr} {t : DA} {px py pt : Pos} {kt k2 pt2} (hN : X.N.Nodup) (hi : X.N[i]? = some x) (hj : X.N[j]? = some y) (hij : i ≠ j) (hx : X.env.scope.names.lookup x = some .local) (hy : X.env.scope.names.lookup y = some .local) (ha : PDA X lv true [a, b] t)
    (hw : swappedStores [.Tuple [.Name x px, .Name y py] kt pt] (.Tuple [a, b] k2 pt2) X.env = pure (some [x, y]) := by rfl) (hs : swapsWithSole [.Tuple [.Name x px, .Name y py] kt pt] (.Tuple [a, b] k2 pt2) pos.line X.env = pure false := by rfl) :
    PDS X lv true (.Assign [.Tuple [.Name x px, .Name y py] kt pt] (.Tuple [a, b] k2 pt2) pos) (dPar i j t) := fun gd Wx tk =>
  ps_imp (ps_par (gd.cl rfl) hN hi hj hij hx hy (ha gd Wx tk) hw hs) fun D σ H ⟨DD, δ, G, hs, hg, ht, l1, l2, l3, l4, l5⟩ => ⟨DD.ex, δ, G, _, hs, hg, ht, fun ds G1 H1 vs h1 e1 g1 r1 => by
    match ds, r1, h1 with
    | [d1, d2], r1, h1 =>
      obtain ⟨v, w, rfl, r2, r3⟩ := two_rp r1
      exact ⟨v, w, rfl, l1 _ G1 _ H1 h1 e1 (((hs.ext e1).set i r2).set j r3) g1⟩
    | [], _, h => exact h.elim
    | [_], _, h => exact h.elim
    | _ :: _ :: _ :: _, _, h => exact h.elim, l5⟩
/-! stores into lists, dicts -/
/-- o[i] = v -/
def rSetD (o i v : D) (G : DH) (Q : DH → Prop) : Prop := match o with
  | .ref a => match G a with
    | some (.lst xs) => match i with
      | .int k => match ixN xs.length k with
        | some j => Q (upG G a (.lst (xs.set j v)))
        | none => False
      | _ => False
    | some (.dct kvs) => match kyD i with
      | some k => ((kvs.map (·.1)).Nodup ∧ kvs.length < sizeLine) ∧ Q (upG G a (.dct (ptK kvs k v)))
      | none => False
    | some (.mx kvs) => ∃ k, (i = keyD k ∧ kvs.length < sizeLine) ∧ Q (upG G a (.mx (ptX k v kvs)))
    | _ => False
  | _ => False
def gdSub (to ti : DE) : DG := fun v W δ G Q => to W δ G fun o G1 => ti W δ G1 fun i G2 => rSetD o i v G2 fun G3 => Q δ G3
def upSet (X : Cx) : TSet := fun o i v H Q => ∃ (do' di dv : D) (G : DH) (R : DH → Prop), HpOk X.K X.mh H G ∧ Rp X.K X.mh H G do' o ∧ Rp X.K X.mh H G di i ∧ Rp X.K X.mh H G dv v ∧ rSetD do' di dv G R ∧
  ∀ G' H', R G' → Ext H G H' G' → HpOk X.K X.mh H' G' → Q H'
theorem set_pd (gd : Gd X lv cm) : PSet X (upSet X) := by
  intro pins s σ H o i v ov iv u Q I ro ri rv ⟨do', di, dv, G, R, hg, r1, r2, r3, h, l⟩
  unfold rSetD at h
  cases r1 with
  | ref a =>
    simp only at h
    cases ea : G a with
    | none => simp only [ea] at h
    | some w =>
      simp only [ea] at h
      have ob := hg a w ea
      cases ob with
      | lst e2 ra =>
        simp only at h
        cases r2 with
        | int k =>
          simp only at h
          rename_i vs xs
          cases ej : ixN xs.length k with
          | none => simp only [ej] at h
          | some j =>
            simp only [ej] at h
            have ext := Ext.write (H := H) (o := .lst (xs.set j dv)) (u := .lst (vs.set j v)) ea
            exact set_list pins s σ H _ _ _ ov iv u Q I ro ri rv ⟨a, vs, k, j, rfl, rfl, e2, by rw [← ra.length]; exact ej, l _ _ h ext (hg.upd ext (.lst upd_same ((RpL.set r3 j ra).ext ext)))⟩
        | _ => exact h.elim
      | dct e2 ra =>
        simp only at h
        rename_i vs kvs
        cases ek : kyD di with
        | none => simp only [ek] at h
        | some k =>
          simp only [ek] at h
          cases key_v r2 ek
          obtain rfl : ov = Value.ref a := ro
          have ext := Ext.write (H := H) (o := .dct (ptK kvs k dv)) (u := .dK (putK vs k v)) ea
          refine d_setItem gd.un1 I (DPut.k (k := k) e2 (by rw [← ra.length]; exact h.1.2)) ri rv fun s' I' => ⟨_, I', l _ _ h.2 ext (hg.upd ext (.dct upd_same ?_))⟩
          refine RpK.ext ext ?_
          rw [ptK_eq k dv h.1.1]
          unfold putK
          rw [any_keys ra.keys]
          split
          · exact ra.mapPut r3
          · exact ra.append (.cons r3 .nil)
      | ins _ _ _ _ => exact h.elim
      | tb _ => exact h.elim
      | mx e2 ra =>
        simp only at h
        rename_i ob0 vs kvs
        obtain ⟨k, ⟨rfl, hl⟩, h⟩ := h
        obtain rfl : ov = Value.ref a := ro
        refine m_setItem gd.un1 I e2 (keys_are I ra) (key_is I r2 ri) (by rw [← ra.length]; exact hl) ri rv fun o' s' I' => ?_
        have ext := Ext.write (H := H) (o := DO.mx (ptX k dv kvs)) (u := mixO (mHash X.prog X.w) a o' (mput k i v vs)) ea
        exact ⟨_, I', l _ _ h ext (hg.upd ext (.mx upd_same ((RpX.put r2 r3 ra).ext ext)))⟩
  | _ => exact h.elim
theorem pdg_sub {o i : Expr} {to ti : DE} (ho : PD X lv cm o to) (hi : PD X lv cm i ti)
    (ha : ∀ v, assign (.Subscript o i pos) X.env v = (do
      let ov ← holding [v] (eval o X.env)
      let iv ← holding [v, ov] (eval i X.env)
      standAt pos
      holding [v, ov, iv] (setItem ov iv v)
      release [v, ov, iv] []) := by intro _; rfl) : PDG X lv cm (.Subscript o i pos) (gdSub to ti) := fun gd Wx tk =>
  pg_imp (pg_sub (ho gd Wx tk) (hi gd Wx tk) (set_pd gd) ha) fun v σ H Q ⟨W, δ, G, d, R, hs, hg, r, h, l1, l2⟩ => ⟨W, δ, G, _, hs, hg, h, fun o1 G1 H1 v1 h1 e1 g1 r1 =>
    ⟨W, δ, G1, _, hs.ext e1, g1, h1, fun i1 G2 H2 v2 h2 e2 g2 r2 => ⟨o1, i1, d, G2, _, g2, r1.ext e2, r2, r.ext (e1.trans e2), h2, fun G3 H3 h3 e3 g3 => l1 δ G3 σ H3 h3 ((e1.trans e2).trans e3) (hs.ext ((e1.trans e2).trans e3)) g3⟩,
      fun ex δ2 G2 σ2 H2 cls dd hh e2 => l2 ex δ2 G2 σ2 H2 cls dd hh (e1.trans e2)⟩, l2⟩
end
end DL

namespace DL
open L2 PyProof.Rows PySem PySem.Spec

/-! ### 9. loops -/
theorem ite_t {A B : Prop} (h : if true = true then A else B) : A := h
theorem ite_f {A B : Prop} (h : if false = true then A else B) : B := by
  rwa [if_neg Bool.false_ne_true] at h
def dWhile (c : DT) (tb : DS) : DS := fun D δ G => ∃ P : Nat → Sl → DH → Prop, (∃ m, P m δ G) ∧ ∀ m δ G, P m δ G → c D.ex δ G fun b G1 =>
  Br b (tb (trn' D fun δ' G' => ∃ m', m' < m ∧ P m' δ' G') δ G1) (D.nx δ G1) .mk
section
variable {X : Cx} {lv : Nat} {cm : Bool} {pos : Pos}
theorem pds_while {c : Expr} {body : List Stmt} {tc : DT} {tb : DS} (hc : PDT X lv cm c tc) (hb : PDSs X lv cm body tb) : PDS X lv cm (.While c body [] pos) (dWhile tc tb) := fun gd Wx tk =>
  ps_imp (ps_while gd.po (hc gd Wx tk) (hb gd Wx tk)) fun D σ0 H0 ⟨DD, δ0, G0, hs0, hg0, ⟨P, ⟨m0, p0⟩, turn⟩, l1, l2, l3, l4, l5⟩ =>
    ⟨fun m σ H => ∃ δ G, Ext H0 G0 H G ∧ StOk X.K X.mh H G δ σ ∧ HpOk X.K X.mh H G ∧ P m δ G, ⟨m0, δ0, G0, Ext.refl _ _, hs0, hg0, p0⟩, fun m σ H ⟨δ, G, e, hs, hg, p⟩ =>
      ⟨DD.ex, δ, G, _, hs, hg, turn m δ G p, fun b G1 H1 h1 e1 g1 => by
        have e01 := e.trans e1
        cases b with
        | true =>
          replace h1 := ite_t h1
          refine iteT ?_
          refine ⟨fun σ' H' => ∃ δ' G', Ext H0 G0 H' G' ∧ StOk X.K X.mh H' G' δ' σ' ∧ HpOk X.K X.mh H' G' ∧ ∃ m', m' < m ∧ P m' δ' G', fun σ' H' ⟨δ', G', e', s', g', m', hm, p'⟩ => ⟨m', hm, δ', G', e', s', g', p'⟩, ?_⟩
          exact ⟨_, δ, G1, hs.ext e1, g1, h1, fun δ' G' σ' H' h' e' s' g' => ⟨δ', G', e01.trans e', s', g', h'⟩, fun d G2 H2 v h2 e2 => l2 d G2 H2 v h2 (e01.trans e2),
            fun δ2 G2 σ2 H2 h2 e2 => l1 δ2 G2 σ2 H2 h2 (e01.trans e2), fun δ' G' σ' H' h' e' s' g' => ⟨δ', G', e01.trans e', s', g', h'⟩, fun ex δ2 G2 σ2 H2 cls dd h2 e2 => l5 ex δ2 G2 σ2 H2 cls dd h2 (e01.trans e2)⟩
        | false =>
          replace h1 := ite_f h1
          refine iteF ?_
          exact l1 δ G1 σ H1 h1 e01 (hs.ext e1) g1, fun ex δ2 G2 σ2 H2 cls dd h2 e2 => l5 ex δ2 G2 σ2 H2 cls dd h2 (e.trans e2)⟩⟩
end
/-- what is walked: its items, what must hold at each turn, the heap -/
abbrev DI := DW → Sl → DH → (List D → (DH → Prop) → DH → Prop) → Prop
structure ItD (X : Cx) (J : It) (H0 : Hp) (G0 : DH) (xs : List D) (S : DH → Prop) : Prop where
  go : ∀ i x H G, xs[i]? = some x → Ext H0 G0 H G → HpOk X.K X.mh H G → S G → J.go i H ∧ ∀ v H', J.yld i H v H' → Ext H G H' G ∧ HpOk X.K X.mh H' G ∧ Rp X.K X.mh H' G x v
  stop : ∀ H G, Ext H0 G0 H G → HpOk X.K X.mh H G → S G → J.stop xs.length H
def upI (X : Cx) (Wx : WX) (t : DI) : TI := fun σ H R => ∃ (W : DW) (δ : Sl) (G : DH) (R' : List D → (DH → Prop) → DH → Prop), StOk X.K X.mh H G δ σ ∧ HpOk X.K X.mh H G ∧ t W δ G R' ∧
  (∀ xs S G' H' J, R' xs S G' → Ext H G H' G' → HpOk X.K X.mh H' G' → ItD X J H' G' xs S → R J H') ∧
  ∀ ex δ' G' σ' H' cls dd, W ex δ' G' → Ext H G H' G' → StOk X.K X.mh H' G' δ' σ' → HpOk X.K X.mh H' G' → ExOk X.K X.mh H' G' ex cls dd → Wx cls dd σ' H'
def PDI (X : Cx) (lv : Nat) (cm : Bool) (tg e : Expr) (t : DI) : Prop := Gd X lv cm → ∀ Wx, Takes X Wx → PI X tg e (upI X Wx t)
theorem pi_imp {X : Cx} {tg e : Expr} {t t' : TI} (h : PI X tg e t) (i : ∀ σ H R, t' σ H R → t σ H R) : PI X tg e t' := ⟨fun pins s σ H R I q => h.run pins s σ H R I (i _ _ _ q)⟩
def forK (g : DG) (tb : DS) (D : DEnds) (δ : Sl) (xs : List DL.D) (S : DH → Prop) (G1 : DH) : Prop := ∃ P : Nat → Sl → DH → Prop, P 0 δ G1 ∧
  (∀ i x δ G, xs[i]? = some x → P i δ G → S G ∧ g x D.ex δ G fun δ2 G2 => tb (trn' D (P (i + 1))) δ2 G2) ∧ ∀ δ G, P xs.length δ G → S G ∧ D.nx δ G
def dFor (it : DI) (g : DG) (tb : DS) : DS := fun D δ G => it D.ex δ G fun xs S G1 => forK g tb D δ xs S G1
section
variable {X : Cx} {lv : Nat} {cm : Bool} {pos : Pos}
theorem pds_for {tg iter : Expr} {body : List Stmt} {it : DI} {g : DG} {tb : DS} (hi : PDI X lv true tg iter it) (hgt : PDG X lv true tg g) (hb : PDSs X lv true body tb)
    (hs : ∀ x, foldedSetIterable iter X.env x = pure x := by intro _; rfl) : PDS X lv true (.For tg iter body [] pos) (dFor it g tb) := fun gd Wx tk =>
  ps_imp (ps_for gd.po (gd.cl rfl) (hi gd Wx tk) (hgt gd Wx tk) (hb gd Wx tk) hs) fun D σ00 H00 ⟨DD, δ00, G00, hs00, hg00, ht, l1, l2, l3, l4, l5⟩ =>
    ⟨DD.ex, δ00, G00, _, hs00, hg00, ht, fun xs S G0 H0 J ⟨P, p0, turn, fin⟩ e0 g0 IJ =>
      ⟨fun i m σ H => m = xs.length - i ∧ i ≤ xs.length ∧ ∃ δ G, Ext H0 G0 H G ∧ StOk X.K X.mh H G δ σ ∧ HpOk X.K X.mh H G ∧ P i δ G, ⟨xs.length, by simp, Nat.zero_le _, δ00, G0, Ext.refl _ _, hs00.ext e0, g0, p0⟩, fun i m σ H ⟨em, hi, δ, G, e, hs, hg, p⟩ => by
        have ee := e0.trans e
        by_cases hlt : i < xs.length
        · have hx : xs[i]? = some xs[i] := List.getElem?_eq_getElem hlt
          obtain ⟨hS, hstep⟩ := turn i _ δ G hx p
          obtain ⟨hgo, hyld⟩ := IJ.go i _ H G hx e hg hS
          refine .inr ⟨hgo, fun σ' H' => ∃ δ' G', Ext H0 G0 H' G' ∧ StOk X.K X.mh H' G' δ' σ' ∧ HpOk X.K X.mh H' G' ∧ P (i + 1) δ' G', fun σ' H' ⟨δ', G', e', s', g', p'⟩ => ⟨xs.length - (i + 1), by omega, rfl, hlt, δ', G', e', s', g', p'⟩, fun v H' hy => ?_⟩
          obtain ⟨e1, g1, r1⟩ := hyld v H' hy
          exact ⟨DD.ex, δ, G, xs[i], _, hs.ext e1, g1, r1, hstep, fun δ2 G2 σ2 H2 h2 e2 s2 g2 => ⟨_, δ2, G2, s2, g2, h2,
              fun δ' G' σ' H' h' e' s' g' => ⟨δ', G', ((e.trans e1).trans e2).trans e', s', g', h'⟩, fun d G3 H3 v h3 e3 => l2 d G3 H3 v h3 (((ee.trans e1).trans e2).trans e3),
              fun δ3 G3 σ3 H3 h3 e3 => l1 δ3 G3 σ3 H3 h3 (((ee.trans e1).trans e2).trans e3), fun δ' G' σ' H' h' e' s' g' => ⟨δ', G', ((e.trans e1).trans e2).trans e', s', g', h'⟩,
              fun ex δ3 G3 σ3 H3 cls dd h3 e3 => l5 ex δ3 G3 σ3 H3 cls dd h3 (((ee.trans e1).trans e2).trans e3)⟩,
            fun ex δ2 G2 σ2 H2 cls dd h2 e2 => l5 ex δ2 G2 σ2 H2 cls dd h2 ((ee.trans e1).trans e2)⟩
        · have ei : i = xs.length := by omega
          subst ei
          obtain ⟨hS, hn⟩ := fin δ G p
          exact .inl ⟨IJ.stop H G e hg hS, l1 δ G σ H hn ee hs hg⟩⟩, l5⟩

/-! what may be walked -/
theorem RpL.getV2 {H : Hp} {G : DH} {xs : List D} {vs : List V} (r : RpL X.K X.mh H G xs vs) {i : Nat} {x : D} {v : V} (hx : xs[i]? = some x) (hv : vs[i]? = some v) : Rp X.K X.mh H G x v := by
  obtain ⟨w, hw, rw'⟩ := r.get hx
  rw [hv] at hw; cases hw; exact rw'
theorem it_seqL {a : Addr} {H0 : Hp} {G0 : DH} {xs : List D} {S : DH → Prop} (h : ∀ H G, Ext H0 G0 H G → HpOk X.K X.mh H G → S G → ∃ vs, SqL X.K H a vs ∧ RpL X.K X.mh H G xs vs) : ItD X (Itl X.K a) H0 G0 xs S := by
  refine ⟨fun i x H G hx e hg s => ?_, fun H G e hg s => ?_⟩
  · obtain ⟨vs, hq, r⟩ := h H G e hg s
    obtain ⟨v, hv, rv⟩ := r.get hx
    refine ⟨⟨vs, v, hq, hv⟩, fun w H' ⟨eh, hw⟩ => ?_⟩
    subst eh
    exact ⟨Ext.refl _ _, hg, r.getV2 hx (hw vs hq)⟩
  · obtain ⟨vs, hq, r⟩ := h H G e hg s
    exact ⟨vs, hq, by rw [r.length]; exact Nat.le_refl _⟩
theorem it_seqT {a : Addr} {H0 : Hp} {G0 : DH} {xs : List D} {S : DH → Prop} (h : ∀ H G, Ext H0 G0 H G → HpOk X.K X.mh H G → S G → ∃ vs, SqT X.K H a vs ∧ RpL X.K X.mh H G xs vs) : ItD X (Itt X.K a) H0 G0 xs S := by
  refine ⟨fun i x H G hx e hg s => ?_, fun H G e hg s => ?_⟩
  · obtain ⟨vs, hq, r⟩ := h H G e hg s
    obtain ⟨v, hv, rv⟩ := r.get hx
    refine ⟨⟨vs, v, hq, hv⟩, fun w H' ⟨eh, hw⟩ => ?_⟩
    subst eh
    exact ⟨Ext.refl _ _, hg, r.getV2 hx (hw vs hq)⟩
  · obtain ⟨vs, hq, r⟩ := h H G e hg s
    exact ⟨vs, hq, by rw [r.length]; exact Nat.le_refl _⟩
theorem it_str {z : Str} {H0 : Hp} {G0 : DH} {S : DH → Prop} : ItD X (Its z) H0 G0 (z.cps.toList.map fun c => .str ⟨#[c]⟩) S := by
  refine ⟨fun i x H G hx e hg s => ?_, fun H G e hg s => ?_⟩
  · have hi := (List.getElem?_eq_some_iff.mp hx).1
    rw [List.length_map] at hi
    refine ⟨by show i < z.cps.size; simpa using hi, fun w H' ⟨eh, c, hc, ew⟩ => ?_⟩
    subst eh; subst ew
    refine ⟨Ext.refl _ _, hg, ?_⟩
    rw [List.getElem?_map, Array.getElem?_toList, hc] at hx
    cases hx
    exact .str _
  · show z.cps.size ≤ _
    simp
theorem rp_key {K : PySem.W.Frag} {mg : MG} {H : Hp} {G : DH} : ∀ k : Key, Rp K mg H G (kyK k) (kV k)
  | .inl i => .int i
  | .inr s => .str s
/-- a dict that is walked is locked -/
theorem lockD {pins : List (Addr × Obj)} {s : Shared} {σ : L2.St} {H : Hp} {a : Addr} {vs : List (Key × V)} (I : Inv X pins σ H s) (h : Rd H a (.dK vs)) : ∃ o H2, Inv X pins σ H2 s ∧ H2 a = some (.frz o (.dK vs)) ∧ ∀ G : DH, G a = none → Ext H G H2 G ∧ (HpOk X.K X.mh H G → HpOk X.K X.mh H2 G) := by
  rcases h with h | ⟨o, h⟩
  · obtain ⟨od, I2⟩ := I.lock h trivial
    refine ⟨od, _, I2, upd_same, fun G ga => ?_⟩
    have ex : Ext H G (L2.upd H a (.frz od (.dK vs))) G := fun b w g hb => by
      by_cases e : b = a
      · subst e
        rw [h] at hb
        cases hb
        exact ⟨.inr ⟨od, vs, rfl, upd_same⟩, g⟩
      · rw [L2.upd_ne e]; exact ⟨.inl hb, g⟩
    refine ⟨ex, fun hg b w hb => (hg b w hb).ext ex fun u hu => ?_⟩
    have e : b ≠ a := fun e => by rw [e, ga] at hb; cases hb
    rw [L2.upd_ne e]; exact hu
  · exact ⟨o, H, I, h, fun G _ => ⟨Ext.refl _ _, id⟩⟩
theorem iter_dict {tg : Expr} {pins : List (Addr × Obj)} {s : Shared} {σ : L2.St} {H : Hp} {R : It → Hp → Prop} {a : Addr} {o : Obj} {ws : List (Key × V)} (I : Inv X pins σ H s) (hd : H a = some (.frz o (.dK ws))) (q : R (Itk a o ws) H) :
    wpAny (model X.prog X.w) X.A (pyIter (.ref a)) (PIE X pins σ tg R) X.xe s := by
  obtain ⟨hs, hgd, hx, es, ep, vs, hdt, hsz, kv, hm⟩ := I.frzK hd
  refine iter_keys hs hgd hx hdt (pi_one (tk := s.toks) I _ (turn_keys _ hdt) ⟨_, Heap.get?_push_size _ rfl, rfl, ?_⟩ q)
  rw [hsz] <;> rfl
theorem RpK.at' {H : Hp} {G : DH} : ∀ {ds : List (Key × D)} {vs : List (Key × V)} {i : Nat} {k : Key} {v : V}, RpK X.K X.mh H G ds vs → vs[i]? = some (k, v) → ∃ d, ds[i]? = some (k, d) ∧ Rp X.K X.mh H G d v
  | _, _, _, _, _, .nil, h => by simp at h
  | _, _, 0, _, _, .cons r t, h => by
    simp at h
    obtain ⟨rfl, rfl⟩ := h
    exact ⟨_, rfl, r⟩
  | _, _, i + 1, k, v, .cons r t, h => by
    obtain ⟨d, h1, h2⟩ := RpK.at' (i := i) (k := k) (v := v) t (by simpa using h)
    exact ⟨d, by simpa using h1, h2⟩
theorem it_keys {H0 : Hp} {G0 : DH} {S : DH → Prop} {a : Addr} {o : Obj} {vs : List (Key × V)} {kvs : List (Key × D)} (ga : G0 a = none) (hd : H0 a = some (.frz o (.dK vs))) (ra : RpK X.K X.mh H0 G0 kvs vs) : ItD X (Itk a o vs) H0 G0 (kvs.map fun kv => kyK kv.1) S := by
  refine ⟨fun i x H G hx e hg s => ?_, fun H G e hg s => ?_⟩
  · have hi := (List.getElem?_eq_some_iff.mp hx).1
    rw [List.length_map, ra.length] at hi
    refine ⟨⟨(e.get ga hd).1, hi⟩, fun w H' ⟨eh, k, v, hk, ew⟩ => ?_⟩
    subst eh; subst ew
    obtain ⟨d, h1, _⟩ := ra.at' hk
    rw [List.getElem?_map, h1] at hx
    cases hx
    exact ⟨Ext.refl _ _, hg, rp_key k⟩
  · refine ⟨(e.get ga hd).1, ?_⟩
    rw [List.length_map, ra.length]
    exact Nat.le_refl _
theorem RpX.at' {H : Hp} {G : DH} : ∀ {ds : List (MKey × D)} {vs : List MV} {i : Nat} {k : MKey} {y v : V}, RpX X.K X.mh H G ds vs → vs[i]? = some (k, y, v) → ∃ d, ds[i]? = some (k, d) ∧ Rp X.K X.mh H G (keyD k) y ∧ Rp X.K X.mh H G d v
  | _, _, _, _, _, _, .nil, h => by simp at h
  | _, _, 0, _, _, _, .cons q r t, h => by
    simp at h
    obtain ⟨rfl, rfl, rfl⟩ := h
    exact ⟨_, rfl, q, r⟩
  | _, _, i + 1, k, y, v, .cons q r t, h => by
    obtain ⟨d, h1, h2⟩ := RpX.at' (i := i) (k := k) (y := y) (v := v) t (by simpa using h)
    exact ⟨d, by simpa using h1, h2⟩
theorem it_keysX {H0 : Hp} {G0 : DH} {S : DH → Prop} {a : Addr} {o : Obj} {hf : MKey → Int} {vs : List MV} {kvs : List (MKey × D)} (ga : G0 a = none) (hd : H0 a = some (mixO hf a o vs)) (ra : RpX X.K X.mh H0 G0 kvs vs) : ItD X (Itxk hf a o vs) H0 G0 (kvs.map fun kv => keyD kv.1) S := by
  refine ⟨fun i x H G hx e hg s => ?_, fun H G e hg s => ?_⟩
  · have hi := (List.getElem?_eq_some_iff.mp hx).1
    rw [List.length_map, ra.length] at hi
    refine ⟨⟨(e.get ga hd).1, hi⟩, fun w H' ⟨eh, k, v, hk⟩ => ?_⟩
    subst eh
    obtain ⟨d, h1, h2, _⟩ := RpX.at' ra hk
    rw [List.getElem?_map, h1] at hx
    cases hx
    exact ⟨Ext.refl _ _, hg, h2.ext e⟩
  · refine ⟨(e.get ga hd).1, ?_⟩
    rw [List.length_map, ra.length]
    exact Nat.le_refl _
/-- neither a text nor a tuple -/
def notTS (d : D) : Prop := match d with
  | .str _ => False
  | .tup _ => False
  | .dct _ => False
  | .mxd _ => False
  | .tpk _ => False
  | _ => True
/-- the items of a value -/
def walkD (d : D) (G : DH) (K : List D → (DH → Prop) → Prop) : Prop := match d with
  | .lst xs => K xs fun _ => True
  | .lsk xs => K xs fun _ => True
  | .tpk xs => K xs fun _ => True
  | .tup xs => K xs fun _ => True
  | .str z => K (z.cps.toList.map fun c => .str ⟨#[c]⟩) fun _ => True
  | .dct kvs => K (kvs.map fun kv => kyK kv.1) fun _ => True
  | .mxd kvs => K (kvs.map fun kv => keyD kv.1) fun _ => True
  | .ref a => match G a with
    | some (.lst xs) => K xs fun G => G a = some (.lst xs)
    | _ => False
  | _ => False
def diVal (t : DE) : DI := fun W δ G R => t W δ G fun d G1 => walkD d G1 fun xs S => R xs S G1
theorem PI.cast {tg l : Expr} {tl : TE} {p : V → Hp → (It → Hp → Prop) → Prop} (hl : PE X l tl)
    (h : ∀ (pins : List (Addr × Obj)) (s : Shared) (σ : L2.St) (H : Hp) (R : It → Hp → Prop) (x : V) (v : Value), Inv X pins σ H s → RelV x v → p x H R → wpAny (model X.prog X.w) X.A (pyIter v) (PIE X pins σ tg R) X.xe s) :
    PI X tg l (fun σ H R => tl σ H fun x H1 => p x H1 R) := ⟨fun pins s σ H R I q => thn (hl.run pins s σ H _ I q) fun v s1 ⟨x, H1, I1, r1, q1⟩ => h pins s1 σ H1 R x v I1 r1 q1⟩
theorem iter_list {tg : Expr} {pins : List (Addr × Obj)} {s : Shared} {σ : L2.St} {H : Hp} {R : It → Hp → Prop} {a : Addr} {vs : List V} (I : Inv X pins σ H s) (hq : SqL X.K H a vs) (q : R (Itl X.K a) H) :
    wpAny (model X.prog X.w) X.A (pyIter (.ref a)) (PIE X pins σ tg R) X.xe s := by
  obtain ⟨its, rv, p, hz⟩ := I.list hq
  refine wpAny_pyIter_list p.isList ⟨s.heap.objs.size, [s.heap.objs.size], _, _, H, rfl, I.kept (t' := s.toks) (fun b o e => Heap.get?_push_of_some _ e), turn_list a _, ⟨_, Heap.get?_push_size _ rfl, rfl, rfl⟩, fun b hb => ?_, q⟩
  cases (List.mem_singleton.mp hb)
  exact I.fpOk (Nat.le_refl _) (I.hok.fresh (Nat.le_refl _))
theorem iter_tuple {tg : Expr} {pins : List (Addr × Obj)} {s : Shared} {σ : L2.St} {H : Hp} {R : It → Hp → Prop} {a : Addr} {vs : List V} (I : Inv X pins σ H s) (hq : SqT X.K H a vs) (q : R (Itt X.K a) H) :
    wpAny (model X.prog X.w) X.A (pyIter (.ref a)) (PIE X pins σ tg R) X.xe s := by
  obtain ⟨its, rv, p, hz⟩ := I.tuple hq
  refine wpAny_pyIter_tuple (show s.heap.IsTuple a its.toArray from p) ⟨s.heap.objs.size, [s.heap.objs.size], _, _, H, rfl, I.kept (t' := s.toks) (fun b o e => Heap.get?_push_of_some _ e), turn_tuple a _, ⟨_, Heap.get?_push_size _ rfl, rfl, rfl⟩, fun b hb => ?_, q⟩
  cases (List.mem_singleton.mp hb)
  exact I.fpOk (Nat.le_refl _) (I.hok.fresh (Nat.le_refl _))
theorem iter_str {tg : Expr} {pins : List (Addr × Obj)} {s : Shared} {σ : L2.St} {H : Hp} {R : It → Hp → Prop} {x : Str} {t : Tok} (I : Inv X pins σ H s) (q : R (Its x) H) :
    wpAny (model X.prog X.w) X.A (pyIter (.str x t)) (PIE X pins σ tg R) X.xe s := by
  cases ha : x.cps.all (· < 128) with
  | false => exact wpAny_pyIter_wide ha (pi_one (tk := s.toks) I _ (turn_str _ x t "str_iterator" (.inr rfl)) ⟨_, Heap.get?_push_size _ rfl, rfl, rfl⟩ q)
  | true => exact wpAny_pyIter_ascii ha (pi_one (tk := s.toks) I _ (turn_str _ x t "str_ascii_iterator" (.inl rfl)) ⟨_, Heap.get?_push_size _ rfl, rfl, rfl⟩ q)
def pWalk (X : Cx) : V → Hp → (It → Hp → Prop) → Prop := fun x H R => ∃ (d : D) (G : DH) (R' : List D → (DH → Prop) → Prop), HpOk X.K X.mh H G ∧ Rp X.K X.mh H G d x ∧ walkD d G R' ∧ ∀ xs S J H2, R' xs S → Ext H G H2 G → HpOk X.K X.mh H2 G → ItD X J H2 G xs S → R J H2
theorem pdi_val {tg e : Expr} {t : DE} (h : PD X lv cm e t) : PDI X lv cm tg e (diVal t) := fun gd Wx tk =>
  pi_imp (PI.cast (p := pWalk X) (h gd Wx tk) fun pins s σ H R x v I r ⟨d, G, R', hg, rd, hw, l⟩ => by
    unfold walkD at hw
    cases rd with
    | lst g e2 ra =>
      cases (show v = Value.ref _ from r)
      exact iter_list I (.inl (.inl e2)) (l _ _ _ _ hw (Ext.refl _ _) hg (it_seqL fun H' G' e3 hg' _ => ⟨_, .inl (.inl (e3.get g e2).1), ra.ext e3⟩))
    | lsk e2 ra =>
      cases (show v = Value.ref _ from r)
      exact iter_list I e2.sqL (l _ _ _ _ hw (Ext.refl _ _) hg (it_seqL fun H' G' e3 hg' _ => ⟨_, (e2.ext e3).sqL, ra.ext e3⟩))
    | tup e2 ra =>
      cases (show v = Value.ref _ from r)
      exact iter_tuple I e2.sqT (l _ _ _ _ hw (Ext.refl _ _) hg (it_seqT fun H' G' e3 hg' _ => ⟨_, (e2.ext e3).sqT, ra.ext e3⟩))
    | tpk e2 ra =>
      cases (show v = Value.ref _ from r)
      exact iter_tuple I e2.sqT (l _ _ _ _ hw (Ext.refl _ _) hg (it_seqT fun H' G' e3 hg' _ => ⟨_, (e2.ext e3).sqT, ra.ext e3⟩))
    | dct g e2 ra =>
      cases (show v = Value.ref _ from r)
      obtain ⟨o, H2, I2, h2, hx⟩ := lockD I e2
      obtain ⟨ex, hk⟩ := hx G g
      exact iter_dict I2 h2 (l _ _ _ _ hw ex (hk hg) (it_keys g h2 (ra.ext ex)))
    | mxd g e2 ra =>
      cases (show v = Value.ref _ from r)
      exact iter_keysX I e2 (l _ _ _ _ hw (Ext.refl _ _) hg (it_keysX g e2 ra))
    | str z =>
      obtain ⟨tk', rfl⟩ := r
      exact iter_str I (l _ _ _ _ hw (Ext.refl _ _) hg it_str)
    | ref a =>
      cases (show v = Value.ref _ from r)
      simp only at hw
      cases ea : G a with
      | none => simp only [ea] at hw
      | some o =>
        simp only [ea] at hw
        have ob := hg a o ea
        cases ob with
        | lst e2 ra =>
          simp only at hw
          refine iter_list I (.inl (.inl e2)) (l _ _ _ _ hw (Ext.refl _ _) hg (it_seqL fun H' G' e3 hg' s' => ?_))
          have ob' := hg' a _ s'
          cases ob' with
          | lst e4 ra4 => exact ⟨_, .inl (.inl e4), ra4⟩
        | dct _ _ => exact hw.elim
        | ins _ _ _ _ => exact hw.elim
        | tb _ => exact hw.elim
        | mx _ _ => exact hw.elim
    | _ => exact hw.elim) fun σ H R ⟨W, δ, G, R', hs, hg, ht, l1, l2⟩ => ⟨W, δ, G, _, hs, hg, ht, fun d G1 H1 v h1 e1 g1 r1 => ⟨d, G1, _, g1, r1, h1, fun xs S J H2 hr e2 g2 IJ => l1 xs S G1 H2 J hr (e1.trans e2) g2 IJ⟩, l2⟩
/-- range(n), range(a, b) -/
def rng (lo : Int) (n : Nat) : List D := (List.range n).map fun i => .int (lo + (i : Nat))
def diRng1 (t : DA) : DI := fun W δ G R => t W δ G fun ds G1 => match ds with
  | [.int j] => (-(2 ^ 62) ≤ j ∧ j < 2 ^ 62) ∧ R (rng 0 j.toNat) (fun _ => True) G1
  | _ => False
def diRng2 (t : DA) : DI := fun W δ G R => t W δ G fun ds G1 => match ds with
  | [.int i, .int j] => (-(2 ^ 62) ≤ i ∧ i < 2 ^ 62 ∧ -(2 ^ 62) ≤ j ∧ j < 2 ^ 62) ∧ R (rng i (j - i).toNat) (fun _ => True) G1
  | _ => False
theorem it_rng {lo : Int} {n : Nat} {H0 : Hp} {G0 : DH} {S : DH → Prop} : ItD X (Itr lo n) H0 G0 (rng lo n) S := by
  refine ⟨fun i x H G hx e hg s => ?_, fun H G e hg s => ?_⟩
  · have hi := (List.getElem?_eq_some_iff.mp hx).1
    rw [rng, List.length_map, List.length_range] at hi
    refine ⟨hi, fun w H' ⟨eh, ew⟩ => ?_⟩
    subst eh; subst ew
    refine ⟨Ext.refl _ _, hg, ?_⟩
    rw [rng, List.getElem?_map, List.getElem?_range hi] at hx
    cases hx
    exact .int _
  · show n ≤ _
    rw [rng, List.length_map, List.length_range]
    exact Nat.le_refl _
theorem pdi_range1 {tg a : Expr} {t : DA} {p : Pos} (hm : X.mg "range" = none) (ha : PDA X lv cm [a] t) (hg : Gl X "range" := by rfl) (hs : starEach [a] X.env = [(false, eval a X.env)] := by rfl) : PDI X lv cm tg (.Call (.Name "range" p) [a] [] pos) (diRng1 t) := fun gd Wx tk =>
  pi_imp (pi_range1 hg hm (ha gd Wx tk) hs) fun σ H R ⟨W, δ, G, R', hs, hg, ht, l1, l2⟩ => ⟨W, δ, G, _, hs, hg, ht, fun ds G1 H1 vs h1 e1 g1 r1 => by
    split at h1
    · rename_i j
      obtain ⟨v, rfl, r2⟩ := one_rp r1
      cases r2
      exact ⟨j, rfl, h1.1.1, h1.1.2, l1 _ _ G1 H1 _ h1.2 e1 g1 it_rng⟩
    · exact h1.elim, l2⟩
theorem pdi_range2 {tg a b : Expr} {t : DA} {p : Pos} (hm : X.mg "range" = none) (ha : PDA X lv cm [a, b] t) (hg : Gl X "range" := by rfl) (hs : starEach [a, b] X.env = [(false, eval a X.env), (false, eval b X.env)] := by rfl) (hs2 : starEach [b] X.env = [(false, eval b X.env)] := by rfl) :
    PDI X lv cm tg (.Call (.Name "range" p) [a, b] [] pos) (diRng2 t) := fun gd Wx tk =>
  pi_imp (pi_range2 hg hm (ha gd Wx tk) hs hs2) fun σ H R ⟨W, δ, G, R', hs, hg, ht, l1, l2⟩ => ⟨W, δ, G, _, hs, hg, ht, fun ds G1 H1 vs h1 e1 g1 r1 => by
    split at h1
    · rename_i i j
      obtain ⟨v, u, rfl, r2, r3⟩ := two_rp r1
      cases r2; cases r3
      exact ⟨i, j, rfl, h1.1, l1 _ _ G1 H1 _ h1.2 e1 g1 it_rng⟩
    · exact h1.elim, l2⟩
/-- enumerate(xs), zip(xs, ys) over lists -/
def enumD (xs : List D) : List D := (List.range xs.length).zipWith (fun i x => D.tup [.int (i : Nat), x]) xs
def diEnum (t : DA) : DI := fun W δ G R => t W δ G fun ds G1 => match ds with
  | [d] => walkD d G1 fun xs S => notTS d ∧ R (enumD xs) S G1
  | _ => False
theorem enumD_get {xs : List D} {i : Nat} {x : D} (h : (enumD xs)[i]? = some x) : ∃ y, xs[i]? = some y ∧ x = .tup [.int (i : Nat), y] := by
  unfold enumD at h
  rw [List.getElem?_zipWith] at h
  by_cases hi : i < xs.length
  · rw [List.getElem?_range hi, List.getElem?_eq_getElem hi] at h
    cases h
    exact ⟨_, List.getElem?_eq_getElem hi, rfl⟩
  · rw [List.getElem?_eq_none (by simpa using hi)] at h
    simp at h
theorem enumD_length (xs : List D) : (enumD xs).length = xs.length := by simp [enumD]
theorem it_enum {a : Addr} {H0 : Hp} {G0 : DH} {xs : List D} {S : DH → Prop} (h : ∀ H G, Ext H0 G0 H G → HpOk X.K X.mh H G → S G → ∃ vs, SqL X.K H a vs ∧ RpL X.K X.mh H G xs vs) : ItD X (Ite X.K a) H0 G0 (enumD xs) S := by
  refine ⟨fun i x H G hx e hg s => ?_, fun H G e hg s => ?_⟩
  · obtain ⟨vs, hq, r⟩ := h H G e hg s
    obtain ⟨y, hy, rfl⟩ := enumD_get hx
    obtain ⟨v, hv, rv⟩ := r.get hy
    refine ⟨⟨vs, v, hq, hv⟩, fun w H' ⟨T, u, ew, hT, eh, hw⟩ => ?_⟩
    subst eh; subst ew
    have hu := hw vs hq
    exact ⟨Ext.newF hT, hg.newF hT, .tup (.inl ⟨hg.free hT, upd_same⟩) (.cons (.int _) (.cons ((r.getV2 hy hu).ext (Ext.newF hT)) .nil))⟩
  · obtain ⟨vs, hq, r⟩ := h H G e hg s
    exact ⟨vs, hq, by rw [enumD_length, r.length]; exact Nat.le_refl _⟩
/-- the list that is walked, at any later heap -/
theorem walk_list {d : D} {v : V} {H : Hp} {G : DH} {K : List D → (DH → Prop) → Prop} (hg : HpOk X.K X.mh H G) (r : Rp X.K X.mh H G d v) (hw : walkD d G K) (hns : notTS d) : ∃ a vs xs S, v = .ref a ∧ SqL X.K H a vs ∧ K xs S ∧ ∀ H' G', Ext H G H' G' → HpOk X.K X.mh H' G' → S G' → ∃ vs, SqL X.K H' a vs ∧ RpL X.K X.mh H' G' xs vs := by
  unfold walkD at hw
  cases r with
  | lst g e2 ra => exact ⟨_, _, _, _, rfl, .inl (.inl e2), hw, fun H' G' e3 hg' _ => ⟨_, .inl (.inl (e3.get g e2).1), ra.ext e3⟩⟩
  | lsk e2 ra => exact ⟨_, _, _, _, rfl, e2.sqL, hw, fun H' G' e3 hg' _ => ⟨_, (e2.ext e3).sqL, ra.ext e3⟩⟩
  | tup e2 ra => exact hns.elim
  | tpk e2 ra => exact hns.elim
  | str z => exact hns.elim
  | dct g e2 ra => exact hns.elim
  | mxd g e2 ra => exact hns.elim
  | ref a =>
    simp only at hw
    cases ea : G a with
    | none => simp only [ea] at hw
    | some o =>
      simp only [ea] at hw
      have ob := hg a o ea
      cases ob with
      | lst e2 ra =>
        simp only at hw
        refine ⟨a, _, _, _, rfl, .inl (.inl e2), hw, fun H' G' e3 hg' s' => ?_⟩
        have ob' := hg' a _ s'
        cases ob' with
        | lst e4 ra4 => exact ⟨_, .inl (.inl e4), ra4⟩
      | dct _ _ => exact hw.elim
      | ins _ _ _ _ => exact hw.elim
      | tb _ => exact hw.elim
      | mx _ _ => exact hw.elim
  | _ => exact hw.elim
theorem walkD_and {d : D} {G : DH} {A : Prop} {K : List D → (DH → Prop) → Prop} (h : walkD d G fun xs S => A ∧ K xs S) : A ∧ walkD d G K := by
  unfold walkD at h ⊢
  cases d with
  | ref a =>
    simp only at h ⊢
    cases ea : G a with
    | none => simp only [ea] at h
    | some o =>
      simp only [ea] at h ⊢
      cases o with
      | lst xs => exact h
      | _ => exact h.elim
  | lst xs => exact h
  | lsk xs => exact h
  | tup xs => exact h
  | tpk xs => exact h
  | str xs => exact h
  | dct xs => exact h
  | mxd xs => exact h
  | _ => exact h.elim
theorem pdi_enum {e : Expr} {t : DA} {p tpos : Pos} {elts : List Expr} {kk : Nat} (hm : X.mg "enumerate" = none) (ha : PDA X lv cm [e] t) (hg : Gl X "enumerate" := by rfl) (hs : starEach [e] X.env = [(false, eval e X.env)] := by rfl) :
    PDI X lv cm (.Tuple elts kk tpos) (.Call (.Name "enumerate" p) [e] [] pos) (diEnum t) := fun gd Wx tk =>
  pi_imp (pi_enum hg hm (ha gd Wx tk) hs) fun σ H R ⟨W, δ, G, R', hs, hg, ht, l1, l2⟩ => ⟨W, δ, G, _, hs, hg, ht, fun ds G1 H1 vs h1 e1 g1 r1 => by
    split at h1
    · rename_i d
      obtain ⟨v, rfl, r2⟩ := one_rp r1
      obtain ⟨hns, hw⟩ := walkD_and h1
      obtain ⟨a, vs, xs, S, rfl, hq, hr, hl⟩ := walk_list g1 r2 hw hns
      exact ⟨a, vs, rfl, hq, l1 _ _ G1 H1 _ hr e1 g1 (it_enum hl)⟩
    · exact h1.elim, l2⟩
def zipD (xs ys : List D) : List D := xs.zipWith (fun x y => D.tup [x, y]) ys
def diZip (t : DA) : DI := fun W δ G R => t W δ G fun ds G1 => match ds with
  | [c, d] => walkD c G1 fun xs S => notTS c ∧ walkD d G1 fun ys S' => notTS d ∧ R (zipD xs ys) (fun G => S G ∧ S' G) G1
  | _ => False
theorem it_zip {a b : Addr} {H0 : Hp} {G0 : DH} {xs ys : List D} {S S' : DH → Prop} (h : ∀ H G, Ext H0 G0 H G → HpOk X.K X.mh H G → S G → ∃ vs, SqL X.K H a vs ∧ RpL X.K X.mh H G xs vs)
    (h' : ∀ H G, Ext H0 G0 H G → HpOk X.K X.mh H G → S' G → ∃ vs, SqL X.K H b vs ∧ RpL X.K X.mh H G ys vs) : ItD X (Itz X.K a b) H0 G0 (zipD xs ys) (fun G => S G ∧ S' G) := by
  refine ⟨fun i x H G hx e hg s => ?_, fun H G e hg s => ?_⟩
  · obtain ⟨vs, hq, r⟩ := h H G e hg s.1
    obtain ⟨us, hq', r'⟩ := h' H G e hg s.2
    unfold zipD at hx
    rw [List.getElem?_zipWith] at hx
    cases e1 : xs[i]? with
    | none => rw [e1] at hx; simp at hx
    | some y =>
      cases e2 : ys[i]? with
      | none => rw [e1, e2] at hx; simp at hx
      | some z =>
        rw [e1, e2] at hx
        cases hx
        obtain ⟨v, hv, rv⟩ := r.get e1
        obtain ⟨u, hu, ru⟩ := r'.get e2
        refine ⟨⟨vs, us, v, u, hq, hq', hv, hu⟩, fun w H' ⟨T, v2, u2, ew, hT, eh, hw, hw'⟩ => ?_⟩
        subst eh; subst ew
        have hv2 := hw vs hq
        have hu2 := hw' us hq'
        exact ⟨Ext.newF hT, hg.newF hT, .tup (.inl ⟨hg.free hT, upd_same⟩) (.cons ((r.getV2 e1 hv2).ext (Ext.newF hT)) (.cons ((r'.getV2 e2 hu2).ext (Ext.newF hT)) .nil))⟩
  · obtain ⟨vs, hq, r⟩ := h H G e hg s.1
    obtain ⟨us, hq', r'⟩ := h' H G e hg s.2
    refine ⟨vs, us, hq, hq', ?_⟩
    rw [zipD, List.length_zipWith, ← r.length, ← r'.length]
    omega
theorem pdi_zip {e e2 : Expr} {t : DA} {p tpos : Pos} {elts : List Expr} {kk : Nat} (hm : X.mg "zip" = none) (ha : PDA X lv cm [e, e2] t) (hg : Gl X "zip" := by rfl)
    (hs : starEach [e, e2] X.env = (false, eval e X.env) :: starEach [e2] X.env := by rfl) (hpl : (backTo pos (starEach [e2] X.env)).any (·.1) = false := by rfl) :
    PDI X lv cm (.Tuple elts kk tpos) (.Call (.Name "zip" p) [e, e2] [] pos) (diZip t) := fun gd Wx tk =>
  pi_imp (pi_zip hg hm (ha gd Wx tk) hs hpl) fun σ H R ⟨W, δ, G, R', hs, hg, ht, l1, l2⟩ => ⟨W, δ, G, _, hs, hg, ht, fun ds G1 H1 vs h1 e1 g1 r1 => by
    split at h1
    · rename_i c d
      obtain ⟨v, u, rfl, r2, r3⟩ := two_rp r1
      obtain ⟨hns, hw⟩ := walkD_and h1
      obtain ⟨a, vs, xs, S, rfl, hq, hw2, hl⟩ := walk_list g1 r2 hw hns
      obtain ⟨hns2, hw2⟩ := walkD_and hw2
      obtain ⟨b, us, ys, S', rfl, hq', hr, hl'⟩ := walk_list g1 r3 hw2 hns2
      exact ⟨a, b, vs, us, rfl, hq, hq', l1 _ _ G1 H1 _ hr e1 g1 (it_zip hl hl')⟩
    · exact h1.elim, l2⟩
end
end DL

namespace DL
open L2 PyProof.Rows PySem PySem.Spec

/-! ### 10. comprehensions -/
def dWipe (δ : Sl) : List Nat → Sl
  | [] => δ
  | v :: vs => (dWipe δ vs).set v none
def W0 : DW := fun _ _ _ => False
def delG (G : DH) (p : Addr) : DH := fun b => if b = p then none else G b
theorem delG_same {G : DH} {p : Addr} : delG G p p = none := if_pos rfl
theorem delG_ne {G : DH} {p b : Addr} (h : b ≠ p) : delG G p b = G b := if_neg h
theorem delG_sub {G : DH} {p : Addr} : Sub (delG G p) G := fun a o h => by
  by_cases e : a = p
  · rw [e, delG_same] at h; cases h
  · rw [delG_ne e] at h; exact h
theorem delG_new {G : DH} {p : Addr} {o : DO} (h : G p = none) : delG (upG G p o) p = G := by
  funext b
  by_cases e : b = p
  · rw [e, delG_same, h]
  · rw [delG_ne e, upG_ne e]
theorem delG_id {G : DH} {p : Addr} (h : G p = none) : delG G p = G := by
  funext b
  by_cases e : b = p
  · rw [e, delG_same, h]
  · rw [delG_ne e]
theorem wipe_set {σ : L2.St} {i : Nat} {v : Option V} : ∀ {vs : List Nat}, i ∈ vs → L2.wipe (σ.set i v) vs = L2.wipe σ vs
  | [], h => by cases h
  | w :: vs, h => by
    show (L2.wipe (σ.set i v) vs).set w none = (L2.wipe σ vs).set w none
    by_cases hi : i ∈ vs
    · rw [wipe_set hi]
    · have e : i = w := by
        rcases List.mem_cons.mp h with e | e
        · exact e
        · exact absurd e hi
      subst e
      have q : ∀ us : List Nat, (L2.wipe (σ.set i v) us).set i none = (L2.wipe σ us).set i none := fun us => by
        induction us with
        | nil => show (σ.set i v).set i none = σ.set i none; rw [List.set_set]
        | cons u us ih =>
          show ((L2.wipe (σ.set i v) us).set u none).set i none = ((L2.wipe σ us).set u none).set i none
          by_cases eu : u = i
          · subst eu; rw [List.set_set, List.set_set]; exact ih
          · rw [List.set_comm _ _ eu, ih, List.set_comm _ _ (Ne.symm eu)]
      exact q vs
section
variable {K : PySem.W.Frag} {mg : MG} {H : Hp} {G : DH}
theorem StOk.wipe {δ : Sl} {σ : L2.St} (h : StOk K mg H G δ σ) : ∀ vs : List Nat, StOk K mg H G (dWipe δ vs) (L2.wipe σ vs)
  | [] => h
  | v :: vs => (StOk.wipe h vs).clear v
end
/-- the context of a comprehension's block -/
abbrev blkX (X : Cx) (scope : Scope) (s : Shared) (H : Hp) (C : Addr) (cl : List (Str × Addr)) (fp : List Addr) : Cx := X.blk s H scope (compEnvC scope cl C X.env) fp
theorem Gd.blk {X : Cx} {lv : Nat} {cm : Bool} (g : Gd X lv cm) (scope : Scope) (s : Shared) (H : Hp) (C : Addr) (cl : List (Str × Addr)) (fp : List Addr) : Gd (blkX X scope s H C cl fp) lv cm :=
  ⟨g.gu, g.dp, g.un, g.hd, g.cl, PassesOwn.never⟩
def WF : WX := fun _ _ _ _ => False
theorem takesF {X : Cx} : Takes X WF := fun u s' ⟨a, B, sI, pins, σ, H, cls, d, e, I, nb, up, sky, na, os, ag, w⟩ => w.elim
/-- a comprehension's target: names -/
def TgOk (K : PySem.W.Frag) (mg : MG) (g : DG) (hg : TG) (vs : List Nat) : Prop := ∀ (d : D) (v : V) (σ : L2.St) (H : Hp) (δ : Sl) (G : DH) (R : Sl → DH → Prop) (Q : L2.St → Hp → Prop),
  StOk K mg H G δ σ → HpOk K mg H G → Rp K mg H G d v → g d W0 δ G R → (∀ δ' σ', R δ' G → StOk K mg H G δ' σ' → L2.wipe σ' vs = L2.wipe σ vs → Q σ' H) → hg v σ H Q
def TgsOk (K : PySem.W.Frag) (mg : MG) (g : DGs) (hg : TGs) (vs : List Nat) : Prop := ∀ (ds : List D) (us : List V) (σ : L2.St) (H : Hp) (δ : Sl) (G : DH) (R : Sl → DH → Prop) (Q : L2.St → Hp → Prop),
  StOk K mg H G δ σ → HpOk K mg H G → RpL K mg H G ds us → g ds W0 δ G R → (∀ δ' σ', R δ' G → StOk K mg H G δ' σ' → L2.wipe σ' vs = L2.wipe σ vs → Q σ' H) → hg us σ H Q
def LcTg (X : Cx) (scope : Scope) (tg : Expr) (g : DG) (vs : List Nat) : Prop := X.calm = true → ∃ hg : TG, (∀ (s : Shared) (H : Hp) (C : Addr) (cl : List (Str × Addr)) (fp : List Addr), PG (blkX X scope s H C cl fp) tg hg) ∧ TgOk X.K X.mh g hg vs
def LcTgs (X : Cx) (scope : Scope) (tg : List Expr) (g : DGs) (vs : List Nat) : Prop := X.calm = true → ∃ hg : TGs, (∀ (s : Shared) (H : Hp) (C : Addr) (cl : List (Str × Addr)) (fp : List Addr), PGs (blkX X scope s H C cl fp) tg hg) ∧ TgsOk X.K X.mh g hg vs
section
variable {X : Cx} {lv : Nat} {cm : Bool} {pos : Pos} {scope : Scope} {vs : List Nat}
theorem lct_name {i : Nat} {x : Str} (hN : X.N.Nodup) (hi : X.N[i]? = some x) (hv : i ∈ vs) (hx : ∀ (C : Addr) (cl : List (Str × Addr)), Loc (compEnvC scope cl C X.env).scope x) (hf : ∀ (C : Addr) (cl : List (Str × Addr)), (scope.names.lookup x == some .cell) = true ∨ (compEnvC scope cl C X.env).scope.names.lookup x = some .local) :
    LcTg X scope (.Name x pos) (gdName i) vs := fun _ => ⟨gName i, fun s H C cl fp => pg_name (X := blkX X scope s H C cl fp) hN hi (hx C cl) (hf C cl), fun d v σ H δ G R Q hs hg r h l => l _ _ h (hs.set i r) (wipe_set hv)⟩
theorem lcts_nil : LcTgs X scope [] gdNil vs := fun _ => ⟨gNil, fun s H C cl fp => pgs_nil, fun ds us σ H δ G R Q hs hg r ⟨e, h⟩ l => by
  subst e; cases r; exact ⟨rfl, l δ σ h hs rfl⟩⟩
theorem lcts_cons {e : Expr} {es : List Expr} {t : DG} {u : DGs} (h1 : LcTg X scope e t vs) (h2 : LcTgs X scope es u vs) (hG : ∀ d W δ G R, t d W δ G R → t d W δ G fun δ' G' => G' = G ∧ R δ' G)
    (hs : ∀ (C : Addr) (cl : List (Str × Addr)), (assignEach (e :: es) (compEnvC scope cl C X.env)).map (·.2) = assign e (compEnvC scope cl C X.env) :: (assignEach es (compEnvC scope cl C X.env)).map (·.2) := by intro _ _; rfl) : LcTgs X scope (e :: es) (gdCons t u) vs := fun hc => by
  obtain ⟨g1, p1, o1⟩ := h1 hc
  obtain ⟨g2, p2, o2⟩ := h2 hc
  refine ⟨gCons g1 g2, fun s H C cl fp => pgs_cons (p1 s H C cl fp) (p2 s H C cl fp) (hs C cl), fun ds us σ H δ G R Q hst hg r h l => ?_⟩
  cases r with
  | nil => exact h.elim
  | cons r rr =>
    refine ⟨_, _, rfl, o1 _ _ σ H δ G _ _ hst hg r (hG _ _ _ _ _ h) fun δ' σ' ⟨_, h'⟩ s' w' => ?_⟩
    exact o2 _ _ σ' H δ' G R Q s' hg rr h' fun δ2 σ2 h2 s2 w2 => l δ2 σ2 h2 s2 (w2.trans w')
theorem lct_tup {es : List Expr} {k : Nat} {t : DGs} {n : Nat} (h : LcTgs X scope es t vs) (hn : ∀ (C : Addr) (cl : List (Str × Addr)), (assignEach es (compEnvC scope cl C X.env)).length = n := by intro _ _; rfl)
    (hst : ∀ (C : Addr) (cl : List (Str × Addr)), (assignEach es (compEnvC scope cl C X.env)).findIdx? (·.1) = none := by intro _ _; rfl) : LcTg X scope (.Tuple es k pos) (gdTup n t) vs := fun hc => by
  obtain ⟨g1, p1, o1⟩ := h hc
  refine ⟨gTup X.K n g1, fun s H C cl fp => pg_tup (X := blkX X scope s H C cl fp) hc (p1 s H C cl fp) (hn C cl) (hst C cl), fun d v σ H δ G R Q hs hg r h l => ?_⟩
  unfold gdTup at h
  split at h
  · rename_i xs e
    obtain ⟨a, us, rfl, ha, ra⟩ := rs_tup (X := X) r e
    exact ⟨a, us, rfl, ha.sqT, by rw [← ra.length]; exact h.1, o1 xs us σ H δ G R Q hs hg ra h.2 l⟩
  · exact h.elim
theorem gdName_same {i : Nat} : ∀ d W δ G R, gdName i d W δ G R → gdName i d W δ G fun δ' G' => G' = G ∧ R δ' G := fun _ _ _ _ _ h => ⟨rfl, h⟩
theorem gdTup_same {n : Nat} {t : DGs} (h : ∀ ds W δ G R, t ds W δ G R → t ds W δ G fun δ' G' => G' = G ∧ R δ' G) : ∀ d W δ G R, gdTup n t d W δ G R → gdTup n t d W δ G fun δ' G' => G' = G ∧ R δ' G := fun d W δ G R q => by
  unfold gdTup at q ⊢
  split at q
  · exact ⟨q.1, h _ _ _ _ _ q.2⟩
  · exact q.elim
theorem gdNil_same : ∀ ds W δ G R, gdNil ds W δ G R → gdNil ds W δ G fun δ' G' => G' = G ∧ R δ' G := fun _ _ _ _ _ h => ⟨h.1, rfl, h.2⟩
/-- tests of a clause -/
def PDTs (X : Cx) (lv : Nat) (cm : Bool) (ifs : List Expr) (t : DT) : Prop := Gd X lv cm → ∀ Wx, Takes X Wx → PTs X ifs (upT X Wx t)
theorem pts_imp {e : List Expr} {t t' : TT} (h : PTs X e t) (i : ∀ σ H Q, t' σ H Q → t σ H Q) : PTs X e t' := ⟨fun pins s σ H Q I q => h.run pins s σ H Q I (i _ _ _ q)⟩
def dYes : DT := fun _ _ G Q => Q true G
theorem pdts_nil : PDTs X lv cm [] dYes := fun gd Wx tk => pts_imp pts_nil fun σ H Q ⟨W, δ, G, R, hs, hg, ht, lQ, lW⟩ => lQ true G H ht (Ext.refl _ _) hg
theorem pdts_one {c : Expr} {t : DT} (h : PDT X lv cm c t) : PDTs X lv cm [c] t := fun gd Wx tk => pts_one (h gd Wx tk)
end
/-- the loop; fin: what is made of the new list -/
def lcK (g : DG) (tt : DT) (te : DE) (vs : List Nat) (fin : Addr → List D → DH → DQ → Prop) (δ : Sl) (Q : DQ) (xs : List D) (S : DH → Prop) (G1 : DH) (_ : Shut Q ()) : Prop := ∀ p, G1 p = none → ∃ P : Nat → List D → DH → Prop, P 0 [] (upG G1 p (.lst [])) ∧
  (∀ i x ys G, xs[i]? = some x → G p = some (.lst ys) → P i ys G → S G ∧ g x W0 (dWipe δ vs) G fun δ2 G2 => tt W0 δ2 G2 fun b G3 =>
    if b = true then te W0 δ2 G3 fun y G4 => G4 p = some (.lst ys) ∧ ys.length < sizeLine ∧ P (i + 1) (ys ++ [y]) (upG G4 p (.lst (ys ++ [y]))) else G3 p = some (.lst ys) ∧ P (i + 1) ys G3) ∧
  ∀ ys G, G p = some (.lst ys) → P xs.length ys G → S G ∧ fin p ys G Q
def lcLoop (it : DI) (g : DG) (tt : DT) (te : DE) (vs : List Nat) (fin : Addr → List D → DH → DQ → Prop) : DE := fun W δ G Q => it W δ G fun xs S G1 => lcK g tt te vs fin δ Q xs S G1 .mk
def dLc (it : DI) (g : DG) (tt : DT) (te : DE) (vs : List Nat) : DE := lcLoop it g tt te vs fun p ys G Q => Q (.lst ys) (delG G p)
def dLcM (it : DI) (g : DG) (tt : DT) (te : DE) (vs : List Nat) : DE := lcLoop it g tt te vs fun p _ G Q => Q (.ref p) G
def FinOk (X : Cx) (fin : Addr → List D → DH → DQ → Prop) : Prop := ∀ (p : Addr) (ys : List D) (H : Hp) (G : DH) (R : DQ), HpOk X.K X.mh H G → G p = some (.lst ys) → fin p ys G R → ∃ d G', R d G' ∧ Ext H G H G' ∧ HpOk X.K X.mh H G' ∧ Rp X.K X.mh H G' d (.ref p)
section
variable {X : Cx} {lv : Nat} {pos : Pos} {scope : Scope} {own : List (Str × Nat)} {elt tg iter : Expr} {ifs : List Expr} {it : DI} {g : DG} {tt : DT} {te : DE} {fin : Addr → List D → DH → DQ → Prop}
theorem finF : FinOk X fun p ys G Q => Q (.lst ys) (delG G p) := fun p ys H G R hg hp h => by
  have ob := hg p _ hp
  cases ob with
  | lst e r => exact ⟨_, _, h, delG_sub.ext, hg.sub delG_sub, .lst delG_same e (r.ext delG_sub.ext)⟩
theorem finM : FinOk X fun p _ G Q => Q (.ref p) G := fun p ys H G R hg hp h => ⟨_, _, h, Ext.refl _ _, hg, .ref p⟩
theorem up_lc {Wx : WX} {hg : TG} (ho : TgOk X.K X.mh g hg (own.map (·.2))) (hf : FinOk X fin) {σ : L2.St} {H : Hp} {Q : VK} (h : upE X Wx (lcLoop it g tt te (own.map (·.2)) fin) σ H Q) :
    tLc (upI X Wx it) hg (upT X WF tt) (upE X WF te) (own.map (·.2)) σ H Q := by
  obtain ⟨W, δ, G, R, hs, hgo, ht, lQ, lW⟩ := h
  refine ⟨W, δ, G, _, hs, hgo, ht, fun xs S G1 H1 J h1 e1 g1 IJ => fun p hp => ?_, lW⟩
  obtain ⟨P, p0, turn, fn⟩ := h1 p (g1.free hp)
  have n1 : Ext H1 G1 (L2.upd H1 p (.lst [])) (upG G1 p (.lst [])) := Ext.new hp
  refine ⟨fun i m H => m = xs.length - i ∧ i ≤ xs.length ∧ ∃ ys G, Ext H1 G1 H G ∧ HpOk X.K X.mh H G ∧ G p = some (.lst ys) ∧ P i ys G, ⟨xs.length, by simp, Nat.zero_le _, [], _, n1, HpOk.new g1 hp (.lst upd_same .nil), upG_same, p0⟩, fun i m Hi ⟨em, hi, ys, Gi, e, gi, gp, pi⟩ => ?_⟩
  have ei := e1.trans e
  by_cases hlt : i < xs.length
  · have hx : xs[i]? = some xs[i] := List.getElem?_eq_getElem hlt
    obtain ⟨hS, hstep⟩ := turn i _ ys Gi hx gp pi
    obtain ⟨hgo, hyld⟩ := IJ.go i _ Hi Gi hx e gi hS
    refine .inr ⟨hgo, fun H' => ∃ ys G, Ext H1 G1 H' G ∧ HpOk X.K X.mh H' G ∧ G p = some (.lst ys) ∧ P (i + 1) ys G, fun H' ⟨ys', G', e', g', gp', p'⟩ => ⟨xs.length - (i + 1), by omega, rfl, hlt, ys', G', e', g', gp', p'⟩, fun v H' hy => ?_⟩
    obtain ⟨e2, g2, r2⟩ := hyld v H' hy
    have e12 := ei.trans e2
    refine ho _ v _ H' _ Gi _ _ ((hs.wipe _).ext e12) g2 r2 hstep fun δ2 σ2 h2 s2 w2 => ⟨?_, ?_⟩
    · refine w2.trans ?_
      clear w2 s2 h2
      have idem : ∀ us : List Nat, (∀ u ∈ us, u ∈ own.map (·.2)) → L2.wipe (L2.wipe σ (own.map (·.2))) us = L2.wipe σ (own.map (·.2)) := fun us => by
        induction us with
        | nil => intro _; rfl
        | cons u us ih =>
          intro hu
          show (L2.wipe (L2.wipe σ (own.map (·.2))) us).set u none = _
          rw [ih fun w hw => hu w (List.mem_cons_of_mem _ hw)]
          have hmem := hu u List.mem_cons_self
          generalize own.map (·.2) = ws at hmem
          induction ws with
          | nil => cases hmem
          | cons w ws ihw =>
            show ((L2.wipe σ ws).set w none).set u none = (L2.wipe σ ws).set w none
            by_cases ew : u = w
            · subst ew; rw [List.set_set]
            · rw [List.set_comm _ _ (Ne.symm ew), ihw ((List.mem_cons.mp hmem).resolve_left ew)]
      exact idem _ fun _ h => h
    · refine ⟨W0, δ2, Gi, _, s2, g2, h2, fun b G3 H3 h3 e3 g3 => ?_, fun ex δ' G' σ' H' cls dd hw => hw.elim⟩
      cases b with
      | true =>
        replace h3 := ite_t h3
        refine iteT ?_
        refine ⟨W0, δ2, G3, _, s2.ext e3, g3, h3, fun y G4 H4 v4 ⟨gp4, hl4, p4⟩ e4 g4 r4 => ?_, fun ex δ' G' σ' H' cls dd hw => hw.elim⟩
        have ob := g4 p _ gp4
        cases ob with
        | lst ep rp =>
          rename_i acc
          have wr := Ext.write (H := H4) (o := .lst (ys ++ [y])) (u := .lst (acc ++ [v4])) gp4
          exact ⟨acc, ep, by rw [← rp.length]; exact hl4, ys ++ [y], _, (((e.trans e2).trans e3).trans e4).trans wr, g4.upd wr (.lst upd_same ((rp.append (.one r4)).ext wr)), upG_same, p4⟩
      | false =>
        replace h3 := ite_f h3
        refine iteF ?_
        exact ⟨ys, G3, (e.trans e2).trans e3, g3, h3.1, h3.2⟩
  · have ei' : i = xs.length := by omega
    subst ei'
    obtain ⟨hS, hn⟩ := fn ys Gi gp pi
    obtain ⟨d, G', hR, ex', hg', rp'⟩ := hf p ys Hi Gi R gi gp hn
    exact .inl ⟨IJ.stop Hi Gi e gi hS, lQ d G' Hi _ hR (ei.trans ex') hg' rp'⟩
theorem pd_lcG (hN : X.N.Nodup) (hi : PDI X lv true tg iter it) (ok : BlkOk X.N X.env.scope scope own) (hgt : LcTg X scope tg g (own.map (·.2))) (ht : ∀ (s : Shared) (H : Hp) (C : Addr) (cl : List (Str × Addr)) (fp : List Addr), PDTs (blkX X scope s H C cl fp) lv true ifs tt)
    (he : ∀ (s : Shared) (H : Hp) (C : Addr) (cl : List (Str × Addr)) (fp : List Addr), PD (blkX X scope s H C cl fp) lv true elt te) (hf : FinOk X fin) (hs : ∀ x, foldedSetIterable iter X.env x = pure x := by intro _; rfl) :
    PD X lv true (.ListComp elt [⟨tg, iter, ifs, 0⟩] scope pos) (lcLoop it g tt te (own.map (·.2)) fin) := fun gd Wx tk => by
  obtain ⟨hg, pg, ho⟩ := hgt (gd.cl rfl)
  exact pe_imp (pe_lc (gd.cl rfl) hN (hi gd Wx tk) ok pg (fun s H C cl fp => ht s H C cl fp (gd.blk scope s H C cl fp) WF takesF) (fun s H C cl fp => he s H C cl fp (gd.blk scope s H C cl fp) WF takesF) hs) fun σ H Q h => up_lc ho hf h
/-- name = [..] on one line -/
theorem pds_setLcG {i : Nat} {y : Str} {py spos : Pos} (hN : X.N.Nodup) (hy : X.N[i]? = some y) (hyl : X.env.scope.names.lookup y = some .local) (hsw : swapsWith (.ListComp elt [⟨tg, iter, ifs, 0⟩] scope pos) (some (.Name y py)) spos.line X.env = pure true)
    (hi : PDI X lv true tg iter it) (ok : BlkOk X.N X.env.scope scope own) (hgt : LcTg X scope tg g (own.map (·.2))) (ht : ∀ (s : Shared) (H : Hp) (C : Addr) (cl : List (Str × Addr)) (fp : List Addr), PDTs (blkX X scope s H C cl fp) lv true ifs tt)
    (he : ∀ (s : Shared) (H : Hp) (C : Addr) (cl : List (Str × Addr)) (fp : List Addr), PD (blkX X scope s H C cl fp) lv true elt te) (hf : FinOk X fin) (hs : ∀ x, foldedSetIterable iter X.env x = pure x := by intro _; rfl) :
    PDS X lv true (.Assign [.Name y py] (.ListComp elt [⟨tg, iter, ifs, 0⟩] scope pos) spos) (dAsg (lcLoop it g tt te (own.map (·.2)) fin) (gdName i)) := fun gd Wx tk => by
  obtain ⟨hg, pg, ho⟩ := hgt (gd.cl rfl)
  exact ps_imp (ps_setLc (gd.cl rfl) hN hy hyl hsw (hi gd Wx tk) ok pg (fun s H C cl fp => ht s H C cl fp (gd.blk scope s H C cl fp) WF takesF) (fun s H C cl fp => he s H C cl fp (gd.blk scope s H C cl fp) WF takesF) hs)
    fun D σ H ⟨DD, δ, G, hst, hgh, h, l1, l2, l3, l4, l5⟩ => up_lc ho hf (Q := fun x H1 => gName i x σ H1 D.nx) ⟨DD.ex, δ, G, _, hst, hgh, h, fun d G1 H1 v h1 e1 g1 r1 => l1 _ G1 _ H1 h1 e1 ((hst.ext e1).set i r1) g1, l5⟩
end
end DL

namespace DL
open L2 PyProof.Rows PySem PySem.Spec

/-! ### 11. defs and their calls -/
/-- what a def of the text promises, where no repr runs -/
structure FnG (P : Program) (w : World) (K : PySem.W.Frag) (mg : Str → Option Value) (base : Heap) (k : Nat) (f : Addr) (fd : FuncData) (ps : List Str) (sp : Sp) : Prop where
  len : ∀ vs H Q E, sp vs H Q E → vs.length = ps.length
  run : ∀ (A : Around) (outer : List Env) (s : Shared) (H : Hp) (args : Args) (us : List Value) (vs : List V) (Q : VK) (E : XK), Room k A → A.guards = some [] → Env0 P w K mg base A outer s H → BindsTo s fd args (ps.zip us) → Vals vs us → sp vs H Q E →
    codeAny (model P w) A (.call (.ref f) args) (CR (L2.CX P w) outer P w H s Q E) s
/-- a promise over trees, as one over values -/
abbrev DSp := List D → DH → DQ → (Exn → DH → Prop) → Prop
def upSp (K : PySem.W.Frag) (mg : MG) (sp : DSp) : Sp := fun vs H Q E => ∃ (ds : List D) (G : DH) (R : DQ) (RE : Exn → DH → Prop), RpL K mg H G ds vs ∧ HpOk K mg H G ∧ sp ds G R RE ∧
  (∀ d G' H' v, R d G' → Ext H G H' G' → HpOk K mg H' G' → Rp K mg H' G' d v → Q v H') ∧
  ∀ x G' H' cls dd, RE x G' → Ext H G H' G' → HpOk K mg H' G' → ExOk K mg H' G' x cls dd → E cls dd H'
mutual
/-- the same data, live lists let go -/
inductive FzV (G1 G' : DH) : D → D → Prop
  | same (d : D) : FzV G1 G' d d
  | lst {a : Addr} {xs ys : List D} : G1 a = some (.lst xs) → G' a = none → FzL G1 G' xs ys → FzV G1 G' (.ref a) (.lst ys)
  | dct {a : Addr} {xs ys : List (Key × D)} : G1 a = some (.dct xs) → G' a = none → FzK G1 G' xs ys → FzV G1 G' (.ref a) (.dct ys)
  | mxd {a : Addr} {xs ys : List (MKey × D)} : G1 a = some (.mx xs) → G' a = none → FzX G1 G' xs ys → FzV G1 G' (.ref a) (.mxd ys)
  | ins {a : Addr} {c : CI} {xs ys : List D} : G1 a = some (.ins c xs) → xs.length = c.fl.length → G' a = none → FzL G1 G' xs ys → FzV G1 G' (.ref a) (.ins c ys)
  | tup {xs ys : List D} : FzL G1 G' xs ys → FzV G1 G' (.tup xs) (.tup ys)
  | lstI {xs ys : List D} : FzL G1 G' xs ys → FzV G1 G' (.lst xs) (.lst ys)
inductive FzL (G1 G' : DH) : List D → List D → Prop
  | nil : FzL G1 G' [] []
  | cons {x y : D} {xs ys : List D} : FzV G1 G' x y → FzL G1 G' xs ys → FzL G1 G' (x :: xs) (y :: ys)
inductive FzK (G1 G' : DH) : List (Key × D) → List (Key × D) → Prop
  | nil : FzK G1 G' [] []
  | cons {k : Key} {x y : D} {xs ys : List (Key × D)} : FzV G1 G' x y → FzK G1 G' xs ys → FzK G1 G' ((k, x) :: xs) ((k, y) :: ys)
inductive FzX (G1 G' : DH) : List (MKey × D) → List (MKey × D) → Prop
  | nil : FzX G1 G' [] []
  | cons {k : MKey} {x y : D} {xs ys : List (MKey × D)} : FzV G1 G' x y → FzX G1 G' xs ys → FzX G1 G' ((k, x) :: xs) ((k, y) :: ys)
end
theorem FzX.same {G1 G' : DH} : ∀ xs : List (MKey × D), FzX G1 G' xs xs
  | [] => .nil
  | (k, x) :: xs => .cons (.same x) (FzX.same xs)
theorem FzL.same {G1 G' : DH} : ∀ xs : List D, FzL G1 G' xs xs
  | [] => .nil
  | x :: xs => .cons (.same x) (FzL.same xs)
theorem FzK.same {G1 G' : DH} : ∀ xs : List (Key × D), FzK G1 G' xs xs
  | [] => .nil
  | (k, x) :: xs => .cons (.same x) (FzK.same xs)
section
variable {K : PySem.W.Frag} {mg : MG} {H : Hp} {G1 G' : DH}
mutual
theorem FzV.rp (s : Sub G' G1) (hg : HpOk K mg H G1) : ∀ {d e : D} {v : V}, FzV G1 G' d e → Rp K mg H G1 d v → Rp K mg H G' e v
  | _, _, _, .same d, r => r.ext s.ext
  | _, _, _, .lst h1 h2 h3, r => by
    cases r
    have ob := hg _ _ h1
    cases ob with
    | lst e ra => exact .lst h2 e (FzL.rp s hg h3 ra)
  | _, _, _, .dct h1 h2 h3, r => by
    cases r
    have ob := hg _ _ h1
    cases ob with
    | dct e ra => exact .dct h2 (.inl e) (FzK.rp s hg h3 ra)
  | _, _, _, .mxd h1 h2 h3, r => by
    cases r
    have ob := hg _ _ h1
    cases ob with
    | mx e ra => exact .mxd h2 e (FzX.rp s hg h3 ra)
  | _, _, _, .ins h1 hl h2 h3, r => by
    cases r
    have ob := hg _ _ h1
    cases ob with
    | ins m e n ra => exact .ins m h2 e (by rw [n, hl, List.take_length]) (FzL.rp s hg h3 ra)
  | _, _, _, .tup h, r => by
    cases r with
    | tup e ra => exact .tup (e.ext s.ext) (FzL.rp s hg h ra)
  | _, _, _, .lstI h, r => by
    cases r with
    | lst g e ra => exact .lst (s.none g) e (FzL.rp s hg h ra)
theorem FzL.rp (s : Sub G' G1) (hg : HpOk K mg H G1) : ∀ {d e : List D} {v : List V}, FzL G1 G' d e → RpL K mg H G1 d v → RpL K mg H G' e v
  | _, _, _, .nil, r => by cases r; exact .nil
  | _, _, _, .cons h t, r => by
    cases r with
    | cons r rr => exact .cons (FzV.rp s hg h r) (FzL.rp s hg t rr)
theorem FzK.rp (s : Sub G' G1) (hg : HpOk K mg H G1) : ∀ {d e : List (Key × D)} {v : List (Key × V)}, FzK G1 G' d e → RpK K mg H G1 d v → RpK K mg H G' e v
  | _, _, _, .nil, r => by cases r; exact .nil
  | _, _, _, .cons h t, r => by
    cases r with
    | cons r rr => exact .cons (FzV.rp s hg h r) (FzK.rp s hg t rr)
theorem FzX.rp (s : Sub G' G1) (hg : HpOk K mg H G1) : ∀ {ds es : List (MKey × D)} {vs : List MV}, FzX G1 G' ds es → RpX K mg H G1 ds vs → RpX K mg H G' es vs
  | _, _, _, .nil, .nil => .nil
  | _, _, _, .cons f t, .cons q r u => .cons (q.ext s.ext) (FzV.rp s hg f r) (FzX.rp s hg t u)
end
end
/-- what a body is to reach -/
def bodyEnds (Q : DQ) (E : Exn → DH → Prop) : DEnds where
  nx := fun _ G1 => ∃ G2, Sub G2 G1 ∧ Q .non G2
  rt := fun d G1 => ∃ d2 G2, Sub G2 G1 ∧ FzV G1 G2 d d2 ∧ Q d2 G2
  ex := fun x _ G1 => ∃ G2, Sub G2 G1 ∧ E x G2
def slots (N : List Str) (ds : List D) : Sl := ds.map some ++ List.replicate (N.length - ds.length) none

section
variable {P : Program} {w : World} {K : PySem.W.Frag} {mg : Str → Option Value} {base : Heap} {k : Nat} {f : Addr} {qual : Str} {scope : Scope} {cdv : Value} {N ps : List Str}
/-- the promise from the body's reading -/
theorem fnG_of {name : Str} {params : Arguments} {body : List Stmt} {dV kV doc pm ct oc : Value} {an od : Option Addr} {osl : Array (Option Value)} {sp : DSp} {rd : DS}
    (lk : K.lookup f = some ⟨oc, od, .func (PySem.W.fnOf name qual params body scope dV kV doc pm an cdv ct), osl⟩) (hcd : PySem.W.codeIn K cdv qual = true) (S : FnScope N ps scope)
    (len : ∀ ds G Q E, sp ds G Q E → ds.length = ps.length)
    (hb : ∀ (A : Around) (outer : List Env) (s : Shared) (H : Hp) (E : XK), PDSs (cxOf (L2.CX P w) P w K mg base N qual scope f cdv A outer s H E) k true body rd)
    (hsp : ∀ ds G Q E, sp ds G Q E → rd (bodyEnds Q E) (slots N ds) G) :
    FnG P w K mg base (k + 1) f (PySem.W.fnOf name qual params body scope dV kV doc pm an cdv ct) ps (upSp K (mhOf P w mg) sp) := by
  have lenV : ∀ vs H Q E, upSp K (mhOf P w mg) sp vs H Q E → vs.length = ps.length := fun vs H Q E ⟨ds, G, R, RE, r, _, h, _⟩ => r.length.symm.trans (len _ _ _ _ h)
  refine ⟨lenV, fun A outer s H args us vs Q E hr hgd e0 hbt rv hs => ?_⟩
  have hl := lenV _ _ _ _ hs
  have inK : K.In s.heap := e0.mod.kin.keeps (fun b o e => (e0.bs b o e).1)
  have nolim : s.heap.NoLimit := e0.mod.nolimit.keeps (fun b o e => (e0.bs b o e).1)
  refine codeAny_call_function hr.depth (inK _ _ lk) rfl S.co S.gen rfl (PySem.W.codeRec_of inK hcd) (hbt _ _ _ _ ?_)
  refine wpAny_newFunctionEnv_cells S.kind (fun ⟨n, v⟩ hy => ?_) (fun env he s1 x => ?_)
  · rcases S.par n (List.of_mem_zip hy).1 with q | q
    · exact .inl q
    · exact .inr ⟨q, PySem.W.cellsFrom_some _ _ _ (.inl q)⟩
  subst he
  refine ⟨nolim.keeps x.toInCall.keep, codeAny_func ?_⟩
  generalize hX : cxOf (L2.CX P w) P w K mg base N qual scope f cdv A outer s H E = X
  have I : Inv X [] (start N vs) H s1 := by rw [← hX]; exact inv_start S hr.hd e0 hl rv x
  have gdX : Gd X k true := by
    subst hX
    exact ⟨hgd, (hr.deeper _).dp, (hr.deeper _).un, fun _ => hr.hd, fun _ => rfl, passes_of rfl⟩
  have tkX : Takes X (fun cls d _ H' => E cls d H') := by
    subst hX
    exact takes_of rfl rfl rfl rfl
  have hbX := hb A outer s H E
  rw [hX] at hbX
  have XK' : X.K = K := by rw [← hX] <;> rfl
  have Xmg : X.mh = mhOf P w mg := by rw [← hX] <;> rfl
  obtain ⟨ds, G, R, RE, rd0, hg, hsp0, lQ, lE⟩ := hs
  have goal := (hbX gdX _ tkX).run [] s1 (start N vs) H { nx := fun _ H' => Q .non H', rt := Q } I
    ⟨bodyEnds R RE, slots N ds, G, by rw [XK', Xmg]; exact StOk.start rd0, by rw [XK', Xmg]; exact hg, hsp _ _ _ _ hsp0,
      fun δ' G1 σ' H' ⟨G2, sb, q⟩ e _ g => by rw [XK', Xmg] at g; exact lQ _ G2 H' _ q (e.trans sb.ext) (g.sub sb) .non,
      fun d G1 H' v ⟨d2, G2, sb, fz, q⟩ e g r => by rw [XK', Xmg] at g r; exact lQ d2 G2 H' v q (e.trans sb.ext) (g.sub sb) (fz.rp sb g r),
      fun _ _ _ _ z => z.elim, fun _ _ _ _ z => z.elim,
      fun y δ' G1 σ' H' cls dd ⟨G2, sb, q⟩ e _ g xo => by rw [XK', Xmg] at g xo; exact lE y G2 H' cls dd q (e.trans sb.ext) (g.sub sb) (xo.ext sb.ext)⟩
  have hP : X.prog = P := by rw [← hX] <;> rfl
  have hw : X.w = w := by rw [← hX] <;> rfl
  have hA : X.A = A.deeper (envOfC qual scope s.heap.objs.size f cdv) := by rw [← hX] <;> rfl
  have hE : X.env = envOfC qual scope s.heap.objs.size f cdv := by rw [← hX] <;> rfl
  have hs0 : X.s_0 = s ∧ X.H_0 = H ∧ X.outer = outer ∧ X.ex = [] := by rw [← hX] <;> exact ⟨rfl, rfl, rfl, rfl⟩
  have hxe : X.xe = fun e s' => wpAny (model P w) (A.deeper (envOfC qual scope s.heap.objs.size f cdv)) (leaving (envOfC qual scope s.heap.objs.size f cdv) e) (fun _ s'' => L2.CX P w outer H s E e s'') (fun e' s'' => L2.CX P w outer H s E e' s'') s' := by rw [← hX] <;> rfl
  rw [hP, hw, hA, hE, hxe] at goal
  refine wpAny_mono goal (fun fl s' q => ?_) (fun _ _ q => q)
  have fin : ∀ {σ' : L2.St} {H' : Hp} {v : V} {u : Value}, Inv X [] σ' H' s' → RelV v u → Q v H' → CE outer P w H s Q u s' := fun {σ' H' v u} J r q => by
    have h1 := J.os
    have h2 := J.base
    have h3 := J.hok
    rw [hs0.1] at h1
    rw [hs0.1, hs0.2.1, hs0.2.2.2, show X.fs = frs outer from by show frs X.outer = _; rw [hs0.2.2.1]] at h2
    rw [hP, hw] at h3
    exact ⟨v, H', h1, J.bare, h2, h3, r, q⟩
  cases fl with
  | ret u => obtain ⟨v, σ', H', J, r, q⟩ := q; exact fin J r q
  | next => obtain ⟨σ', H', J, q⟩ := q; exact fin (v := V.non) (u := Value.none) J rfl q
  | brk => obtain ⟨_, _, _, q⟩ := q; exact q.elim
  | cont => obtain ⟨_, _, _, q⟩ := q; exact q.elim
end

/-- a def of the top by its name -/
structure HasF (P : Program) (w : World) (K : PySem.W.Frag) (mg : Str → Option Value) (base : Heap) (x : Str) (k : Nat) (ps : List Str) (sp : DSp) : Prop where
  ex : ∃ (f : Addr) (fd : FuncData), mg x = some (.ref f) ∧ PySem.W.keepIn K (.ref f) = true ∧ Binds K fd ps [] ∧ FnG P w K mg base k f fd ps (upSp K (mhOf P w mg) sp)
abbrev HasFX (X : Cx) (x : Str) (k : Nat) (ps : List Str) (sp : DSp) : Prop := HasF X.prog X.w X.K X.mg X.base x k ps sp
/-- the callee's promise is asked -/
def Ap (sp : DSp) (ds : List D) (G : DH) (Q : DQ) (E : Exn → DH → Prop) (_ : Shut Q E) : Prop := sp ds G Q E
def dCall (sp : DSp) (t : DA) : DE := fun W δ G Q => t W δ G fun ds G1 => Ap sp ds G1 Q (fun x G2 => W x δ G2) .mk
section
variable {X : Cx} {lv k : Nat} {f : Addr} {fd : FuncData} {ps : List Str} {sp : DSp}
/-- the callee runs: Wx takes what it lets out -/
theorem run_fnG {pins : List (Addr × Obj)} {σ : L2.St} {H : Hp} {s : Shared} {Q : VK} {us ds : List Value} {vs dvs : List V} {S : Sp} {Wx : WX} (F : FnG X.prog X.w X.K X.mg X.base k f fd ps S) (gd : Gd X lv true) (hk : k ≤ lv) (tk : Takes X Wx) (hb : Binds X.K fd ps ds) (hd : Vals dvs ds)
    (I : Inv X pins σ H s) (r : Vals vs us) (h : S (vs ++ dvs) H Q (fun cls dd H' => Wx cls dd σ H')) : wpAny (model X.prog X.w) X.A (call (.ref f) us) (EP X pins σ Q) X.xe s := by
  have rr : Vals (vs ++ dvs) (us ++ ds) := r.append hd
  refine wpAny_call (codeAny_mono (F.run X.A X.stack s H ⟨us, []⟩ (us ++ ds) (vs ++ dvs) Q _ (gd.room.mono hk) gd.gu I.env0 (hb s us I.kIn ((rr.length.symm).trans (F.len _ _ _ _ h))) rr h) (fun y s' hq => ?_))
  match y, hq with
  | .error e, hq => exact passAt tk σ pins H s e s' I hq
  | .ok (.ret u), hq => exact I.after hq
  | .ok .next, hq => exact hq.elim
  | .ok .brk, hq => exact hq.elim
  | .ok .cont, hq => exact hq.elim
/-- from trees to values at a call -/
theorem up_sp {Wx : WX} {W : DW} {δ : Sl} {σ : L2.St} {H : Hp} {G : DH} {ds : List D} {vs : List V} {Q : VK} {R : DQ} (hs : StOk X.K X.mh H G δ σ) (hg : HpOk X.K X.mh H G) (r : RpL X.K X.mh H G ds vs) (h : sp ds G R fun x G2 => W x δ G2)
    (lQ : ∀ d G' H' v, R d G' → Ext H G H' G' → HpOk X.K X.mh H' G' → Rp X.K X.mh H' G' d v → Q v H')
    (lW : ∀ ex δ' G' σ' H' cls dd, W ex δ' G' → Ext H G H' G' → StOk X.K X.mh H' G' δ' σ' → HpOk X.K X.mh H' G' → ExOk X.K X.mh H' G' ex cls dd → Wx cls dd σ' H') :
    upSp X.K X.mh sp vs H Q (fun cls dd H' => Wx cls dd σ H') :=
  ⟨ds, G, R, _, r, hg, h, lQ, fun x G' H' cls dd hx e g xo => lW x δ G' σ H' cls dd hx e (hs.ext e) g xo⟩
theorem pd_call {x : Str} {e : Expr} {es : List Expr} {t : DA} {p pos : Pos} (F : HasFX X x k ps sp) (hk : k ≤ lv) (ha : PDA X lv true (e :: es) t) (hg : Gl X x := by rfl) (hdb : (x == ("__debug__" : Str)) = false := by decide)
    (he : starEach (e :: es) X.env = (false, eval e X.env) :: starEach es X.env := by rfl) (hpl : (backTo pos (starEach es X.env)).any (·.1) = false := by rfl) : PD X lv true (.Call (.Name x p) (e :: es) [] pos) (dCall sp t) := fun gd Wx tk => by
  obtain ⟨f, fd, hm, kp, hb, F⟩ := F.ex
  refine ⟨fun pins s σ H Q I ⟨W, δ, G, R, hs, hgo, ht, lQ, lW⟩ => ?_⟩
  refine wpAny_Call_Name_kw (ld_glob I hg hm ?_ hdb)
  refine PySem.W.callWith_K (h₀ := X.base) I.ok.mod.kin kp (thn ((ha gd Wx tk).run pos pins s σ H (fun vs H1 => upSp X.K X.mh sp vs H1 Q (fun cls dd H' => Wx cls dd σ H')) I ⟨W, δ, G, _, hs, hgo, ht, fun ds G1 H1 vs h1 e1 g1 r1 =>
    up_sp (hs.ext e1) g1 r1 h1 (fun d G' H' v hd e2 => lQ d G' H' v hd (e1.trans e2)) (fun ex δ' G' σ' H' cls dd hw e2 => lW ex δ' G' σ' H' cls dd hw (e1.trans e2)), lW⟩) fun us s1 ⟨vs, H1, I1, r, q⟩ => ⟨I1.kIn, ?_⟩) he hpl
  exact run_fnG (ds := []) (dvs := []) F gd hk tk hb .nil I1 r (by rw [List.append_nil]; exact q)
theorem pd_call0 {x : Str} {p pos : Pos} (F : HasFX X x k ps sp) (hk : k ≤ lv) (hg : Gl X x := by rfl) (hdb : (x == ("__debug__" : Str)) = false := by decide) : PD X lv true (.Call (.Name x p) [] [] pos) (dCall sp dNil) := fun gd Wx tk => by
  obtain ⟨f, fd, hm, kp, hb, F⟩ := F.ex
  refine ⟨fun pins s σ H Q I ⟨W, δ, G, R, hs, hgo, ht, lQ, lW⟩ => ?_⟩
  refine wpAny_Call_Name_kw (ld_glob I hg hm ?_ hdb)
  exact PySem.W.callWith_K0 I.kIn kp (run_fnG (us := []) (vs := []) (ds := []) (dvs := []) F gd hk tk hb .nil I .nil (up_sp hs hgo .nil ht lQ lW))
end
/-- a def by its statement -/
theorem fnG_FunD {P : Program} {w : World} {K : PySem.W.Frag} {mg : Str → Option Value} {base : Heap} {k : Nat} {f : Addr} {fd : FuncData} {x qual : Str} {params : Arguments} {body : List Stmt} {scope : Scope} {N ps : List Str} {dvs : List V} {kws : List (Str × V)} {sp : DSp} {rd : DS}
    (F : FunD K x qual params body scope dvs kws f fd) (S : FnScope N ps scope) (len : ∀ ds G Q E, sp ds G Q E → ds.length = ps.length)
    (hb : ∀ (cdv : Value) (A : Around) (outer : List Env) (s : Shared) (H : Hp) (E : XK), PDSs (cxOf (L2.CX P w) P w K mg base N qual scope f cdv A outer s H E) k true body rd)
    (hsp : ∀ ds G Q E, sp ds G Q E → rd (bodyEnds Q E) (slots N ds) G) : FnG P w K mg base (k + 1) f fd ps (upSp K (mhOf P w mg) sp) := by
  obtain ⟨oc, od, dV, kV, doc, pm, an, cdv, ct, osl, rfl, lk, hcd, hD, hK⟩ := F.ex
  exact fnG_of lk hcd S len (hb cdv) hsp
/-- a def whose parameters are all written, over its statement -/
theorem hasF_of {P : Program} {w : World} {K : PySem.W.Frag} {mg : Str → Option Value} {base : Heap} {k : Nat} {f : Addr} {fd : FuncData} {x qual : Str} {params : Arguments} {body : List Stmt} {scope : Scope} {N ps : List Str} {sp : DSp} {rd : DS}
    (hm : mg x = some (.ref f)) (F : FunD K x qual params body scope [] [] f fd) (S : FnScope N ps scope)
    (hbd : ∀ (kV doc pm : Value) (an : Option Addr) (cdv ct : Value) (us : List Value), us.length = ps.length → bindArgs (PySem.W.fnOf x qual params body scope .none kV doc pm an cdv ct) ⟨us, []⟩ = pure (ps.zip us))
    (len : ∀ ds G Q E, sp ds G Q E → ds.length = ps.length)
    (hb : ∀ (cdv : Value) (A : Around) (outer : List Env) (s : Shared) (H : Hp) (E : XK), PDSs (cxOf (L2.CX P w) P w K mg base N qual scope f cdv A outer s H E) k true body rd)
    (hsp : ∀ ds G Q E, sp ds G Q E → rd (bodyEnds Q E) (slots N ds) G) : HasF P w K mg base x (k + 1) ps sp :=
  ⟨f, fd, hm, F.kp, F.bindsN hbd, fnG_FunD F S len hb hsp⟩
theorem funD_mk {K : PySem.W.Frag} {x qual : Str} {params : Arguments} {body : List Stmt} {scope : Scope} {f : Addr} {oc kV doc pm cdv ct : Value} {od an : Option Addr} {osl : Array (Option Value)}
    (l : K.lookup f = some ⟨oc, od, .func (PySem.W.fnOf x qual params body scope .none kV doc pm an cdv ct), osl⟩) (c : PySem.W.codeIn K cdv qual = true) (k : PySem.W.keepIn K (.ref f) = true) :
    FunD K x qual params body scope [] [] f (PySem.W.fnOf x qual params body scope .none kV doc pm an cdv ct) :=
  ⟨⟨oc, od, .none, kV, doc, pm, an, cdv, ct, osl, rfl, l, c, .inl ⟨rfl, rfl⟩, .inl rfl⟩, k⟩
end DL

namespace DL
open L2 PyProof.Rows PySem PySem.Spec

/-! ### 12. the end: the law's own call -/
theorem law_callG {P : Program} {w : World} {K : PySem.W.Frag} {mg mb : Str → Option Value} {k : Nat} {fa a : Addr} {fd : FuncData} {x : Str} {sp : Sp} {s₁ : Shared} {vs : List Value} {ns : List Int}
    (KX : K.In s₁.heap) (hns : s₁.heap.Ns mainGlobals mg) (hb : s₁.heap.Ns builtinsNs mb) (hbb : ∀ x : Str, x ≠ "__name__" → mb x = bootBuiltins x) (hlim : s₁.heap.NoLimit) (hg : s₁.gens = #[])
    (ha : s₁.heap.get? a = some { cls := .type "list", data := .seq vs.toArray }) (hi : IntsAre vs ns) (hl : ns.length ≤ sizeLine) (hr : Room k callerA)
    (F : ∀ base : Heap, K.In base → base.Ns mainGlobals mg → FnG P w K mg base k fa fd [x] sp) (hbind : ∀ (s : Shared) (u : Value), BindsTo s fd ⟨[u], []⟩ [(x, u)])
    (hsp : ∀ H : Hp, Only H → SqL K H a (ns.map V.int) → sp [.ref a] H (fun v _ => v = .bl true) fun _ _ _ => False) :
    codeAny (model P w) callerA (.call (.ref fa) ⟨[.ref a], []⟩) (fun r s' => r = .ok (.ret (.bool true)) ∧ OldK s₁.heap s'.heap ∧ s'.os = s₁.os ∧ AllBare s'.gens) s₁ := by
  have rv := vals_ints hi
  have lenV := hi.length
  have core : ∀ H : Hp, Only H → SqL K H a (ns.map V.int) → HOk P w H s₁.heap → (∀ b, H b ≠ none → b = a) → (H a ≠ none → K.lookup a = none) →
      codeAny (model P w) callerA (.call (.ref fa) ⟨[.ref a], []⟩) (fun r s' => r = .ok (.ret (.bool true)) ∧ OldK s₁.heap s'.heap ∧ s'.os = s₁.os ∧ AllBare s'.gens) s₁ := fun H hO hS hok hA hK => by
    have stands : ∀ {b : Addr} {o : Obj}, s₁.heap.get? b = some o → H b = none → (hidT s₁.heap H).get? b = some o := fun e n => hidT_get e n
    have plain : ∀ {b : Addr} {o : Obj} {es : Array DictEntry} {ep : Nat}, s₁.heap.get? b = some o → o.data = .dict es ep → H b = none := fun {b o es ep} e d => by
      refine Classical.byContradiction fun q => ?_
      cases hA b q
      rw [ha] at e
      cases e
      cases (show Data.seq vs.toArray _ = Data.dict es ep from d)
    have names : ∀ {b : Addr} {m : Str → Option Value}, s₁.heap.Ns b m → (hidT s₁.heap H).Ns b m := fun {b m} ⟨o, es, ep, e, d, r⟩ => ⟨o, es, ep, stands e (plain e d), d, r⟩
    have kb : K.In (hidT s₁.heap H) := fun b o e => stands (KX b o e) (Classical.byContradiction fun q => by
      cases hA b q
      rw [hK q] at e
      cases e)
    have md : Mod K mg (hidT s₁.heap H) := ⟨kb, names hns, ⟨mb, names hb, hbb⟩, by obtain ⟨mc, h1, h2⟩ := hlim; exact ⟨mc, names h1, h2⟩⟩
    have e0 : Env0 P w K mg (hidT s₁.heap H) callerA [] s₁ H := ⟨rfl, md, (fun b o e => of_hidT e), Nat.le_of_eq (hidT_size _ _), trivial, (fun b hb => nomatch hb), hok, .of_eq hg⟩
    refine codeAny_mono ((F _ kb (names hns)).run callerA [] s₁ H ⟨[.ref a], []⟩ [.ref a] [.ref a] _ _ hr rfl e0 (hbind s₁ (.ref a)) (.cons rfl .nil) (hsp H hO hS)) (fun y s' h => ?_)
    match y, h with
    | .error e, h =>
      obtain ⟨_, _, _, _, _, _, _, _, _, _, _, _, z⟩ := (show L2.CX P w [] H s₁ (fun _ _ _ => False) e s' from h)
      exact z.elim
    | .ok .next, h => exact h.elim
    | .ok .brk, h => exact h.elim
    | .ok .cont, h => exact h.elim
    | .ok (.ret u), h =>
      obtain ⟨v, H', os, bare, un, hok', r', q⟩ := h
      subst q
      obtain rfl : u = Value.bool true := r'
      refine ⟨rfl, OldK.of_keep (fun b o e => ?_), os, bare⟩
      cases q : H b with
      | none => exact un.keep b o e q (fun z => nomatch z) (fun z => nomatch z)
      | some u =>
        rcases hO b with z | ⟨ob, xs, z⟩
        · rw [q] at z; cases z
        · have z2 := un.frzs b ob _ z
          have e1 := (hok b _ z).1
          rw [e] at e1; cases e1
          exact (hok' b _ z2).1
  by_cases hk : ∃ o, K.lookup a = some o
  · obtain ⟨o, hk⟩ := hk
    have e := KX a o hk
    rw [ha] at e
    cases e
    exact core (fun _ => none) (fun _ => .inl rfl) (.inr ⟨_, vs.toArray, _, hk, rfl, rfl, rfl, by rw [List.size_toArray, lenV]; exact hl, by simpa using rv⟩) (fun b u z => nomatch z) (fun b z => absurd rfl z) (fun z => absurd rfl z)
  · have hk' : K.lookup a = none := by
      cases q : K.lookup a with
      | none => rfl
      | some o => exact absurd ⟨o, q⟩ hk
    have hH : ∀ b, (fun b => if b = a then some (HO.frz { cls := .type "list", data := .seq vs.toArray } (.lst (ns.map V.int))) else none) b ≠ none → b = a := fun b z => Classical.byContradiction fun q => z (if_neg q)
    refine core _ (fun b => ?_) (.inl (.inr ⟨{ cls := .type "list", data := .seq vs.toArray }, if_pos rfl⟩)) (fun b u z => ?_) hH (fun _ => hk')
    · by_cases q : b = a
      · exact .inr ⟨_, _, if_pos q⟩
      · exact .inl (if_neg q)
    · cases hH b (fun y => by have y2 := z.symm.trans y; cases y2)
      rw [if_pos rfl] at z
      cases z
      exact ⟨ha, by rw [List.length_map]; exact hl, vs, _, rv, ha⟩
/-- the promise of a law: a list of at most n ints, each of at most 2 ^ 20 bits, is handed in, True comes back -/
def lawSp (n : Nat) : DSp := fun ds G Q _ => ∃ ns : List Int, ds = [.lsk (ns.map D.int)] ∧ ns.length ≤ n ∧ (∀ z ∈ ns, Builtin.Int.intBits z ≤ 1048576) ∧ ∀ G', Q (.bl true) G'
theorem rpL_ints {K : PySem.W.Frag} {mg : MG} {H : Hp} {G : DH} : ∀ ns : List Int, RpL K mg H G (ns.map D.int) (ns.map V.int)
  | [] => .nil
  | n :: ns => .cons (.int n) (rpL_ints ns)
theorem rp_script {K : PySem.W.Frag} {mg : MG} {H : Hp} {a : Addr} {ns : List Int} (hO : Only H) (h : SqL K H a (ns.map V.int)) : Rp K mg H (fun _ => none) (.lsk (ns.map D.int)) (.ref a) := by
  refine .lsk ?_ (rpL_ints ns)
  rcases h with (h | ⟨o, h⟩) | ⟨o, its, n, h⟩
  · rcases hO a with z | ⟨o, xs, z⟩
    · rw [z] at h; cases h
    · rw [z] at h; cases h
  · exact .inl ⟨rfl, o, h⟩
  · exact .inr ⟨o, its, n, h⟩
theorem walk_ofG {l : PySem.W.OpenLaw} {n k : Nat} {q : Program} {loose : List Str} {XP : (Str → Option Value) → Heap → Prop} {YP : World → Heap → Prop} {d : DefRec} {K : Params → PySem.W.Frag} {x : Str}
    (hn : l.most = some n) (hn2 : n ≤ sizeLine) (hdf : d.params.defaults = []) (hr : Room k callerA) (hY : ∀ (w : World) (h : Heap), YP w h → (K w.params).In h)
    (F : ∀ (w : World) (mg : Str → Option Value) (fa : Addr) (h : Heap), (K w.params).In h → h.Ns mainGlobals mg → mg d.name = some (.ref fa) →
      ∃ fd : FuncData, (∀ (s : Shared) (u : Value), BindsTo s fd ⟨[u], []⟩ [(x, u)]) ∧
        ∀ base : Heap, (K w.params).In base → base.Ns mainGlobals mg → FnG l.prog w (K w.params) mg base k fa fd [x] (upSp (K w.params) (mhOf l.prog w mg) (lawSp n))) :
    PySem.W.WalkO q loose XP YP l.row.toRowW d [] (fun f vs => PySem.call f vs) := by
  refine Att.attach_callB hn hdf (fun w s₀ s₁ mg mb fa o pm cd doc a vs ns G Y ho hd hcd hmg hobj hints hlen hbits hg => ?_)
  have KX := hY w _ Y
  obtain ⟨fd, hb, hF⟩ := F w mg fa _ KX G.T.g hmg
  refine law_callG KX G.T.g G.T.b G.T.builtins G.T.nolimit hg hobj hints (Nat.le_trans hlen hn2) hr hF hb (fun H hO hS => ?_)
  refine ⟨_, fun _ => none, fun d _ => d = .bl true, fun _ _ => False, .cons (rp_script hO hS) .nil, (fun _ _ z => nomatch z), ⟨ns, rfl, hlen, hbits, fun _ => rfl⟩, fun d G' H' v e _ _ r => ?_, fun _ _ _ _ _ z => z.elim⟩
  subst e
  cases r
  rfl
end DL

namespace DL
open L2 PyProof.Rows PySem PySem.Spec

/-! ### 13. repr -/
def keyS : Key → Bool
  | .inl i => decide (i.natAbs.log2 < 1920)
  | .inr _ => true
mutual
/-- can be shown: nested at most n deep -/
def okS : Nat → D → Bool
  | _, .non => true
  | _, .bl _ => true
  | _, .int i => decide (i.natAbs.log2 < 1920)
  | _, .str _ => true
  | n, .tup xs => decide (1 ≤ n) && okSL (n - 1) xs
  | n, .lst xs => decide (1 ≤ n) && okSL (n - 1) xs
  | n, .lsk xs => decide (1 ≤ n) && okSL (n - 1) xs
  | n, .tpk xs => decide (1 ≤ n) && okSL (n - 1) xs
  | n, .dct kvs => decide (1 ≤ n) && okSK (n - 1) kvs
  | _, _ => false
def okSL : Nat → List D → Bool
  | _, [] => true
  | n, x :: xs => okS n x && okSL n xs
def okSK : Nat → List (Key × D) → Bool
  | _, [] => true
  | n, (k, x) :: xs => keyS k && okS n x && okSK n xs
end
theorem okSL_iff {n : Nat} : ∀ {xs : List D}, okSL n xs = true ↔ ∀ x ∈ xs, okS n x = true
  | [] => by simp [okSL]
  | x :: xs => by simp [okSL, okSL_iff (xs := xs)]
mutual
theorem okS_depth : ∀ {n : Nat} {d : D}, okS n d = true → (py d).depth ≤ n
  | _, .non, _ => by simp [py, PyData.depth]
  | _, .bl b, _ => by simp [py, PyData.depth]
  | _, .int i, _ => by simp [py, PyData.depth]
  | _, .str s, h => by simp [py, PyData.depth]
  | n, .tup xs, h => by
    simp only [okS, Bool.and_eq_true, decide_eq_true_eq] at h
    have := okSL_depth h.2
    simp only [py, PyData.depth]
    omega
  | n, .lst xs, h => by
    simp only [okS, Bool.and_eq_true, decide_eq_true_eq] at h
    have := okSL_depth h.2
    simp only [py, PyData.depth]
    omega
  | n, .lsk xs, h => by
    simp only [okS, Bool.and_eq_true, decide_eq_true_eq] at h
    have := okSL_depth h.2
    simp only [py, PyData.depth]
    omega
  | n, .tpk xs, h => by
    simp only [okS, Bool.and_eq_true, decide_eq_true_eq] at h
    have := okSL_depth h.2
    simp only [py, PyData.depth]
    omega
  | n, .dct xs, h => by
    simp only [okS, Bool.and_eq_true, decide_eq_true_eq] at h
    have := okSK_depth h.2
    simp only [py, PyData.depth]
    omega
  | _, .ty _, h => by simp [okS] at h
  | _, .ins _ _, h => by simp [okS] at h
  | _, .cls _, h => by simp [okS] at h
  | _, .ref _, h => by simp [okS] at h
theorem okSL_depth : ∀ {n : Nat} {xs : List D}, okSL n xs = true → PyData.depthAll (pyL xs) ≤ n
  | _, [], _ => by simp [pyL, PyData.depthAll]
  | n, x :: xs, h => by
    simp only [okSL, Bool.and_eq_true] at h
    have h1 := okS_depth h.1
    have h2 := okSL_depth h.2
    simp only [pyL, PyData.depthAll]
    omega
theorem okSK_depth : ∀ {n : Nat} {xs : List (Key × D)}, okSK n xs = true → PyData.depthKv (pyK xs) ≤ n
  | _, [], _ => by simp [pyK, PyData.depthKv]
  | n, (.inl k, x) :: xs, h => by
    simp only [okSK, Bool.and_eq_true] at h
    have h1 := okS_depth h.1.2
    have h2 := okSK_depth h.2
    simp only [pyK, PyData.depthKv, PyData.depth]
    omega
  | n, (.inr k, x) :: xs, h => by
    simp only [okSK, Bool.and_eq_true] at h
    have h1 := okS_depth h.1.2
    have h2 := okSK_depth h.2
    simp only [pyK, PyData.depthKv, PyData.depth]
    omega
end
def pyKey : Key → PyData
  | .inl i => .int i
  | .inr s => .str s
theorem pyK_map : ∀ kvs : List (Key × D), pyK kvs = kvs.map fun kv => (pyKey kv.1, py kv.2)
  | [] => by simp only [pyK, List.map_nil]
  | (.inl k, x) :: xs => by simp only [pyK, List.map_cons, pyK_map xs, pyKey]
  | (.inr k, x) :: xs => by simp only [pyK, List.map_cons, pyK_map xs, pyKey]
section
variable {X : Cx} {pins : List (Addr × Obj)} {σ : L2.St} {H : Hp} {G : DH} {s : Shared}
/-- the text of a value: it can be read off, and shown -/
def Shw (X : Cx) (s : Shared) (p : PyData) (u : Value) : Prop := (∃ as, Reads s.heap u p as) ∧ (∃ bs, ReadAtMost s.heap p.depth bs ∧ ReprK X.prog X.w bs s.heap p.depth u p.shown) ∧
  ∀ a, u = .ref a → ∃ T idr, ShowsBy X.prog X.w s.heap a p T idr
def ShwL (X : Cx) (s : Shared) (p : List PyData) (us : List Value) : Prop := (∃ as, ReadsAll s.heap us p as) ∧ ∃ bs, ReadAtMost s.heap (PyData.depthAll p) bs ∧ ReprAllK X.prog X.w bs s.heap (PyData.depthAll p) us (PyData.shownAll p)
theorem Shw.non : Shw X s .none .none := ⟨⟨_, .none⟩, ⟨[], (fun _ h => nomatch h), by simp only [PyData.shown]; exact .of_is ReprIs.none _ _ _⟩, fun _ e => nomatch e⟩
theorem Shw.bl (b : Bool) : Shw X s (.bool b) (.bool b) := ⟨⟨_, .bool b⟩, ⟨[], (fun _ h => nomatch h), by simp only [PyData.shown]; exact .of_is (ReprIs.bool b) _ _ _⟩, fun _ e => nomatch e⟩
theorem Shw.int {i : Int} {t : Tok} (h : i.natAbs.log2 < 1920) : Shw X s (.int i) (.int i t) := ⟨⟨_, .int i t⟩, ⟨[], (fun _ h => nomatch h), by simp only [PyData.shown]; exact .of_is (ReprIs.int t h) _ _ _⟩, fun _ e => nomatch e⟩
theorem Shw.str {x : Str} {t : Tok} (h : (PyData.str x).shown.length ≤ sizeLine) : Shw X s (.str x) (.str x t) := ⟨⟨_, .str x t⟩, ⟨[], (fun _ h => nomatch h), by simp only [PyData.shown]; exact .of_is (ReprIs.str x t (by simpa only [PyData.shown] using h)) _ _ _⟩, fun _ e => nomatch e⟩
theorem Shw.key {k : Key} {v : Value} (h : keyIs k v = true) (hi : keyS k = true) (hz : (pyKey k).shown.length ≤ sizeLine) : Shw X s (pyKey k) v := by
  rcases keyIs_shape h with ⟨i, t, rfl, rfl⟩ | ⟨x, t, rfl, rfl⟩
  · exact .int (of_decide_eq_true hi)
  · exact .str hz
theorem ShwL.nil : ShwL X s [] [] := ⟨⟨_, .nil⟩, [], (fun _ h => nomatch h), by simp only [PyData.shownAll]; exact .nil⟩
theorem ShwL.cons {d : PyData} {u : Value} {ds : List PyData} {us : List Value} : Shw X s d u → ShwL X s ds us → ShwL X s (d :: ds) (u :: us) := fun ⟨⟨_, r⟩, ⟨b1, hb1, k1⟩, _⟩ ⟨⟨_, rs⟩, b2, hb2, k2⟩ => by
  refine ⟨⟨_, .cons r rs⟩, b1 ++ b2, ?_, ?_⟩
  · intro b hm
    simp only [PyData.depthAll]
    rcases List.mem_append.mp hm with hm | hm
    · obtain ⟨p, q, r1, r2⟩ := hb1 b hm
      exact ⟨p, q, r1, Nat.le_trans r2 (Nat.le_max_left _ _)⟩
    · obtain ⟨p, q, r1, r2⟩ := hb2 b hm
      exact ⟨p, q, r1, Nat.le_trans r2 (Nat.le_max_right _ _)⟩
  · simp only [PyData.depthAll, PyData.shownAll]
    exact .cons ((k1.more fun b hb => List.mem_append_left _ hb).level_le (Nat.le_max_left _ _)) (k2.more_le (fun b hb => List.mem_append_right _ hb) (Nat.le_max_right _ _))
theorem Shw.list {a : Addr} {o : Obj} {us : List Value} {n : Nat} {xs : List PyData} (h1 : s.heap.get? a = some o) (h2 : o.cls = .type "list") (h3 : o.data = .seq us.toArray n) (hl : ShwL X s xs us) (hz : (PyData.list xs).shown.length ≤ sizeLine) : Shw X s (.list xs) (.ref a) := by
  obtain ⟨⟨as, ra⟩, bs, hb, hk⟩ := hl
  have r : Reads s.heap (.ref a) (.list xs) _ := .list h1 h2 h3 ra
  have hna : a ∉ bs := not_mem_of_deeper r (by simp only [PyData.depth]; omega) hb
  have hz2 : (listText (PyData.shownAll xs)).length ≤ sizeLine := by simpa only [PyData.shown] using hz
  refine ⟨⟨_, r⟩, ⟨a :: bs, ReadAtMost.cons r (by simp only [PyData.depth]; omega) hb, ?_⟩, fun b e => ?_⟩
  · simp only [PyData.depth, PyData.shown]
    cases us with
    | nil =>
      cases ra
      simp only [PyData.shownAll, listText_nil]
      exact ReprK.listEmpty h1 h2 h3
    | cons x l => exact ReprK.list h1 h2 h3 hna (by simpa using hk.length_eq) (fun i y e => hk.item i y (by simpa using e))
  · cases e
    refine ⟨"list", "list.__repr__", F.slot_list_repr.toG, F.slot_list_str, F.slot_list_format, fun s2 hk0 => ⟨o, hk0 _ _ h1, h2⟩, fun A E s2 Q hg hu hk0 hQ => ?_⟩
    simp only [PyData.depth] at hu
    simp only [PyData.shown] at hQ
    cases us with
    | nil =>
      cases ra
      simp only [PyData.shownAll, listText_nil] at hQ
      exact call_list_repr_empty ⟨o, hk0 _ _ h1, h2⟩ (hk0 _ _ h1) h3 (hQ s2.heap _ _ fun _ _ e => e)
    | cons x l => exact call_list_reprK h1 h2 h3 hna (by simpa using hk.length_eq) (fun i y e => hk.item i y (by simpa using e)) hg (fun b _ => Clear.nil b) hu hk0 hQ hz2
theorem Shw.tuple {a : Addr} {o : Obj} {us : List Value} {n : Nat} {xs : List PyData} (h1 : s.heap.get? a = some o) (h2 : o.cls = .type "tuple") (h3 : o.data = .seq us.toArray n) (hl : ShwL X s xs us) (hz : (PyData.tuple xs).shown.length ≤ sizeLine) : Shw X s (.tuple xs) (.ref a) := by
  obtain ⟨⟨as, ra⟩, bs, hb, hk⟩ := hl
  have r : Reads s.heap (.ref a) (.tuple xs) _ := .tuple h1 h2 h3 ra
  have hna : a ∉ bs := not_mem_of_deeper r (by simp only [PyData.depth]; omega) hb
  have hz2 : (tupleText (PyData.shownAll xs)).length ≤ sizeLine := by simpa only [PyData.shown] using hz
  refine ⟨⟨_, r⟩, ⟨a :: bs, ReadAtMost.cons r (by simp only [PyData.depth]; omega) hb, ?_⟩, fun b e => ?_⟩
  · simp only [PyData.depth, PyData.shown]
    exact ReprK.tuple h1 h2 h3 hna hk
  · cases e
    refine ⟨"tuple", "tuple.__repr__", F.slot_tuple_repr, F.slot_tuple_str, F.slot_tuple_format, fun s2 hk0 => ⟨o, hk0 _ _ h1, h2⟩, fun A E s2 Q hg hu hk0 hQ => ?_⟩
    simp only [PyData.depth] at hu
    simp only [PyData.shown] at hQ
    exact call_tuple_reprK h1 h2 h3 hna hk hg (fun b _ => Clear.nil b) hu hk0 hQ hz2
theorem Shw.dict {a : Addr} {o : Obj} {es : Array DictEntry} {n : Nat} {kvs : List (PyData × PyData)} (hs : (a == sysModules) = false) (h1 : s.heap.get? a = some o) (h2 : o.cls = .type "dict") (h3 : o.data = .dict es n)
    (hk1 : ShwL X s (kvs.map (·.1)) (es.toList.map (·.key))) (hv1 : ShwL X s (kvs.map (·.2)) (es.toList.map (·.val))) (hz : (PyData.dict kvs).shown.length ≤ sizeLine) : Shw X s (.dict kvs) (.ref a) := by
  obtain ⟨⟨as, ra⟩, b1, hb1, k1⟩ := hk1
  obtain ⟨⟨cs, rc⟩, b2, hb2, k2⟩ := hv1
  have r : Reads s.heap (.ref a) (.dict kvs) _ := .dict h1 h2 h3 ra rc
  have hb : ReadAtMost s.heap (PyData.depthKv kvs) (b1 ++ b2) := (hb1.mono (PyData.depthAll_keys_le kvs)).append (hb2.mono (PyData.depthAll_vals_le kvs))
  have hna : a ∉ b1 ++ b2 := not_mem_of_deeper r (by simp only [PyData.depth]; omega) hb
  have hz2 : (dictText (PyData.shownKv kvs)).length ≤ sizeLine := by simpa only [PyData.shown] using hz
  have ke := ReprEntriesK.of_two es.toList _ _ (k1.more_le (fun b hb => List.mem_append_left _ hb) (PyData.depthAll_keys_le kvs)) (k2.more_le (fun b hb => List.mem_append_right _ hb) (PyData.depthAll_vals_le kvs))
  refine ⟨⟨_, r⟩, ⟨a :: (b1 ++ b2), ReadAtMost.cons r (by simp only [PyData.depth]; omega) hb, ?_⟩, fun b e => ?_⟩
  · simp only [PyData.depth, PyData.shown, PyData.shownKv_eq]
    exact ReprK.dict h1 h2 h3 hs hna ke
  · cases e
    refine ⟨"dict", "dict.__repr__", F.slot_dict_repr, F.slot_dict_str, F.slot_dict_format, fun s2 hk0 => ⟨o, hk0 _ _ h1, h2⟩, fun A E s2 Q hg hu hk0 hQ => ?_⟩
    simp only [PyData.depth] at hu
    simp only [PyData.shown, PyData.shownKv_eq] at hQ
    exact call_dict_reprK h1 h2 h3 hs hna ke hg (fun b _ => Clear.nil b) hu hk0 hQ (by rw [← PyData.shownKv_eq]; exact hz2)
theorem shownAll_mem : ∀ {xs : List PyData} {x : PyData}, x ∈ xs → x.shown ∈ PyData.shownAll xs
  | y :: ys, x, h => by
    simp only [PyData.shownAll, List.mem_cons]
    rcases List.mem_cons.mp h with rfl | h
    · exact .inl rfl
    · exact .inr (shownAll_mem h)
mutual
theorem Rp.shw (I : Inv X pins σ H s) : ∀ {n : Nat} {d : D} {v : V} {u : Value}, okS n d = true → Rp X.K X.mh H G d v → RelV v u → (py d).shown.length ≤ sizeLine → Shw X s (py d) u
  | _, .non, _, _, _, .non, r, _ => by cases r; rw [py]; exact .non
  | _, .bl b, _, _, _, .bl _, r, _ => by cases r; rw [py]; exact .bl b
  | _, .int i, _, _, h, .int _, r, _ => by
    obtain ⟨t, rfl⟩ := r
    rw [py]
    simp only [okS, decide_eq_true_eq] at h
    exact .int h
  | _, .str x, _, _, _, .str _, r, hz => by
    obtain ⟨t, rfl⟩ := r
    rw [py] at hz ⊢
    exact .str hz
  | n, .tup xs, _, _, h, .tup (a := a) t rl, r, hz => by
    cases r
    rw [py] at hz ⊢
    simp only [okS, Bool.and_eq_true] at h
    obtain ⟨its, rv, ⟨o, e1, e2, k, e3⟩, _⟩ := I.tuple t.sqT
    have hz2 : (tupleText (PyData.shownAll (pyL xs))).length ≤ sizeLine := by simpa only [PyData.shown] using hz
    exact .tuple e1 e2 e3 (RpL.shw I h.2 rl rv fun t ht => Nat.le_trans (tupleText_mem_le ht) hz2) hz
  | n, .lst xs, _, _, h, .lst (a := a) g t rl, r, hz => by
    cases r
    rw [py] at hz ⊢
    simp only [okS, Bool.and_eq_true] at h
    obtain ⟨its, rv, ⟨o, k, e1, e2, _, e3⟩, _⟩ := I.list (.inl (.inl t))
    have hz2 : (listText (PyData.shownAll (pyL xs))).length ≤ sizeLine := by simpa only [PyData.shown] using hz
    exact .list e1 e2 e3 (RpL.shw I h.2 rl rv fun t ht => Nat.le_trans (listText_mem_le ht) hz2) hz
  | n, .lsk xs, _, _, h, .lsk (a := a) t rl, r, hz => by
    cases r
    rw [py] at hz ⊢
    simp only [okS, Bool.and_eq_true] at h
    obtain ⟨its, rv, ⟨o, k, e1, e2, _, e3⟩, _⟩ := I.list t.sqL
    have hz2 : (listText (PyData.shownAll (pyL xs))).length ≤ sizeLine := by simpa only [PyData.shown] using hz
    exact .list e1 e2 e3 (RpL.shw I h.2 rl rv fun t ht => Nat.le_trans (listText_mem_le ht) hz2) hz
  | n, .tpk xs, _, _, h, .tpk (a := a) t rl, r, hz => by
    cases r
    rw [py] at hz ⊢
    simp only [okS, Bool.and_eq_true] at h
    obtain ⟨its, rv, ⟨o, e1, e2, k, e3⟩, _⟩ := I.tuple t.sqT
    have hz2 : (tupleText (PyData.shownAll (pyL xs))).length ≤ sizeLine := by simpa only [PyData.shown] using hz
    exact .tuple e1 e2 e3 (RpL.shw I h.2 rl rv fun t ht => Nat.le_trans (tupleText_mem_le ht) hz2) hz
  | n, .dct kvs, _, _, h, .dct (a := a) g t rl, r, hz => by
    cases r
    rw [py] at hz ⊢
    simp only [okS, Bool.and_eq_true] at h
    obtain ⟨_, hs, vs, kv, o, es, ep, e1, e2, e3, _, pr, _⟩ := dk_rd I.hok t
    have hz2 : (dictText (PyData.shownKv (pyK kvs))).length ≤ sizeLine := by simpa only [PyData.shown] using hz
    obtain ⟨q1, q2⟩ := RpK.shw I h.2 rl kv pr (fun t ht => let ⟨p, hp, hl⟩ := PyData.shownKv_key_le _ t ht; Nat.le_trans hl (Nat.le_trans (dictText_mem_le hp) hz2)) (fun t ht => let ⟨p, hp, hl⟩ := PyData.shownKv_val_le _ t ht; Nat.le_trans hl (Nat.le_trans (dictText_mem_le hp) hz2))
    exact .dict hs e1 e2.1 e3 q1 q2 hz
  | _, .ty _, _, _, h, .ty _, _, _ => by simp [okS] at h
  | _, .ins _ _, _, _, h, .ins _ _ _ _ _, _, _ => by simp [okS] at h
  | _, .cls _, _, _, h, .cls _, _, _ => by simp [okS] at h
  | _, .ref _, _, _, h, .ref _, _, _ => by simp [okS] at h
theorem RpL.shw (I : Inv X pins σ H s) : ∀ {n : Nat} {ds : List D} {vs : List V} {us : List Value}, okSL n ds = true → RpL X.K X.mh H G ds vs → Vals vs us → (∀ t ∈ PyData.shownAll (pyL ds), t.length ≤ sizeLine) → ShwL X s (pyL ds) us
  | _, _, _, _, _, .nil, r, _ => by cases r; rw [pyL]; exact .nil
  | n, d :: ds, _, _, h, .cons r0 rl, r, hz => by
    cases r with
    | cons r1 r2 =>
      simp only [okSL, Bool.and_eq_true] at h
      rw [pyL] at hz ⊢
      exact .cons (Rp.shw I h.1 r0 r1 (hz _ (by simp only [PyData.shownAll]; exact List.mem_cons_self ..))) (RpL.shw I h.2 rl r2 fun t ht => hz t (by simp only [PyData.shownAll]; exact List.mem_cons_of_mem _ ht))
theorem RpK.shw (I : Inv X pins σ H s) : ∀ {n : Nat} {ds : List (Key × D)} {vs : List (Key × V)} {us : List (Key × Value)} {es : List DictEntry}, okSK n ds = true → RpK X.K X.mh H G ds vs → KV vs us → Pairs (mixKind X.prog X.w) es us →
    (∀ t ∈ PyData.shownAll ((pyK ds).map (·.1)), t.length ≤ sizeLine) → (∀ t ∈ PyData.shownAll ((pyK ds).map (·.2)), t.length ≤ sizeLine) → ShwL X s ((pyK ds).map (·.1)) (es.map (·.key)) ∧ ShwL X s ((pyK ds).map (·.2)) (es.map (·.val))
  | _, _, _, _, _, _, .nil, r, p, _, _ => by
    cases r; cases p
    rw [pyK]
    exact ⟨.nil, .nil⟩
  | n, (k, d) :: ds, _, _, _, h, .cons r0 rl, r, p, hz, hz2 => by
    cases r with
    | cons r1 r2 =>
      cases p with
      | cons p1 p2 p3 =>
        rename_i q qs e es
        simp only [okSK, Bool.and_eq_true] at h
        rw [pyK_map] at hz hz2 ⊢
        rw [List.map_cons] at hz hz2 ⊢
        rw [List.map_cons] at hz hz2
        simp only [PyData.shownAll] at hz hz2
        obtain ⟨g1, g2⟩ := RpK.shw I h.2 rl r2 p3 (fun t ht => hz t (List.mem_cons_of_mem _ (by rw [← pyK_map]; exact ht))) (fun t ht => hz2 t (List.mem_cons_of_mem _ (by rw [← pyK_map]; exact ht)))
        rw [pyK_map] at g1 g2
        rw [← r1.1] at p1
        rw [List.map_cons, List.map_cons, List.map_cons, List.map_cons]
        refine ⟨.cons (.key p1 h.1.1 (hz _ (List.mem_cons_self ..))) g1, .cons (Rp.shw I h.1.2 r0 (by rw [p2]; exact r1.2) (hz2 _ (List.mem_cons_self ..))) g2⟩
end
end
/-- repr(x) -/
def rRepr : RLD := fun ds G Q => match ds with
  | [d] => (okS 60 (rs G d) = true ∧ (py (rs G d)).shown.length ≤ sizeLine) ∧ Q (.str (py (rs G d)).shown) G
  | _ => False
section
variable {X : Cx} {lv : Nat} {cm : Bool}
theorem repr_shw {pins : List (Addr × Obj)} {σ : L2.St} {H : Hp} {s : Shared} {Q : VK} {p : PyData} {u : Value} {W : Value → Shared → Prop} (I : Inv X pins σ H s) (gd : Gd X lv cm) (h : Shw X s p u) (hp : p.depth ≤ 60) (hz : p.shown.length ≤ sizeLine) (hi : ∀ i t, u = .int i t → i.natAbs.log2 < 1920) (q : Q (.str p.shown) H) : wpAny (model X.prog X.w) X.A (call (.builtin "repr") [u]) (EP X pins σ Q) W s := by
  have un := gd.un
  obtain ⟨⟨as, r⟩, _, hT⟩ := h
  have href : ∀ a, u = .ref a → wpAny (model X.prog X.w) X.A (call (.builtin "repr") [u]) (EP X pins σ Q) W s := fun a e => by
    subst e
    obtain ⟨T, idr, S⟩ := hT a rfl
    exact call_repr_slot (by omega) (S.typeIs s fun _ _ e => e) S.slotRepr (S.call X.A.in1 W s _ gd.gu (by show X.A.units + 1 + p.depth < cLine; omega) (fun _ _ e => e) fun h' t tk hk => ⟨_, _, rfl, .str p.shown, H, I.kept hk, ⟨_, rfl⟩, q⟩)
  cases r with
  | none => exact PySem.P.repr_of_none ⟨.str _, H, I.tok _, ⟨_, rfl⟩, by simpa only [PyData.shown] using q⟩
  | bool b => exact PySem.P.repr_of_bool ⟨.str _, H, I.tok _, ⟨_, rfl⟩, by simpa only [PyData.shown] using q⟩
  | int i t => exact PySem.P.repr_of_int (hi i t rfl) ⟨.str _, H, I.tok _, ⟨_, rfl⟩, by simpa only [PyData.shown] using q⟩
  | str x t => exact PySem.P.repr_of_str ⟨.str _, H, I.tok _, ⟨_, rfl⟩, by simpa only [PyData.shown] using q⟩ (by simpa only [PyData.shown] using hz)
  | list _ _ _ _ => exact href _ rfl
  | tuple _ _ _ _ => exact href _ rfl
  | dict _ _ _ _ _ => exact href _ rfl
theorem cd_repr : CallD X lv cm (.builtin "repr") rRepr := by
  intro gd pins s σ H vs us Q I rv ⟨ds, G, R, hg, r0, h, l⟩
  unfold rRepr at h
  split at h
  · rename_i d
    obtain ⟨v, rfl, r⟩ := one_rp r0
    obtain ⟨u, rfl, ru⟩ := vals1 rv
    obtain ⟨⟨h1, h2⟩, h3⟩ := h
    have key : ∀ e : D, okS 60 e = true → (py e).shown.length ≤ sizeLine → (∀ i, e = .int i → i.natAbs.log2 < 1920) → Shw X s (py e) u → (∀ i t, u = .int i t → e = .int i) → R (.str (py e).shown) G → wpAny (model X.prog X.w) X.A (call (.builtin "repr") [u]) (EP X pins σ Q) X.xe s := fun e q1 q2 q3 q4 q5 q6 =>
      repr_shw I gd q4 (okS_depth q1) q2 (fun i t e => q3 i (q5 i t e)) (l _ G H _ q6 (Ext.refl _ _) hg (.str _))
    have fin : ∀ (G2 : DH) (e : D), okS 60 e = true → (py e).shown.length ≤ sizeLine → Rp X.K X.mh H G2 e v → R (.str (py e).shown) G → wpAny (model X.prog X.w) X.A (call (.builtin "repr") [u]) (EP X pins σ Q) X.xe s := fun G2 e q1 q2 q3 q4 => by
      refine key e q1 q2 (fun i e2 => ?_) (q3.shw I q1 ru q2) (fun i t e2 => ?_) q4
      · subst e2
        simpa [okS] using q1
      · subst e2
        cases q3 with
        | int j =>
          obtain ⟨t', e3⟩ := ru
          cases e3; rfl
        | non => cases ru
        | bl b => cases ru
        | str x => obtain ⟨t', e3⟩ := ru; cases e3
        | ty n => simp [okS] at q1
        | cls _ => simp [okS] at q1
        | ins _ _ _ _ _ => simp [okS] at q1
        | exc0 _ => simp [okS] at q1
        | exv _ _ _ _ _ _ _ => simp [okS] at q1
        | exw _ _ _ => simp [okS] at q1
        | exc _ _ _ _ _ => simp [okS] at q1
        | ref _ => simp [okS] at q1
        | tup _ _ => cases ru
        | lst _ _ _ => cases ru
        | lsk _ _ => cases ru
        | tpk _ _ => cases ru
        | dct _ _ _ => cases ru
        | mxd _ _ _ => simp [okS] at q1
    cases r with
    | ref a =>
      unfold rs at h1 h2 h3
      simp only at h1 h2 h3
      cases ea : G a with
      | none => rw [ea] at h1; simp [okS] at h1
      | some o =>
        rw [ea] at h1 h2 h3
        have ob := hg a o ea
        cases (show u = Value.ref a from ru)
        cases ob with
        | lst e2 ra => exact fin (delG G a) _ h1 h2 (.lst delG_same e2 (ra.ext delG_sub.ext)) h3
        | dct e2 ra => exact fin (delG G a) _ h1 h2 (.dct delG_same (.inl e2) (ra.ext delG_sub.ext)) h3
        | ins _ _ _ _ => simp [okS] at h1
        | tb _ => simp [okS] at h1
        | mx _ _ => simp [okS] at h1
    | exv m g hh gd hd n r => simp [rs, okS] at h1
    | exw m g hh => simp [rs, okS] at h1
    | _ => exact fin G _ h1 h2 (by first | assumption | constructor <;> assumption) h3
  · exact h.elim
end
end DL

namespace DL
open L2 PyProof.Rows PySem PySem.Spec

/-! ### 14. dicts -/
def dDct0 : DE := fun _ _ G Q => Q (.dct []) G
def dDctM0 : DE := fun _ _ G Q => ∀ p, G p = none → Q (.ref p) (upG G p (.dct []))
section
variable {X : Cx} {lv : Nat} {cm : Bool} {pos : Pos}
/-- {} with keys of either kind -/
def dMixM0 : DE := fun _ _ G Q => ∀ p, G p = none → Q (.ref p) (upG G p (.mx []))
theorem pd_mixM0 : PD X lv cm (.Dict [] [] pos) dMixM0 := fun gd Wx tk => ⟨fun pins s σ H Q I ⟨W, δ, G, R, hs, hg, ht, lQ, lW⟩ => by
  have hp := I.hok.fresh (Nat.le_refl s.heap.objs.size)
  exact wpAny_Dict_empty ⟨.ref s.heap.objs.size, _, I.laid (a := s.heap.objs.size) (o := mixO (mHash X.prog X.w) s.heap.objs.size { cls := .type "dict", data := .dict #[] } []) (t' := s.toks) (fun _ _ q => Heap.get?_push_of_some _ q) (Nat.le_refl _)
    (mixO_new (beq_eq_false_iff_ne.mpr (Nat.ne_of_gt I.big))), rfl, lQ (.ref s.heap.objs.size) _ _ (.ref s.heap.objs.size) (ht _ (hg.free hp)) (Ext.new hp) (hg.new hp (.mx upd_same .nil)) (.ref _)⟩⟩
theorem pd_dct0 : PD X lv cm (.Dict [] [] pos) dDct0 := fun gd Wx tk => pe_imp pe_dnewK fun σ H Q ⟨W, δ, G, R, hs, hg, ht, lQ, lW⟩ p hp =>
  lQ (.dct []) G (L2.upd H p (.dK [])) (.ref p) ht (Ext.newF hp) (hg.newF hp) (.dct (hg.free hp) (.inl upd_same) .nil)
theorem pd_dctM0 : PD X lv cm (.Dict [] [] pos) dDctM0 := fun gd Wx tk => pe_imp pe_dnewK fun σ H Q ⟨W, δ, G, R, hs, hg, ht, lQ, lW⟩ p hp =>
  lQ (.ref p) _ (L2.upd H p (.dK [])) (.ref p) (ht p (hg.free hp)) (Ext.new hp) (hg.new hp (.dct upd_same .nil)) (.ref p)
end
end DL

namespace DL
open L2 PyProof.Rows PySem PySem.Spec

/-! ### 15. for the laws' side: what the readings come to -/
theorem be_rt {Q : DQ} {E : Exn → DH → Prop} {d : D} {G : DH} (h : Q d G) : (bodyEnds Q E).rt d G := ⟨d, G, Sub.refl _, .same d, h⟩
theorem be_nx {Q : DQ} {E : Exn → DH → Prop} {δ : Sl} {G : DH} (h : Q .non G) : (bodyEnds Q E).nx δ G := ⟨G, Sub.refl _, h⟩
theorem be_ex {Q : DQ} {E : Exn → DH → Prop} {x : Exn} {δ : Sl} {G : DH} (h : E x G) : (bodyEnds Q E).ex x δ G := ⟨G, Sub.refl _, h⟩
theorem sub_new {G : DH} {p : Addr} {o : DO} (h : G p = none) : Sub G (upG G p o) := fun a w e => by
  rw [upG_ne (some_ne e h)]; exact e
theorem delG_upG {G : DH} {p : Addr} {o : DO} (h : G p = none) : delG (upG G p o) p = G := by
  funext b
  by_cases e : b = p
  · rw [e, delG_same, h]
  · rw [delG_ne e, upG_ne e]
theorem lcK_fm {g : DG} {tt : DT} {te : DE} {vs : List Nat} {δ : Sl} {Q : DQ} {xs : List D} {S : DH → Prop} {G1 : DH} (c : D → Bool) (f : D → D) (hl : xs.length < sizeLine) (hS : ∀ G2, Sub G1 G2 → S G2)
    (h : ∀ x ∈ xs, ∀ (G2 : DH) (R : DQ) (R0 : DH → Prop), Sub G1 G2 → (c x = true → R (f x) G2) → (c x = false → R0 G2) → g x W0 (dWipe δ vs) G2 fun δ2 G3 => tt W0 δ2 G3 fun b G4 => if b = true then te W0 δ2 G4 R else R0 G4)
    (q : Q (.lst ((xs.filter c).map f)) G1) : lcK g tt te vs (fun p ys G Q => Q (.lst ys) (delG G p)) δ Q xs S G1 .mk := fun p hp => by
  refine ⟨fun i ys G => ys = ((xs.take i).filter c).map f ∧ G = upG G1 p (.lst ys), ⟨by simp, rfl⟩, fun i x ys G hx hg ⟨e, eG⟩ => ?_, fun ys G hg ⟨e, eG⟩ => ?_⟩
  · subst eG
    have hsub : Sub G1 (upG G1 p (.lst ys)) := sub_new hp
    have hi := (List.getElem?_eq_some_iff.mp hx).1
    have et : xs.take (i + 1) = xs.take i ++ [x] := by rw [List.take_add_one, hx]; rfl
    refine ⟨hS _ hsub, h x (List.mem_of_getElem? hx) _ _ _ hsub (fun hc => ⟨upG_same, ?_, ?_, ?_⟩) fun hc => ⟨upG_same, ?_, rfl⟩⟩
    · rw [e, List.length_map]
      refine Nat.lt_of_le_of_lt (Nat.le_trans (List.length_filter_le _ _) ?_) hl
      rw [List.length_take]; omega
    · rw [et, List.filter_append, List.map_append, ← e, List.filter_cons, if_pos hc]; rfl
    · rw [upG_upG]
    · rw [et, List.filter_append, List.map_append, ← e, List.filter_cons, if_neg (by rw [hc]; exact Bool.false_ne_true)]; simp
  · subst eG
    rw [List.take_length] at e
    refine ⟨hS _ (sub_new hp), ?_⟩
    show Q (.lst ys) (delG (upG G1 p (.lst ys)) p)
    rw [delG_upG hp, e]; exact q
theorem lcK_map {g : DG} {te : DE} {vs : List Nat} {δ : Sl} {Q : DQ} {xs : List D} {S : DH → Prop} {G1 : DH} (f : D → D) (hl : xs.length < sizeLine) (hS : ∀ G2, Sub G1 G2 → S G2)
    (h : ∀ x ∈ xs, ∀ (G2 : DH) (R : DQ), Sub G1 G2 → R (f x) G2 → g x W0 (dWipe δ vs) G2 fun δ2 G3 => te W0 δ2 G3 R)
    (q : Q (.lst (xs.map f)) G1) : lcK g dYes te vs (fun p ys G Q => Q (.lst ys) (delG G p)) δ Q xs S G1 .mk :=
  lcK_fm (fun _ => true) f hl hS (fun x hx G2 R R0 hs h1 _ => h x hx G2 R hs (h1 rfl)) (by rw [List.filter_eq_self.mpr fun _ _ => rfl]; exact q)
/-! sizes -/
def Bd (n : Nat) (i : Int) : Prop := i.natAbs < 2 ^ n
theorem Bd.mono {n m : Nat} {i : Int} (h : Bd n i) (hm : n ≤ m) : Bd m i := Nat.lt_of_lt_of_le h (Nat.pow_le_pow_right (by decide) hm)
theorem Bd.mul {n m : Nat} {i j : Int} (h : Bd n i) (k : Bd m j) : Bd (n + m) (i * j) := by
  unfold Bd at *
  rw [Int.natAbs_mul, Nat.pow_add]
  exact Nat.mul_lt_mul'' h k
theorem Bd.add {n : Nat} {i j : Int} (h : Bd n i) (k : Bd n j) : Bd (n + 1) (i + j) := by
  unfold Bd at *
  have := Int.natAbs_add_le i j
  rw [Nat.pow_succ]; omega
theorem Bd.neg {n : Nat} {i : Int} (h : Bd n i) : Bd n (-i) := by
  unfold Bd at *; rw [Int.natAbs_neg]; exact h
theorem Bd.sub {n : Nat} {i j : Int} (h : Bd n i) (k : Bd n j) : Bd (n + 1) (i - j) := by
  rw [Int.sub_eq_add_neg]; exact h.add k.neg
theorem Bd.log2 {n : Nat} {i : Int} (h : Bd n i) (hn : 0 < n) : i.natAbs.log2 < n := by
  by_cases e : i.natAbs = 0
  · rw [e]; exact hn
  · exact (Nat.log2_lt e).mpr h
theorem Bd.mulOk {n m : Nat} {i j : Int} (h : Bd n i) (k : Bd m j) (hn : 0 < n ∧ 0 < m ∧ n + m ≤ 1000000) : MulOk i j := by
  have h1 := h.log2 hn.1
  have h2 := k.log2 hn.2.1
  unfold MulOk
  omega
theorem Bd.of_le {n : Nat} {i j : Int} (h : Bd n j) (e : i.natAbs ≤ j.natAbs) : Bd n i := Nat.lt_of_le_of_lt e h
theorem Bd.lit {n : Nat} {i : Int} (h : i.natAbs < 2 ^ n := by decide) : Bd n i := h
theorem Bd.range {n : Nat} {i : Int} (h : 0 ≤ i) (k : i < 2 ^ n) : Bd n i := by
  unfold Bd
  have : ((2 ^ n : Nat) : Int) = (2 : Int) ^ n := by push_cast; rfl
  omega
/-! what is plain -/
theorem rs_okS {n : Nat} {d : D} {G : DH} (h : okS n d = true) : rs G d = d := by
  cases d with
  | ref a => simp [okS] at h
  | _ => rfl
theorem okS_ty {n : Nat} {d : D} (h : okS n d = true) : ∃ T, tyD d = some T := by
  cases d with
  | ref a => simp [okS] at h
  | ty a => simp [okS] at h
  | ins a b => simp [okS] at h
  | mxd a => simp [okS] at h
  | exv a b => simp [okS] at h
  | cls a => simp [okS] at h
  | exc a b c d => simp [okS] at h
  | _ => exact ⟨_, rfl⟩
/-! small facts for the readings -/
section
variable {G : DH}
theorem rs_non : rs G .non = .non := rfl
theorem rs_bl {b : Bool} : rs G (.bl b) = .bl b := rfl
theorem rs_i {i : Int} : rs G (.int i) = .int i := rfl
theorem rs_s {x : Str} : rs G (.str x) = .str x := rfl
theorem rs_ty {x : String} : rs G (.ty x) = .ty x := rfl
theorem rs_t {xs : List D} : rs G (.tup xs) = .tup xs := rfl
theorem rs_l {xs : List D} : rs G (.lst xs) = .lst xs := rfl
theorem rs_k {xs : List D} : rs G (.lsk xs) = .lsk xs := rfl
theorem rs_d {xs : List (Key × D)} : rs G (.dct xs) = .dct xs := rfl
theorem rs_x {xs : List (MKey × D)} : rs G (.mxd xs) = .mxd xs := rfl
theorem rs_xv {c : CI} {xs : List D} : rs G (.exv c xs) = .exv c xs := rfl
theorem rs_in {c : CI} {xs : List D} : rs G (.ins c xs) = .ins c xs := rfl
theorem rs_c {c : CI} : rs G (.cls c) = .cls c := rfl
theorem rs_rl {a : Addr} {xs : List D} (h : G a = some (.lst xs)) : rs G (.ref a) = .lst xs := by unfold rs; simp only [h]
theorem rs_rd {a : Addr} {xs : List (Key × D)} (h : G a = some (.dct xs)) : rs G (.ref a) = .dct xs := by unfold rs; simp only [h]
theorem rs_rx {a : Addr} {xs : List (MKey × D)} (h : G a = some (.mx xs)) : rs G (.ref a) = .mxd xs := by unfold rs; simp only [h]
theorem rs_ri {a : Addr} {c : CI} {xs : List D} (h : G a = some (.ins c xs)) : rs G (.ref a) = .ins c xs := by unfold rs; simp only [h]
theorem rs_upl {a : Addr} {xs : List D} : rs (upG G a (.lst xs)) (.ref a) = .lst xs := rs_rl upG_same
theorem rs_upd {a : Addr} {xs : List (Key × D)} : rs (upG G a (.dct xs)) (.ref a) = .dct xs := rs_rd upG_same
theorem rs_upx {a : Addr} {xs : List (MKey × D)} : rs (upG G a (.mx xs)) (.ref a) = .mxd xs := rs_rx upG_same
theorem rs_upi {a : Addr} {c : CI} {xs : List D} : rs (upG G a (.ins c xs)) (.ref a) = .ins c xs := rs_ri upG_same
theorem okN_int {n : Nat} {i : Int} : okN n (.int i) = true := by simp [okN]
theorem okN_bl {n : Nat} {i : Bool} : okN n (.bl i) = true := by simp [okN]
theorem okN_non {n : Nat} : okN n .non = true := by simp [okN]
theorem okN_str {n : Nat} {x : Str} : okN n (.str x) = PyData.strOk x := by simp [okN]
theorem deq_int {i j : Int} : deq (.int i) (.int j) = decide (i = j) := by simp only [deq, py, PyData.eqv]; rfl
theorem deq_bl {i j : Bool} : deq (.bl i) (.bl j) = decide (i = j) := by cases i <;> cases j <;> simp [deq, py, PyData.eqv]
theorem deq_str {i j : Str} : deq (.str i) (.str j) = decide (i = j) := by
  simp only [deq, py, PyData.eqv]
  by_cases h : i = j
  · subst h; simp
  · rw [decide_eq_false h]; exact beq_eq_false_iff_ne.mpr h
theorem isT_NoneType_bool : isT "NoneType" "bool" = false := by decide
theorem isT_NoneType_int : isT "NoneType" "int" = false := by decide
theorem isT_NoneType_str : isT "NoneType" "str" = false := by decide
theorem isT_NoneType_tuple : isT "NoneType" "tuple" = false := by decide
theorem isT_NoneType_list : isT "NoneType" "list" = false := by decide
theorem isT_NoneType_dict : isT "NoneType" "dict" = false := by decide
theorem isT_bool_bool : isT "bool" "bool" = true := by decide
theorem isT_bool_int : isT "bool" "int" = true := by decide
theorem isT_bool_str : isT "bool" "str" = false := by decide
theorem isT_bool_tuple : isT "bool" "tuple" = false := by decide
theorem isT_bool_list : isT "bool" "list" = false := by decide
theorem isT_bool_dict : isT "bool" "dict" = false := by decide
theorem isT_int_bool : isT "int" "bool" = false := by decide
theorem isT_int_int : isT "int" "int" = true := by decide
theorem isT_int_str : isT "int" "str" = false := by decide
theorem isT_int_tuple : isT "int" "tuple" = false := by decide
theorem isT_int_list : isT "int" "list" = false := by decide
theorem isT_int_dict : isT "int" "dict" = false := by decide
theorem isT_str_bool : isT "str" "bool" = false := by decide
theorem isT_str_int : isT "str" "int" = false := by decide
theorem isT_str_str : isT "str" "str" = true := by decide
theorem isT_str_tuple : isT "str" "tuple" = false := by decide
theorem isT_str_list : isT "str" "list" = false := by decide
theorem isT_str_dict : isT "str" "dict" = false := by decide
theorem isT_tuple_bool : isT "tuple" "bool" = false := by decide
theorem isT_tuple_int : isT "tuple" "int" = false := by decide
theorem isT_tuple_str : isT "tuple" "str" = false := by decide
theorem isT_tuple_tuple : isT "tuple" "tuple" = true := by decide
theorem isT_tuple_list : isT "tuple" "list" = false := by decide
theorem isT_tuple_dict : isT "tuple" "dict" = false := by decide
theorem isT_list_bool : isT "list" "bool" = false := by decide
theorem isT_list_int : isT "list" "int" = false := by decide
theorem isT_list_str : isT "list" "str" = false := by decide
theorem isT_list_tuple : isT "list" "tuple" = false := by decide
theorem isT_list_list : isT "list" "list" = true := by decide
theorem isT_list_dict : isT "list" "dict" = false := by decide
theorem isT_dict_bool : isT "dict" "bool" = false := by decide
theorem isT_dict_int : isT "dict" "int" = false := by decide
theorem isT_dict_str : isT "dict" "str" = false := by decide
theorem isT_dict_tuple : isT "dict" "tuple" = false := by decide
theorem isT_dict_list : isT "dict" "list" = false := by decide
theorem isT_dict_dict : isT "dict" "dict" = true := by decide
theorem deq_ii {a b c d : Int} : deq (.tup [.int a, .int b]) (.tup [.int c, .int d]) = (decide (a = c) && decide (b = d)) := by
  simp only [deq, py, pyL, PyData.eqv, PyData.eqvAll, Bool.and_true]; rfl
theorem okN_ii {a b : Int} : okN 60 (.tup [.int a, .int b]) = true := by simp [okN, okNL]
theorem tysB_bool : tysB.contains "bool" = true := by decide
theorem tysB_int : tysB.contains "int" = true := by decide
theorem tysB_str : tysB.contains "str" = true := by decide
theorem tysB_tuple : tysB.contains "tuple" = true := by decide
theorem tysB_list : tysB.contains "list" = true := by decide
theorem tysB_dict : tysB.contains "dict" = true := by decide
end
/-! places -/
section
variable {α : Type} {a b c d : α} {xs : List α}
theorem ixN_nat (n i : Nat) : ixN n (i : Int) = if i < n then some i else none := by
  unfold ixN
  rw [if_pos (by omega)]
  by_cases h : i < n
  · rw [if_pos h, if_pos (by omega)]; simp
  · rw [if_neg h, if_neg (by omega)]
theorem atI_nat (i : Nat) : atI xs (i : Int) = xs[i]? := by
  unfold atI
  rw [ixN_nat]
  by_cases h : i < xs.length
  · rw [if_pos h]; rfl
  · rw [if_neg h, List.getElem?_eq_none (by omega)]; rfl
theorem atI_0 : atI (a :: xs) 0 = some a := atI_nat 0
theorem atI_1 : atI (a :: b :: xs) 1 = some b := atI_nat 1
theorem atI_2 : atI (a :: b :: c :: xs) 2 = some c := atI_nat 2
theorem atI_3 : atI (a :: b :: c :: d :: xs) 3 = some d := atI_nat 3
theorem atI_4 {a0 a1 a2 a3 a4 : α} : atI (a0 :: a1 :: a2 :: a3 :: a4 :: xs) 4 = some a4 := atI_nat 4
theorem atI_5 {a0 a1 a2 a3 a4 a5 : α} : atI (a0 :: a1 :: a2 :: a3 :: a4 :: a5 :: xs) 5 = some a5 := atI_nat 5
theorem atI_6 {a0 a1 a2 a3 a4 a5 a6 : α} : atI (a0 :: a1 :: a2 :: a3 :: a4 :: a5 :: a6 :: xs) 6 = some a6 := atI_nat 6
theorem atI_7 {a0 a1 a2 a3 a4 a5 a6 a7 : α} : atI (a0 :: a1 :: a2 :: a3 :: a4 :: a5 :: a6 :: a7 :: xs) 7 = some a7 := atI_nat 7
theorem atI_8 {a0 a1 a2 a3 a4 a5 a6 a7 a8 : α} : atI (a0 :: a1 :: a2 :: a3 :: a4 :: a5 :: a6 :: a7 :: a8 :: xs) 8 = some a8 := atI_nat 8
theorem atI_9 {a0 a1 a2 a3 a4 a5 a6 a7 a8 a9 : α} : atI (a0 :: a1 :: a2 :: a3 :: a4 :: a5 :: a6 :: a7 :: a8 :: a9 :: xs) 9 = some a9 := atI_nat 9
theorem atI_10 {a0 a1 a2 a3 a4 a5 a6 a7 a8 a9 a10 : α} : atI (a0 :: a1 :: a2 :: a3 :: a4 :: a5 :: a6 :: a7 :: a8 :: a9 :: a10 :: xs) 10 = some a10 := atI_nat 10
theorem atI_11 {a0 a1 a2 a3 a4 a5 a6 a7 a8 a9 a10 a11 : α} : atI (a0 :: a1 :: a2 :: a3 :: a4 :: a5 :: a6 :: a7 :: a8 :: a9 :: a10 :: a11 :: xs) 11 = some a11 := atI_nat 11
theorem atI_12 {a0 a1 a2 a3 a4 a5 a6 a7 a8 a9 a10 a11 a12 : α} : atI (a0 :: a1 :: a2 :: a3 :: a4 :: a5 :: a6 :: a7 :: a8 :: a9 :: a10 :: a11 :: a12 :: xs) 12 = some a12 := atI_nat 12
theorem atI_m1 : atI (xs ++ [a]) (-1) = some a := by
  unfold atI ixN
  rw [if_neg (by decide), if_pos (by rw [List.length_append]; simp; omega)]
  have e : (-1 + (((xs ++ [a]).length : Nat) : Int)).toNat = xs.length := by rw [List.length_append, List.length_singleton]; omega
  show (xs ++ [a])[(-1 + (((xs ++ [a]).length : Nat) : Int)).toNat]? = some a
  rw [e, List.getElem?_append_right (Nat.le_refl _)]
  simp
theorem atI_of {i : Int} (h : 0 ≤ i) (k : i < xs.length) : ∃ x ∈ xs, atI xs i = some x := by
  obtain ⟨n, rfl⟩ := Int.eq_ofNat_of_zero_le h
  have hn : n < xs.length := by omega
  exact ⟨xs[n], List.getElem_mem hn, by rw [atI_nat]; exact List.getElem?_eq_getElem hn⟩
theorem at_ints {ns : List Int} {i : Int} (h : 0 ≤ i) (k : i < ns.length) : ∃ z ∈ ns, atI (ns.map D.int) i = some (.int z) := by
  obtain ⟨n, rfl⟩ := Int.eq_ofNat_of_zero_le h
  have hn : n < ns.length := by omega
  exact ⟨ns[n], List.getElem_mem hn, by rw [atI_nat, List.getElem?_map, List.getElem?_eq_getElem hn]; rfl⟩
theorem ixN_0 {n : Nat} : ixN (n + 1) 0 = some 0 := by
  rw [show (0 : Int) = ((0 : Nat) : Int) from rfl, ixN_nat, if_pos (by omega)]
theorem ixN_1 {n : Nat} : ixN (n + 2) 1 = some 1 := by
  rw [show (1 : Int) = ((1 : Nat) : Int) from rfl, ixN_nat, if_pos (by omega)]
end
end DL

namespace DL
open L2 PyProof.Rows PySem PySem.Spec

/-! ### 16. what is never reached -/
def dNo : DE := fun _ _ _ _ => False
def dNoS : DS := fun _ _ _ => False
section
variable {X : Cx} {lv : Nat} {cm : Bool}
theorem pd_no {e : Expr} : PD X lv cm e dNo := fun gd Wx tk => ⟨fun pins s σ H Q I ⟨W, δ, G, R, hs, hg, ht, lQ, lW⟩ => ht.elim⟩
theorem pds_no {st : Stmt} : PDS X lv cm st dNoS := fun gd Wx tk => ⟨fun pins s σ H D I ⟨DD, δ, G, hs, hg, ht, _⟩ => ht.elim⟩
end
/-! ### 17. fields -/
theorem zip_lookup {K : PySem.W.Frag} {mg : MG} {H : Hp} {G : DH} {f : Str} {d : D} : ∀ {ks : List Str} {fs : List (Str × V)} {ds : List D}, fs.map (·.1) = ks.take ds.length → RpL K mg H G ds (fs.map (·.2)) → (ks.zip ds).lookup f = some d → ∃ v, fs.lookup f = some v ∧ Rp K mg H G d v
  | [], _, _, _, _, h => by cases h
  | _ :: _, _, [], _, _, h => by cases h
  | k :: ks, [], d :: ds, e, _, _ => by cases e
  | k :: ks, (g, v) :: fs, d' :: ds, e, r, h => by
    cases r with
    | cons r0 rr =>
      simp only [List.map_cons, List.length_cons, List.take_succ_cons, List.cons.injEq] at e
      obtain ⟨rfl, e⟩ := e
      rw [List.zip_cons_cons, List.lookup_cons] at h
      rw [List.lookup_cons]
      cases hb : (f == g) with
      | true =>
        rw [hb] at h
        cases h
        exact ⟨v, rfl, r0⟩
      | false =>
        rw [hb] at h
        exact zip_lookup e rr h
/-- a field is put -/
def putD : List Str → List D → Str → D → Option (List D)
  | k :: ks, d :: ds, f, y => if k = f then some (y :: ds) else (putD ks ds f y).map (d :: ·)
  | k :: _, [], f, y => if k = f then some [y] else none
  | [], _, _, _ => none
theorem putD_put {K : PySem.W.Frag} {mg : MG} {H : Hp} {G : DH} {f : Str} {y : D} {v : V} (ry : Rp K mg H G y v) : ∀ {ks : List Str} {fs : List (Str × V)} {ds ds' : List D}, fs.map (·.1) = ks.take ds.length → RpL K mg H G ds (fs.map (·.2)) → putD ks ds f y = some ds' →
    (putF f v fs).map (·.1) = ks.take ds'.length ∧ RpL K mg H G ds' ((putF f v fs).map (·.2))
  | [], _, [], _, _, _, h => by simp [putD] at h
  | [], _, _ :: _, _, _, _, h => by simp [putD] at h
  | k :: ks, fs, [], ds', e, r, h => by
    simp only [putD] at h
    split at h
    · rename_i ek
      cases h
      cases fs with
      | nil => exact ⟨by simp [putF, ek], .cons ry .nil⟩
      | cons p q => simp at e
    · cases h
  | k :: ks, [], d :: ds, ds', e, r, h => by cases e
  | k :: ks, (g, x) :: fs, d :: ds, ds', e, r, h => by
    cases r with
    | cons r0 rr =>
      simp only [List.map_cons, List.length_cons, List.take_succ_cons, List.cons.injEq] at e
      obtain ⟨rfl, e⟩ := e
      simp only [putD] at h
      unfold putF
      by_cases ek : g = f
      · rw [if_pos ek] at h ⊢
        cases h
        exact ⟨by simp [e], .cons ry rr⟩
      · rw [if_neg ek] at h ⊢
        cases hp : putD ks ds f y with
        | none => rw [hp] at h; cases h
        | some ds2 =>
          rw [hp] at h
          cases h
          obtain ⟨h1, h2⟩ := putD_put ry e rr hp
          exact ⟨by simp [h1], .cons r0 h2⟩
/-- a class of the text: plain instances -/
structure ClsOk (X : Cx) (n : Str) (fl : List Str) : Prop where
  ex : ∃ C : Addr, X.mg n = some (.ref C) ∧ Cls X.K C ∧ ∀ f ∈ fl, NoAttr X.K C f
/-- x.f of an instance of the class n -/
def rFld (n f : Str) : R1D := fun x G Q => match rs G x with
  | .ins c fs => (c.nm = n ∧ f ∈ c.fl) ∧ (match (c.fl.zip fs).lookup f with
    | some d => Q d G
    | none => False)
  | _ => False
section
variable {X : Cx} {lv : Nat} {cm : Bool} {pos pos' : Pos}
theorem rs_ins {H : Hp} {G : DH} {d : D} {v : V} {c : CI} {ds : List D} (hg : HpOk X.K X.mh H G) (r : Rp X.K X.mh H G d v) (h : rs G d = .ins c ds) : ∃ a C dx fs, v = .ref a ∧ X.mg c.nm = some (.ref C) ∧ H a = some (.ins C dx fs) ∧ fs.map (·.1) = c.fl.take ds.length ∧ RpL X.K X.mh H G ds (fs.map (·.2)) := by
  cases r with
  | ins m g e n ra =>
    cases h
    refine ⟨_, _, _, _, rfl, m, e, ?_, ra⟩
    rw [n, ra.length, List.length_map, ← List.length_map (f := (·.1)), n, List.take_length]
  | ref a =>
    unfold rs at h
    cases ea : G a with
    | none => simp only [ea] at h; cases h
    | some o =>
      simp only [ea] at h
      have ob := hg a o ea
      cases ob with
      | tb _ => cases h
      | mx _ _ => cases h
      | ins m e n ra => cases h; exact ⟨_, _, _, _, rfl, m, e, n, ra⟩
      | lst _ _ => cases h
      | dct _ _ => cases h
  | _ => cases h
theorem pd_fld {n f : Str} {fl : List Str} {e : Expr} {t : DE} (T : ClsOk X n fl) (hf : f ∈ fl) (he : PD X lv cm e t) (hb : attributeBase e f X.env (eval e X.env) = eval e X.env := by rfl) : PD X lv cm (.Attribute e f pos) (dUn (rFld n f) t) := fun gd Wx tk =>
  pe_imp (pe_fld (he gd Wx tk) hb) fun σ H Q ⟨W, δ, G, R, hs, hg, ht, lQ, lW⟩ => ⟨W, δ, G, _, hs, hg, ht, fun d G1 H1 v h1 e1 g1 r1 => by
    obtain ⟨C', mC, cC, nC⟩ := T.ex
    unfold rFld at h1
    cases er : rs G1 d with
    | ins c fs =>
      rw [er] at h1
      simp only at h1
      obtain ⟨⟨en, hfl⟩, h1⟩ := h1
      obtain ⟨a, C, dx, fv, rfl, m, ea, ek, ra⟩ := rs_ins g1 r1 er
      rw [en, mC] at m
      cases m
      cases el : (c.fl.zip fs).lookup f with
      | none => rw [el] at h1; exact h1.elim
      | some dd =>
        rw [el] at h1
        obtain ⟨v, hv, rv⟩ := zip_lookup ek ra el
        exact ⟨a, _, dx, fv, v, rfl, ea, cC, nC f hf, hv, lQ dd G1 H1 v h1 e1 g1 rv⟩
    | _ => rw [er] at h1; exact h1.elim, lW⟩
/-- o.f = e: the value first -/
def dPutF (n f : Str) (to te : DE) : DS := fun D δ G => te D.ex δ G fun y G1 => to D.ex δ G1 fun x G2 => match x with
  | .ref a => match G2 a with
    | some (.ins c fs) => (c.nm = n ∧ fs.length < 1000) ∧ (match putD c.fl fs f y with
      | some fs' => D.nx δ (upG G2 a (.ins c fs'))
      | none => False)
    | _ => False
  | _ => False
theorem pds_putF {n f : Str} {fl : List Str} {o e : Expr} {to te : DE} (T : ClsOk X n fl) (hf : f ∈ fl) (ho : PD X lv cm o to) (he : PD X lv cm e te) (hsw : swapsWith e (some (.Attribute o f pos')) pos.line X.env = pure false := by rfl) : PDS X lv cm (.Assign [.Attribute o f pos'] e pos) (dPutF n f to te) := fun gd Wx tk =>
  ps_imp (ps_fld (ho gd Wx tk) (he gd Wx tk) hsw) fun D σ H ⟨DD, δ, G, hs, hg, ht, l1, l2, l3, l4, l5⟩ =>
    ⟨DD.ex, δ, G, _, hs, hg, ht, fun y G1 H1 v h1 e1 g1 r1 => ⟨DD.ex, δ, G1, _, hs.ext e1, g1, h1, fun x G2 H2 v2 h2 e2 g2 r2 => by
      obtain ⟨C', mC, cC, nC⟩ := T.ex
      cases r2 with
      | ref a =>
        simp only at h2
        cases ea : G2 a with
        | none => simp only [ea] at h2
        | some w =>
          simp only [ea] at h2
          have ob := g2 a w ea
          cases ob with
          | tb _ => exact h2.elim
          | mx _ _ => exact h2.elim
          | ins m e3 n3 ra =>
            simp only at h2
            rename_i c C dx fs ds
            obtain ⟨⟨en, hl⟩, h2⟩ := h2
            have m0 := m
            rw [en, show X.mh.g n = _ from mC] at m
            cases m
            cases ep : putD c.fl ds f y with
            | none => rw [ep] at h2; exact h2.elim
            | some ds' =>
              rw [ep] at h2
              obtain ⟨q1, q2⟩ := putD_put (r1.ext e2) n3 ra ep
              have ext := Ext.write (H := H2) (o := .ins c ds') (u := .ins C' dx (putF f v fs)) ea
              have hlen : fs.length < 1000 := by
                have := ra.length
                rw [List.length_map] at this
                omega
              exact ⟨a, C', dx, fs, rfl, e3, cC, nC f hf, hlen, l1 δ _ σ _ h2 ((e1.trans e2).trans ext) (hs.ext ((e1.trans e2).trans ext)) (g2.upd ext (.ins m0 upd_same q1 (q2.ext ext)))⟩
          | lst _ _ => exact h2.elim
          | dct _ _ => exact h2.elim
      | _ => exact h2.elim, fun ex δ2 G2 σ2 H2 cls dd hh e2 => l5 ex δ2 G2 σ2 H2 cls dd hh (e1.trans e2)⟩, l5⟩
end
/-! ### 18. methods -/
/-- a method of a class of the text -/
structure HasM (P : Program) (w : World) (K : PySem.W.Frag) (mg : Str → Option Value) (base : Heap) (n m : Str) (k : Nat) (ps : List Str) (sp : DSp) : Prop where
  ex : ∃ (C f : Addr) (fd : FuncData), mg n = some (.ref C) ∧ Cls K C ∧ Meth K C m f ∧ Binds K fd ps [] ∧ FnG P w K mg base k f fd ps (upSp K (mhOf P w mg) sp)
abbrev HasMX (X : Cx) (n m : Str) (k : Nat) (ps : List Str) (sp : DSp) : Prop := HasM X.prog X.w X.K X.mg X.base n m k ps sp
def dMeth (n m : Str) (sp : DSp) (to : DE) (t : DA) : DE := fun W δ G Q => to W δ G fun x G1 => match rs G1 x with
  | .ins c _ => (c.nm = n ∧ m ∉ c.fl) ∧ t W δ G1 fun ds G2 => Ap sp (x :: ds) G2 Q (fun y G3 => W y δ G3) .mk
  | _ => False
theorem lookup_none_of {m : Str} : ∀ {fs : List (Str × V)}, m ∉ fs.map (·.1) → fs.lookup m = none
  | [], _ => rfl
  | (k, v) :: fs, h => by
    rw [List.map_cons, List.mem_cons, not_or] at h
    rw [List.lookup_cons, beq_eq_false_iff_ne.mpr h.1]
    exact lookup_none_of h.2
section
variable {X : Cx} {lv k : Nat} {n m : Str} {ps : List Str} {sp : DSp} {o e : Expr} {es : List Expr} {to : DE} {t : DA} {apos pos : Pos}
theorem pd_meth {pl : Sem Bool} (M : HasMX X n m k ps sp) (hk : k ≤ lv) (ho : PD X lv true o to) (ha : PDA X lv true (e :: es) t)
    (hst : starEach (e :: es) X.env = (false, eval e X.env) :: starEach es X.env := by rfl) (hpl : (backTo pos (starEach es X.env)).any (·.1) = false := by rfl)
    (ht : eval (.Call (.Attribute o m apos) (e :: es) [] pos) X.env = (do
      let ov ← eval o X.env
      standAt apos.atName
      let (f, first) ← holding [ov] (getMethod ov m pl)
      callWith pos f first (backTo pos (starEach (e :: es) X.env)) (backToKw pos (keywordEach [] X.env))) := by rfl) :
    PD X lv true (.Call (.Attribute o m apos) (e :: es) [] pos) (dMeth n m sp to t) := fun gd Wx tk => by
  obtain ⟨C, f, fd, mC, cC, hm, hb, F⟩ := M.ex
  refine ⟨fun pins s σ H Q I ⟨W, δ, G, R, hs, hgo, h, lQ, lW⟩ => ?_⟩
  refine PySem.W.methodCall_KW (pl := pl) (thn ((ho gd Wx tk).run pins s σ H (fun x H1 => ∃ d G1, Ext H G H1 G1 ∧ HpOk X.K X.mh H1 G1 ∧ Rp X.K X.mh H1 G1 d x ∧ (match rs G1 d with
    | .ins c _ => (c.nm = n ∧ m ∉ c.fl) ∧ t W δ G1 fun ds G2 => Ap sp (d :: ds) G2 R (fun y G3 => W y δ G3) .mk
    | _ => False)) I ⟨W, δ, G, _, hs, hgo, h, fun d G1 H1 v h1 e1 g1 r1 => ⟨d, G1, e1, g1, r1, h1⟩, lW⟩) fun u s1 ⟨x, H1, I1, rx, d, G1, e1, g1, r1, h1⟩ => ?_) ht
  cases er : rs G1 d with
  | ins c fs =>
    rw [er] at h1
    obtain ⟨⟨en, hnm⟩, h1⟩ := h1
    obtain ⟨a, C', dx, fv, rfl, m', ea, ek, ra⟩ := rs_ins g1 r1 er
    rw [en, mC] at m'
    cases m'
    obtain rfl : u = Value.ref a := rx
    refine getmeth_ok I1 ea cC hm (lookup_none_of (by rw [ek]; exact fun z => hnm (List.mem_of_mem_take z))) ?_
    refine PySem.W.callWith_K (first := [.ref a]) (h₀ := X.base) I.ok.mod.kin hm.kp (thn ((ha gd Wx tk).run pos pins s1 σ H1 (fun vs H2 => upSp X.K X.mh sp (.ref a :: vs) H2 Q (fun cls dd H' => Wx cls dd σ H')) I1 ⟨W, δ, G1, _, hs.ext e1, g1, h1, fun ds G2 H2 vs h2 e2 g2 r2 =>
      up_sp ((hs.ext e1).ext e2) g2 (.cons (r1.ext e2) r2) h2 (fun d G' H' v hd e3 => lQ d G' H' v hd ((e1.trans e2).trans e3)) (fun ex δ' G' σ' H' cls dd hw e3 => lW ex δ' G' σ' H' cls dd hw ((e1.trans e2).trans e3)),
      fun ex δ' G' σ' H' cls dd hw e2 => lW ex δ' G' σ' H' cls dd hw (e1.trans e2)⟩) fun us s2 ⟨vs, H2, I2, r, q2⟩ => ⟨I2.kIn, ?_⟩) hst hpl
    exact run_fnG (us := .ref a :: us) (vs := .ref a :: vs) (ds := []) (dvs := []) F gd hk tk hb .nil I2 (.cons rfl r) (by rw [List.append_nil]; exact q2)
  | _ => rw [er] at h1; exact h1.elim
theorem pd_meth0 {pl : Sem Bool} (M : HasMX X n m k ps sp) (hk : k ≤ lv) (ho : PD X lv true o to)
    (ht : eval (.Call (.Attribute o m apos) [] [] pos) X.env = (do
      let ov ← eval o X.env
      standAt apos.atName
      let (f, first) ← holding [ov] (getMethod ov m pl)
      callWith pos f first (backTo pos (starEach [] X.env)) (backToKw pos (keywordEach [] X.env))) := by rfl) :
    PD X lv true (.Call (.Attribute o m apos) [] [] pos) (dMeth n m sp to dNil) := fun gd Wx tk => by
  obtain ⟨C, f, fd, mC, cC, hm, hb, F⟩ := M.ex
  refine ⟨fun pins s σ H Q I ⟨W, δ, G, R, hs, hgo, h, lQ, lW⟩ => ?_⟩
  refine PySem.W.methodCall_KW (pl := pl) (thn ((ho gd Wx tk).run pins s σ H (fun x H1 => ∃ d G1, Ext H G H1 G1 ∧ HpOk X.K X.mh H1 G1 ∧ Rp X.K X.mh H1 G1 d x ∧ (match rs G1 d with
    | .ins c _ => (c.nm = n ∧ m ∉ c.fl) ∧ dNil W δ G1 fun ds G2 => Ap sp (d :: ds) G2 R (fun y G3 => W y δ G3) .mk
    | _ => False)) I ⟨W, δ, G, _, hs, hgo, h, fun d G1 H1 v h1 e1 g1 r1 => ⟨d, G1, e1, g1, r1, h1⟩, lW⟩) fun u s1 ⟨x, H1, I1, rx, d, G1, e1, g1, r1, h1⟩ => ?_) ht
  cases er : rs G1 d with
  | ins c fs =>
    rw [er] at h1
    obtain ⟨⟨en, hnm⟩, h1⟩ := h1
    obtain ⟨a, C', dx, fv, rfl, m', ea, ek, ra⟩ := rs_ins g1 r1 er
    rw [en, mC] at m'
    cases m'
    obtain rfl : u = Value.ref a := rx
    refine getmeth_ok I1 ea cC hm (lookup_none_of (by rw [ek]; exact fun z => hnm (List.mem_of_mem_take z))) ?_
    exact PySem.W.callWith_K0 (first := [.ref a]) I1.kIn hm.kp (run_fnG (us := [.ref a]) (vs := [.ref a]) (ds := []) (dvs := []) F gd hk tk hb .nil I1 (.cons rfl .nil)
      (up_sp (hs.ext e1) g1 (.cons r1 .nil) h1 (fun d G' H' v hd e3 => lQ d G' H' v hd (e1.trans e3)) (fun ex δ' G' σ' H' cls dd hw e3 => lW ex δ' G' σ' H' cls dd hw (e1.trans e3))))
  | _ => rw [er] at h1; exact h1.elim
end
end DL

namespace DL
open L2 PyProof.Rows PySem PySem.Spec

/-! ### 19. a new instance -/
theorem make_guards {A : Around} {C : Addr} {us : List Value} {kw : List (Str × Value)} (h : A.guards = some []) : (A.under (.builtin "type.__call__" ⟨.ref C :: us, kw⟩)).guards = some [] := by
  simp [Around.under, Code.guards, Code.isGuard, guardIds, pushGuards, h]
/-- how a call binds, over trees: np values by place, the keywords ks; gD puts them in the parameters' order -/
structure KBD (K : PySem.W.Frag) (mg : MG) (fd : FuncData) (ps : List Str) (np : Nat) (ks : List Str) (gD : List D → List D → List D) : Prop where
  ex : ∃ (g : List Value → List Value → List Value) (gV : List V → List V → List V), KBn K fd ps np ks g gV ∧ ∀ (H : Hp) (G : DH) (ds es : List D) (vs zs : List V), RpL K mg H G ds vs → RpL K mg H G es zs → RpL K mg H G (gD ds es) (gV vs zs)
/-- a class of the text, its __init__ as called with these keywords -/
structure HasC (P : Program) (w : World) (K : PySem.W.Frag) (mg : Str → Option Value) (base : Heap) (n : Str) (k np : Nat) (ks : List Str) (gD : List D → List D → List D) (sp : DSp) : Prop where
  ex : ∃ (C f : Addr) (fd : FuncData) (ps : List Str), mg n = some (.ref C) ∧ Mk K C f ∧ KBD K (mhOf P w mg) fd ps (np + 1) ks gD ∧ FnG P w K mg base k f fd ps (upSp K (mhOf P w mg) sp)
abbrev HasCX (X : Cx) (n : Str) (k np : Nat) (ks : List Str) (gD : List D → List D → List D) (sp : DSp) : Prop := HasC X.prog X.w X.K X.mg X.base n k np ks gD sp
/-- behind __init__ -/
def MkQ (p : Addr) (Q : DQ) : DQ := fun d G => d = .non ∧ Q (.ref p) G
def dMake (c : CI) (np nk : Nat) (gD : List D → List D → List D) (sp : DSp) (t u : DA) : DE := fun W δ G Q => t W δ G fun ds G1 => u W δ G1 fun es G2 => (ds.length = np ∧ es.length = nk) ∧ ∀ p, G2 p = none →
  Ap sp (gD (.ref p :: ds) es) (upG G2 p (.ins c [])) (MkQ p Q) (fun x G3 => W x δ G3) .mk
/-- keywords' values -/
def PDK (X : Cx) (lv : Nat) (cm : Bool) (kws : List Keyword) (t : DA) : Prop := Gd X lv cm → ∀ Wx, Takes X Wx → PK X kws (upA X Wx t)
theorem pk_imp {X : Cx} {e : List Keyword} {t t' : TA} (h : PK X e t) (i : ∀ σ H Q, t' σ H Q → t σ H Q) : PK X e t' := ⟨fun pos pins s σ H Q I q => h.run pos pins s σ H Q I (i _ _ _ q)⟩
section
variable {X : Cx} {lv : Nat} {cm : Bool}
theorem pdk_nil : PDK X lv cm [] dNil := fun gd Wx tk => pk_imp pk_nil fun σ H Q ⟨W, δ, G, R, hs, hg, ht, lQ, lW⟩ => lQ [] G H [] ht (Ext.refl _ _) hg .nil
theorem pdk_cons {nm : Option Str} {e : Expr} {kpos : Pos} {kws : List Keyword} {ta : DE} {t : DA} (ha : PD X lv cm e ta) (hr : PDK X lv cm kws t) : PDK X lv cm (⟨nm, e, kpos⟩ :: kws) (dCons ta t) := fun gd Wx tk =>
  pk_imp (pk_cons (ha gd Wx tk) (hr gd Wx tk)) fun σ H Q ⟨W, δ, G, R, hs, hg, ht, lQ, lW⟩ => ⟨W, δ, G, _, hs, hg, ht, fun dx G1 H1 x h1 e1 g1 r1 =>
    ⟨W, δ, G1, _, hs.ext e1, g1, h1, fun ds G2 H2 vs h2 e2 g2 r2 => lQ (dx :: ds) G2 H2 (x :: vs) h2 (e1.trans e2) g2 (.cons (r1.ext e2) r2), fun ex δ' G' σ' H' cls dd hw e2 => lW ex δ' G' σ' H' cls dd hw (e1.trans e2)⟩, lW⟩
end
section
variable {X : Cx} {lv k np : Nat} {n : Str} {ps ks : List Str} {sp : DSp} {gD : List D → List D → List D} {e : Expr} {es : List Expr} {kws : List Keyword} {t u : DA} {p pos : Pos} {fl : List Str}
theorem run_makeG {pins : List (Addr × Obj)} {σ : L2.St} {H : Hp} {s : Shared} {Q : VK} {us ws : List Value} {vs zs : List V} {C f : Addr} {fd : FuncData} {S : Sp} {Wx : WX} {m : Nat} {g : List Value → List Value → List Value} {gV : List V → List V → List V}
    (M : Mk X.K C f) (F : FnG X.prog X.w X.K X.mg X.base k f fd ps S) (gd : Gd X lv true) (hk : k + 1 ≤ lv) (tk : Takes X Wx) (hb : KBn X.K fd ps (m + 1) ks g gV)
    (I : Inv X pins σ H s) (r : Vals vs us) (rz : Vals zs ws) (l1 : vs.length = m) (l2 : zs.length = ks.length)
    (h : ∀ x dx, H x = none → H dx = none → dx ≠ x → S (gV (.ref x :: vs) zs) (L2.upd (L2.upd H dx (.own x)) x (.ins C dx [])) (fun v H2 => v = .non ∧ Q (.ref x) H2) (fun cls dd H' => Wx cls dd σ H')) :
    wpAny (model X.prog X.w) X.A (call (.ref C) us (ks.zip ws)) (EP X pins σ Q) X.xe s := by
  have hr := gd.room.mono hk
  have hq := h (s.heap.objs.size + 1) s.heap.objs.size (I.hok.fresh (Nat.le_succ _)) (I.hok.fresh (Nat.le_refl _)) (Nat.ne_of_lt (Nat.lt_succ_self _))
  have I2 := Inv.made (C := C) I
  have r1 : Vals (V.ref (s.heap.objs.size + 1) :: vs) (Value.ref (s.heap.objs.size + 1) :: us) := .cons rfl r
  have r2 := hb.rel r1 rz
  have n1 : (Value.ref (s.heap.objs.size + 1) :: us).length = m + 1 := by
    rw [List.length_cons, ← r.length, l1]
  refine wpAny_call (make_map (f := f) I.kIn M.makes M.init (beq_iff_eq.mp M.fn) (codeAny_mono (F.run _ X.stack _ _ ⟨Value.ref (s.heap.objs.size + 1) :: us, ks.zip ws⟩ (g (Value.ref (s.heap.objs.size + 1) :: us) ws) _ _ _ (hr.make C us (ks.zip ws)) (make_guards gd.gu)
    (I2.env0.make C us (ks.zip ws)) (hb.to _ (Value.ref (s.heap.objs.size + 1) :: us) ws I2.kIn n1 (rz.length.symm.trans l2)) r2 hq) fun y s' hq' => ?_))
  match y, hq' with
  | .error e, hq' => exact passAt tk σ pins _ _ e s' I2 hq'
  | .ok (.ret u), hq' =>
    obtain ⟨v, H', I3, rv, ev, q3⟩ := I2.after hq'
    subst ev
    exact ⟨rv, ⟨V.ref (s.heap.objs.size + 1), H', I3, rfl, q3⟩⟩
  | .ok .next, hq' => exact False.elim hq'
  | .ok .brk, hq' => exact False.elim hq'
  | .ok .cont, hq' => exact False.elim hq'
/-- from trees to values at a new instance -/
theorem up_mk {Wx : WX} {W : DW} {δ : Sl} {σ : L2.St} {H : Hp} {G : DH} {ds es : List D} {vs zs : List V} {Q : VK} {R : DQ} {C : Addr} {gV : List V → List V → List V} (mC : X.mg n = some (.ref C)) (hs : StOk X.K X.mh H G δ σ) (hg : HpOk X.K X.mh H G) (r : RpL X.K X.mh H G ds vs) (rz : RpL X.K X.mh H G es zs)
    (hgv : ∀ (H : Hp) (G : DH) (ds es : List D) (vs zs : List V), RpL X.K X.mh H G ds vs → RpL X.K X.mh H G es zs → RpL X.K X.mh H G (gD ds es) (gV vs zs))
    (h : ∀ p, G p = none → Ap sp (gD (.ref p :: ds) es) (upG G p (.ins ⟨n, fl⟩ [])) (MkQ p R) (fun x G3 => W x δ G3) .mk)
    (lQ : ∀ d G' H' v, R d G' → Ext H G H' G' → HpOk X.K X.mh H' G' → Rp X.K X.mh H' G' d v → Q v H')
    (lW : ∀ ex δ' G' σ' H' cls dd, W ex δ' G' → Ext H G H' G' → StOk X.K X.mh H' G' δ' σ' → HpOk X.K X.mh H' G' → ExOk X.K X.mh H' G' ex cls dd → Wx cls dd σ' H') :
    ∀ x dx, H x = none → H dx = none → dx ≠ x → upSp X.K X.mh sp (gV (.ref x :: vs) zs) (L2.upd (L2.upd H dx (.own x)) x (.ins C dx [])) (fun v H2 => v = .non ∧ Q (.ref x) H2) (fun cls dd H' => Wx cls dd σ H') := fun x dx hx hdx ne => by
  have hx1 : L2.upd H dx (.own x) x = none := by rw [L2.upd_ne ne.symm]; exact hx
  have e1 : Ext H G (L2.upd H dx (.own x)) G := Ext.newF hdx
  have g1 := hg.newF (u := .own x) hdx
  have e2 : Ext (L2.upd H dx (.own x)) G (L2.upd (L2.upd H dx (.own x)) x (.ins C dx [])) (upG G x (.ins ⟨n, fl⟩ [])) := Ext.new hx1
  have e := e1.trans e2
  have g2 : HpOk X.K X.mh (L2.upd (L2.upd H dx (.own x)) x (.ins C dx [])) (upG G x (.ins ⟨n, fl⟩ [])) := g1.new hx1 (.ins mC upd_same (by simp) .nil)
  refine ⟨_, _, _, _, hgv _ _ _ _ _ _ (.cons (.ref x) (r.ext e)) (rz.ext e), g2, h x (hg.free hx), fun d G' H' v ⟨hd, hq⟩ e3 g3 r3 => ?_, fun y G' H' cls dd hw e3 g3 xo => lW y δ G' σ H' cls dd hw (e.trans e3) (hs.ext (e.trans e3)) g3 xo⟩
  subst hd
  cases r3
  exact ⟨rfl, lQ _ G' H' _ hq (e.trans e3) g3 (.ref x)⟩
/-- C(e, ..) -/
theorem pd_make (Cl : HasCX X n k np [] gD sp) (hk : k + 1 ≤ lv) (ha : PDA X lv true (e :: es) t) (hg : Gl X n := by rfl) (hdb : (n == ("__debug__" : Str)) = false := by decide)
    (he : starEach (e :: es) X.env = (false, eval e X.env) :: starEach es X.env := by rfl) (hpl : (backTo pos (starEach es X.env)).any (·.1) = false := by rfl) : PD X lv true (.Call (.Name n p) (e :: es) [] pos) (dMake ⟨n, fl⟩ np 0 gD sp t dNil) := fun gd Wx tk => by
  obtain ⟨C, f, fd, ps, mC, M, ⟨g, gV, hb, hgv⟩, F⟩ := Cl.ex
  refine ⟨fun pins s σ H Q I ⟨W, δ, G, R, hs, hgo, ht, lQ, lW⟩ => ?_⟩
  refine wpAny_Call_Name_kw (ld_glob I hg mC ?_ hdb)
  refine PySem.W.callWith_K (h₀ := X.base) I.ok.mod.kin M.kp (thn ((ha gd Wx tk).run pos pins s σ H (fun vs H1 => vs.length = np ∧ ∀ x dx, H1 x = none → H1 dx = none → dx ≠ x → upSp X.K X.mh sp (gV (.ref x :: vs) []) (L2.upd (L2.upd H1 dx (.own x)) x (.ins C dx [])) (fun v H2 => v = .non ∧ Q (.ref x) H2) (fun cls dd H' => Wx cls dd σ H')) I
    ⟨W, δ, G, _, hs, hgo, ht, fun ds G1 H1 vs h1 e1 g1 r1 => ⟨by rw [← r1.length]; exact h1.1.1, up_mk mC (hs.ext e1) g1 r1 .nil hgv h1.2 (fun d G' H' v hd e2 => lQ d G' H' v hd (e1.trans e2)) (fun ex δ' G' σ' H' cls dd hw e2 => lW ex δ' G' σ' H' cls dd hw (e1.trans e2))⟩, lW⟩) fun us s1 ⟨vs, H1, I1, r, l1, q⟩ => ⟨I1.kIn, ?_⟩) he hpl
  exact run_makeG (ws := []) (zs := []) M F gd hk tk hb I1 r .nil l1 rfl q
/-- C(e, .., k = v, ..) -/
theorem pd_makeK (Cl : HasCX X n k np ks gD sp) (hk : k + 1 ≤ lv) (ha : PDA X lv true (e :: es) t) (hkw : PDK X lv true kws u) (hg : Gl X n := by rfl)
    (hall : (backToKw pos (keywordEach kws X.env)).all (·.1.isSome) = true := by rfl) (hks : (backToKw pos (keywordEach kws X.env)).filterMap (·.1) = ks := by rfl) (hdb : (n == ("__debug__" : Str)) = false := by decide)
    (he : starEach (e :: es) X.env = (false, eval e X.env) :: starEach es X.env := by rfl) (hpl : ((backTo pos (starEach (e :: es) X.env)).any (·.1) || (backToKw pos (keywordEach kws X.env)).any (·.1.isNone)) = false := by rfl) :
    PD X lv true (.Call (.Name n p) (e :: es) kws pos) (dMake ⟨n, fl⟩ np ks.length gD sp t u) := fun gd Wx tk => by
  obtain ⟨C, f, fd, ps, mC, M, ⟨g, gV, hb, hgv⟩, F⟩ := Cl.ex
  refine ⟨fun pins s σ H Q I ⟨W, δ, G, R, hs, hgo, ht, lQ, lW⟩ => ?_⟩
  refine wpAny_Call_Name_kw (ld_glob I hg mC ?_ hdb)
  refine PySem.W.callWith_KW (h₀ := X.base) I.ok.mod.kin M.kp hall (thn ((ha gd Wx tk).run pos pins s σ H (fun vs H1 => ∃ ds G1, Ext H G H1 G1 ∧ HpOk X.K X.mh H1 G1 ∧ RpL X.K X.mh H1 G1 ds vs ∧ u W δ G1 fun es G2 => (ds.length = np ∧ es.length = ks.length) ∧ ∀ p, G2 p = none →
    Ap sp (gD (.ref p :: ds) es) (upG G2 p (.ins ⟨n, fl⟩ [])) (MkQ p R) (fun x G3 => W x δ G3) .mk) I ⟨W, δ, G, _, hs, hgo, ht, fun ds G1 H1 vs h1 e1 g1 r1 => ⟨ds, G1, e1, g1, r1, h1⟩, lW⟩) fun us s1 ⟨vs, H1, I1, r, ds, G1, e1, g1, r1, q⟩ => ?_) hpl he
  refine thn ((hkw gd Wx tk).run pos pins s1 σ H1 (fun zs H2 => vs.length = np ∧ zs.length = ks.length ∧ ∀ x dx, H2 x = none → H2 dx = none → dx ≠ x → upSp X.K X.mh sp (gV (.ref x :: vs) zs) (L2.upd (L2.upd H2 dx (.own x)) x (.ins C dx [])) (fun v H3 => v = .non ∧ Q (.ref x) H3) (fun cls dd H' => Wx cls dd σ H')) I1
    ⟨W, δ, G1, _, hs.ext e1, g1, q, fun es G2 H2 zs h2 e2 g2 r2 => ⟨by rw [← r1.length]; exact h2.1.1, by rw [← r2.length]; exact h2.1.2, up_mk mC ((hs.ext e1).ext e2) g2 (r1.ext e2) r2 hgv h2.2 (fun d G' H' v hd e3 => lQ d G' H' v hd ((e1.trans e2).trans e3)) (fun ex δ' G' σ' H' cls dd hw e3 => lW ex δ' G' σ' H' cls dd hw ((e1.trans e2).trans e3))⟩,
      fun ex δ' G' σ' H' cls dd hw e2 => lW ex δ' G' σ' H' cls dd hw (e1.trans e2)⟩) fun ws s2 ⟨zs, H2, I2, rz, l1, l2, q2⟩ => ⟨I2.kIn, ?_⟩
  rw [hks]
  exact run_makeG M F gd hk tk hb I2 r rz l1 l2 q2
end
end DL

namespace DL
open L2 PyProof.Rows PySem PySem.Spec

/-! ### 20. items, values of a dict -/
def diItems (t : DE) : DI := fun W δ G R => t W δ G fun d G1 => match d with
  | .dct kvs => R (kvs.map fun kv => .tup [kyK kv.1, kv.2]) (fun _ => True) G1
  | .mxd kvs => R (kvs.map fun kv => .tup [keyD kv.1, kv.2]) (fun _ => True) G1
  | _ => False
def diVals (t : DE) : DI := fun W δ G R => t W δ G fun d G1 => match d with
  | .dct kvs => R (kvs.map fun kv => kv.2) (fun _ => True) G1
  | _ => False
section
variable {X : Cx} {lv : Nat} {cm : Bool} {apos cpos : Pos}
theorem pe_lockE {e : Expr} {td : TE} (h : PE X e td) : PE X e (fun σ H Q => td σ H fun x H1 => ∃ a vs, x = .ref a ∧ Rd H1 a (.dK vs) ∧ ∀ o H2, H2 a = some (.frz o (.dK vs)) → (∀ G : DH, G a = none → Ext H1 G H2 G ∧ (HpOk X.K X.mh H1 G → HpOk X.K X.mh H2 G)) → Q x H2) :=
  ⟨fun pins s σ H Q I q => thn (h.run pins s σ H _ I q) fun u s1 ⟨x, H1, I1, rx, a, vs, ex, hr, q⟩ => by
    obtain ⟨o, H2, I2, h2, hx⟩ := lockD I1 hr
    exact ⟨x, H2, I2, rx, q o H2 h2 hx⟩⟩
theorem it_items {H0 : Hp} {G0 : DH} {S : DH → Prop} {a : Addr} {o : Obj} {vs : List (Key × V)} {kvs : List (Key × D)} (ga : G0 a = none) (hd : H0 a = some (.frz o (.dK vs))) (ra : RpK X.K X.mh H0 G0 kvs vs) : ItD X (Iti a o vs) H0 G0 (kvs.map fun kv => .tup [kyK kv.1, kv.2]) S := by
  refine ⟨fun i x H G hx e hg s => ?_, fun H G e hg s => ?_⟩
  · have hi := (List.getElem?_eq_some_iff.mp hx).1
    rw [List.length_map, ra.length] at hi
    refine ⟨⟨(e.get ga hd).1, hi⟩, fun w H' ⟨T, k, v, hk, ew, hT, eh⟩ => ?_⟩
    subst eh; subst ew
    obtain ⟨d, h1, h2⟩ := ra.at' hk
    rw [List.getElem?_map, h1] at hx
    cases hx
    exact ⟨Ext.newF hT, hg.newF hT, .tup (.inl ⟨hg.free hT, upd_same⟩) (.cons (rp_key k) (.cons ((h2.ext e).ext (Ext.newF hT)) .nil))⟩
  · refine ⟨(e.get ga hd).1, ?_⟩
    rw [List.length_map, ra.length]
    exact Nat.le_refl _
theorem it_vals {H0 : Hp} {G0 : DH} {S : DH → Prop} {a : Addr} {o : Obj} {vs : List (Key × V)} {kvs : List (Key × D)} (ga : G0 a = none) (hd : H0 a = some (.frz o (.dK vs))) (ra : RpK X.K X.mh H0 G0 kvs vs) : ItD X (Itd a o vs) H0 G0 (kvs.map fun kv => kv.2) S := by
  refine ⟨fun i x H G hx e hg s => ?_, fun H G e hg s => ?_⟩
  · have hi := (List.getElem?_eq_some_iff.mp hx).1
    rw [List.length_map, ra.length] at hi
    refine ⟨⟨(e.get ga hd).1, hi⟩, fun w H' ⟨eh, k, hk⟩ => ?_⟩
    subst eh
    obtain ⟨d, h1, h2⟩ := ra.at' hk
    rw [List.getElem?_map, h1] at hx
    cases hx
    exact ⟨Ext.refl _ _, hg, h2.ext e⟩
  · refine ⟨(e.get ga hd).1, ?_⟩
    rw [List.length_map, ra.length]
    exact Nat.le_refl _
theorem it_itemsX {H0 : Hp} {G0 : DH} {S : DH → Prop} {a : Addr} {o : Obj} {hf : MKey → Int} {vs : List MV} {kvs : List (MKey × D)} (ga : G0 a = none) (hd : H0 a = some (mixO hf a o vs)) (ra : RpX X.K X.mh H0 G0 kvs vs) : ItD X (Itxi hf a o vs) H0 G0 (kvs.map fun kv => .tup [keyD kv.1, kv.2]) S := by
  refine ⟨fun i x H G hx e hg s => ?_, fun H G e hg s => ?_⟩
  · have hi := (List.getElem?_eq_some_iff.mp hx).1
    rw [List.length_map, ra.length] at hi
    refine ⟨⟨(e.get ga hd).1, hi⟩, fun w H' ⟨T, k, y, v, hk, ew, hT, eh⟩ => ?_⟩
    subst eh; subst ew
    obtain ⟨d, h1, h2, h3⟩ := RpX.at' ra hk
    rw [List.getElem?_map, h1] at hx
    cases hx
    exact ⟨Ext.newF hT, hg.newF hT, .tup (.inl ⟨hg.free hT, upd_same⟩) (.cons ((h2.ext e).ext (Ext.newF hT)) (.cons ((h3.ext e).ext (Ext.newF hT)) .nil))⟩
  · refine ⟨(e.get ga hd).1, ?_⟩
    rw [List.length_map, ra.length]
    exact Nat.le_refl _
theorem items_go {pins : List (Addr × Obj)} {s1 : Shared} {σ : L2.St} {tg : Expr} {R : It → Hp → Prop} {d : Addr} {o : Obj} {es : Array DictEntry} {ep : Nat} (hs : (d == sysModules) = false) (ho : s1.heap.get? d = some o) (hx : o.ExactDict) (hdt : o.data = .dict es ep)
    (fin : wpAny (model X.prog X.w) X.A (pyIter (.ref s1.heap.objs.size)) (PIE X pins σ tg R) X.xe { s1 with heap := s1.heap.push { cls := .type "dict_items", data := .fields #[.ref d] } }) :
    wpAny (model X.prog X.w) X.A (callWith cpos (.builtin "dict.items") [.ref d] [] []) (fun v s2 => wpAny (model X.prog X.w) X.A (pyIter v) (PIE X pins σ tg R) X.xe s2) X.xe s1 :=
  method_meetsIn PySem.F.slot_dict_items PySem.F.entry_dict_items rfl (PySem.evalArgs_none ⟨rfl, (show DT.Raw s1.heap d es ep from ⟨o, ho, hx, hdt⟩).typeIs, PySem.F.args_dict_items_1 _, _, DT.meetsItems (es := es) (ep := ep) hs, ⟨o, ho, hx, hdt⟩, fin⟩)
theorem pdi_items {e : Expr} {t : DE} {elts : List Expr} {kk : Nat} {tpos : Pos} (h : PD X lv cm e t) (hbase : attributeBase e "items" X.env (eval e X.env) = eval e X.env := by rfl) (hline : (apos.endLine == cpos.line) = true := by rfl) :
    PDI X lv cm (.Tuple elts kk tpos) (.Call (.Attribute e "items" apos) [] [] cpos) (diItems t) := fun gd Wx tk => ⟨fun pins s σ H R I ⟨W, δ, G, R', hs, hg, ht, l1, l2⟩ => by
  refine wpAny_Call_method (T := "dict") (id := "dict.items") hbase rfl hline PySem.F.plainAttrs_dict PySem.F.slot_dict_items PySem.F.type_dict_items (thn ((h gd Wx tk).run pins s σ H (fun x H1 => ∃ (d : D) (G1 : DH), (match d with
    | .dct kvs => R' (kvs.map fun kv => .tup [kyK kv.1, kv.2]) (fun _ => True) G1
    | .mxd kvs => R' (kvs.map fun kv => .tup [keyD kv.1, kv.2]) (fun _ => True) G1
    | _ => False) ∧ Ext H G H1 G1 ∧ HpOk X.K X.mh H1 G1 ∧ Rp X.K X.mh H1 G1 d x) I ⟨W, δ, G, _, hs, hg, ht, fun d G1 H1 v h1 e1 g1 r1 => ⟨d, G1, h1, e1, g1, r1⟩, l2⟩) fun u s1 ⟨x, H1, I1, rx, d, G1, h1, e1, g1, r1⟩ => ?_)
  cases r1 with
  | @dct a _ _ g e2 ra =>
    cases (show u = Value.ref _ from rx)
    obtain ⟨o, H2, I2, h2, hx⟩ := lockD I1 e2
    obtain ⟨ex, hk⟩ := hx G1 g
    obtain ⟨hsy, hgd, hxd, es, ep, vs, hdt, hsz, kv, hm⟩ := I2.frzK h2
    refine ⟨hm.dictOf.typeIs, hm.dictOf.mapOf.noDict, items_go hsy hgd hxd hdt ?_⟩
    have I3 : Inv X pins σ H2 { s1 with heap := s1.heap.push { cls := .type "dict_items", data := .fields #[.ref a] } } := I2.kept (t' := s1.toks) fun b ob q => Heap.get?_push_of_some _ q
    refine DT.iterI (es := es) (ep := ep) ⟨_, Heap.get?_push_size _ rfl, rfl, rfl⟩ (DT.Raw.push ⟨o, hgd, hxd, hdt⟩ _) (pi_one (tk := s1.toks) I3 _ (turn_items _ hdt) ⟨.none, .none, ?_⟩ (l1 _ _ G1 H2 _ h1 (e1.trans ex) (hk g1) (it_items g h2 (ra.ext ex))))
    rw [hsz]
    exact Heap.get?_push_size _ rfl
  | @mxd a _ _ _ g e2 ra =>
    cases (show u = Value.ref _ from rx)
    obtain ⟨hsy, hgd, hxd, es, ep, hdt, hsz, ent⟩ := mix_raw I1 e2
    refine ⟨(show DT.Raw s1.heap _ es ep from ⟨_, hgd, hxd, hdt⟩).typeIs, (fun b z => by cases z; exact ⟨_, hgd, hxd.2.1⟩), items_go hsy hgd hxd hdt ?_⟩
    have I3 : Inv X pins σ H1 { s1 with heap := s1.heap.push { cls := .type "dict_items", data := .fields #[.ref a] } } := I1.kept (t' := s1.toks) fun b ob q => Heap.get?_push_of_some _ q
    refine DT.iterI (es := es) (ep := ep) ⟨_, Heap.get?_push_size _ rfl, rfl, rfl⟩ (DT.Raw.push ⟨_, hgd, hxd, hdt⟩ _) (pi_one (tk := s1.toks) I3 _ (turn_itemsX _ hdt) ⟨.none, .none, ?_⟩ (l1 _ _ G1 H1 _ h1 e1 g1 (it_itemsX g e2 ra)))
    rw [hsz]
    exact Heap.get?_push_size _ rfl
  | _ => exact h1.elim⟩
theorem pdi_vals {tg e : Expr} {t : DE} (h : PD X lv cm e t) (hbase : attributeBase e "values" X.env (eval e X.env) = eval e X.env := by rfl) (hline : (apos.endLine == cpos.line) = true := by rfl) :
    PDI X lv cm tg (.Call (.Attribute e "values" apos) [] [] cpos) (diVals t) := fun gd Wx tk =>
  pi_imp (pi_values (pe_lockE (h gd Wx tk)) hbase hline) fun σ H R ⟨W, δ, G, R', hs, hg, ht, l1, l2⟩ => ⟨W, δ, G, _, hs, hg, ht, fun d G1 H1 v h1 e1 g1 r1 => by
    cases r1 with
    | dct g e2 ra =>
      refine ⟨_, _, rfl, e2, fun o H2 h2 hx => ⟨_, o, _, rfl, h2, ?_⟩⟩
      obtain ⟨ex, hk⟩ := hx G1 g
      exact l1 _ _ G1 H2 _ h1 (e1.trans ex) (hk g1) (it_vals g h2 (ra.ext ex))
    | _ => exact h1.elim, l2⟩
/-! ### 21. constants of the modules -/
theorem pd_gI {x : Str} {i : Int} {p : Pos} (hm : ∃ t, X.mg x = some (.int i t)) (hg : Gl X x := by rfl) (hd : (x == ("__debug__" : Str)) = false := by decide) : PD X lv cm (.Name x p) (dC (.int i)) := fun gd Wx tk => by
  obtain ⟨t, hm⟩ := hm
  exact pd_glob (v := .int i) hm ⟨t, rfl⟩ (fun _ _ _ _ => .int i) hg hd gd Wx tk
theorem pd_gS {x : Str} {i : Str} {p : Pos} (hm : ∃ t, X.mg x = some (.str i t)) (hg : Gl X x := by rfl) (hd : (x == ("__debug__" : Str)) = false := by decide) : PD X lv cm (.Name x p) (dC (.str i)) := fun gd Wx tk => by
  obtain ⟨t, hm⟩ := hm
  exact pd_glob (v := .str i) hm ⟨t, rfl⟩ (fun _ _ _ _ => .str i) hg hd gd Wx tk
end
end DL

namespace DL
open L2 PyProof.Rows PySem PySem.Spec

/-! ### 22. texts' methods -/
def dJoin (to te : DE) : DE := fun W δ G Q => to W δ G fun x G1 => match x with
  | .str a => te W δ G1 fun y G2 => itemsD (rs G2 y) fun xs => ∃ ys : List Str, xs = ys.map D.str ∧ (ys.map (·.length)).sum + ys.length * a.length ≤ 16777216 ∧ Q (.str (Txt.join a ys)) G2
  | _ => False
theorem rpL_strs {K : PySem.W.Frag} {mg : MG} {H : Hp} {G : DH} : ∀ {ys : List Str} {vs : List V}, RpL K mg H G (ys.map D.str) vs → vs = ys.map V.str
  | [], _, .nil => rfl
  | y :: ys, _, .cons r t => by
    cases r
    rw [rpL_strs t]; rfl
section
variable {X : Cx} {lv : Nat} {cm : Bool} {apos pos : Pos}
theorem pd_join {o e : Expr} {to te : DE} (ho : PD X lv cm o to) (he : PD X lv cm e te) (hs : starEach [e] X.env = [(false, eval e X.env)] := by rfl) (hbase : attributeBase o "join" X.env (eval o X.env) = eval o X.env := by rfl) (hline : (apos.endLine == pos.line) = true := by rfl) :
    PD X lv cm (.Call (.Attribute o "join" apos) [e] [] pos) (dJoin to te) := fun gd Wx tk =>
  pe_imp (pe_join (ho gd Wx tk) (he gd Wx tk) hs hbase hline) fun σ H Q ⟨W, δ, G, R, hs, hg, ht, lQ, lW⟩ => ⟨W, δ, G, _, hs, hg, ht, fun d G1 H1 v h1 e1 g1 r1 => by
    cases r1 with
    | str a =>
      refine ⟨⟨a, rfl⟩, W, δ, G1, _, hs.ext e1, g1, h1, fun y G2 H2 w h2 e2 g2 r2 => ?_, fun ex δ' G' σ' H' cls dd hw e2 => lW ex δ' G' σ' H' cls dd hw (e1.trans e2)⟩
      obtain ⟨p, vs, xs, rfl, hq, ra, ys, rfl, hl, q⟩ := items_sq g2 r2 h2
      cases rpL_strs ra
      exact ⟨a, p, ys, rfl, rfl, hq, hl, lQ _ G2 H2 _ q (e1.trans e2) g2 (.str _)⟩
    | _ => exact h1.elim, lW⟩
/-! ### 23. d.get(k, x) -/
def dGet2 (td ty tx : DE) : DE := fun W δ G Q => td W δ G fun d G1 => match d with
  | .dct kvs => ty W δ G1 fun y G2 => match kyD y with
    | some k => tx W δ G2 fun z G3 => match lkK kvs k with
      | some v => Q v G3
      | none => Q z G3
    | none => False
  | _ => False
theorem pd_get2 {o e f : Expr} {td ty tx : DE} (ho : PD X lv cm o td) (he : PD X lv cm e ty) (hf : PD X lv cm f tx) (m : M2 X o "get" apos e f pos) : PD X lv cm (.Call (.Attribute o "get" apos) [e, f] [] pos) (dGet2 td ty tx) := fun gd Wx tk =>
  pe_imp (pe_dget2 gd.un1 (ho gd Wx tk) (he gd Wx tk) (hf gd Wx tk) m) fun σ H Q ⟨W, δ, G, R, hs, hg, ht, lQ, lW⟩ => ⟨W, δ, G, _, hs, hg, ht, fun d G1 H1 v h1 e1 g1 r1 => by
    cases r1 with
    | @dct a ws kvs g e2 ra =>
      refine ⟨_, rfl, ?_, W, δ, G1, _, hs.ext e1, g1, h1, fun y G2 H2 w h2 e3 g2 r2 => ?_, fun ex δ' G' σ' H' cls dd hw e3 => lW ex δ' G' σ' H' cls dd hw (e1.trans e3)⟩
      · exact .inl ⟨_, e2⟩
      · cases ek : kyD y with
        | none => simp only [ek] at h2
        | some k =>
          simp only [ek] at h2
          cases key_v r2 ek
          refine ⟨W, δ, G2, _, (hs.ext e1).ext e3, g2, h2, fun z G3 H3 u h3 e4 g3 r3 => ?_, fun ex δ' G' σ' H' cls dd hw e4 => lW ex δ' G' σ' H' cls dd hw ((e1.trans e3).trans e4)⟩
          have rr := Rp.ext (e3.trans e4) (.dct g e2 ra)
          cases rr with
          | dct g' e5 ra' =>
            refine ⟨_, dget_rd (k := k) e5, ?_⟩
            have e14 := (e1.trans e3).trans e4
            obtain ⟨q1, q2⟩ := ra'.look (k := k)
            cases el : lkK kvs k with
            | none =>
              simp only [el] at h3
              rw [q2 el]
              exact lQ z G3 H3 _ h3 e14 g3 r3
            | some d =>
              simp only [el] at h3
              obtain ⟨w, hw, rw'⟩ := q1 d el
              rw [hw]
              exact lQ d G3 H3 _ h3 e14 g3 rw'
    | _ => exact h1.elim, lW⟩
/-! ### 24. list(d): its keys -/
def rListD : RLD := fun ds G Q => match ds with
  | [.dct kvs] => Q (.lst (kvs.map fun kv => kyK kv.1)) G
  | _ => False
theorem rpL_keys {H H' : Hp} {G G' : DH} : ∀ {kvs : List (Key × D)} {vs : List (Key × V)}, RpK X.K X.mh H G kvs vs → RpL X.K X.mh H' G' (kvs.map fun kv => kyK kv.1) (vs.map fun kv => kV kv.1)
  | _, _, .nil => .nil
  | _, _, .cons r t => .cons (rp_key _) (rpL_keys t)
theorem cd_listD : CallD X lv true (.type "list") rListD := by
  intro gd pins s σ H vs us Q I rv ⟨ds, G, R, hg, r0, h, l⟩
  unfold rListD at h
  split at h
  · rename_i kvs
    obtain ⟨v, rfl, r⟩ := one_rp r0
    cases r with
    | @dct a ws kvs' g e2 ra =>
      exact call_listD (gd.cl rfl) pins s σ H _ us Q I rv ⟨a, ws, rfl, e2, fun p hp => l _ G _ _ h (Ext.newF hp) (hg.newF hp) (.lst (hg.free hp) upd_same (rpL_keys ra))⟩
  · exact h.elim
end
end DL

namespace DL
open L2 PyProof.Rows PySem PySem.Spec

/-! ### 25. list(d.items()) -/
def dListItems (t : DE) : DE := fun W δ G Q => t W δ G fun d G1 => match d with
  | .dct kvs => Q (.lst (kvs.map fun kv => .tup [kyK kv.1, kv.2])) G1
  | _ => False
section
variable {X : Cx} {lv : Nat} {apos cpos p pos : Pos}
theorem rpL_items {H H' : Hp} {G : DH} (hx : Ext H G H' G) : ∀ {kvs : List (Key × D)} {vs : List (Key × V)} {ts : List Addr}, RpK X.K X.mh H G kvs vs → Paired (fun (t : Addr) (q : Key × V) => H' t = some (.tup [kV q.1, q.2])) ts vs → (∀ t ∈ ts, G t = none) →
    RpL X.K X.mh H' G (kvs.map fun kv => D.tup [kyK kv.1, kv.2]) (ts.map V.ref)
  | _, _, _, .nil, .nil, _ => .nil
  | _, _, _, .cons r t, .cons q qs, hn => .cons (.tup (.inl ⟨hn _ (List.mem_cons_self ..), q⟩) (.cons (rp_key _) (.cons (r.ext hx) .nil))) (rpL_items hx t qs fun t ht => hn t (List.mem_cons_of_mem _ ht))
theorem pd_listItems {e : Expr} {t : DE} (he : PD X lv true e t) (hm : X.mg "list" = none) (hg : Gl X "list" := by rfl) (hb : attributeBase e "items" X.env (eval e X.env) = eval e X.env := by rfl) (hl : (apos.endLine == cpos.line) = true := by rfl)
    (hs : starEach [.Call (.Attribute e "items" apos) [] [] cpos] X.env = (false, eval (.Call (.Attribute e "items" apos) [] [] cpos) X.env) :: starEach [] X.env := by rfl) :
    PD X lv true (.Call (.Name "list" p) [.Call (.Attribute e "items" apos) [] [] cpos] [] pos) (dListItems t) := fun gd Wx tk => by
  refine ⟨fun pins s σ H Q J ⟨W, δ, G, R, st, hgo, ht, lQ, lW⟩ => ?_⟩
  refine wpAny_Call_Name_kw (ld_blt J hg hm PyProof.Rows.boot_list ?_)
  refine PyProof.Rows.callWith_type1 (T := "list") ?_ hs rfl
  rw [hs]
  refine Calls.spliced_cons (rest := backTo pos (starEach [] X.env)) ?_
  refine wpAny_Call_method (T := "dict") (id := "dict.items") hb rfl hl F.plainAttrs_dict F.slot_dict_items F.type_dict_items (thn ((he gd Wx tk).run pins s σ H (fun x H1 => ∃ a vs kvs G1, x = .ref a ∧ Rd H1 a (.dK vs) ∧ Ext H G H1 G1 ∧ HpOk X.K X.mh H1 G1 ∧ RpK X.K X.mh H1 G1 kvs vs ∧ R (.lst (kvs.map fun kv => .tup [kyK kv.1, kv.2])) G1) J
    ⟨W, δ, G, _, st, hgo, ht, fun d G1 H1 v h1 e1 g1 r1 => by
      cases r1 with
      | dct g e2 ra => exact ⟨_, _, _, G1, rfl, e2, e1, g1, ra, h1⟩
      | _ => exact h1.elim, lW⟩) fun u s1 ⟨x, H1, J1, rx, d, kv0, kvs, G1, ex, hd, e1, g1, ra, q⟩ => ?_)
  subst ex
  obtain rfl : u = Value.ref d := rx
  obtain ⟨hz, hy, vs, kv, hdo⟩ := dk_rd J1.hok hd
  obtain ⟨ep, hat⟩ := hdo.dictAt
  have ll : kv0.length = vs.length := Paired.length kv
  have J2 : Inv X pins σ H1 { s1 with heap := s1.heap.push { cls := .type "dict_items", data := .fields #[.ref d] } } := J1.kept (t' := s1.toks) fun _ _ z => Heap.get?_push_of_some _ z
  refine ⟨hdo.typeIs, hdo.mapOf.noDict, (?_ : wpAny _ _ (callWith cpos (.builtin "dict.items") [.ref d] [] []) _ X.xe s1)⟩
  refine method_meetsIn F.slot_dict_items F.entry_dict_items rfl (PySem.evalArgs_none ⟨rfl, hdo.typeIs, F.args_dict_items_1 _, _, meets_dict_items (mixKind X.prog X.w) d hy, ⟨vs, hdo⟩, Calls.spliced_nil ?_⟩)
  refine PySem.W.kdx_call (knd := mixKind X.prog X.w) (kvs := vs) (ep := ep) (J1.ok.hd (gd.cl rfl)) ⟨_, Heap.get?_push_size _ rfl, rfl, rfl⟩ (hat.push _) (by omega) fun h' tk2 acc c as hk hS h3 hG hacc => ?_
  obtain ⟨H2, k1, k2, k3, k4, k5, k6, J3⟩ := LiI.items_laid (tk := tk2) J2 hz kv hk hS h3 hG hacc
  have ext : Ext H1 G1 H2 G1 := fun b o g h => ⟨.inl (k1 b o h), g⟩
  have g2 : HpOk X.K X.mh H2 G1 := fun b o hb => (g1 b o hb).ext ext fun u hu => k1 b u hu
  exact ⟨.ref _, H2, J3, rfl, lQ _ G1 H2 _ q (e1.trans ext) g2 (.lst (g1.free k2) k5 (rpL_items ext ra k6 fun t ht => g1.free (k3 t ht)))⟩
end
end DL

namespace DL
open L2 PyProof.Rows PySem PySem.Spec

/-! ### 26. methods of live lists -/
def isL (G : DH) (a : Addr) : Prop := match G a with
  | some (.lst _) => True
  | _ => False
def dAppend (to te : DE) : DE := fun W δ G Q => to W δ G fun x G1 => match x with
  | .ref a => isL G1 a ∧ te W δ G1 fun y G2 => match G2 a with
    | some (.lst xs) => xs.length < sizeLine ∧ Q .non (upG G2 a (.lst (xs ++ [y])))
    | _ => False
  | _ => False
section
variable {X : Cx} {lv : Nat} {cm : Bool} {apos pos : Pos}
theorem isL_at {H : Hp} {G : DH} {a : Addr} (hg : HpOk X.K X.mh H G) (h : isL G a) : ∃ vs, H a = some (.lst vs) := by
  unfold isL at h
  cases e : G a with
  | none => simp only [e] at h
  | some o =>
    simp only [e] at h
    have ob := hg a o e
    cases ob with
    | lst e2 _ => exact ⟨_, e2⟩
    | dct _ _ => exact h.elim
    | ins _ _ _ _ => exact h.elim
    | tb _ => exact h.elim
    | mx _ _ => exact h.elim
theorem pd_append {o e : Expr} {to te : DE} (ho : PD X lv cm o to) (he : PD X lv cm e te) (hs : starEach [e] X.env = [(false, eval e X.env)] := by rfl) (hb : attributeBase o "append" X.env (eval o X.env) = eval o X.env := by rfl) (hl : (apos.endLine == pos.line) = true := by rfl) :
    PD X lv cm (.Call (.Attribute o "append" apos) [e] [] pos) (dAppend to te) := fun gd Wx tk => by
  refine ⟨fun pins s σ H Q I ⟨W, δ, G, R, st, hgo, ht, lQ, lW⟩ => ?_⟩
  refine PySem.Call_method1 hb hs hl (thn ((ho gd Wx tk).run pins s σ H (fun x H1 => ∃ a G1, x = .ref a ∧ Ext H G H1 G1 ∧ HpOk X.K X.mh H1 G1 ∧ isL G1 a ∧ te W δ G1 fun y G2 => match G2 a with
    | some (.lst xs) => xs.length < sizeLine ∧ R .non (upG G2 a (.lst (xs ++ [y])))
    | _ => False) I ⟨W, δ, G, _, st, hgo, ht, fun d G1 H1 v h1 e1 g1 r1 => by
      cases r1 with
      | ref a => exact ⟨a, G1, rfl, e1, g1, h1.1, h1.2⟩
      | _ => exact h1.elim, lW⟩) fun u s1 ⟨x, H1, I1, rx, a, G1, ex, e1, g1, hi, q⟩ => ?_)
  subst ex
  obtain rfl : u = Value.ref a := rx
  obtain ⟨vs, ha⟩ := isL_at g1 hi
  obtain ⟨z, its, n, rr, hlen, eo⟩ := I1.lstM ha
  refine ⟨"list", _, F.plainAttrs_list, F.slot_list_append, F.type_list_append, ⟨_, eo, rfl⟩, (fun b eb => by cases eb; exact ⟨_, eo, rfl⟩), Calls.callWith_builtin rfl (Calls.evalArgs_plain (Calls.spliced_cons ?_))⟩
  refine thn ((he gd Wx tk).run pins s1 σ H1 (fun y H2 => rAppend (.ref a) [y] H2 Q) I1 ⟨W, δ, G1, _, st.ext e1, g1, q, fun y G2 H2 v h2 e2 g2 r2 => ?_, fun ex δ' G' σ' H' cls dd hw e2 => lW ex δ' G' σ' H' cls dd hw (e1.trans e2)⟩) fun w s2 ⟨y, H2, I2, r2, q2⟩ => Calls.spliced_nil (mt_append pins s2 σ H2 (.ref a) [y] (.ref a) [w] Q I2 rfl (.cons r2 .nil) q2)
  cases ea : G2 a with
  | none => simp only [ea] at h2
  | some w =>
    simp only [ea] at h2
    have ob := g2 a w ea
    cases ob with
    | lst e3 ra =>
      rename_i vs2 xs
      have ext := Ext.write (H := H2) (o := .lst (xs ++ [y])) (u := .lst (vs2 ++ [v])) ea
      exact ⟨a, vs2, v, rfl, rfl, e3, by rw [← ra.length]; exact h2.1, lQ .non _ _ _ h2.2 ((e1.trans e2).trans ext) (g2.upd ext (.lst upd_same ((ra.append (.one r2)).ext ext))) .non⟩
    | dct _ _ => exact h2.elim
    | ins _ _ _ _ => exact h2.elim
    | tb _ => exact h2.elim
    | mx _ _ => exact h2.elim
end
end DL

namespace DL
open L2 PyProof.Rows PySem PySem.Spec
def dReverse (to : DE) : DE := fun W δ G Q => to W δ G fun x G1 => match x with
  | .ref a => match G1 a with
    | some (.lst xs) => Q .non (upG G1 a (.lst xs.reverse))
    | _ => False
  | _ => False
section
variable {X : Cx} {lv : Nat} {cm : Bool} {apos pos : Pos}
theorem pd_reverse {o : Expr} {to : DE} (ho : PD X lv cm o to) (hb : attributeBase o "reverse" X.env (eval o X.env) = eval o X.env := by rfl) (hl : (apos.endLine == pos.line) = true := by rfl) :
    PD X lv cm (.Call (.Attribute o "reverse" apos) [] [] pos) (dReverse to) := fun gd Wx tk => by
  refine ⟨fun pins s σ H Q I ⟨W, δ, G, R, st, hgo, ht, lQ, lW⟩ => ?_⟩
  refine PySem.Call_method0 hb hl (thn ((ho gd Wx tk).run pins s σ H (fun x H1 => ∃ a vs, x = .ref a ∧ H1 a = some (.lst vs) ∧ Q .non (L2.upd H1 a (.lst vs.reverse))) I ⟨W, δ, G, _, st, hgo, ht, fun d G1 H1 v h1 e1 g1 r1 => by
    cases r1 with
    | ref a =>
      simp only at h1
      cases ea : G1 a with
      | none => simp only [ea] at h1
      | some w =>
        simp only [ea] at h1
        have ob := g1 a w ea
        cases ob with
        | @lst vs xs e3 ra =>
          have ext := Ext.write (H := H1) (o := .lst xs.reverse) (u := .lst vs.reverse) ea
          exact ⟨a, vs, rfl, e3, lQ .non _ _ _ h1 (e1.trans ext) (g1.upd ext (.lst upd_same (ra.reverse.ext ext))) .non⟩
        | dct _ _ => exact h1.elim
        | ins _ _ _ _ => exact h1.elim
        | tb _ => exact h1.elim
        | mx _ _ => exact h1.elim
    | _ => exact h1.elim, lW⟩) fun u s1 ⟨x, H1, I1, rx, a, vs, ex, ha, q⟩ => ?_)
  subst ex
  obtain rfl : u = Value.ref a := rx
  obtain ⟨z, its, n, rr, hlen, eo⟩ := I1.lstM ha
  exact ⟨"list", _, F.plainAttrs_list, F.slot_list_reverse, F.type_list_reverse, ⟨_, eo, rfl⟩, (fun b eb => by cases eb; exact ⟨_, eo, rfl⟩), Calls.callWith_builtin rfl (PySem.evalArgs_none (mt_reverse pins s1 σ H1 (.ref a) [] (.ref a) [] Q I1 rfl .nil ⟨a, vs, rfl, rfl, ha, q⟩))⟩
end
end DL

namespace DL
open L2 PyProof.Rows PySem PySem.Spec

/-! ### 28. sorted(d.items()), keys and values whole numbers -/
section
variable {prog : Program} {w : World} {A : Around} {E : Value → Shared → Prop} {s : Shared} {r d : Addr}
theorem sorted_itemsR {K : Type} [DecidableEq K] {knd : PySem.KeyKind prog w K} {kvs : List (K × Value)} {ep : Nat} {Q : Value → Shared → Prop} (hh : A.handled = none) (hv : s.heap.IsItemsView r d) (hm : s.heap.DictAt knd d kvs ep) (hn : kvs.length ≤ sizeLine)
    (h : ∀ (h' : Heap) (tk : Nat) (as : List Addr), (∀ b o, s.heap.get? b = some o → h'.get? b = some o) → as.length = kvs.length → PySem.W.KdxG knd kvs s.heap.objs.size h' as →
      ∃ k : Value → Int × Int, (∀ v ∈ as.map Value.ref, Srt.IsPair h' v (k v).1 (k v).2) ∧ ∀ (out : List Value) (h2 : Heap) (n : Nat), SrtO.Srtd (fun v u => SrtO.lexB (k v) (k u)) out → SrtO.Stb (fun v u => SrtO.lexB (k v) (k u)) out (as.map Value.ref) →
        (∀ b o, h'.get? b = some o → h2.get? b = some o) → h2.get? h'.objs.size = some (seqObj "list" out.toArray n) → Q (.ref h'.objs.size) { s with heap := h2, toks := tk }) :
    wpAny (model prog w) A (call (.builtin "sorted") [.ref r]) Q E s := by
  refine Calls.call_function_entry kind_sorted plain_sorted entry_sorted (args_sorted1 _) ?_
  unfold Builtin.«sorted»
  refine wpAny_bind (m := checkCount "sorted" 1 1 _) (wpAny_pure ?_)
  refine wpAny_bind (PySem.W.kdx_collect (A := A.in1) (knd := knd) (kvs := kvs) (ep := ep) hh hv hm hn fun h' tk as hk hl hG => ?_)
  have hz : (as.map Value.ref).length ≤ sizeLine := by rw [List.length_map, hl]; exact hn
  refine wpAny_bind (wpAny_newList ?_ hz)
  obtain ⟨k, hp, hQ⟩ := h h' tk as hk hl hG
  have hoL : (h'.push (seqObj "list" (as.map Value.ref).toArray 0)).get? h'.objs.size = some (seqObj "list" (as.map Value.ref).toArray 0) := Heap.get?_push_size _ rfl
  have kp : ∀ b o, h'.get? b = some o → b ≠ h'.objs.size ∧ (h'.push (seqObj "list" (as.map Value.ref).toArray 0)).get? b = some o := fun b o e => ⟨Nat.ne_of_lt (Heap.lt_size e), Heap.get?_push_of_some _ e⟩
  show wpAny _ _ _ _ _ { s with heap := h'.push (seqObj "list" (as.map Value.ref).toArray 0), toks := tk }
  refine wpAny_bind (wpAny_holding (wpAny_call_entry slot_list_sort ⟨_, hoL, rfl⟩ entry_list_sort (SrtO.list_sort_ord (s := { s with heap := h'.push (seqObj "list" (as.map Value.ref).toArray 0), toks := tk }) (SrtO.swo_lex k) hoL hz (fun h2 => ?_) fun out hs hb => ⟨_, rfl, ?_⟩) (args_list_sort _)))
  · refine SrtO.pairs_sortableO (s := { s with heap := h'.push (seqObj "list" (as.map Value.ref).toArray 0), toks := tk }) (by omega) (fun v hm => (hp v hm).keeps fun b o e _ => (kp b o e).2) fun o e => ?_
    have e' : some o = some (seqObj "list" (as.map Value.ref).toArray 0) := e.symm.trans hoL
    cases e'
    intro c
    exact absurd (Value.type.inj c) (by decide)
  · obtain ⟨n, hn2⟩ := sortedHeap_at (vs := as.map Value.ref) (out := out.toArray) hoL
    refine wpAny_pure ⟨_, rfl, hQ out _ n hs hb (fun b o e => ?_) hn2⟩
    exact (sortedHeap_old (kp b o e).1 (Heap.lt_size (kp b o e).2)).trans (kp b o e).2
end
/-- the pair that stands at a reference -/
def pairAt (h : Heap) (v : Value) : Int × Int := match v with
  | .ref a => match h.get? a with
    | some ⟨_, _, .seq its _, _⟩ => match its.toList with
      | [.int x _, .int y _] => (x, y)
      | _ => (0, 0)
    | _ => (0, 0)
  | _ => (0, 0)
def intsK (ps : List (Int × Int)) : List (Key × D) := ps.map fun p => (Sum.inl p.1, D.int p.2)
def pairsD (ps : List (Int × Int)) : List D := ps.map fun p => D.tup [.int p.1, .int p.2]
def dSortIt (t : DE) : DE := fun W δ G Q => t W δ G fun d G1 => match rs G1 d with
  | .dct kvs => ∃ ps : List (Int × Int), kvs = intsK ps ∧ (ps.map (·.1)).Nodup ∧ ∀ qs : List (Int × Int), qs.Perm ps → qs.Pairwise (fun p q => p.1 < q.1) → Q (.lst (pairsD qs)) G1
  | _ => False
theorem rpK_ints {K : PySem.W.Frag} {mg : MG} {H : Hp} {G : DH} : ∀ {ps : List (Int × Int)} {vs : List (Key × V)}, RpK K mg H G (intsK ps) vs → vs = ps.map fun p => (Sum.inl p.1, V.int p.2)
  | [], _, .nil => rfl
  | p :: ps, _, .cons r t => by
    cases r
    rw [rpK_ints t]; rfl
theorem kv_ints : ∀ {ps : List (Int × Int)} {us : List (Key × Value)}, KV (ps.map fun p => ((Sum.inl p.1 : Key), V.int p.2)) us → ∀ (j : Nat) (q : Key × Value), us[j]? = some q → ∃ p t, ps[j]? = some p ∧ q = (Sum.inl p.1, Value.int p.2 t)
  | [], _, .nil, j, q, h => by simp at h
  | p :: ps, _, .cons r t, 0, q, h => by
    simp only [List.getElem?_cons_zero] at h
    cases h
    obtain ⟨e1, t1, e2⟩ := r
    exact ⟨p, t1, rfl, Prod.ext e1.symm e2⟩
  | p :: ps, _, .cons r t, j + 1, q, h => by
    simp only [List.getElem?_cons_succ] at h ⊢
    exact kv_ints t j q h
theorem list_ext_at {α : Type} {xs ys : List α} (hl : xs.length = ys.length) (h : ∀ (j : Nat) x y, xs[j]? = some x → ys[j]? = some y → x = y) : xs = ys := by
  refine List.ext_getElem? fun j => ?_
  cases hx : xs[j]? with
  | none =>
    rw [List.getElem?_eq_none_iff] at hx
    rw [List.getElem?_eq_none (by omega)]
  | some x =>
    have hj := (List.getElem?_eq_some_iff.mp hx).1
    have hy : ys[j]? = some ys[j] := List.getElem?_eq_getElem (by omega)
    rw [hy, h j x _ hx hy]
section
variable {X : Cx} {lv : Nat} {apos cpos p pos : Pos}
theorem rpL_pairs {H : Hp} {G : DH} : ∀ {ps : List (Int × Int)} {ts : List Addr}, Paired (fun (t : Addr) (q : Int × Int) => H t = some (.tup [.int q.1, .int q.2]) ∧ G t = none) ts ps → RpL X.K X.mh H G (pairsD ps) (ts.map V.ref)
  | [], _, .nil => .nil
  | _ :: _, _, .cons q qs => .cons (.tup (.inl ⟨q.2, q.1⟩) (.cons (.int _) (.cons (.int _) .nil))) (rpL_pairs qs)
theorem paired_map1 {α γ : Type} {F : α → γ → Prop} (g : α → γ) : ∀ {xs : List α}, (∀ x ∈ xs, F x (g x)) → Paired F xs (xs.map g)
  | [], _ => .nil
  | x :: xs, h => .cons (h x (List.mem_cons_self ..)) (paired_map1 g fun y hy => h y (List.mem_cons_of_mem _ hy))
theorem pd_sortIt {e : Expr} {t : DE} (he : PD X lv true e t) (hm : X.mg "sorted" = none) (hg : Gl X "sorted" := by rfl) (hb : attributeBase e "items" X.env (eval e X.env) = eval e X.env := by rfl) (hl : (apos.endLine == cpos.line) = true := by rfl)
    (hs : starEach [.Call (.Attribute e "items" apos) [] [] cpos] X.env = (false, eval (.Call (.Attribute e "items" apos) [] [] cpos) X.env) :: starEach [] X.env := by rfl) :
    PD X lv true (.Call (.Name "sorted" p) [.Call (.Attribute e "items" apos) [] [] cpos] [] pos) (dSortIt t) := fun gd Wx tk => by
  refine ⟨fun pins s σ H Q J ⟨W, δ, G, R, st, hgo, ht, lQ, lW⟩ => ?_⟩
  refine wpAny_Call_Name_kw (ld_blt J hg hm PyProof.Rows.boot_sorted ?_)
  refine PyProof.Rows.callWith_builtin1 ?_ hs rfl
  rw [hs]
  refine Calls.spliced_cons (rest := backTo pos (starEach [] X.env)) ?_
  refine wpAny_Call_method (T := "dict") (id := "dict.items") hb rfl hl F.plainAttrs_dict F.slot_dict_items F.type_dict_items (thn ((he gd Wx tk).run pins s σ H (fun x H1 => ∃ a vs ps G1, x = .ref a ∧ Rd H1 a (.dK vs) ∧ Ext H G H1 G1 ∧ HpOk X.K X.mh H1 G1 ∧ RpK X.K X.mh H1 G1 (intsK ps) vs ∧ (ps.map (·.1)).Nodup ∧ ∀ qs : List (Int × Int), qs.Perm ps → qs.Pairwise (fun p q => p.1 < q.1) → R (.lst (pairsD qs)) G1) J
    ⟨W, δ, G, _, st, hgo, ht, fun d G1 H1 v h1 e1 g1 r1 => by
      cases er : rs G1 d with
      | dct kvs =>
        rw [er] at h1
        obtain ⟨ps, rfl, nd, hq⟩ := h1
        obtain ⟨a, vs, rfl, hr, ra⟩ := rs_dct g1 r1 er
        exact ⟨a, vs, ps, G1, rfl, hr, e1, g1, ra, nd, hq⟩
      | _ => rw [er] at h1; exact h1.elim, lW⟩) fun u s1 ⟨x, H1, J1, rx, d, kv0, ps, G1, ex, hd, e1, g1, ra, nd', q⟩ => ?_)
  subst ex
  obtain rfl : u = Value.ref d := rx
  obtain ⟨hz, hy, vs, kv, hdo⟩ := dk_rd J1.hok hd
  obtain ⟨ep, hat⟩ := hdo.dictAt
  have ll : kv0.length = vs.length := Paired.length kv
  have evs := rpK_ints ra
  subst evs
  have lp : ps.length = vs.length := by rw [List.length_map] at ll; exact ll
  have J2 : Inv X pins σ H1 { s1 with heap := s1.heap.push { cls := .type "dict_items", data := .fields #[.ref d] } } := J1.kept (t' := s1.toks) fun _ _ z => Heap.get?_push_of_some _ z
  refine ⟨hdo.typeIs, hdo.mapOf.noDict, (?_ : wpAny _ _ (callWith cpos (.builtin "dict.items") [.ref d] [] []) _ X.xe s1)⟩
  refine method_meetsIn F.slot_dict_items F.entry_dict_items rfl (PySem.evalArgs_none ⟨rfl, hdo.typeIs, F.args_dict_items_1 _, _, meets_dict_items (mixKind X.prog X.w) d hy, ⟨vs, hdo⟩, Calls.spliced_nil ?_⟩)
  refine sorted_itemsR (knd := mixKind X.prog X.w) (kvs := vs) (ep := ep) (J1.ok.hd (gd.cl rfl)) ⟨_, Heap.get?_push_size _ rfl, rfl, rfl⟩ (hat.push _) (by omega) fun h' tk2 as hk hl2 hG => ?_
  have hz0 : s1.heap.objs.size < h'.objs.size := Heap.lt_size (hk _ _ (Heap.get?_push_size _ rfl))
  -- what stands at the j-th
  have at1 : ∀ (j : Nat) (b : Addr), as[j]? = some b → ∃ (pq : Int × Int) (t1 t2 : Tok), ps[j]? = some pq ∧ h'.get? b = some { cls := .type "tuple", data := .seq #[Value.int pq.1 t1, Value.int pq.2 t2] } := fun j b hj => by
    obtain ⟨key, k, x, f1, f2, f3⟩ := hG.pairs j b hj
    obtain ⟨pq, t2, g1, g2⟩ := kv_ints kv j _ f1
    cases g2
    obtain ⟨t1, rfl⟩ : ∃ t1, key = Value.int pq.1 t1 := relV_key (show keyIs (Sum.inl pq.1) key = true from f2)
    exact ⟨pq, t1, t2, g1, f3⟩
  have kat : ∀ (j : Nat) (b : Addr) (pq : Int × Int), as[j]? = some b → ps[j]? = some pq → pairAt h' (.ref b) = pq := fun j b pq hj hp => by
    obtain ⟨pq', t1, t2, e1, e2⟩ := at1 j b hj
    rw [hp] at e1
    cases e1
    simp only [pairAt, e2]
  refine ⟨pairAt h', fun v hv => ?_, fun out h2 n hS hB hk2 hO => ?_⟩
  · obtain ⟨b, hb, rfl⟩ := List.mem_map.mp hv
    obtain ⟨j, hj⟩ := List.mem_iff_getElem?.mp hb
    obtain ⟨pq, t1, t2, e1, e2⟩ := at1 j b hj
    rw [kat j b pq hj e1]
    exact ⟨b, _, t1, t2, 0, rfl, e2, rfl, rfl⟩
  · -- the sorted ones
    have hfr : ∀ a, s1.heap.objs.size ≤ a → H1 a = none := fun a ha => J1.hok.fresh ha
    obtain ⟨bs, hbs, hperm⟩ : ∃ bs : List Addr, out = bs.map Value.ref ∧ bs.Perm as := by
      obtain ⟨bs, e1, e2⟩ := perm_lift Value.ref hB.perm as rfl
      exact ⟨bs, e2.symm, e1⟩
    subst hbs
    have nd : as.Nodup := List.Pairwise.imp (fun h => Nat.ne_of_lt h) hG.rise
    have hn0 : H1 h'.objs.size = none := hfr _ (Nat.le_of_lt hz0)
    have hlen : (bs.map V.ref).length ≤ sizeLine := by rw [List.length_map, hperm.length_eq, hl2]; omega
    have ab : ∀ b ∈ as, s1.heap.objs.size + 1 ≤ b := fun b hb => by
      have := hG.above b hb
      have e : (s1.heap.push { cls := .type "dict_items", data := .fields #[.ref d] }).objs.size = s1.heap.objs.size + 1 := Heap.size_push _ _
      have h2 : (s1.heap.push { cls := .type "dict_items", data := .fields #[.ref d] }).objs.size < b := this
      omega
    have I1 := J2.kept (t' := tk2) fun b o e => hk2 _ _ (hk b o e)
    have I2 := I1.take (h' := h2) (t' := tk2) (it := h'.objs.size) (o := .lst (bs.map V.ref)) (fun b ob _ e => e) (J2.fpOk (by show (s1.heap.push _).objs.size ≤ _; rw [Heap.size_push]; omega) hn0) ⟨hlen, bs.map Value.ref, n, LiI.vals_refs bs, hO⟩
    obtain ⟨H3, I3, g, qt⟩ := L2.DX.takeT (P := fun b vs => ∃ (j : Nat) (pq : Int × Int), as[j]? = some b ∧ ps[j]? = some pq ∧ vs = [.int pq.1, .int pq.2]) J2 as _ I2 nd fun b hb => by
      obtain ⟨j, hj⟩ := List.mem_iff_getElem?.mp hb
      obtain ⟨pq, t1, t2, e1, e2⟩ := at1 j b hj
      refine ⟨by show (s1.heap.push _).objs.size ≤ _; rw [Heap.size_push]; exact ab b hb, ?_, _, ⟨j, pq, hj, e1, rfl⟩, fun H4 => ⟨show 2 ≤ sizeLine by decide, [Value.int pq.1 t1, Value.int pq.2 t2], .cons ⟨t1, rfl⟩ (.cons ⟨t2, rfl⟩ .nil), ⟨_, hk2 _ _ e2, rfl, 0, rfl⟩⟩⟩
      rw [L2.upd_ne (Nat.ne_of_lt (Heap.lt_size e2))]
      exact hfr _ (by have := ab b hb; omega)
    have gr : ∀ b o, H1 b = some o → H3 b = some o := fun b o e => g b o (by rw [L2.upd_ne (fun z => by rw [z, hn0] at e; cases e)]; exact e)
    have ext : Ext H1 G1 H3 G1 := fun b o gz h => ⟨.inl (gr b o h), gz⟩
    have g2 : HpOk X.K X.mh H3 G1 := fun b o hb => (g1 b o hb).ext ext fun u hu => gr b u hu
    have key : ∀ b ∈ as, H3 b = some (.tup [.int (pairAt h' (.ref b)).1, .int (pairAt h' (.ref b)).2]) := fun b hb => by
      obtain ⟨vs3, ⟨j, pq, j1, j2, ev⟩, hH⟩ := qt b hb
      rw [kat j b pq j1 j2, hH, ev]
    have eas : as.map (fun b => pairAt h' (.ref b)) = ps := list_ext_at (by rw [List.length_map, hl2, lp]) fun j x y hx hy => by
      rw [List.getElem?_map] at hx
      cases ej : as[j]? with
      | none => rw [ej] at hx; cases hx
      | some b =>
        rw [ej] at hx
        cases hx
        exact kat j b y ej hy
    have pq : (bs.map fun b => pairAt h' (.ref b)).Perm ps := by rw [← eas]; exact hperm.map _
    refine ⟨.ref _, H3, I3, rfl, lQ _ G1 H3 _ (q (bs.map fun b => pairAt h' (.ref b)) pq ?_) (e1.trans ext) g2 (.lst (g1.free hn0) (g _ _ upd_same) (rpL_pairs (paired_map1 _ fun b hb => ?_)))⟩
    · have nk : ((bs.map fun b => pairAt h' (.ref b)).map (·.1)).Nodup := (pq.map (·.1)).nodup_iff.mpr nd'
      have s1 : (bs.map fun b => pairAt h' (.ref b)).Pairwise (fun p q => SrtO.lexB q p = false) := List.pairwise_map.mpr (List.pairwise_map.mp hS)
      have s2 : (bs.map fun b => pairAt h' (.ref b)).Pairwise (fun p q => p.1 ≠ q.1) := List.pairwise_map.mp nk
      refine (s1.and s2).imp fun {a b} h => ?_
      have := SrtO.lexB_no.mp h.1
      have := h.2
      omega
    · have hb' := hperm.mem_iff.mp hb
      refine ⟨key b hb', g1.free (hfr b ?_)⟩
      have := ab b hb'
      omega
end
end DL

namespace DL
open L2 PyProof.Rows PySem PySem.Spec

/-! ### 29. tuple(list) known to be plain, dict(such a tuple of pairs) -/
def rTupleK : RLD := fun ds G Q => match ds with
  | [d] => match rs G d with
    | .lst xs => Q (.tpk xs) G
    | _ => False
  | _ => False
def pairsT (ps : List (Key × D)) : List D := ps.map fun p => D.tup [kyK p.1, p.2]
def rDictP : RLD := fun ds G Q => match ds with
  | [.tpk xs] => ∃ ps : List (Key × D), xs = pairsT ps ∧ Q (.dct (mgK [] ps)) G
  | _ => False
section
variable {X : Cx} {lv : Nat} {cm : Bool} {K : PySem.W.Frag} {mg : MG} {H : Hp} {G : DH} {pins : List (Addr × Obj)} {σ : L2.St} {s : Shared}
theorem cd_tupleK : CallD X lv cm (.type "tuple") rTupleK := by
  intro gd pins s σ H vs us Q I rv ⟨ds, G, R, hg, r0, h, l⟩
  match ds, r0, h with
  | [d], r0, h =>
    obtain ⟨v, rfl, r⟩ := one_rp r0
    unfold rTupleK at h
    simp only at h
    cases er : rs G d with
    | lst xs =>
      simp only [er] at h
      obtain ⟨a, ws, rfl, ha, ra⟩ := rs_lst hg r er
      obtain ⟨u, rfl, rx⟩ := vals1 rv
      cases rx
      obtain ⟨its, r', pl, hz⟩ := I.list (.inl (.inl ha))
      have hlen := r'.length
      refine call_tuple_list pl.isList (fun h' kp => ?_) (by simp only [List.size_toArray] <;> omega)
      have I1 : Inv X pins σ H { s with heap := h' } := I.kept (t' := s.toks) kp
      have hp : H h'.objs.size = none := I1.hok.fresh (Nat.le_refl _)
      have I2 : Inv X pins σ (L2.upd H h'.objs.size (.frz ⟨.type "tuple", none, .seq its.toArray 0, #[]⟩ (.tup ws))) { s with heap := h'.push { cls := .type "tuple", data := .seq its.toArray } } :=
        I1.laid (t' := s.toks) (fun b o e => Heap.get?_push_of_some _ e) (Nat.le_refl _) (show ObjOk X.prog X.w _ _ _ (.frz _ (.tup ws)) from ⟨Heap.get?_push_size _ rfl, hz, its, r', IsTup.new _ _⟩)
      exact ⟨.ref h'.objs.size, _, I2, rfl, l _ G _ _ h (Ext.newF hp) (hg.newF hp) (.tpk ⟨hg.free hp, _, rfl, upd_same⟩ (ra.ext (Ext.newF hp)))⟩
    | _ => simp only [er] at h
  | [], _, h => exact h.elim
  | _ :: _ :: _, _, h => exact h.elim
theorem RpK.merge : ∀ {ps as : List (Key × D)} {kvs bs : List (Key × V)}, RpK K mg H G ps kvs → RpK K mg H G as bs → (as.map (·.1)).Nodup → RpK K mg H G (mgK as ps) (mergeK bs kvs)
  | _, _, _, _, .nil, s, _ => s
  | (k, d) :: ps, as, (_, v) :: kvs, bs, .cons r t, s, nd => by
    show RpK K mg H G (mgK (ptK as k d) ps) (mergeK (putK bs k v) kvs)
    refine RpK.merge t ?_ (ptK_keys_nodup nd)
    rw [ptK_eq k d nd]
    unfold putK
    rw [any_keys s.keys]
    split
    · exact s.mapPut r
    · exact s.append (.cons r .nil)
theorem rpL_pairsT : ∀ {ps : List (Key × D)} {vs : List V}, RpL K mg H G (pairsT ps) vs → ∃ (ts : List Addr) (kvs : List (Key × V)), vs = ts.map V.ref ∧ RpK K mg H G ps kvs ∧ Paired (fun p kv => SqT K H p [kV kv.1, kv.2]) ts kvs
  | [], _, .nil => ⟨[], [], rfl, .nil, .nil⟩
  | (k, d) :: ps, _, .cons r t => by
    obtain ⟨ts, kvs, rfl, h1, h2⟩ := rpL_pairsT t
    cases r with
    | tup ta ra =>
      cases ra with
      | cons rk rr =>
        cases rr with
        | cons rd rn =>
          cases rn
          have ek : ∀ {u : V}, Rp K mg H G (kyK k) u → u = kV k := fun q => by
            cases k <;> cases q <;> rfl
          cases ek rk
          exact ⟨_ :: ts, (k, _) :: kvs, rfl, .cons rd h1, .cons ta.sqT h2⟩
theorem pairs_of2 (I : Inv X pins σ H s) : ∀ {ts : List Addr} {kvs : List (Key × V)}, Paired (fun p kv => SqT X.K H p [kV kv.1, kv.2]) ts kvs → ∃ (prs : List (Key × Value)) (pv : List (Value × Value)), KV kvs prs ∧ prs.length = ts.length ∧ pv.length = ts.length ∧
    ∀ (j : Nat) (k v : Value), pv[j]? = some (k, v) → ∃ (b : Addr) (kk : Key), ts[j]? = some b ∧ prs[j]? = some (kk, v) ∧ IsTup s.heap b #[k, v] ∧ keyIs kk k = true
  | _, _, .nil => ⟨[], [], .nil, rfl, rfl, fun j k v e => by simp at e⟩
  | _, _, .cons (a := p) (b := kv) h t => by
    obtain ⟨prs, pv, r, hl, hl2, hp⟩ := pairs_of2 I t
    obtain ⟨its, rv, ht, _⟩ := I.tuple h
    obtain ⟨u, y, ei, ru, ry⟩ := vals2 rv
    subst ei
    refine ⟨(kv.1, y) :: prs, (u, y) :: pv, .cons ⟨rfl, ry⟩ r, by rw [List.length_cons, List.length_cons, hl], by rw [List.length_cons, List.length_cons, hl2], fun j k v e => ?_⟩
    cases j with
    | zero =>
      cases (Option.some.inj e)
      exact ⟨p, kv.1, rfl, rfl, ht, kV_is (P := X.prog) (w := X.w) ru⟩
    | succ j =>
      obtain ⟨b, kk, e1, e2, e3⟩ := hp j k v (by simpa using e)
      exact ⟨b, kk, by simpa using e1, by simpa using e2, e3⟩
theorem cd_dictP : CallD X lv true (.type "dict") rDictP := by
  intro gd pins s σ H vs us Q I rv ⟨ds, G, R, hg, r0, h, l⟩
  unfold rDictP at h
  split at h
  · rename_i xs
    obtain ⟨v, rfl, r⟩ := one_rp r0
    obtain ⟨ps, rfl, h⟩ := h
    cases r with
    | @tpk a ws _ ta ra =>
      obtain ⟨u, rfl, rx⟩ := vals1 rv
      cases rx
      obtain ⟨ga, o, od, ha⟩ := ta
      obtain ⟨ts, kvs, rfl, r1, r2⟩ := rpL_pairsT ra
      obtain ⟨ho, hlen, its, r', o2, ho2, oc, n, odat⟩ := (show ObjOk X.prog X.w H s.heap a (.frz o (.tup (ts.map V.ref))) from I.hok a _ ha)
      rw [ho] at ho2
      cases ho2
      have ei := refs_at r'
      subst ei
      obtain ⟨prs, pv, kv, l1, l2, hp⟩ := pairs_of2 I r2
      rw [List.length_map] at hlen
      refine PySem.call_dict_pairs (knd := mixKind X.prog X.w) (kvs := prs) (PySem.PairArg.tuple a (ts.map Value.ref).toArray (fun j => ts.getD j 0) pv) (I.ok.hd (gd.cl rfl)) ⟨⟨o, n, ho, oc, od, odat⟩, ?_, fun j k v e => ?_⟩ ⟨by rw [l1, l2], fun i key v e => ?_⟩ (by rw [l2]; exact hlen) fun h' tk hd' hk => ?_
      · rw [List.size_toArray, List.length_map, l2]
      · obtain ⟨b, kk, e1, e2, e3, e4⟩ := hp j k v e
        have e5 : ts.getD j 0 = b := by rw [List.getD_eq_getElem?_getD, e1]; rfl
        refine ⟨by rw [List.getElem?_toArray, List.getElem?_map, e1]; show some (Value.ref b) = some (Value.ref (ts.getD j 0)); rw [e5], .inl ?_⟩
        show IsTup s.heap (ts.getD j 0) #[k, v]
        rw [e5]; exact e3
      · obtain ⟨b, kk, e1, e2, e3, e4⟩ := hp i key v e
        exact ⟨kk, e2, e4⟩
      · have hm : (s.heap.objs.size == sysModules) = false := beq_eq_false_iff_ne.mpr (Nat.ne_of_gt I.big)
        have hz : (mergeK [] kvs).length ≤ sizeLine := by
          refine Nat.le_trans (length_mergeK kvs []) ?_
          rw [List.length_nil, Nat.zero_add, show kvs.length = prs.length from Paired.length kv, l1]
          exact hlen
        have hp0 : H s.heap.objs.size = none := I.hok.fresh (Nat.le_refl _)
        exact ⟨.ref s.heap.objs.size, L2.upd H s.heap.objs.size (.dK (mergeK [] kvs)), I.laid (t' := tk) (fun b o e => hk b o (by simp) e) (Nat.le_refl _) (show ObjOk X.prog X.w _ _ _ (.dK (mergeK [] kvs)) from ⟨hz, hm, merged [] prs, KV.merge kv .nil, hd'⟩), rfl,
          l _ G _ _ h (Ext.newF hp0) (hg.newF hp0) (.dct (hg.free hp0) (.inl upd_same) ((RpK.merge r1 .nil (by simp)).ext (Ext.newF hp0)))⟩
  · exact h.elim
/-! ### 30. xs.clear() -/
def dClear (to : DE) : DE := fun W δ G Q => to W δ G fun x G1 => match x with
  | .ref a => match G1 a with
    | some (.lst _) => Q .non (upG G1 a (.lst []))
    | _ => False
  | _ => False
theorem pd_clear {o : Expr} {to : DE} {apos pos : Pos} (ho : PD X lv cm o to) (hb : attributeBase o "clear" X.env (eval o X.env) = eval o X.env := by rfl) (hl : (apos.endLine == pos.line) = true := by rfl) :
    PD X lv cm (.Call (.Attribute o "clear" apos) [] [] pos) (dClear to) := fun gd Wx tk => by
  refine ⟨fun pins s σ H Q I ⟨W, δ, G, R, st, hgo, ht, lQ, lW⟩ => ?_⟩
  refine PySem.Call_method0 hb hl (thn ((ho gd Wx tk).run pins s σ H (fun x H1 => ∃ a vs, x = .ref a ∧ H1 a = some (.lst vs) ∧ Q .non (L2.upd H1 a (.lst []))) I ⟨W, δ, G, _, st, hgo, ht, fun d G1 H1 v h1 e1 g1 r1 => by
    cases r1 with
    | ref a =>
      simp only at h1
      cases ea : G1 a with
      | none => simp only [ea] at h1
      | some w =>
        simp only [ea] at h1
        have ob := g1 a w ea
        cases ob with
        | @lst vs xs e3 ra =>
          have ext := Ext.write (H := H1) (o := .lst []) (u := .lst []) ea
          exact ⟨a, vs, rfl, e3, lQ .non _ _ _ h1 (e1.trans ext) (g1.upd ext (.lst upd_same .nil)) .non⟩
        | dct _ _ => exact h1.elim
        | ins _ _ _ _ => exact h1.elim
        | tb _ => exact h1.elim
        | mx _ _ => exact h1.elim
    | _ => exact h1.elim, lW⟩) fun u s1 ⟨x, H1, I1, rx, a, vs, ex, ha, q⟩ => ?_)
  subst ex
  obtain rfl : u = Value.ref a := rx
  obtain ⟨z, its, n, rr, hlen, eo⟩ := I1.lstM ha
  exact ⟨"list", _, F.plainAttrs_list, F.slot_list_clear, F.type_list_clear, ⟨_, eo, rfl⟩, (fun b eb => by cases eb; exact ⟨_, eo, rfl⟩), Calls.callWith_builtin rfl (PySem.evalArgs_none (mt_clear pins s1 σ H1 (.ref a) [] (.ref a) [] Q I1 rfl .nil ⟨a, vs, rfl, rfl, ha, q⟩))⟩
end
end DL

namespace DL
open L2 PyProof.Rows PySem PySem.Spec

/-! ### 31. len of an instance by its own __len__ -/
def LenQ (Q : DQ) : DQ := fun d G => match d with
  | .int i => (0 ≤ i ∧ i < 2 ^ 63) ∧ Q (.int i) G
  | _ => False
def dLenI (n : Str) (sp : DSp) (to : DE) : DE := fun W δ G Q => to W δ G fun x G1 => match rs G1 x with
  | .ins c _ => c.nm = n ∧ Ap sp [x] G1 (LenQ Q) (fun y G3 => W y δ G3) .mk
  | _ => False
section
variable {X : Cx} {lv k : Nat} {f : Addr} {fd : FuncData} {ps : List Str} {n : Str} {sp : DSp}
theorem run_fnG1 {pins : List (Addr × Obj)} {σ : L2.St} {H : Hp} {s : Shared} {Q : VK} {us : List Value} {vs : List V} {S : Sp} {Wx : WX} (F : FnG X.prog X.w X.K X.mg X.base k f fd ps S) (gd : Gd X lv true) (hk : k + 1 ≤ lv) (tk : Takes X Wx) (hb : Binds X.K fd ps [])
    (I : Inv X pins σ H s) (r : Vals vs us) (h : S vs H Q (fun cls dd H' => Wx cls dd σ H')) : wpAny (model X.prog X.w) X.A.in1 (call (.ref f) us) (EP X pins σ Q) X.xe s := by
  have e := I.env0
  have e0 : Env0 X.prog X.w X.K X.mg X.base X.A.in1 X.stack s H := ⟨e.frames, e.mod, e.bs, e.bsz, e.funs, e.frf, e.hok, e.bare⟩
  refine wpAny_call (codeAny_mono (F.run X.A.in1 X.stack s H ⟨us, []⟩ us vs Q _ (gd.room.mono hk).in1 gd.gu e0 (by
    have := hb s us I.kIn (by simpa using (r.length.symm).trans (F.len _ _ _ _ h))
    simpa using this) r h) (fun y s' hq => ?_))
  match y, hq with
  | .error e, hq => exact passAt tk σ pins H s e s' I hq
  | .ok (.ret u), hq => exact I.after hq
  | .ok .next, hq => exact hq.elim
  | .ok .brk, hq => exact hq.elim
  | .ok .cont, hq => exact hq.elim
theorem pd_lenI {e : Expr} {t : DE} {p pos : Pos} (M : HasMX X n "__len__" k ps sp) (hk : k + 1 ≤ lv) (he : PD X lv true e t) (hm : X.mg "len" = none) (hg : Gl X "len" := by rfl) (hs : starEach [e] X.env = (false, eval e X.env) :: starEach [] X.env := by rfl) :
    PD X lv true (.Call (.Name "len" p) [e] [] pos) (dLenI n sp t) := fun gd Wx tk => by
  obtain ⟨C, f, fd, mC, cC, hme, hb, F⟩ := M.ex
  refine ⟨fun pins s σ H Q I ⟨W, δ, G, R, hs', hgo, ht, lQ, lW⟩ => ?_⟩
  refine wpAny_Call_Name_kw (ld_blt I hg hm boot_len ?_)
  refine PyProof.Rows.callWith_builtin1 ?_ hs rfl
  rw [hs]
  refine Calls.spliced_cons (rest := backTo pos (starEach [] X.env)) ?_
  refine thn ((he gd Wx tk).run pins s σ H (fun x H1 => ∃ d G1, Ext H G H1 G1 ∧ HpOk X.K X.mh H1 G1 ∧ Rp X.K X.mh H1 G1 d x ∧ (match rs G1 d with
    | .ins c _ => c.nm = n ∧ Ap sp [d] G1 (LenQ R) (fun y G3 => W y δ G3) .mk
    | _ => False)) I ⟨W, δ, G, _, hs', hgo, ht, fun d G1 H1 v h1 e1 g1 r1 => ⟨d, G1, e1, g1, r1, h1⟩, lW⟩) fun u s1 ⟨x, H1, I1, rx, d, G1, e1, g1, r1, h1⟩ => Calls.spliced_nil ?_
  cases er : rs G1 d with
  | ins c fs =>
    rw [er] at h1
    obtain ⟨en, h1⟩ := h1
    obtain ⟨a, C', dx, fv, rfl, m', ea, ek, ra⟩ := rs_ins g1 r1 er
    rw [en, mC] at m'
    cases m'
    obtain rfl : u = Value.ref a := rx
    obtain ⟨mA, J, _⟩ := ins_get I1.hok ea
    obtain ⟨od, J, _⟩ := J.look
    obtain ⟨m, hF⟩ := I1.fr
    refine PySem.W.len_K hF I1.ok.mod.kin J hme.at_ hme.fn ?_
    refine thn (run_fnG1 (Q := fun v H' => ∃ i, v = .int i ∧ (0 ≤ i ∧ i < 2 ^ 63) ∧ Q (.int i) H') (vs := [.ref a]) (us := [.ref a]) F gd hk tk hb I1 (.cons rfl .nil) (up_sp (hs'.ext e1) g1 (.cons r1 .nil) h1 (fun d G' H' v hd e3 g3 r3 => ?_) (fun ex δ' G' σ' H' cls dd hw e3 => lW ex δ' G' σ' H' cls dd hw (e1.trans e3)))) fun u s2 ⟨v, H2, I2, r2, i, ei, hi, q⟩ => ?_
    · unfold LenQ at hd
      split at hd
      · rename_i i
        cases r3
        exact ⟨i, rfl, hd.1, lQ _ G' H' _ hd.2 (e1.trans e3) g3 (.int i)⟩
      · exact hd.elim
    · subst ei
      obtain ⟨t', rfl⟩ := r2
      exact ⟨hi, .int i, H2, I2.tok _, ⟨_, rfl⟩, q⟩
  | _ => rw [er] at h1; exact h1.elim
end
/-! ### 32. C(k = v, ..) -/
section
variable {X : Cx} {lv k : Nat} {n : Str} {ps ks : List Str} {sp : DSp} {gD : List D → List D → List D} {kws : List Keyword} {u : DA} {p pos : Pos} {fl : List Str}
theorem pd_makeK0 (Cl : HasCX X n k 0 ks gD sp) (hk : k + 1 ≤ lv) (hkw : PDK X lv true kws u) (hg : Gl X n := by rfl)
    (hall : (backToKw pos (keywordEach kws X.env)).all (·.1.isSome) = true := by rfl) (hks : (backToKw pos (keywordEach kws X.env)).filterMap (·.1) = ks := by rfl) (hdb : (n == ("__debug__" : Str)) = false := by decide)
    (hpl : ((backTo pos (starEach [] X.env)).any (·.1) || (backToKw pos (keywordEach kws X.env)).any (·.1.isNone)) = false := by rfl) :
    PD X lv true (.Call (.Name n p) [] kws pos) (dMake ⟨n, fl⟩ 0 ks.length gD sp dNil u) := fun gd Wx tk => by
  obtain ⟨C, f, fd, ps, mC, M, ⟨g, gV, hb, hgv⟩, F⟩ := Cl.ex
  refine ⟨fun pins s σ H Q I ⟨W, δ, G, R, hs, hgo, ht, lQ, lW⟩ => ?_⟩
  refine wpAny_Call_Name_kw (ld_glob I hg mC ?_ hdb)
  refine PySem.W.callWith_KW0 (h₀ := X.base) I.ok.mod.kin M.kp hall ?_ hpl
  refine thn ((hkw gd Wx tk).run pos pins s σ H (fun zs H2 => zs.length = ks.length ∧ ∀ x dx, H2 x = none → H2 dx = none → dx ≠ x → upSp X.K X.mh sp (gV [.ref x] zs) (L2.upd (L2.upd H2 dx (.own x)) x (.ins C dx [])) (fun v H3 => v = .non ∧ Q (.ref x) H3) (fun cls dd H' => Wx cls dd σ H')) I
    ⟨W, δ, G, _, hs, hgo, ht, fun es G2 H2 zs h2 e2 g2 r2 => ⟨by rw [← r2.length]; exact h2.1.2, up_mk mC (hs.ext e2) g2 .nil r2 hgv h2.2 (fun d G' H' v hd e3 => lQ d G' H' v hd (e2.trans e3)) (fun ex δ' G' σ' H' cls dd hw e3 => lW ex δ' G' σ' H' cls dd hw (e2.trans e3))⟩,
      fun ex δ' G' σ' H' cls dd hw e2 => lW ex δ' G' σ' H' cls dd hw e2⟩) fun ws s2 ⟨zs, H2, I2, rz, l2, q2⟩ => ⟨I2.kIn, ?_⟩
  rw [hks]
  exact run_makeG (us := []) (vs := []) M F gd hk tk hb I2 .nil rz rfl l2 q2
end
/-! ### 33. defs with one default, a tuple of nothing, and keyword-only ones -/
theorem funD_mkD {K : PySem.W.Frag} {x qual : Str} {params : Arguments} {body : List Stmt} {scope : Scope} {f T T0 Dk : Addr} {oc doc pm cdv ct oT : Value} {od an odT : Option Addr} {osl slT : Array (Option Value)} {nT : Nat} {q : Str} {b : Bool}
    (l : K.lookup f = some ⟨oc, od, .func (PySem.W.fnOf x qual params body scope (.ref T) (.ref Dk) doc pm an cdv ct), osl⟩) (c : PySem.W.codeIn K cdv qual = true) (k : PySem.W.keepIn K (.ref f) = true)
    (lT : K.lookup T = some ⟨oT, odT, .seq #[.ref T0] nT, slT⟩) (kD : PySem.W.nsIn K Dk q = some (some (.bool b))) :
    FunD K x qual params body scope [.ref T0] [(q, .bl b)] f (PySem.W.fnOf x qual params body scope (.ref T) (.ref Dk) doc pm an cdv ct) :=
  ⟨⟨oc, od, .ref T, .ref Dk, doc, pm, an, cdv, ct, osl, rfl, l, c, .inr ⟨by simp, T, _, [.ref T0], nT, rfl, lT, rfl, .cons rfl .nil⟩, .inr ⟨Dk, rfl, fun z hz => by
    rw [List.mem_singleton] at hz
    subst hz
    exact ⟨_, kD, rfl⟩⟩⟩, k⟩
theorem rp_tup0 {K : PySem.W.Frag} {mg : MG} {H : Hp} {G : DH} {T0 : Addr} {n0 : Nat} {sl0 : Array (Option Value)} (l0 : K.lookup T0 = some ⟨.type "tuple", none, .seq #[] n0, sl0⟩) : Rp K mg H G (.tup []) (.ref T0) :=
  .tup (.inr ⟨_, #[], n0, l0, rfl, rfl, rfl, Nat.zero_le _, .nil⟩) .nil
end DL

namespace PySem
open AutoSeq1 (wpAny_loadPart')
theorem meets_enumerate_newT0 (l : Addr) (items : Array Value) (n : Nat) (dct : Option Addr) (sl : Array (Option Value)) :
    Meets (Builtin.«enumerate.__new__» ⟨[.type "enumerate", .ref l], []⟩) (fun _ R s => s.heap.get? l = some { cls := .type "tuple", dict := dct, data := .seq items n, slots := sl } ∧
      R (.ok (.ret (.ref (s.heap.push { cls := .type "tuple_iterator", data := .fields #[.ref l, .int 0 0] }).objs.size)))
        { s with heap := (s.heap.push { cls := .type "tuple_iterator", data := .fields #[.ref l, .int 0 0] }).push { cls := .type "enumerate", data := .fields #[.none, .bool false, .ref s.heap.objs.size, rawInt 0, .none, .none] } }) :=
  .of_wp fun prog w A R s h => by
    obtain ⟨hp, g, d, tk, os⟩ := s; obtain ⟨hl, h⟩ := h
    have hsub := sub_enumerate
    have hL : Heap.IsTuple (Shared.heap ⟨hp, g, d, tk, os⟩) l items := ⟨_, hl, rfl, n, rfl⟩
    wp_walk using wpAny_loadPart' hl
    refine wpAny_stack_any fun st => wpAny_pure ?_
    split
    · rename_i c _ _ _ _ _
      cases (c == Value.type "enumerate")
      · wp_walk using wpAny_loadPart' hl, wpAny_pyIter_tuple hL
        exact ⟨_, rfl, h⟩
      · wp_walk using wpAny_loadPart' hl, wpAny_pyIter_tuple hL
        exact ⟨_, rfl, h⟩
    · wp_walk using wpAny_loadPart' hl, wpAny_pyIter_tuple hL
      exact ⟨_, rfl, h⟩
theorem call_enumerate_tuple0 {prog : Program} {w : World} {A : Around} {E : Value → Shared → Prop} {s : Shared} {l : Addr} {items : Array Value} {Q : Value → Shared → Prop} (hL : s.heap.IsTuple l items)
    (h : ∀ h', IsEnum h' (s.heap.objs.size + 1) s.heap.objs.size 0 .none → h'.IsTupleIter s.heap.objs.size l 0 → h'.objs.size = s.heap.objs.size + 2 →
      (∀ b o, s.heap.get? b = some o → h'.get? b = some o) → Q (.ref (s.heap.objs.size + 1)) { s with heap := h' }) :
    wpAny (model prog w) A (call (.type "enumerate") [.ref l]) Q E s := by
  obtain ⟨⟨c, dct, dt, sl⟩, hl, hc, n, hd⟩ := hL
  replace hc : c = .type "tuple" := hc
  replace hd : dt = .seq items n := hd
  subst hc hd
  refine callType_new F.called_enumerate (by decide) (F.typeCall_enumerate_1 _) (F.newCall_enumerate_1 _) (fun obj => F.args_object_init_2 obj _) F.entry_enumerate_new
    (meets_enumerate_newT0 l items n dct sl) ⟨hl, ?_⟩
  have hz : (s.heap.push { cls := .type "tuple_iterator", data := .fields #[.ref l, .int 0 0] }).objs.size = s.heap.objs.size + 1 := Heap.size_push ..
  show _ ∧ _
  rw [hz]
  have he : IsEnum ((s.heap.push { cls := .type "tuple_iterator", data := .fields #[.ref l, .int 0 0] }).push
      { cls := .type "enumerate", data := .fields #[.none, .bool false, .ref s.heap.objs.size, rawInt 0, .none, .none] }) (s.heap.objs.size + 1) s.heap.objs.size 0 .none := by
    have := Heap.get?_push_size (s.heap.push { cls := .type "tuple_iterator", data := .fields #[.ref l, .int 0 0] })
      (o := { cls := .type "enumerate", data := .fields #[.none, .bool false, .ref s.heap.objs.size, rawInt 0, .none, .none] }) rfl
    rw [hz] at this; exact this
  refine ⟨⟨_, he, rfl⟩, h _ he ⟨_, Heap.get?_push_of_some _ (Heap.get?_push_size _ rfl), rfl, rfl⟩ (by rw [Heap.size_push, hz]) fun b o x => Heap.get?_push_of_some _ (Heap.get?_push_of_some _ x)⟩
end PySem
namespace DL
open L2 PyProof.Rows PySem PySem.Spec

/-! ### 34. enumerate of a tuple -/
def IteT (K : PySem.W.Frag) (a : Addr) : It :=
  ⟨fun i H => ∃ (xs : List V) (x : V), SqT K H a xs ∧ xs[i]? = some x, fun i H v H' => ∃ T x, v = .ref T ∧ H T = none ∧ H' = L2.upd H T (.tup [.int (i : Nat), x]) ∧ ∀ xs, SqT K H a xs → xs[i]? = some x, fun i H => ∃ xs : List V, SqT K H a xs ∧ xs.length ≤ i⟩
theorem turn_enumT {P : Program} {w : World} {K : PySem.W.Frag} {elts : List Expr} {kk : Nat} {tpos : Pos} (a e it : Addr) :
    Turn P w K (.Tuple elts kk tpos) (IteT K a) [e, it] e (fun i h => (∃ old, IsEnum h e it ((i : Nat) : Int) old) ∧ h.IsTupleIter it a i ∧ e ≠ it ∧ e ≠ a ∧ a ≠ it) where
  mem := by simp
  obj := fun i h st b hb => by
    obtain ⟨⟨old, he⟩, ⟨o, ho, hc, hd⟩, _⟩ := st
    have e' : b = e ∨ b = it := by simpa using hb
    rcases e' with z | z
    · rw [z]; exact ⟨_, he, fun v q => nomatch q⟩
    · rw [z]; exact ⟨o, ho, fun v q => by rw [hd] at q; cases q⟩
  keep := fun i h h' st k => let ⟨⟨old, he⟩, hi, hne⟩ := st; ⟨⟨old, k e (by simp) _ he⟩, hi.at fun o q => k it (by simp) o q, hne⟩
  item := by
    intro X hP hw hK hc i pins s σ H E I hf st hg
    subst hP hw hK
    obtain ⟨⟨old, he⟩, hit, hne, hea, hai⟩ := st
    obtain ⟨xs, x, hq, hx⟩ := hg
    obtain ⟨its, rv, p, hz⟩ := I.tuple hq
    obtain ⟨u, hu, ru⟩ := rv.get hx
    have hel : e < s.heap.objs.size := Heap.lt_size he
    have hil : it < s.heap.objs.size := by obtain ⟨_, q, _⟩ := hit; exact Heap.lt_size q
    have hlt : i < its.toArray.size := by
      have := (List.getElem?_eq_some_iff.mp hu).1
      simpa using this
    refine wpAny_pyNext_enum_itemD (Draws.tuple (A := X.A.in1) (I.ok.hd hc) it a hai its.toArray) he ⟨hit, p⟩ hlt hne (by simp [hne, hea]) fun y h' tk hy ho hst' hT hsz hk => ?_
    have ey : y = u := by
      have h1 : its[i]? = some y := by simpa using hy
      rw [hu] at h1
      exact (Option.some.inj h1).symm
    subst ey
    refine ⟨_, rfl, wpAny_letOwnedTupleGo_enum (s := { s with heap := h', toks := tk + 1 }) ho fun h'' he' sb => ?_⟩
    have hT2 : h''.get? s.heap.objs.size = some { cls := .type "tuple", data := .seq #[.int i tk, y] } := (sb.2 _ (Nat.ne_of_gt hel)).trans hT
    have new : ObjOk X.prog X.w (L2.upd H s.heap.objs.size (.tup [.int (i : Nat), x])) h'' s.heap.objs.size (.tup [.int (i : Nat), x]) :=
      ⟨by show 2 ≤ sizeLine; decide, [.int i tk, y], .cons ⟨_, rfl⟩ (.cons ru .nil), ⟨_, hT2, rfl, _, rfl⟩⟩
    have I1 : Inv X pins σ (L2.upd H s.heap.objs.size (.tup [.int (i : Nat), x])) { s with heap := h'', toks := tk + 1 } :=
      I.turnedNew (ch := [e, it]) (fun b ob hb q => (sb.2 b (fun z => hb (by simp [z]))).trans (hk b ob (fun z => hb (by simp [z])) (fun z => hb (by simp [z])) q)) hf (Nat.le_refl _) new
    refine ⟨.ref s.heap.objs.size, _, I1, rfl, ⟨_, x, rfl, I.hok.fresh (Nat.le_refl _), rfl, fun ys hy => by rw [I.tuple_inj hy hq]; exact hx⟩, ⟨⟨y, ?_⟩, hst'.1.at fun o q => (sb.2 it (Ne.symm hne)).trans q, hne, hea, hai⟩, fun b hb => ?_⟩
    · have e1 : ((i + 1 : Nat) : Int) = (i : Int) + 1 := by omega
      rw [e1]; exact he'
    · have hb' : b < s.heap.objs.size := by
        have e' : b = e ∨ b = it := by simpa using hb
        rcases e' with z | z
        · rw [z]; exact hel
        · rw [z]; exact hil
      rw [L2.upd_ne (Nat.ne_of_lt hb')]
      exact (hf b hb).1
  done := by
    intro X hP hw hK hc i pins s σ H E I hf st hg
    subst hP hw hK
    obtain ⟨⟨old, he⟩, hit, hne, hea, hai⟩ := st
    obtain ⟨xs, hq, hx⟩ := hg
    obtain ⟨its, rv, p, hz⟩ := I.tuple hq
    obtain ⟨f0, f1, f2, f3, f4, f5⟩ := hf it (by simp)
    have hl := rv.length
    refine (?_ : wpAny (model X.prog X.w) X.A (pyNext (.ref e)) _ E s)
    have hT : s.TypeIs (.ref e) "enumerate" := ⟨_, he, rfl⟩
    unfold pyNext
    refine wpAny_bind (wpAny_attempt (wpAny_callSpecial?_slot (name := Str.ofString "__next__") hT F.slot_enumerate_next
      (wpAny_call_entry F.slot_enumerate_next hT F.entry_enumerate_next ?_ (F.args_enumerate_next_1 _))))
    show wpAny _ _ (field (.ref e) 2 >>= _) _ _ _
    refine wpAny_bind (wpAny_field he rfl (x := .ref it) rfl ?_)
    refine wpAny_bind (wpAny_nextOf_tuple_end (I.ok.hd hc) hit p (by simp; omega) fun h' x eb hx' => ?_)
    obtain ⟨o, ho, hcc⟩ := hx'
    refine wpAny_bind (wpAny_isInstance (T := "StopIteration") (b := true) ⟨o, ho, hcc⟩ isSubtype_stop ?_)
    exact wpAny_pure ⟨rfl, I.turned (t' := s.toks) (fun b o hb q => eb b o hb q) f0 f1 f3 f4 f5⟩
  self := fun A i s Q E st h => let ⟨⟨_, he⟩, _⟩ := st; wpAny_pyIter_enum he h
def iEnum2 (K : PySem.W.Frag) (ta : TA) : TI := fun σ H R => ta σ H fun vs H1 => ∃ a xs, vs = [.ref a] ∧ ((SqL K H1 a xs ∧ R (Ite K a) H1) ∨ (SqT K H1 a xs ∧ R (IteT K a) H1))
theorem pi_enum2 {X : Cx} {e : Expr} {ta : TA} {p pos tpos : Pos} {elts : List Expr} {kk : Nat} (hg : Gl X "enumerate") (hm : X.mg "enumerate" = none) (ha : PA X [e] ta) (hs : starEach [e] X.env = [(false, eval e X.env)] := by rfl) :
    PI X (.Tuple elts kk tpos) (.Call (.Name "enumerate" p) [e] [] pos) (iEnum2 X.K ta) := by
  refine ⟨fun pins s σ H R I h => ?_⟩
  refine Call_ (ld_blt I hg hm boot_enumerate (PyProof.Rows.callWith_type1 (thn (ha.run pos pins s σ H _ I h) fun us s1 ⟨vs, H1, I1, r1, q1⟩ => ?_) hs rfl))
  obtain ⟨a, xs, ex, q⟩ := q1
  subst ex
  cases r1 with
  | cons r rr =>
    cases rr
    cases r
    have hfp : ∀ b ∈ [s1.heap.objs.size + 1, s1.heap.objs.size], FpOk X pins H1 b := fun b hb => by
      have e' : b = s1.heap.objs.size + 1 ∨ b = s1.heap.objs.size := by simpa using hb
      have hle : s1.heap.objs.size ≤ b := by
        rcases e' with z | z
        · rw [z]; exact Nat.le_add_right _ _
        · rw [z]; exact Nat.le_refl _
      exact I1.fpOk hle (I1.hok.fresh hle)
    rcases q with ⟨hq, q⟩ | ⟨hq, q⟩
    · obtain ⟨its, rv, p', hz⟩ := I1.list hq
      refine call_enumerate_list p'.isList fun h' he hit hsz hk => wpAny_pyIter_enum he ?_
      have I2 : Inv X pins σ H1 { s1 with heap := h' } := I1.kept (t' := s1.toks) hk
      exact ⟨s1.heap.objs.size + 1, [s1.heap.objs.size + 1, s1.heap.objs.size], _, _, H1, rfl, I2, turn_enum a (s1.heap.objs.size + 1) s1.heap.objs.size, ⟨⟨.none, he⟩, hit, Nat.succ_ne_self _⟩, hfp, q⟩
    · obtain ⟨its, rv, p', hz⟩ := I1.tuple hq
      have hlt : a < s1.heap.objs.size := p'.lt
      refine call_enumerate_tuple0 p' fun h' he hit hsz hk => wpAny_pyIter_enum he ?_
      have I2 : Inv X pins σ H1 { s1 with heap := h' } := I1.kept (t' := s1.toks) hk
      exact ⟨s1.heap.objs.size + 1, [s1.heap.objs.size + 1, s1.heap.objs.size], _, _, H1, rfl, I2, turn_enumT a (s1.heap.objs.size + 1) s1.heap.objs.size, ⟨⟨.none, he⟩, hit, Nat.succ_ne_self _, Nat.ne_of_gt (Nat.lt_succ_of_lt hlt), Nat.ne_of_lt hlt⟩, hfp, q⟩
def diEnum2 (t : DA) : DI := fun W δ G R => t W δ G fun ds G1 => match ds with
  | [.tup xs] => R (enumD xs) (fun _ => True) G1
  | [d] => walkD d G1 fun xs S => notTS d ∧ R (enumD xs) S G1
  | _ => False
section
variable {X : Cx} {lv : Nat} {cm : Bool}
theorem it_enumT {a : Addr} {H0 : Hp} {G0 : DH} {xs : List D} {S : DH → Prop} (h : ∀ H G, Ext H0 G0 H G → HpOk X.K X.mh H G → S G → ∃ vs, SqT X.K H a vs ∧ RpL X.K X.mh H G xs vs) : ItD X (IteT X.K a) H0 G0 (enumD xs) S := by
  refine ⟨fun i x H G hx e hg s => ?_, fun H G e hg s => ?_⟩
  · obtain ⟨vs, hq, r⟩ := h H G e hg s
    obtain ⟨y, hy, rfl⟩ := enumD_get hx
    obtain ⟨v, hv, rv⟩ := r.get hy
    refine ⟨⟨vs, v, hq, hv⟩, fun w H' ⟨T, u, ew, hT, eh, hw⟩ => ?_⟩
    subst eh; subst ew
    have hu := hw vs hq
    exact ⟨Ext.newF hT, hg.newF hT, .tup (.inl ⟨hg.free hT, upd_same⟩) (.cons (.int _) (.cons ((r.getV2 hy hu).ext (Ext.newF hT)) .nil))⟩
  · obtain ⟨vs, hq, r⟩ := h H G e hg s
    exact ⟨vs, hq, by rw [enumD_length, r.length]; exact Nat.le_refl _⟩
theorem pdi_enum2 {e : Expr} {t : DA} {p pos tpos : Pos} {elts : List Expr} {kk : Nat} (hm : X.mg "enumerate" = none) (ha : PDA X lv cm [e] t) (hg : Gl X "enumerate" := by rfl) (hs : starEach [e] X.env = [(false, eval e X.env)] := by rfl) :
    PDI X lv cm (.Tuple elts kk tpos) (.Call (.Name "enumerate" p) [e] [] pos) (diEnum2 t) := fun gd Wx tk =>
  pi_imp (pi_enum2 hg hm (ha gd Wx tk) hs) fun σ H R ⟨W, δ, G, R', hs, hg, ht, l1, l2⟩ => ⟨W, δ, G, _, hs, hg, ht, fun ds G1 H1 vs h1 e1 g1 r1 => by
    split at h1
    · rename_i xs
      obtain ⟨v, rfl, r2⟩ := one_rp r1
      cases r2 with
      | tup ta ra => exact ⟨_, _, rfl, .inr ⟨ta.sqT, l1 _ _ G1 H1 _ h1 e1 g1 (it_enumT fun H G e hg s => ⟨_, (ta.ext e).sqT, ra.ext e⟩)⟩⟩
    · rename_i d _
      obtain ⟨v, rfl, r2⟩ := one_rp r1
      obtain ⟨hns, hw⟩ := walkD_and h1
      obtain ⟨a, vs, xs, S, rfl, hq, hr, hl⟩ := walk_list g1 r2 hw hns
      exact ⟨a, vs, rfl, .inl ⟨hq, l1 _ _ G1 H1 _ hr e1 g1 (it_enum hl)⟩⟩
    · exact h1.elim, l2⟩
/-! ### 35. list(d): taken as it is, or as one that is changed -/
def rListDE : RLD := fun ds G Q => match ds with
  | [.dct kvs] => Q (.lst (kvs.map fun kv => kyK kv.1)) G ∨ ∀ p, G p = none → Q (.ref p) (upG G p (.lst (kvs.map fun kv => kyK kv.1)))
  | _ => False
theorem cd_listDE : CallD X lv true (.type "list") rListDE := by
  intro gd pins s σ H vs us Q I rv ⟨ds, G, R, hg, r0, h, l⟩
  unfold rListDE at h
  split at h
  · rename_i kvs
    obtain ⟨v, rfl, r⟩ := one_rp r0
    cases r with
    | @dct a ws kvs' g e2 ra =>
      refine call_listD (gd.cl rfl) pins s σ H _ us Q I rv ⟨a, ws, rfl, e2, fun p hp => ?_⟩
      rcases h with h | h
      · exact l _ G _ _ h (Ext.newF hp) (hg.newF hp) (.lst (hg.free hp) upd_same (rpL_keys ra))
      · exact l _ _ _ _ (h p (hg.free hp)) (Ext.new hp) (HpOk.new hg hp (.lst upd_same (rpL_keys ra))) (.ref p)
  · exact h.elim
end
end DL

namespace DL
open L2 PyProof.Rows PySem PySem.Spec

/-! ### 36. what is changed no more is let stand, in the midst of a def -/
def FzS (G1 G' : DH) (δ δ' : Sl) : Prop := δ'.length = δ.length ∧ ∀ (i : Nat) (e : D), δ'[i]? = some (some e) → ∃ d, δ[i]? = some (some d) ∧ FzV G1 G' d e
def dFz (t : DS) : DS := fun D δ G => ∃ δ' G', Sub G' G ∧ FzS G G' δ δ' ∧ t D δ' G'
section
variable {X : Cx} {lv : Nat} {cm : Bool} {K : PySem.W.Frag} {mg : MG} {H : Hp} {G G' : DH}
theorem FzS.st {δ δ' : Sl} {σ : L2.St} (s : Sub G' G) (hg : HpOk K mg H G) (f : FzS G G' δ δ') (h : StOk K mg H G δ σ) : StOk K mg H G' δ' σ := by
  refine ⟨f.1.trans h.1, fun i e he => ?_⟩
  obtain ⟨d, h1, h2⟩ := f.2 i e he
  obtain ⟨v, h3, h4⟩ := h.2 i d h1
  exact ⟨v, h3, FzV.rp s hg h2 h4⟩
theorem pds_fz {st : Stmt} {t : DS} (h : PDS X lv cm st t) : PDS X lv cm st (dFz t) := fun gd Wx tk =>
  ps_imp (h gd Wx tk) fun D σ H ⟨DD, δ, G, hs, hg, ⟨δ', G', s, f, ht⟩, l1, l2, l3, l4, l5⟩ =>
    ⟨DD, δ', G', f.st s hg hs, hg.sub s, ht, fun a b c d h e => l1 a b c d h (s.ext.trans e), fun a b c d h e => l2 a b c d h (s.ext.trans e), fun a b c d h e => l3 a b c d h (s.ext.trans e), fun a b c d h e => l4 a b c d h (s.ext.trans e), fun a b c d e f g h i => l5 a b c d e f g h (s.ext.trans i)⟩
end
theorem FzS.cons {G1 G' : DH} {o o' : Option D} {δ δ' : Sl} (h : ∀ e, o' = some e → ∃ d, o = some d ∧ FzV G1 G' d e) (f : FzS G1 G' δ δ') : FzS G1 G' (o :: δ) (o' :: δ') := by
  refine ⟨by rw [List.length_cons, List.length_cons, f.1], fun i e he => ?_⟩
  cases i with
  | zero =>
    simp only [List.getElem?_cons_zero, Option.some.injEq] at he ⊢
    obtain ⟨d, h1, h2⟩ := h e he
    exact ⟨d, h1, h2⟩
  | succ i =>
    simp only [List.getElem?_cons_succ] at he ⊢
    exact f.2 i e he
theorem FzS.nil {G1 G' : DH} : FzS G1 G' [] [] := ⟨rfl, fun i e h => by simp at h⟩
theorem FzS.same {G1 G' : DH} {o : Option D} {δ δ' : Sl} (f : FzS G1 G' δ δ') : FzS G1 G' (o :: δ) (o :: δ') := .cons (fun e h => ⟨e, h, .same e⟩) f
/-! ### 37. small data: it can be shown -/
structure Sm (n b : Nat) (d : D) : Prop where
  ok : okS n d = true
  sh : (py d).leavesShort 300 = true
  bk : (py d).bulk ≤ b
theorem Sm.mono {n b n' b' : Nat} {d : D} (h : Sm n b d) (hb : b ≤ b') : Sm n b' d := ⟨h.ok, h.sh, Nat.le_trans h.bk hb⟩
theorem Sm.fit {n b : Nat} {d : D} (h : Sm n b d) (hb : b ≤ 50000) : (py d).shown.length ≤ sizeLine := by
  have := PyData.shown_le_bulk 300 (by decide) _ h.sh
  have e : sizeLine = 16777216 := by decide
  have := h.bk
  omega
theorem sm_bl {n : Nat} {b : Bool} : Sm n 0 (.bl b) := ⟨by simp [okS], by simp [py, PyData.leavesShort], by simp [py, PyData.bulk]⟩
theorem sm_int {n : Nat} {i : Int} (h : Bd 120 i) : Sm n 0 (.int i) := by
  refine ⟨?_, ?_, by simp [py, PyData.bulk]⟩
  · have := h.log2 (by decide)
    simp only [okS, decide_eq_true_eq]
    omega
  · simp only [py, PyData.leavesShort, decide_eq_true_eq]
    have := int_text_length_le (k := 120) (by decide) (h.log2 (by decide))
    simp only [PyData.shown]
    have e : (Str.ofString (toString i)).length = (toString i).length := PySem.ofString_length _
    show (Str.ofString (toString i)).length ≤ 300
    omega
theorem smL {n b : Nat} : ∀ {xs : List D}, (∀ x ∈ xs, Sm n b x) → okSL n xs = true ∧ PyData.leavesShortAll 300 (pyL xs) = true ∧ PyData.bulkAll (pyL xs) ≤ (b + 1) * xs.length
  | [], _ => ⟨by simp [okSL], by simp [pyL, PyData.leavesShortAll], by simp [pyL, PyData.bulkAll]⟩
  | x :: xs, h => by
    obtain ⟨h1, h2, h3⟩ := smL (xs := xs) fun y hy => h y (List.mem_cons_of_mem _ hy)
    have h0 := h x (List.mem_cons_self ..)
    refine ⟨by simp only [okSL, h0.ok, h1]; rfl, by simp only [pyL, PyData.leavesShortAll, h0.sh, h2]; rfl, ?_⟩
    simp only [pyL, PyData.bulkAll, List.length_cons]
    have := h0.bk
    rw [Nat.mul_add, Nat.mul_one]
    omega
theorem sm_lst {n b m : Nat} {xs : List D} (h : ∀ x ∈ xs, Sm n b x) (hm : (b + 1) * xs.length ≤ m) : Sm (n + 1) m (.lst xs) := by
  obtain ⟨h1, h2, h3⟩ := smL h
  exact ⟨by simp [okS, h1], by simp [py, PyData.leavesShort, h2], by simp only [py, PyData.bulk]; omega⟩
theorem sm_tup {n b m : Nat} {xs : List D} (h : ∀ x ∈ xs, Sm n b x) (hm : (b + 1) * xs.length ≤ m) : Sm (n + 1) m (.tup xs) := by
  obtain ⟨h1, h2, h3⟩ := smL h
  exact ⟨by simp [okS, h1], by simp [py, PyData.leavesShort, h2], by simp only [py, PyData.bulk]; omega⟩
theorem sm_tpk {n b m : Nat} {xs : List D} (h : ∀ x ∈ xs, Sm n b x) (hm : (b + 1) * xs.length ≤ m) : Sm (n + 1) m (.tpk xs) := by
  obtain ⟨h1, h2, h3⟩ := smL h
  exact ⟨by simp [okS, h1], by simp [py, PyData.leavesShort, h2], by simp only [py, PyData.bulk]; omega⟩
/-! okN, deq -/
theorem deq_refl {n : Nat} {d : D} (h : okN n d = true) : deq d d = true := SeqAt.eqv_refl _ (okN_lay h).1
theorem okN_lst {n : Nat} {xs : List D} (h : ∀ x ∈ xs, okN n x = true) : okN (n + 1) (.lst xs) = true := by
  simp only [okN, Nat.add_sub_cancel, Bool.and_eq_true, decide_eq_true_eq]
  exact ⟨Nat.le_add_left .., okNL_iff.mpr h⟩
theorem okN_tup {n : Nat} {xs : List D} (h : ∀ x ∈ xs, okN n x = true) : okN (n + 1) (.tup xs) = true := by
  simp only [okN, Nat.add_sub_cancel, Bool.and_eq_true, decide_eq_true_eq]
  exact ⟨Nat.le_add_left .., okNL_iff.mpr h⟩
theorem okN_tpk {n : Nat} {xs : List D} (h : ∀ x ∈ xs, okN n x = true) : okN (n + 1) (.tpk xs) = true := by
  simp only [okN, Nat.add_sub_cancel, Bool.and_eq_true, decide_eq_true_eq]
  exact ⟨Nat.le_add_left .., okNL_iff.mpr h⟩
theorem deq_nil {xs : List D} : deq (.lst xs) (.lst []) = decide (xs = []) := by
  cases xs with
  | nil => decide
  | cons x xs => rw [decide_eq_false (by simp)]; simp [deq, py, pyL, PyData.eqv, PyData.eqvAll]
theorem deq_tup0 : deq (.tup []) (.tup []) = true := by decide
theorem eqvAll_length : ∀ {xs ys : List PyData}, PyData.eqvAll xs ys = true → xs.length = ys.length
  | [], [], _ => rfl
  | _ :: xs, _ :: ys, h => by
    simp only [PyData.eqvAll, Bool.and_eq_true] at h
    rw [List.length_cons, List.length_cons, eqvAll_length h.2]
  | [], _ :: _, h => by simp [PyData.eqvAll] at h
  | _ :: _, [], h => by simp [PyData.eqvAll] at h
theorem deq_len {xs ys : List D} (h : xs.length ≠ ys.length) : deq (.lst xs) (.lst ys) = false := by
  cases e : deq (.lst xs) (.lst ys) with
  | false => rfl
  | true =>
    simp only [deq, py, PyData.eqv] at e
    have := eqvAll_length e
    rw [pyL_map, pyL_map, List.length_map, List.length_map] at this
    exact absurd this h
theorem inD_str {s : Str} {ns : List Str} : inD (.str s) (ns.map D.str) = decide (s ∈ ns) := by
  unfold inD
  induction ns with
  | nil => simp
  | cons n ns ih =>
    rw [List.map_cons, List.any_cons, ih, deq_str, Bool.eq_iff_iff]
    simp only [Bool.or_eq_true, decide_eq_true_eq, List.mem_cons]
    constructor
    · rintro (h | h)
      · exact .inl h.symm
      · exact .inr h
    · rintro (h | h)
      · exact .inl h.symm
      · exact .inr h
/-! ### 38. texts and names -/
abbrev LET : Str := ("abcdefghijklmnopqrstuvwxyz" : Str)
def nmOk (s : Str) : Prop := (1 ≤ s.length ∧ s.length ≤ 8) ∧ ∀ c ∈ s.cps.toList, c ∈ LET.cps.toList
theorem let_in : (LET.cps.toList.all fun c => strIn ⟨#[c]⟩ LET) = true := by decide +kernel
theorem let_lt : (LET.cps.toList.all fun c => decide (c < 128)) = true := by decide +kernel
theorem let_len : LET.cps.toList.length = 26 := by decide +kernel
theorem in_let {c : Nat} (h : c ∈ LET.cps.toList) : strIn ⟨#[c]⟩ LET = true := List.all_eq_true.mp let_in c h
theorem lt_let {c : Nat} (h : c ∈ LET.cps.toList) : c < 128 := of_decide_eq_true (List.all_eq_true.mp let_lt c h)
theorem nmOk.strOk {s : Str} (h : nmOk s) : PyData.strOk s = true := by
  unfold PyData.strOk
  rw [← Array.all_toList, List.all_eq_true]
  exact fun c hc => decide_eq_true (Nat.lt_trans (lt_let (h.2 c hc)) (by decide))
theorem nmOk.okN {n : Nat} {s : Str} (h : nmOk s) : DL.okN n (.str s) = true := by rw [okN_str]; exact h.strOk
theorem sm_str {n : Nat} {s : Str} (h : nmOk s) : Sm n 8 (.str s) := by
  refine ⟨by simp [okS], ?_, ?_⟩
  · simp only [py, PyData.leavesShort, List.all_eq_true, decide_eq_true_eq]
    exact fun c hc => Nat.lt_trans (lt_let (h.2 c hc)) (by decide)
  · simp only [py, PyData.bulk]
    exact h.1.2
theorem nm_sz {s : Str} (h : nmOk s) : s.length ≤ sizeLine := Nat.le_trans h.1.2 (show 8 ≤ sizeLine by decide)
theorem app_cps (a y : Str) : (a ++ y).cps.toList = a.cps.toList ++ y.cps.toList := by rw [PySem.Str.cps_append, Array.toList_append]
/-- the signs of texts of one sign each, put together -/
theorem join_cps : ∀ ys : List Str, (Txt.join ("" : Str) ys).cps.toList = (ys.map fun y => y.cps.toList).flatten := by
  intro ys
  show (Builtin.Str.glued (PySem.Str.ofString "") ys).cps.toList = _
  rw [StrLaws.glued_eq_join]
  induction ys with
  | nil => rfl
  | cons y ys ih =>
    cases ys with
    | nil => simp [Str.join]
    | cons z zs =>
      rw [List.map_cons, List.flatten_cons, ← ih]
      show (y ++ PySem.Str.ofString "" ++ Str.join (PySem.Str.ofString "") (z :: zs)).cps.toList = _
      rw [app_cps, app_cps]
      have e : (PySem.Str.ofString "").cps.toList = [] := by decide
      rw [e, List.append_nil]
end DL

namespace DL
open L2 PyProof.Rows PySem PySem.Spec

/-! ### 39. one object of the heap is changed, the others stand -/
theorem upG_comm {G : DH} {a b : Addr} {o u : DO} (h : a ≠ b) : upG (upG G a o) b u = upG (upG G b u) a o := by
  funext c
  by_cases e1 : c = b
  · subst e1
    rw [upG_same, upG_ne (fun z => h z.symm), upG_same]
  · by_cases e2 : c = a
    · subst e2
      rw [upG_ne e1, upG_same, upG_same]
    · rw [upG_ne e1, upG_ne e2, upG_ne e2, upG_ne e1]
theorem upG_id {G : DH} {a : Addr} {o : DO} (h : G a = some o) : upG G a o = G := by
  funext c
  by_cases e : c = a
  · rw [e, upG_same, h]
  · rw [upG_ne e]
theorem rs_ne {G : DH} {a : Addr} {o : DO} {d : D} (h : d ≠ .ref a) : rs (upG G a o) d = rs G d := by
  cases d with
  | ref b =>
    have hb : b ≠ a := fun z => h (by rw [z])
    show (match upG G a o b with | some (.lst xs) => D.lst xs | some (.dct kvs) => .dct kvs | some (.ins c fs) => .ins c fs | some (.tb _) => .ref b | some (.mx kvs) => .mxd kvs | none => .ref b) = _
    rw [upG_ne hb]; rfl
  | _ => rfl
/-- a list, that is changed or not -/
def Lst (G : DH) (d : D) (xs : List D) : Prop := d = .lst xs ∨ ∃ a, d = .ref a ∧ G a = some (.lst xs)
theorem Lst.rs {G : DH} {d : D} {xs : List D} (h : Lst G d xs) : rs G d = .lst xs := by
  rcases h with rfl | ⟨a, rfl, h⟩
  · rfl
  · exact rs_rl h
theorem Lst.up {G : DH} {d : D} {xs : List D} {a : Addr} {o : DO} (h : Lst G d xs) (ne : d ≠ .ref a) : Lst (upG G a o) d xs := by
  rcases h with rfl | ⟨b, rfl, h⟩
  · exact .inl rfl
  · exact .inr ⟨b, rfl, by rw [upG_ne fun z => ne (by rw [z])]; exact h⟩
theorem Lst.sub {G G' : DH} {d : D} {xs : List D} (h : Lst G d xs) (s : Sub G G') : Lst G' d xs := by
  rcases h with rfl | ⟨b, rfl, h⟩
  · exact .inl rfl
  · exact .inr ⟨b, rfl, s _ _ h⟩
theorem Lst.ne {G : DH} {d : D} {xs : List D} {a : Addr} (h : Lst G d xs) (ha : G a = none) : d ≠ .ref a := by
  rcases h with rfl | ⟨b, rfl, h⟩
  · exact fun z => nomatch z
  · intro z
    cases z
    rw [ha] at h
    cases h
theorem Lst.new {G : DH} {d : D} {xs : List D} {a : Addr} {o : DO} (h : Lst G d xs) (ha : G a = none) : Lst (upG G a o) d xs := h.up (h.ne ha)
theorem Lst.walk {G : DH} {d : D} {xs : List D} {K : List D → (DH → Prop) → Prop} (h : Lst G d xs) (k : ∀ S : DH → Prop, (∀ G', Lst G' d xs → S G') → K xs S) : walkD d G K := by
  rcases h with rfl | ⟨b, rfl, h⟩
  · exact k _ fun _ _ => trivial
  · unfold walkD
    simp only [h]
    refine k _ fun G' h' => ?_
    rcases h' with z | ⟨c, z, h'⟩
    · cases z
    · cases z; exact h'
theorem Lst.nts {G : DH} {d : D} {xs : List D} (h : Lst G d xs) : notTS d := by
  rcases h with rfl | ⟨b, rfl, h⟩ <;> exact trivial
theorem Lst.enum {G : DH} {d : D} {xs : List D} {R : List D → (DH → Prop) → DH → Prop} (h : Lst G d xs) (k : ∀ S : DH → Prop, (∀ G', Lst G' d xs → S G') → R (enumD xs) S G) :
    (match [d] with
    | [.tup ys] => R (enumD ys) (fun _ => True) G
    | [e] => walkD e G fun ys S => notTS e ∧ R (enumD ys) S G
    | _ => False : Prop) := by
  have n := h.nts
  have w : walkD d G fun ys S => notTS d ∧ R (enumD ys) S G := h.walk fun S hS => ⟨n, k S hS⟩
  rcases h with rfl | ⟨b, rfl, h⟩
  · exact w
  · exact w
/-! ### 40. the pot of draws -/
def Pot (G : DH) (a : Addr) : Prop := ∃ x y : Int, G a = some (.lst [.int x, .int y]) ∧ 0 ≤ y ∧ y < 2147483647
def PotS (a : Addr) (G G' : DH) : Prop := ∃ x y : Int, G' = upG G a (.lst [.int x, .int y]) ∧ 0 ≤ y ∧ y < 2147483647
theorem PotS.pot {a : Addr} {G G' : DH} (h : PotS a G G') : Pot G' a := let ⟨x, y, e, h1, h2⟩ := h; ⟨x, y, by rw [e, upG_same], h1, h2⟩
theorem PotS.trans {a : Addr} {G G1 G2 : DH} (h : PotS a G G1) (k : PotS a G1 G2) : PotS a G G2 := by
  obtain ⟨x, y, rfl, _, _⟩ := h
  obtain ⟨x', y', rfl, h1, h2⟩ := k
  exact ⟨x', y', upG_upG, h1, h2⟩
theorem Pot.refl {a : Addr} {G : DH} (h : Pot G a) : PotS a G G := by
  obtain ⟨x, y, e, h1, h2⟩ := h
  exact ⟨x, y, (upG_id e).symm, h1, h2⟩
theorem Pot.ne {a b : Addr} {G : DH} (h : Pot G a) (hb : G b = none) : a ≠ b := let ⟨_, _, e, _⟩ := h; some_ne e hb
theorem Pot.up {a b : Addr} {G : DH} {o : DO} (h : Pot G a) (ne : a ≠ b) : Pot (upG G b o) a := let ⟨x, y, e, h1, h2⟩ := h; ⟨x, y, by rw [upG_ne ne]; exact e, h1, h2⟩
theorem PotS.get {a b : Addr} {G G' : DH} (h : PotS a G G') (ne : b ≠ a) : G' b = G b := by
  obtain ⟨x, y, rfl, _, _⟩ := h
  exact upG_ne ne
/-- beside another live object -/
theorem PotS.under {a b : Addr} {G G' : DH} {o : DO} (h : PotS a (upG G b o) G') (ne : a ≠ b) : ∃ G1, PotS a G G1 ∧ G' = upG G1 b o := by
  obtain ⟨x, y, rfl, h1, h2⟩ := h
  exact ⟨_, ⟨x, y, rfl, h1, h2⟩, upG_comm (fun z => ne z.symm)⟩
theorem Lst.pot {a : Addr} {G G' : DH} {d : D} {xs : List D} (h : Lst G d xs) (s : PotS a G G') (ne : d ≠ .ref a) : Lst G' d xs := by
  obtain ⟨x, y, rfl, _, _⟩ := s
  exact h.up ne
theorem Pot.neL {a : Addr} {G : DH} {d : D} {xs : List D} (h : Pot G a) (l : Lst G d xs) (n : ∀ x y : Int, xs ≠ [.int x, .int y]) : d ≠ .ref a := by
  obtain ⟨x, y, e, _⟩ := h
  rcases l with rfl | ⟨b, rfl, l⟩
  · exact fun z => nomatch z
  · intro z
    cases z
    rw [e] at l
    cases l
    exact n x y rfl
/-- a list made item by item, with draws -/
theorem lcK_pot {g : DG} {te : DE} {vs : List Nat} {δ : Sl} {Q : DQ} {xs : List D} {S : DH → Prop} {G1 : DH} {a : Addr} (Pr : Nat → D → D → Prop) (hl : xs.length < sizeLine) (hp : Pot G1 a) (hS : ∀ G2, (∀ b o, b ≠ a → G1 b = some o → G2 b = some o) → S G2)
    (h : ∀ i x, xs[i]? = some x → ∀ (G2 : DH) (R : DQ), Pot G2 a → (∀ b o, b ≠ a → G1 b = some o → G2 b = some o) → (∀ y G3, Pr i x y → PotS a G2 G3 → R y G3) → g x W0 (dWipe δ vs) G2 fun δ2 G3 => te W0 δ2 G3 R)
    (q : ∀ ys G2, ys.length = xs.length → (∀ i x y, xs[i]? = some x → ys[i]? = some y → Pr i x y) → PotS a G1 G2 → Q (.lst ys) G2) : lcK g dYes te vs (fun p ys G Q => Q (.lst ys) (delG G p)) δ Q xs S G1 .mk := fun p hn => by
  have ne := hp.ne hn
  have fr : ∀ G0 ys, PotS a G1 G0 → ∀ b o, b ≠ a → G1 b = some o → upG G0 p (.lst ys) b = some o := fun G0 ys s b o hb e => by
    rw [upG_ne (some_ne e hn), s.get hb]; exact e
  refine ⟨fun i ys G => ys.length = i ∧ (∀ j x y, xs[j]? = some x → ys[j]? = some y → Pr j x y) ∧ ∃ G0, PotS a G1 G0 ∧ G = upG G0 p (.lst ys), ⟨rfl, fun j x y _ e => by simp at e, G1, hp.refl, rfl⟩, fun i x ys G hx hg ⟨e1, e2, G0, s0, eG⟩ => ?_, fun ys G hg ⟨e1, e2, G0, s0, eG⟩ => ?_⟩
  · subst eG
    have hi := (List.getElem?_eq_some_iff.mp hx).1
    refine ⟨hS _ (fr G0 ys s0), h i x hx _ _ (s0.pot.up ne) (fr G0 ys s0) fun y G3 py s3 => ?_⟩
    obtain ⟨G4, s4, rfl⟩ := s3.under ne
    refine ⟨upG_same, by rw [e1]; omega, by rw [List.length_append, e1]; rfl, fun j z w hz hw => ?_, G4, s0.trans s4, upG_upG⟩
    by_cases hj : j < ys.length
    · rw [List.getElem?_append_left hj] at hw
      exact e2 j z w hz hw
    · have hj2 : j = ys.length := by
        have := (List.getElem?_eq_some_iff.mp hw).1
        rw [List.length_append, List.length_singleton] at this
        omega
      subst hj2
      rw [List.getElem?_append_right (Nat.le_refl _), Nat.sub_self] at hw
      cases hw
      rw [e1, hx] at hz
      cases hz
      rw [e1]; exact py
  · subst eG
    refine ⟨hS _ (fr G0 ys s0), ?_⟩
    show Q (.lst ys) (delG (upG G0 p (.lst ys)) p)
    rw [delG_upG (by rw [s0.get fun z => ne z.symm]; exact hn)]
    exact q ys G0 e1 e2 s0
/-! ### 41. webs as trees -/
structure TieD where
  nm : Str
  one : Str
  oth : Str
  len : Int
  hs : List (Int × Int)
  pk : Bool
def hsD (t : TieD) : D := if t.pk then .tpk (pairsD t.hs) else .tup (pairsD t.hs)
def perD (p : Str × Int) : D := .tup [.str p.1, .int p.2]
def tieV (t : TieD) : D := .tup [.str t.one, .str t.oth, .int t.len, hsD t]
def tieD (t : TieD) : D := .tup [.str t.nm, .str t.one, .str t.oth, .int t.len, hsD t]
def statesK (f : List (Str × Int)) : List (Key × D) := f.map fun p => (Sum.inr p.1, D.int p.2)
def tiesK (ts : List TieD) : List (Key × D) := ts.map fun t => (Sum.inr t.nm, tieV t)
abbrev webC : CI := ⟨"Web", ["is_of_rounds", "own_states", "own_ties", "reckoned"]⟩
abbrev webD (r : Bool) (f : List (Str × Int)) (ts : List TieD) : D := .ins ⟨"Web", ["is_of_rounds", "own_states", "own_ties", "reckoned"]⟩ [.bl r, .dct (statesK f), .dct (tiesK ts), .lst []]
def hsOk (len : Int) (hs : List (Int × Int)) : Prop := hs.Pairwise (fun p q => p.1 < q.1) ∧ ∀ p ∈ hs, 0 < p.1 ∧ p.1 < len ∧ (p.2 = 1 ∨ p.2 = 2)
structure GW (r : Bool) (f : List (Str × Int)) (ts : List TieD) : Prop where
  fn : ∀ p ∈ f, nmOk p.1 ∧ 0 ≤ p.2 ∧ p.2 ≤ 2
  fd : (f.map (·.1)).Nodup
  fl : 1 ≤ f.length ∧ f.length ≤ 8
  tn : ∀ t ∈ ts, nmOk t.nm ∧ t.nm ∉ f.map (·.1) ∧ t.one ∈ f.map (·.1) ∧ t.oth ∈ f.map (·.1) ∧ t.one ≠ t.oth
  td : (ts.map (·.nm)).Nodup
  tl : ts.length ≤ 12
  ln : ∀ t ∈ ts, (r = true → t.len = 1) ∧ (r = false → 2 ≤ t.len ∧ t.len ≤ 1000000000000000000000000000000)
  hs : ∀ t ∈ ts, hsOk t.len t.hs
  hl : (ts.map fun t => t.hs.length).sum ≤ 12
  hp : ∀ t ∈ ts, t.pk = false → t.hs = []
theorem lk_states {f : List (Str × Int)} {n : Str} : (lkK (statesK f) (.inr n)).isSome = decide (n ∈ f.map (·.1)) := by
  cases e : lkK (statesK f) (.inr n) with
  | none =>
    have h := lkK_none.mp e
    rw [decide_eq_false fun z => h ?_]; rfl
    obtain ⟨p, hp, rfl⟩ := List.mem_map.mp z
    exact List.mem_map.mpr ⟨_, List.mem_map.mpr ⟨p, hp, rfl⟩, rfl⟩
  | some d =>
    have h := lkK_mem e
    obtain ⟨p, hp, e2⟩ := List.mem_map.mp h
    cases e2
    rw [decide_eq_true (List.mem_map.mpr ⟨p, hp, rfl⟩)]; rfl
theorem lk_ties {ts : List TieD} {n : Str} : (lkK (tiesK ts) (.inr n)).isSome = decide (n ∈ ts.map (·.nm)) := by
  cases e : lkK (tiesK ts) (.inr n) with
  | none =>
    have h := lkK_none.mp e
    rw [decide_eq_false fun z => h ?_]; rfl
    obtain ⟨p, hp, rfl⟩ := List.mem_map.mp z
    exact List.mem_map.mpr ⟨_, List.mem_map.mpr ⟨p, hp, rfl⟩, rfl⟩
  | some d =>
    have h := lkK_mem e
    obtain ⟨p, hp, e2⟩ := List.mem_map.mp h
    cases e2
    rw [decide_eq_true (List.mem_map.mpr ⟨p, hp, rfl⟩)]; rfl
theorem keys_states {f : List (Str × Int)} : (statesK f).map (·.1) = (f.map (·.1)).map Sum.inr := by simp [statesK, List.map_map]
theorem keys_ties {ts : List TieD} : (tiesK ts).map (·.1) = (ts.map (·.nm)).map Sum.inr := by simp [tiesK, List.map_map]
theorem nodup_inr {xs : List Str} (h : xs.Nodup) : (xs.map (Sum.inr : Str → Key)).Nodup := List.pairwise_map.mpr (h.imp fun {a b} n e => n (Sum.inr.inj e))
theorem at_states {f : List (Str × Int)} (nd : (f.map (·.1)).Nodup) {p : Str × Int} (h : p ∈ f) : lkK (statesK f) (.inr p.1) = some (.int p.2) :=
  lkK_of_mem (by rw [keys_states]; exact nodup_inr nd) (List.mem_map.mpr ⟨p, h, rfl⟩)
theorem at_ties {ts : List TieD} (nd : (ts.map (·.nm)).Nodup) {t : TieD} (h : t ∈ ts) : lkK (tiesK ts) (.inr t.nm) = some (tieV t) :=
  lkK_of_mem (by rw [keys_ties]; exact nodup_inr nd) (List.mem_map.mpr ⟨t, h, rfl⟩)
theorem kyK_states {f : List (Str × Int)} : (statesK f).map (fun kv => kyK kv.1) = (f.map (·.1)).map D.str := by simp [statesK, List.map_map, kyK, Function.comp_def]
theorem kyK_ties {ts : List TieD} : (tiesK ts).map (fun kv => kyK kv.1) = (ts.map (·.nm)).map D.str := by simp [tiesK, List.map_map, kyK, Function.comp_def]
/-! fields and methods of a web -/
section
variable {a b c d : D} {G : DH} {Q : DQ}
theorem fld_r : rFld "Web" "is_of_rounds" (.ins ⟨"Web", ["is_of_rounds", "own_states", "own_ties", "reckoned"]⟩ [a, b, c, d]) G Q = Q a G := by
  apply propext
  exact ⟨fun h => h.2, fun h => ⟨⟨rfl, by decide⟩, h⟩⟩
theorem fld_s : rFld "Web" "own_states" (.ins ⟨"Web", ["is_of_rounds", "own_states", "own_ties", "reckoned"]⟩ [a, b, c, d]) G Q = Q b G := by
  apply propext
  exact ⟨fun h => h.2, fun h => ⟨⟨rfl, by decide⟩, h⟩⟩
theorem fld_t : rFld "Web" "own_ties" (.ins ⟨"Web", ["is_of_rounds", "own_states", "own_ties", "reckoned"]⟩ [a, b, c, d]) G Q = Q c G := by
  apply propext
  exact ⟨fun h => h.2, fun h => ⟨⟨rfl, by decide⟩, h⟩⟩
theorem fldU_s {p : Addr} (h : G p = some (.ins ⟨"Web", ["is_of_rounds", "own_states", "own_ties", "reckoned"]⟩ [a, b])) : rFld "Web" "own_states" (.ref p) G Q = Q b G := by
  apply propext
  unfold rFld
  rw [rs_ri h]
  exact ⟨fun h => h.2, fun h => ⟨⟨rfl, by decide⟩, h⟩⟩
theorem put_1 : putD ["is_of_rounds", "own_states", "own_ties", "reckoned"] [] "is_of_rounds" a = some [a] := rfl
theorem put_2 : putD ["is_of_rounds", "own_states", "own_ties", "reckoned"] [a] "own_states" b = some [a, b] := rfl
theorem put_3 : putD ["is_of_rounds", "own_states", "own_ties", "reckoned"] [a, b] "own_ties" c = some [a, b, c] := rfl
theorem put_4 : putD ["is_of_rounds", "own_states", "own_ties", "reckoned"] [a, b, c] "reckoned" d = some [a, b, c, d] := rfl
theorem nin_rounds : (("rounds" : Str) ∈ (["is_of_rounds", "own_states", "own_ties", "reckoned"] : List Str)) = False := eq_false (by decide)
theorem nin_persons : (("persons" : Str) ∈ (["is_of_rounds", "own_states", "own_ties", "reckoned"] : List Str)) = False := eq_false (by decide)
theorem nin_ties : (("ties" : Str) ∈ (["is_of_rounds", "own_states", "own_ties", "reckoned"] : List Str)) = False := eq_false (by decide)
theorem nin_has_person : (("has_person" : Str) ∈ (["is_of_rounds", "own_states", "own_ties", "reckoned"] : List Str)) = False := eq_false (by decide)
theorem nin_has_tie : (("has_tie" : Str) ∈ (["is_of_rounds", "own_states", "own_ties", "reckoned"] : List Str)) = False := eq_false (by decide)
theorem nin_has_spot : (("has_spot" : Str) ∈ (["is_of_rounds", "own_states", "own_ties", "reckoned"] : List Str)) = False := eq_false (by decide)
theorem nin_tie_of : (("tie_of" : Str) ∈ (["is_of_rounds", "own_states", "own_ties", "reckoned"] : List Str)) = False := eq_false (by decide)
theorem nin_state : (("state" : Str) ∈ (["is_of_rounds", "own_states", "own_ties", "reckoned"] : List Str)) = False := eq_false (by decide)
theorem nin_ends : (("ends" : Str) ∈ (["is_of_rounds", "own_states", "own_ties", "reckoned"] : List Str)) = False := eq_false (by decide)
theorem nin_length : (("length" : Str) ∈ (["is_of_rounds", "own_states", "own_ties", "reckoned"] : List Str)) = False := eq_false (by decide)
theorem nin_hearers : (("hearers" : Str) ∈ (["is_of_rounds", "own_states", "own_ties", "reckoned"] : List Str)) = False := eq_false (by decide)
theorem nin_beside : (("beside" : Str) ∈ (["is_of_rounds", "own_states", "own_ties", "reckoned"] : List Str)) = False := eq_false (by decide)
theorem nin_part : (("part" : Str) ∈ (["is_of_rounds", "own_states", "own_ties", "reckoned"] : List Str)) = False := eq_false (by decide)
theorem nin_parts : (("parts" : Str) ∈ (["is_of_rounds", "own_states", "own_ties", "reckoned"] : List Str)) = False := eq_false (by decide)
theorem nin_told_persons : (("told_persons" : Str) ∈ (["is_of_rounds", "own_states", "own_ties", "reckoned"] : List Str)) = False := eq_false (by decide)
theorem nin_told_ties : (("told_ties" : Str) ∈ (["is_of_rounds", "own_states", "own_ties", "reckoned"] : List Str)) = False := eq_false (by decide)
end
end DL

namespace DL
open L2 PyProof.Rows PySem PySem.Spec

/-! ### 42. what the readings come to, in two bundles -/
def dF := And.intro @Br_true (And.intro @Br_false (And.intro @rs_non (And.intro @rs_bl (And.intro @rs_i (And.intro @rs_s (And.intro @rs_ty (And.intro @rs_t (And.intro @rs_l (And.intro @rs_k (And.intro @rs_d (And.intro @rs_in (And.intro @rs_c (And.intro @rs_upl (And.intro @rs_upd (And.intro @rs_upi (And.intro @okN_int (And.intro @okN_bl (And.intro @okN_non (And.intro @deq_ii (And.intro @okN_ii (And.intro @deq_int (And.intro @deq_bl (And.intro @deq_str (And.intro @tysB_bool (And.intro @tysB_int (And.intro @tysB_str (And.intro @tysB_tuple (And.intro @tysB_list (And.intro @tysB_dict (And.intro @isT_NoneType_bool (And.intro @isT_NoneType_int (And.intro @isT_NoneType_str (And.intro @isT_NoneType_tuple (And.intro @isT_NoneType_list (And.intro @isT_NoneType_dict (And.intro @isT_bool_bool (And.intro @isT_bool_int (And.intro @isT_bool_str (And.intro @isT_bool_tuple (And.intro @isT_bool_list (And.intro @isT_bool_dict (And.intro @isT_int_bool (And.intro @isT_int_int (And.intro @isT_int_str (And.intro @isT_int_tuple (And.intro @isT_int_list (And.intro @isT_int_dict (And.intro @isT_str_bool (And.intro @isT_str_int (And.intro @isT_str_str (And.intro @isT_str_tuple (And.intro @isT_str_list (And.intro @isT_str_dict (And.intro @isT_tuple_bool (And.intro @isT_tuple_int (And.intro @isT_tuple_str (And.intro @isT_tuple_tuple (And.intro @isT_tuple_list (And.intro @isT_tuple_dict (And.intro @isT_list_bool (And.intro @isT_list_int (And.intro @isT_list_str (And.intro @isT_list_tuple (And.intro @isT_list_list (And.intro @isT_list_dict (And.intro @isT_dict_bool (And.intro @isT_dict_int (And.intro @isT_dict_str (And.intro @isT_dict_tuple (And.intro @isT_dict_list (And.intro @isT_dict_dict (And.intro @atI_0 (And.intro @atI_1 (And.intro @atI_2 (And.intro @atI_3 (And.intro @atI_4 (And.intro @atI_5 (And.intro @atI_6 (And.intro @atI_7 (And.intro @atI_8 (And.intro @atI_9 (And.intro @atI_10 (And.intro @atI_11 (And.intro @atI_12 (And.intro @ixN_0 (And.intro @ixN_1 (And.intro @upG_same (And.intro @upG_upG (And.intro @fld_r (And.intro @fld_s (And.intro @fld_t (And.intro @put_1 (And.intro @put_2 (And.intro @put_3 (And.intro @put_4 (And.intro @nin_rounds (And.intro @nin_persons (And.intro @nin_ties (And.intro @nin_has_person (And.intro @nin_has_tie (And.intro @nin_has_spot (And.intro @nin_tie_of (And.intro @nin_state (And.intro @nin_ends (And.intro @nin_length (And.intro @nin_hearers (And.intro @nin_beside (And.intro @nin_part (And.intro @nin_parts (And.intro @nin_told_persons (@nin_told_ties)))))))))))))))))))))))))))))))))))))))))))))))))))))))))))))))))))))))))))))))))))))))))))))))))))))))))))))))
def dS := And.intro @true_and (And.intro @and_true (And.intro @eq_self.{1} (And.intro @Bool.or_true (And.intro @Bool.true_or (And.intro @Bool.or_false (And.intro @Bool.false_or (And.intro @Bool.and_true (And.intro @Bool.true_and (And.intro @Bool.and_false (And.intro @Bool.false_and (And.intro @Bool.false_eq_true (And.intro @List.getElem?_cons_zero.{0} (And.intro @List.getElem?_cons_succ.{0} (And.intro @List.cons_append.{0} (And.intro @List.nil_append.{0} (And.intro @Nat.add_one_sub_one (And.intro @List.length_cons.{0} (And.intro @List.length_nil.{0} (And.intro @decide_eq_true_eq (And.intro @Bool.not_true (And.intro @Bool.not_false (And.intro @List.replicate_succ.{0} (And.intro @List.replicate_zero.{0} (And.intro @List.set_cons_zero.{0} (And.intro @List.set_cons_succ.{0} (And.intro @List.map_cons.{0,0} (And.intro @List.map_nil.{0,0} (And.intro @not_false_eq_true (And.intro @Option.toList_some.{0} (@List.isEmpty_nil.{0}))))))))))))))))))))))))))))))
end DL

namespace PySem
section
variable {prog : Program} {w : World} {A : Around} {E : Value → Shared → Prop} {s : Shared} {K : Type} [DecidableEq K] {knd : KeyKind prog w K}
theorem wpAny_nextOf_key_item {it d : Addr} {i ep : Nat} {kvs : List (K × Value)} {k : K} {v : Value} {Q : Value → Shared → Prop} (hit : s.heap.IsKeyIter it d i kvs.length ep)
    (hm : s.heap.DictAt knd d kvs ep) (hx : kvs[i]? = some (k, v))
    (hQ : ∀ key h', knd.is k key = true → h'.IsKeyIter it d (i + 1) kvs.length ep → Heap.SameBut it s.heap h' → Q key { s with heap := h' }) :
    wpAny (model prog w) A (Builtin.SmallTypes.nextOf (.ref it)) Q E s := by
  obtain ⟨o, ho, hc, hd⟩ := id hit
  obtain ⟨od, es, hod, hcd, hdd, hk, hp, hn⟩ := id hm
  unfold Builtin.SmallTypes.nextOf
  refine wpAny_bind (wpAny_callSpecial?_slot (name := Str.ofString "__next__") hit.typeIs F.slot_dict_keyiterator_next
    (wpAny_call_entry F.slot_dict_keyiterator_next hit.typeIs F.entry_dict_keyiterator_next ?_ (F.args_dict_keyiterator_next_1 _)))
  refine wpAny_bind (wpAny_pure ?_)
  refine wpAny_bind ?_
  refine wpAny_bind ?_
  first | refine wpAny_bind (wpAny_typeNameOfWhole_keyiter hit.typeIs (wpAny_pure ?_)) | refine wpAny_bind (wpAny_typeNameOf_keyiter hit.typeIs (wpAny_pure ?_))
  refine wpAny_bind (wpAny_fieldsOf ho hd ?_)
  have hown : Builtin.Dict_items.ownsTuple "dict_keyiterator" = false := by decide
  simp only [hown, Bool.false_eq_true, if_false]
  show wpAny _ _ (if (Value.ref d == Value.none) = true then _ else _) _ _ s
  rw [if_neg (show ¬ ((Value.ref d == Value.none) = true) from Bool.false_ne_true)]
  refine wpAny_bind (wpAny_pure ?_)
  refine wpAny_bind (wpAny_dictEntries hod hdd ?_)
  have hsz : es.size = kvs.length := by rw [← hp.length]; simp
  rw [if_neg (by rw [hsz]; simp)]
  refine wpAny_bind (wpAny_pure ?_)
  refine wpAny_bind (wpAny_dictEpoch hod hdd ?_)
  rw [if_neg (by simp)]
  refine wpAny_pure ?_
  have hlt : i < kvs.length := (List.getElem?_eq_some_iff.mp hx).1
  have hlt' : i < es.size := by rw [hsz]; exact hlt
  have hkey : knd.is k es[i].key = true := (hp.get? (e := es[i]) (by simp [hlt']) hx).1
  simp only [show ¬ ((i : Int) < 0) from by omega, if_false, Int.toNat_natCast, Array.getElem?_eq_getElem hlt']
  refine wpAny_bind ?_
  first | refine wpAny_bind (wpAny_typeNameOfWhole_keyiter hit.typeIs (wpAny_pure ?_)) | refine wpAny_bind (wpAny_typeNameOf_keyiter hit.typeIs (wpAny_pure ?_))
  refine wpAny_bind (wpAny_isOneOf_keyiter hit.typeIs ?_)
  show wpAny _ _ (setField (.ref it) 1 (rawInt ((i : Int) + 1)) >>= _) _ _ s
  refine wpAny_bind (wpAny_setField ho hd (by simp) ?_)
  have hit' : (s.heap.update it (Obj.mapFields (·.setIfInBounds 1 (rawInt ((i : Int) + 1))))).IsKeyIter it d (i + 1) kvs.length ep :=
    ⟨_, Heap.get?_update_self _ ho (Obj.isFreed_of_fields (Obj.data_mapFields hd _)), (Obj.cls_mapFields ..).trans hc, by rw [Obj.data_mapFields hd]; simp [rawInt]⟩
  refine wpAny_bind (wpAny_holding ?_)
  refine wpAny_bind (wpAny_isOneOf_keyiter (s := { s with heap := s.heap.update it (Obj.mapFields (·.setIfInBounds 1 (rawInt ((i : Int) + 1)))) }) hit'.typeIs ?_)
  show wpAny _ _ (pure es[i].key) _ _ _
  exact wpAny_pure (wpAny_pure ⟨_, rfl, wpAny_pure (hQ _ _ hkey hit' (Heap.SameBut.update ..))⟩)
theorem wpAny_nextOf_key_end {it d : Addr} {i ep : Nat} {kvs : List (K × Value)} {Q : Value → Shared → Prop} (hh : A.handled = none) (hit : s.heap.IsKeyIter it d i kvs.length ep)
    (hm : s.heap.DictAt knd d kvs ep) (hx : kvs[i]? = none)
    (hE : ∀ h' e, Heap.ExtBut it s.heap h' → (∃ o, h'.get? e = some o ∧ o.cls = .type "StopIteration") → E (.ref e) { s with heap := h' }) : wpAny (model prog w) A (Builtin.SmallTypes.nextOf (.ref it)) Q E s := by
  obtain ⟨o, ho, hc, hd⟩ := id hit
  obtain ⟨od, es, hod, hcd, hdd, hk, hp, hn⟩ := id hm
  unfold Builtin.SmallTypes.nextOf
  refine wpAny_bind (wpAny_callSpecial?_slot (name := Str.ofString "__next__") hit.typeIs F.slot_dict_keyiterator_next
    (wpAny_call_entry F.slot_dict_keyiterator_next hit.typeIs F.entry_dict_keyiterator_next ?_ (F.args_dict_keyiterator_next_1 _)))
  refine wpAny_bind (wpAny_pure ?_)
  refine wpAny_bind ?_
  refine wpAny_bind ?_
  first | refine wpAny_bind (wpAny_typeNameOfWhole_keyiter hit.typeIs (wpAny_pure ?_)) | refine wpAny_bind (wpAny_typeNameOf_keyiter hit.typeIs (wpAny_pure ?_))
  refine wpAny_bind (wpAny_fieldsOf ho hd ?_)
  have hown : Builtin.Dict_items.ownsTuple "dict_keyiterator" = false := by decide
  simp only [hown, Bool.false_eq_true, if_false]
  show wpAny _ _ (if (Value.ref d == Value.none) = true then _ else _) _ _ s
  rw [if_neg (show ¬ ((Value.ref d == Value.none) = true) from Bool.false_ne_true)]
  refine wpAny_bind (wpAny_pure ?_)
  refine wpAny_bind (wpAny_dictEntries hod hdd ?_)
  have hsz : es.size = kvs.length := by rw [← hp.length]; simp
  rw [if_neg (by rw [hsz]; simp)]
  refine wpAny_bind (wpAny_pure ?_)
  refine wpAny_bind (wpAny_dictEpoch hod hdd ?_)
  rw [if_neg (by simp)]
  refine wpAny_pure ?_
  have hge : es.size ≤ i := by rw [hsz]; simpa using hx
  simp only [show ¬ ((i : Int) < 0) from by omega, if_false, Int.toNat_natCast, Array.getElem?_eq_none hge]
  refine wpAny_bind ?_
  first | refine wpAny_bind (wpAny_typeNameOfWhole_keyiter hit.typeIs (wpAny_pure ?_)) | refine wpAny_bind (wpAny_typeNameOf_keyiter hit.typeIs (wpAny_pure ?_))
  show wpAny _ _ (setField (.ref it) 0 .none >>= _) _ _ s
  refine wpAny_bind (wpAny_setField ho hd (by simp) ?_)
  show wpAny _ _ (newExc (.type "StopIteration") [] >>= _) _ _ _
  refine wpAny_bind ?_
  simp only [newExc, newTuple]
  refine wpAny_bind (wpAny_newObj_type ?_ (by size_fits))
  refine wpAny_bind (m := firstArgMember _ _) (wpAny_of_eq (a := Value.none) (by first | rfl | (simp only [firstArgMember]; rfl)) ?_)
  refine wpAny_newObj_type ?_ (by size_fits)
  simp only [raiseNew]
  refine wpAny_bind (wpAny_handled ?_)
  first | rw [show A.in1.handled = none from hh] | rw [hh]
  refine wpAny_bind (wpAny_pure (wpAny_throw ?_))
  exact hE _ _ (((Heap.SameBut.update ..).extBut.push _).push _) ⟨_, Heap.get?_push_size _ rfl, rfl⟩
theorem Draws.dictKeys0 (hh : A.handled = none) (it d : Addr) (hne : d ≠ it) (kvs : List (K × Value)) (ep : Nat) :
    Draws prog w A it [it, d] kvs.length (fun i v => ∃ k x, kvs[i]? = some (k, x) ∧ knd.is k v = true) (fun i h => h.IsKeyIter it d i kvs.length ep ∧ h.DictAt knd d kvs ep) where
  live := fun _ _ st => let ⟨o, ho, _⟩ := st.1; ⟨o, ho⟩
  frame := fun _ _ _ st hk => ⟨st.1.at fun o e => hk it (by simp) o e, st.2.at fun o e => hk d (by simp) o e⟩
  item := fun i s Q E hi st hQ => by
    obtain ⟨⟨k, x⟩, hx⟩ : ∃ p, kvs[i]? = some p := ⟨kvs[i], List.getElem?_eq_getElem hi⟩
    refine wpAny_nextOf_key_item st.1 st.2 hx fun key h' hk hit' hs' => ?_
    exact hQ _ h' s.toks ⟨k, x, hx, hk⟩ ⟨hit', st.2.at fun o e => hs'.extBut d o hne e⟩ hs'
  done := fun s Q E st hE => wpAny_nextOf_key_end hh st.1 st.2 (by simp) hE
/-! zip(d, l): the keys of a dict, a list -/
abbrev zdH1 (h : Heap) (d : Addr) (n ep : Nat) : Heap := h.push { cls := .type "dict_keyiterator", data := .fields #[.ref d, .int 0 0, rawInt n, rawInt ep] }
end
end PySem

namespace PySem
open L2
abbrev zkH1 (h : Heap) (d n ep : Nat) : Heap := h.push { cls := .type "dict_keyiterator", data := .fields #[.ref d, .int 0 0, .int n 0, .int ep 0] }
abbrev zkH2 (h : Heap) (d n ep : Nat) (l2 : Addr) : Heap := (zkH1 h d n ep).push { cls := .type "list_iterator", data := .fields #[.ref l2, .int 0 0] }
abbrev zkH3 (h : Heap) (d n ep : Nat) (l2 : Addr) : Heap := (zkH2 h d n ep l2).push { cls := .type "tuple", data := .seq #[.ref h.objs.size, .ref (zkH1 h d n ep).objs.size] }
abbrev zkH4 (h : Heap) (d n ep : Nat) (l2 : Addr) : Heap := (zkH3 h d n ep l2).push { cls := .type "tuple", data := .seq #[.none, .none] }
abbrev zkH5 (h : Heap) (d n ep : Nat) (l2 : Addr) : Heap := (zkH4 h d n ep l2).push { cls := .type "zip", data := .fields #[.none, .bool false, .bool false, .ref (zkH2 h d n ep l2).objs.size, .ref (zkH3 h d n ep l2).objs.size] }
theorem meets_zip_newK (d l2 : Addr) (ys : Array Value) (o : Obj) (es : Array DictEntry) (ep : Nat) :
    Meets (Builtin.«zip.__new__» ⟨[.type "zip", .ref d, .ref l2], []⟩) (fun _ R s => (d == sysModules) = false ∧ s.heap.get? d = some o ∧ o.ExactDict ∧ o.data = .dict es ep ∧ s.heap.IsList l2 ys ∧
      R (.ok (.ret (.ref (zkH4 s.heap d es.size ep l2).objs.size))) { s with heap := zkH5 s.heap d es.size ep l2 }) :=
  .of_wp fun prog w A R s h => by
    obtain ⟨hp, g, dr, tk, os⟩ := s; obtain ⟨hm, ho, hx, hdt, hl2, h⟩ := h
    have hsub := sub_zip
    have hO : Heap.get? (Shared.heap ⟨hp, g, dr, tk, os⟩) d = some o := ho
    have hL2 : Heap.IsList (Shared.heap ⟨hp.push { cls := .type "dict_keyiterator", data := .fields #[.ref d, .int 0 0, .int es.size 0, .int ep 0] }, g, dr, tk, os⟩) l2 ys := Heap.IsList.push hl2 _
    wp_walk using iter_keys hm hO hx hdt, wpAny_pyIter_list hL2
    exact ⟨_, rfl, h⟩
section
variable {prog : Program} {w : World} {A : Around} {E : Value → Shared → Prop} {s : Shared}
theorem call_zip_K {d l2 : Addr} {ys : Array Value} {o : Obj} {es : Array DictEntry} {ep : Nat} {Q : Value → Shared → Prop} (hm : (d == sysModules) = false) (ho : s.heap.get? d = some o) (hx : o.ExactDict) (hdt : o.data = .dict es ep) (hl2 : s.heap.IsList l2 ys)
    (h : ∀ h', IsZip h' (s.heap.objs.size + 4) (s.heap.objs.size + 2) (s.heap.objs.size + 3) .none → IsPair h' (s.heap.objs.size + 2) (.ref s.heap.objs.size) (.ref (s.heap.objs.size + 1)) →
      IsPair h' (s.heap.objs.size + 3) .none .none → h'.IsKeyIter s.heap.objs.size d 0 es.size ep → h'.IsListIter (s.heap.objs.size + 1) l2 0 → h'.objs.size = s.heap.objs.size + 5 →
      (∀ c o, s.heap.get? c = some o → h'.get? c = some o) → Q (.ref (s.heap.objs.size + 4)) { s with heap := h' }) :
    wpAny (model prog w) A (call (.type "zip") [.ref d, .ref l2]) Q E s := by
  refine callType_new F.called_zip (by decide) (F.typeCall_zip_2 _ _) (F.newCall_zip_2 _ _) (fun obj => F.args_object_init_3 obj _ _) F.entry_zip_new
    (meets_zip_newK d l2 ys o es ep) ⟨hm, ho, hx, hdt, hl2, ?_⟩
  have z1 : (zkH1 s.heap d es.size ep).objs.size = s.heap.objs.size + 1 := Heap.size_push ..
  have z2 : (zkH2 s.heap d es.size ep l2).objs.size = s.heap.objs.size + 2 := by rw [Heap.size_push, z1]
  have z3 : (zkH3 s.heap d es.size ep l2).objs.size = s.heap.objs.size + 3 := by rw [Heap.size_push, z2]
  have z4 : (zkH4 s.heap d es.size ep l2).objs.size = s.heap.objs.size + 4 := by rw [Heap.size_push, z3]
  have z5 : (zkH5 s.heap d es.size ep l2).objs.size = s.heap.objs.size + 5 := by rw [Heap.size_push, z4]
  have g5 : (zkH5 s.heap d es.size ep l2).get? (zkH4 s.heap d es.size ep l2).objs.size = some _ := Heap.get?_push_size _ rfl
  have g4 : (zkH5 s.heap d es.size ep l2).get? (zkH3 s.heap d es.size ep l2).objs.size = some _ := Heap.get?_push_of_some _ (Heap.get?_push_size _ rfl)
  have g3 : (zkH5 s.heap d es.size ep l2).get? (zkH2 s.heap d es.size ep l2).objs.size = some _ := Heap.get?_push_of_some _ (Heap.get?_push_of_some _ (Heap.get?_push_size _ rfl))
  have g2 : (zkH5 s.heap d es.size ep l2).get? (zkH1 s.heap d es.size ep).objs.size = some _ := Heap.get?_push_of_some _ (Heap.get?_push_of_some _ (Heap.get?_push_of_some _ (Heap.get?_push_size _ rfl)))
  have g1 : (zkH5 s.heap d es.size ep l2).get? s.heap.objs.size = some _ := Heap.get?_push_of_some _ (Heap.get?_push_of_some _ (Heap.get?_push_of_some _ (Heap.get?_push_of_some _ (Heap.get?_push_size _ rfl))))
  show _ ∧ _
  rw [z2, z3, z4] at g5
  rw [z1, z2] at g3
  rw [z3] at g4
  rw [z1] at g2
  rw [z4]
  exact ⟨⟨_, g5, rfl⟩, h _ g5 g3 g4 ⟨_, g1, rfl, rfl⟩ ⟨_, g2, rfl, rfl⟩ z5 fun c o x =>
    Heap.get?_push_of_some _ (Heap.get?_push_of_some _ (Heap.get?_push_of_some _ (Heap.get?_push_of_some _ (Heap.get?_push_of_some _ x))))⟩
end
end PySem
namespace DL
open L2 PyProof.Rows PySem PySem.Spec

/-! ### 36. zip(dict, list) -/
def Itzk (K : PySem.W.Frag) (d : Addr) (o : Obj) (kvs : List (Key × V)) (b : Addr) : It :=
  ⟨fun i H => H d = some (.frz o (.dK kvs)) ∧ i < kvs.length ∧ ∃ (ys : List V) (y : V), SqL K H b ys ∧ ys[i]? = some y,
    fun i H v H' => ∃ T k x y, v = .ref T ∧ H T = none ∧ H' = L2.upd H T (.tup [kV k, y]) ∧ kvs[i]? = some (k, x) ∧ ∀ ys, SqL K H b ys → ys[i]? = some y,
    fun i H => H d = some (.frz o (.dK kvs)) ∧ ∃ ys : List V, SqL K H b ys ∧ ((kvs.length ≤ i ∨ ys.length ≤ i) ∧ i ≤ kvs.length ∧ i ≤ ys.length)⟩
theorem zsepK {I d b : Nat} (hd : d < I) (hb : b < I) : ZipSep2 (I + 4) (I + 2) (I + 3) I (I + 1) [I, d] [I + 1, b] := by
  have neN : ∀ {x y : Nat}, ¬ (x = y) → (x : Addr) ≠ y := fun h => h
  have n2 : ∀ {x y z : Nat}, x ≠ y → x ≠ z → (x : Addr) ∉ ([y, z] : List Addr) := fun h1 h2 m => by
    rcases List.mem_cons.mp m with q | q
    · exact h1 q
    · exact h2 (List.mem_singleton.mp q)
  exact ⟨neN (by omega), neN (by omega), neN (by omega), neN (by omega), List.mem_cons_self .., n2 (by omega) (by omega), n2 (by omega) (by omega), neN (by omega), List.mem_cons_self .., n2 (by omega) (by omega), n2 (by omega) (by omega), n2 (by omega) (by omega), n2 (by omega) (by omega)⟩
theorem turn_zipK {P : Program} {w : World} {K : PySem.W.Frag} {elts : List Expr} {kk : Nat} {tpos : Pos} {d b z TI TO i1 i2 : Addr} {o : Obj} {es : Array DictEntry} {ep : Nat} {kvs : List (Key × V)} (hod : o.data = .dict es ep) (D : ZipSep2 z TI TO i1 i2 [i1, d] [i2, b]) (hd1 : d ≠ i1) (hb1 : b ≠ i2) :
    Turn P w K (.Tuple elts kk tpos) (Itzk K d o kvs b) [z, TI, TO, i1, i2] z (fun i h => IsZip h z TI TO .none ∧ IsPair h TI (.ref i1) (.ref i2) ∧ (∃ x y, IsPair h TO x y) ∧ h.IsKeyIter i1 d i kvs.length ep ∧ h.IsListIter i2 b i) where
  mem := by simp
  obj := fun i h st c hc => by
    obtain ⟨hz, hTI, ⟨x, y, hTO⟩, ⟨o1, e1, _, d1⟩, ⟨o2, e2, _, d2⟩⟩ := st
    have e' : c = z ∨ c = TI ∨ c = TO ∨ c = i1 ∨ c = i2 := by simpa using hc
    rcases e' with q | q | q | q | q
    · rw [q]; exact ⟨_, hz, fun v q => nomatch q⟩
    · rw [q]; exact ⟨_, hTI, fun v q => nomatch q⟩
    · rw [q]; exact ⟨_, hTO, fun v q => nomatch q⟩
    · rw [q]; exact ⟨o1, e1, fun v q => by rw [d1] at q; cases q⟩
    · rw [q]; exact ⟨o2, e2, fun v q => by rw [d2] at q; cases q⟩
  keep := fun i h h' st k => by
    obtain ⟨hz, hTI, ⟨x, y, hTO⟩, h1, h2⟩ := st
    exact ⟨k z (by simp) _ hz, k TI (by simp) _ hTI, ⟨x, y, k TO (by simp) _ hTO⟩, h1.at fun o q => k i1 (by simp) o q, h2.at fun o q => k i2 (by simp) o q⟩
  item := by
    intro X hP hw hK hc i pins s σ H E I hf st hg
    subst hP hw hK
    obtain ⟨hz, hTI, ⟨x0, y0, hTO⟩, h1, h2⟩ := st
    obtain ⟨hd, hi, ys, y, hqy, hy⟩ := hg
    obtain ⟨hs, hgd, hx, es', ep', vs, hdt, hsz, kv, hm⟩ := I.frzK hd
    obtain ⟨rfl, rfl⟩ := dict_ep hod hdt
    have hl : kvs.length = vs.length := Paired.length kv
    rw [hl] at h1 hi
    obtain ⟨its2, rv2, p2, _⟩ := I.list hqy
    obtain ⟨u2, hu2, ru2⟩ := rv2.get hy
    have hi2 : i < its2.toArray.size := by
      have := (List.getElem?_eq_some_iff.mp hu2).1
      simpa using this
    have hzl : z < s.heap.objs.size := Heap.lt_size hz
    refine wpAny_pyNext_zipD2_item D (Draws.dictKeys0 (A := X.A.in1) (knd := mixKind X.prog X.w) (I.ok.hd hc) i1 d hd1 vs _) (Draws.list (A := X.A.in1) (I.ok.hd hc) i2 b hb1 its2.toArray) hz hTI hTO ⟨h1, hm⟩ ⟨h2, p2.isList⟩ hi hi2 fun x1 x2 h' tk y1 y2 z' TO' h1' h2' hT hsz' hk => ?_
    obtain ⟨k, x, hvx, hkey⟩ := y1
    refine ⟨_, rfl, wpAny_letOwnedTupleGo_zip (s := { s with heap := h', toks := tk }) z' fun h'' z'' sb => ?_⟩
    have hT2 : h''.get? s.heap.objs.size = some { cls := .type "tuple", data := .seq #[x1, x2] } := (sb.2 _ (Nat.ne_of_gt hzl)).trans hT
    have e2 : x2 = u2 := by
      have y2' : its2.toArray[i]? = some x2 := y2
      rw [List.getElem?_toArray, hu2] at y2'
      exact (Option.some.inj y2').symm
    subst e2
    obtain ⟨xv, hkv⟩ : ∃ xv, kvs[i]? = some (k, xv) := by
      obtain ⟨⟨k', v'⟩, hp⟩ : ∃ p, kvs[i]? = some p := ⟨kvs[i]'(by omega), List.getElem?_eq_getElem (by omega)⟩
      obtain ⟨u, hu, _⟩ := kv_get kv hp
      rw [hvx] at hu
      cases hu
      exact ⟨v', hp⟩
    have new : ObjOk X.prog X.w (L2.upd H s.heap.objs.size (.tup [kV k, y])) h'' s.heap.objs.size (.tup [kV k, y]) :=
      ⟨by show 2 ≤ sizeLine; decide, [x1, x2], .cons (relV_key (show keyIs k x1 = true from hkey)) (.cons ru2 .nil), ⟨_, hT2, rfl, _, rfl⟩⟩
    have I1 : Inv X pins σ (L2.upd H s.heap.objs.size (.tup [kV k, y])) { s with heap := h'', toks := tk } :=
      I.turnedNew (t' := tk) (ch := [z, TI, TO, i1, i2]) (fun c o hb q => (sb.2 c (fun q' => hb (by simp [q']))).trans (hk c o (fun q' => hb (by simp [q'])) (fun q' => hb (by simp [q'])) (fun q' => hb (by simp [q'])) (fun q' => hb (by simp [q'])) q)) hf (Nat.le_refl _) new
    refine ⟨.ref s.heap.objs.size, _, I1, rfl, ⟨_, k, xv, y, rfl, I.hok.fresh (Nat.le_refl _), rfl, hkv, fun l hl => by rw [I.list_inj hl hqy]; exact hy⟩, ⟨z'', ?_, ⟨x1, x2, ?_⟩, ?_, ?_⟩, fun c hcm => ?_⟩
    · exact (sb.2 _ D.TIz).trans (hk _ _ D.TIz D.TITO D.TIi1 D.TIi2 hTI)
    · exact (sb.2 _ D.TOz).trans TO'
    · rw [hl]; exact h1'.1.at fun o q => (sb.2 _ D.zi1.symm).trans q
    · exact h2'.1.at fun o q => (sb.2 _ D.zi2.symm).trans q
    · have hlt : c < s.heap.objs.size := by
        have e' : c = z ∨ c = TI ∨ c = TO ∨ c = i1 ∨ c = i2 := by simpa using hcm
        rcases e' with q | q | q | q | q
        · rw [q]; exact hzl
        · rw [q]; exact Heap.lt_size hTI
        · rw [q]; exact Heap.lt_size hTO
        · rw [q]; obtain ⟨_, e1, _⟩ := h1; exact Heap.lt_size e1
        · rw [q]; obtain ⟨_, e2, _⟩ := h2; exact Heap.lt_size e2
      rw [L2.upd_ne (Nat.ne_of_lt hlt)]
      exact (hf c hcm).1
  done := by
    intro X hP hw hK hc i pins s σ H E I hf st hg
    subst hP hw hK
    obtain ⟨hz, hTI, ⟨x0, y0, hTO⟩, h1, h2⟩ := st
    obtain ⟨hd, ys, hqy, hend, hi1, hi2⟩ := hg
    obtain ⟨hs, hgd, hx, es', ep', vs, hdt, hsz, kv, hm⟩ := I.frzK hd
    obtain ⟨rfl, rfl⟩ := dict_ep hod hdt
    have hl : kvs.length = vs.length := Paired.length kv
    rw [hl] at h1 hi1 hend
    obtain ⟨its2, rv2, p2, _⟩ := I.list hqy
    have l2 := rv2.length
    refine wpAny_pyNext_zipD2_end D (Draws.dictKeys0 (A := X.A.in1) (knd := mixKind X.prog X.w) (I.ok.hd hc) i1 d hd1 vs _) (Draws.list (A := X.A.in1) (I.ok.hd hc) i2 b hb1 its2.toArray) hz hTI hTO ⟨h1, hm⟩ ⟨h2, p2.isList⟩ hi1 (by simp; omega) (by simp only [List.size_toArray]; omega) fun h' tk hk => ⟨rfl, I.turnedL (t' := tk) (ch := [z, TI, TO, i1, i2]) (fun c o hb q =>
      hk c o (fun q' => hb (by simp [q'])) (fun q' => hb (by simp [q'])) (fun q' => hb (by simp [q'])) (fun q' => hb (by simp [q'])) q) hf⟩
  self := fun A i s Q E st h => wpAny_pyIter_zip st.1 h
def iZipK (K : PySem.W.Frag) (ta : TA) : TI := fun σ H R => ta σ H fun vs H1 => ∃ d o kvs b ys, vs = [.ref d, .ref b] ∧ H1 d = some (.frz o (.dK kvs)) ∧ SqL K H1 b ys ∧ R (Itzk K d o kvs b) H1
theorem pi_zipK {X : Cx} {e e2 : Expr} {ta : TA} {p pos tpos : Pos} {elts : List Expr} {kk : Nat} (hg : Gl X "zip") (hm : X.mg "zip" = none) (ha : PA X [e, e2] ta)
    (hs : starEach [e, e2] X.env = (false, eval e X.env) :: starEach [e2] X.env := by rfl) (hpl : (backTo pos (starEach [e2] X.env)).any (·.1) = false := by rfl) :
    PI X (.Tuple elts kk tpos) (.Call (.Name "zip" p) [e, e2] [] pos) (iZipK X.K ta) := by
  refine ⟨fun pins s σ H R I h => ?_⟩
  refine Call_ (ld_blt I hg hm PyProof.Rows.boot_zip (PyProof.Rows.callWith_type1 (thn (ha.run pos pins s σ H _ I h) fun us s1 ⟨vs, H1, I1, r1, q1⟩ => ?_) hs hpl))
  obtain ⟨d, o, kvs, b, ys, ex, hd, hqy, q⟩ := q1
  subst ex
  cases r1 with
  | cons r rr =>
    cases rr with
    | cons r' rr =>
      cases rr
      cases r
      cases r'
      obtain ⟨hsy, hgd, hx, es, ep, vs, hdt, hsz, kv, hm⟩ := I1.frzK hd
      obtain ⟨its2, rv2, p2, _⟩ := I1.list hqy
      have la : d < s1.heap.objs.size := Heap.lt_size hgd
      have lb : b < s1.heap.objs.size := p2.lt
      refine call_zip_K hsy hgd hx hdt p2.isList fun h' hz hTI hTO h1 h2 hsz' hk => wpAny_pyIter_zip hz ?_
      have I2 : Inv X pins σ H1 { s1 with heap := h' } := I1.kept (t' := s1.toks) hk
      rw [hsz] at h1
      refine ⟨s1.heap.objs.size + 4, [s1.heap.objs.size + 4, s1.heap.objs.size + 2, s1.heap.objs.size + 3, s1.heap.objs.size, s1.heap.objs.size + 1], _, _, H1, rfl, I2, turn_zipK hdt (zsepK la lb) (Nat.ne_of_lt la) (Nat.ne_of_lt (Nat.lt_succ_of_lt lb)), ⟨hz, hTI, ⟨_, _, hTO⟩, h1, h2⟩, fun c hcm => ?_, q⟩
      have e' : c = s1.heap.objs.size + 4 ∨ c = s1.heap.objs.size + 2 ∨ c = s1.heap.objs.size + 3 ∨ c = s1.heap.objs.size ∨ c = s1.heap.objs.size + 1 := by simpa using hcm
      have hle : s1.heap.objs.size ≤ c := by
        rcases e' with z | z | z | z | z
        · rw [z]; exact Nat.le_add_right _ _
        · rw [z]; exact Nat.le_add_right _ _
        · rw [z]; exact Nat.le_add_right _ _
        · rw [z]; exact Nat.le_refl _
        · rw [z]; exact Nat.le_add_right _ _
      exact I1.fpOk hle (I1.hok.fresh hle)
/-- zip(a dict, a list) -/
def diZipK (t : DA) : DI := fun W δ G R => t W δ G fun ds G1 => match ds with
  | [.dct kvs, d] => walkD d G1 fun ys S' => notTS d ∧ R (zipD (kvs.map fun kv => kyK kv.1) ys) S' G1
  | _ => False
section
variable {X : Cx} {lv : Nat} {cm : Bool} {pos : Pos}
theorem it_zipK {a b : Addr} {o : Obj} {H0 : Hp} {G0 : DH} {vs : List (Key × V)} {kvs : List (Key × D)} {ys : List D} {S' : DH → Prop} (ga : G0 a = none) (hd : H0 a = some (.frz o (.dK vs))) (ra : RpK X.K X.mh H0 G0 kvs vs)
    (h' : ∀ H G, Ext H0 G0 H G → HpOk X.K X.mh H G → S' G → ∃ us, SqL X.K H b us ∧ RpL X.K X.mh H G ys us) : ItD X (Itzk X.K a o vs b) H0 G0 (zipD (kvs.map fun kv => kyK kv.1) ys) S' := by
  refine ⟨fun i x H G hx e hg s => ?_, fun H G e hg s => ?_⟩
  · obtain ⟨us, hq', r'⟩ := h' H G e hg s
    unfold zipD at hx
    rw [List.getElem?_zipWith] at hx
    cases e1 : (kvs.map fun kv => kyK kv.1)[i]? with
    | none => rw [e1] at hx; simp at hx
    | some y =>
      cases e2 : ys[i]? with
      | none => rw [e1, e2] at hx; simp at hx
      | some z =>
        rw [e1, e2] at hx
        cases hx
        obtain ⟨u, hu, ru⟩ := r'.get e2
        have hi := (List.getElem?_eq_some_iff.mp e1).1
        rw [List.length_map, ra.length] at hi
        refine ⟨⟨(e.get ga hd).1, hi, us, u, hq', hu⟩, fun w H' ⟨T, k, xv, y2, ew, hT, eh, hk, hw⟩ => ?_⟩
        subst eh; subst ew
        have hu2 := hw us hq'
        obtain ⟨dd, hd1, _⟩ := ra.at' hk
        rw [List.getElem?_map, hd1] at e1
        cases e1
        exact ⟨Ext.newF hT, hg.newF hT, .tup (.inl ⟨hg.free hT, upd_same⟩) (.cons (rp_key k) (.cons ((r'.getV2 e2 hu2).ext (Ext.newF hT)) .nil))⟩
  · obtain ⟨us, hq', r'⟩ := h' H G e hg s
    refine ⟨(e.get ga hd).1, us, hq', ?_⟩
    rw [zipD, List.length_zipWith, List.length_map, ra.length, r'.length]
    omega
theorem pa_lock0 {es : List Expr} {ta : TA} (h : PA X es ta) : PA X es (fun σ H Q => ta σ H fun vs H1 => ∃ a ws, vs.head? = some (.ref a) ∧ Rd H1 a (.dK ws) ∧ ∀ o H2, H2 a = some (.frz o (.dK ws)) → (∀ G : DH, G a = none → Ext H1 G H2 G ∧ (HpOk X.K X.mh H1 G → HpOk X.K X.mh H2 G)) → Q vs H2) :=
  ⟨fun pos pins s σ H Q I q => thn (h.run pos pins s σ H _ I q) fun us s1 ⟨vs, H1, I1, rx, a, ws, ex, hr, q⟩ => by
    obtain ⟨o, H2, I2, h2, hx⟩ := lockD I1 hr
    exact ⟨vs, H2, I2, rx, q o H2 h2 hx⟩⟩
theorem pdi_zipK {e e2 : Expr} {t : DA} {p tpos : Pos} {elts : List Expr} {kk : Nat} (hm : X.mg "zip" = none) (ha : PDA X lv cm [e, e2] t) (hg : Gl X "zip" := by rfl)
    (hs : starEach [e, e2] X.env = (false, eval e X.env) :: starEach [e2] X.env := by rfl) (hpl : (backTo pos (starEach [e2] X.env)).any (·.1) = false := by rfl) :
    PDI X lv cm (.Tuple elts kk tpos) (.Call (.Name "zip" p) [e, e2] [] pos) (diZipK t) := fun gd Wx tk =>
  pi_imp (pi_zipK hg hm (pa_lock0 (ha gd Wx tk)) hs hpl) fun σ H R ⟨W, δ, G, R', hs, hg, ht, l1, l2⟩ => ⟨W, δ, G, _, hs, hg, ht, fun ds G1 H1 vs h1 e1 g1 r1 => by
    split at h1
    · rename_i kvs d
      obtain ⟨v, u, rfl, r2, r3⟩ := two_rp r1
      cases r2 with
      | dct g e2 ra =>
        obtain ⟨hns2, hw2⟩ := walkD_and h1
        refine ⟨_, _, rfl, e2, fun o H2 h2 hx => ?_⟩
        obtain ⟨ex, hk⟩ := hx G1 g
        obtain ⟨b, us, ys, S', rfl, hq', hr, hl'⟩ := walk_list (hk g1) (r3.ext ex) hw2 hns2
        exact ⟨_, o, _, b, us, rfl, h2, hq', l1 _ _ G1 H2 _ hr (e1.trans ex) (hk g1) (it_zipK g h2 (ra.ext ex) hl')⟩
    · exact h1.elim, l2⟩
end
end DL

namespace DL
open L2 PyProof.Rows PySem PySem.Spec

/-! ### 37. xs.pop(), xs.pop(i) -/
def dPop (to : DE) : DE := fun W δ G Q => to W δ G fun x G1 => match x with
  | .ref a => ∃ ys y, G1 a = some (.lst (ys ++ [y])) ∧ Q y (upG G1 a (.lst ys))
  | _ => False
def dPopAt (to te : DE) : DE := fun W δ G Q => to W δ G fun x G1 => match x with
  | .ref a => isL G1 a ∧ te W δ G1 fun y G2 => match y with
    | .int i => ∃ (xs : List D) (k : Nat) (d : D), G2 a = some (.lst xs) ∧ i = k ∧ k < 2 ^ 62 ∧ xs[k]? = some d ∧ Q d (upG G2 a (.lst (xs.eraseIdx k)))
    | _ => False
  | _ => False
section
variable {X : Cx} {lv : Nat} {cm : Bool} {apos pos : Pos}
theorem RpL.snoc {H : Hp} {G : DH} {ys : List D} {y : D} {vs : List V} (r : RpL X.K X.mh H G (ys ++ [y]) vs) : ∃ us v, vs = us ++ [v] ∧ RpL X.K X.mh H G ys us ∧ Rp X.K X.mh H G y v := by
  induction ys generalizing vs with
  | nil =>
    cases r with
    | cons r t => cases t; exact ⟨[], _, rfl, .nil, r⟩
  | cons d ds ih =>
    cases r with
    | cons r t =>
      obtain ⟨us, v, rfl, h1, h2⟩ := ih t
      exact ⟨_ :: us, v, rfl, .cons r h1, h2⟩
theorem pd_pop {o : Expr} {to : DE} (ho : PD X lv cm o to) (hb : attributeBase o "pop" X.env (eval o X.env) = eval o X.env := by rfl) (hl : (apos.endLine == pos.line) = true := by rfl) :
    PD X lv cm (.Call (.Attribute o "pop" apos) [] [] pos) (dPop to) := fun gd Wx tk => by
  refine ⟨fun pins s σ H Q I ⟨W, δ, G, R, st, hgo, ht, lQ, lW⟩ => ?_⟩
  refine PySem.Call_method0 hb hl (thn ((ho gd Wx tk).run pins s σ H (fun x H1 => ∃ a us v, x = .ref a ∧ H1 a = some (.lst (us ++ [v])) ∧ Q v (L2.upd H1 a (.lst us))) I ⟨W, δ, G, _, st, hgo, ht, fun d G1 H1 v h1 e1 g1 r1 => by
    cases r1 with
    | ref a =>
      obtain ⟨ys, y, ea, h1⟩ := h1
      have ob := g1 a _ ea
      cases ob with
      | lst e3 ra =>
        obtain ⟨us, v, rfl, r2, r3⟩ := ra.snoc
        have ext := Ext.write (H := H1) (o := .lst ys) (u := .lst us) ea
        exact ⟨a, us, v, rfl, e3, lQ y _ _ _ h1 (e1.trans ext) (g1.upd ext (.lst upd_same (r2.ext ext))) (r3.ext ext)⟩
    | _ => exact h1.elim, lW⟩) fun u s1 ⟨x, H1, I1, rx, a, us, v, ex, ha, q⟩ => ?_)
  subst ex
  obtain rfl : u = Value.ref a := rx
  obtain ⟨z, its, n, rr, hlen, eo⟩ := I1.lstM ha
  exact ⟨"list", _, F.plainAttrs_list, F.slot_list_pop, F.type_list_pop, ⟨_, eo, rfl⟩, (fun b eb => by cases eb; exact ⟨_, eo, rfl⟩), Calls.callWith_builtin rfl (PySem.evalArgs_none (mt_pop pins s1 σ H1 (.ref a) [] (.ref a) [] Q I1 rfl .nil ⟨a, us ++ [v], v, rfl, rfl, ha, by simp, by rw [List.dropLast_concat]; exact q⟩))⟩
theorem RpL.erase {H : Hp} {G : DH} : ∀ {xs : List D} {vs : List V} (k : Nat), RpL X.K X.mh H G xs vs → RpL X.K X.mh H G (xs.eraseIdx k) (vs.eraseIdx k)
  | _, _, _, .nil => by simp; exact .nil
  | _, _, 0, .cons _ t => by simpa using t
  | _, _, k + 1, .cons r t => by simpa using .cons r (RpL.erase k t)
theorem pd_popAt {o e : Expr} {to te : DE} (ho : PD X lv cm o to) (he : PD X lv cm e te) (hs : starEach [e] X.env = [(false, eval e X.env)] := by rfl) (hb : attributeBase o "pop" X.env (eval o X.env) = eval o X.env := by rfl) (hl : (apos.endLine == pos.line) = true := by rfl) :
    PD X lv cm (.Call (.Attribute o "pop" apos) [e] [] pos) (dPopAt to te) := fun gd Wx tk => by
  refine ⟨fun pins s σ H Q I ⟨W, δ, G, R, st, hgo, ht, lQ, lW⟩ => ?_⟩
  refine PySem.Call_method1 hb hs hl (thn ((ho gd Wx tk).run pins s σ H (fun x H1 => ∃ a G1, x = .ref a ∧ Ext H G H1 G1 ∧ HpOk X.K X.mh H1 G1 ∧ isL G1 a ∧ te W δ G1 fun y G2 => match y with
    | .int i => ∃ (xs : List D) (k : Nat) (d : D), G2 a = some (.lst xs) ∧ i = k ∧ k < 2 ^ 62 ∧ xs[k]? = some d ∧ R d (upG G2 a (.lst (xs.eraseIdx k)))
    | _ => False) I ⟨W, δ, G, _, st, hgo, ht, fun d G1 H1 v h1 e1 g1 r1 => by
      cases r1 with
      | ref a => exact ⟨a, G1, rfl, e1, g1, h1.1, h1.2⟩
      | _ => exact h1.elim, lW⟩) fun u s1 ⟨x, H1, I1, rx, a, G1, ex, e1, g1, hi, q⟩ => ?_)
  subst ex
  obtain rfl : u = Value.ref a := rx
  obtain ⟨vs, ha⟩ := isL_at g1 hi
  obtain ⟨z, its, n, rr, hlen, eo⟩ := I1.lstM ha
  refine ⟨"list", _, F.plainAttrs_list, F.slot_list_pop, F.type_list_pop, ⟨_, eo, rfl⟩, (fun b eb => by cases eb; exact ⟨_, eo, rfl⟩), Calls.callWith_builtin rfl (Calls.evalArgs_plain (Calls.spliced_cons ?_))⟩
  refine thn ((he gd Wx tk).run pins s1 σ H1 (fun y H2 => rPopAt (.ref a) [y] H2 Q) I1 ⟨W, δ, G1, _, st.ext e1, g1, q, fun y G2 H2 v h2 e2 g2 r2 => ?_, fun ex δ' G' σ' H' cls dd hw e2 => lW ex δ' G' σ' H' cls dd hw (e1.trans e2)⟩) fun w s2 ⟨y, H2, I2, r2, q2⟩ => Calls.spliced_nil (mt_popAt pins s2 σ H2 (.ref a) [y] (.ref a) [w] Q I2 rfl (.cons r2 .nil) q2)
  cases r2 with
  | int i =>
    obtain ⟨xs, k, d, ea, rfl, hk, hd, h2⟩ := h2
    have ob := g2 a _ ea
    cases ob with
    | lst e3 ra =>
      rename_i vs2
      obtain ⟨v, hv, rv⟩ := ra.get hd
      have ext := Ext.write (H := H2) (o := .lst (xs.eraseIdx k)) (u := .lst (vs2.eraseIdx k)) ea
      have hlt : k < vs2.length := (List.getElem?_eq_some_iff.mp hv).1
      refine ⟨a, vs2, (k : Int), k, v, rfl, rfl, e3, by omega, by omega, ?_, hv, lQ d _ _ _ h2 ((e1.trans e2).trans ext) (g2.upd ext (.lst upd_same ((ra.erase k).ext ext))) (rv.ext ext)⟩
      unfold seqIndex?
      simp only [show ¬ ((k : Int) < 0) by omega, if_false]
      rw [if_pos (by simp; omega)]
      simp
  | _ => exact h2.elim

/-! ### 38. sorted(list of ints), dict(list of pairs) -/
def rSortI : RLD := fun ds G Q => match ds with
  | [.lst xs] => ∃ ns : List Int, xs = ns.map D.int ∧ ns.length < 64 ∧ ∀ ns' : List Int, ns'.Perm ns → ns'.Pairwise (· ≤ ·) → Q (.lst (ns'.map D.int)) G
  | _ => False
theorem rpL_intsV {H : Hp} {G : DH} : ∀ {ns : List Int} {vs : List V}, RpL X.K X.mh H G (ns.map D.int) vs → vs = ns.map V.int
  | [], _, .nil => rfl
  | y :: ys, _, .cons r t => by
    cases r
    rw [rpL_intsV t]; rfl
theorem rpL_ofInts {H : Hp} {G : DH} : ∀ ns : List Int, RpL X.K X.mh H G (ns.map D.int) (ns.map V.int)
  | [] => .nil
  | n :: ns => .cons (.int n) (rpL_ofInts ns)
theorem cd_sortI : CallD X lv true (.builtin "sorted") rSortI := by
  intro gd pins s σ H vs us Q I rv ⟨ds, G, R, hg, r0, h, l⟩
  unfold rSortI at h
  split at h
  · rename_i xs
    obtain ⟨v, rfl, r⟩ := one_rp r0
    obtain ⟨ns, rfl, h64, h⟩ := h
    cases r with
    | lst g e2 ra =>
      cases rpL_intsV ra
      exact cr_sorted pins s σ H _ us Q I rv ⟨_, ns, rfl, .inl (.inl e2), h64, fun ns' p h1 h2 hp => l _ G _ _ (h ns' h1 h2) (Ext.newF hp) (hg.newF hp) (.lst (hg.free hp) upd_same (rpL_ofInts ns'))⟩
  · exact h.elim
def rDictQ : RLD := fun ds G Q => match ds with
  | [.tpk xs] => ∃ ps : List (Key × D), xs = pairsT ps ∧ Q (.dct (mgK [] ps)) G
  | [.lst xs] => ∃ ps : List (Key × D), xs = pairsT ps ∧ Q (.dct (mgK [] ps)) G
  | _ => False
theorem cd_dictQ : CallD X lv true (.type "dict") rDictQ := by
  intro gd pins s σ H vs us Q I rv ⟨ds, G, R, hg, r0, h, l⟩
  unfold rDictQ at h
  split at h
  · exact cd_dictP gd pins s σ H vs us Q I rv ⟨_, G, R, hg, r0, h, l⟩
  · rename_i xs
    obtain ⟨v, rfl, r⟩ := one_rp r0
    obtain ⟨ps, rfl, h⟩ := h
    cases r with
    | lst g e2 ra =>
      obtain ⟨ts, kvs, rfl, r1, r2⟩ := rpL_pairsT ra
      exact call_dictP (gd.cl rfl) pins s σ H _ us Q I rv ⟨_, ts, kvs, rfl, .inl (.inl e2), r2, fun p hp => l _ G _ _ h (Ext.newF hp) (hg.newF hp) (.dct (hg.free hp) (.inl upd_same) ((RpK.merge r1 .nil (by simp)).ext (Ext.newF hp)))⟩
  · exact h.elim
end
/-! ### 39. {k: v} -/
def dDisp1 (tk tv : DE) : DE := fun W δ G Q => ∀ p, G p = none → tk W δ (upG G p (.dct [])) fun k G1 => tv W δ G1 fun v G2 => match kyD k with
  | some kk => G2 p = some (.dct []) ∧ Q (.ref p) (upG G2 p (.dct [(kk, v)]))
  | none => False
section
variable {X : Cx} {lv : Nat} {cm : Bool} {pos : Pos}
theorem pd_disp1 {k v : Expr} {tk tv : DE} (hk : PD X lv cm k tk) (hv : PD X lv cm v tv) : PD X lv cm (.Dict [some k] [v] pos) (dDisp1 tk tv) := fun gd Wx tw =>
  pe_imp (pe_disp (pps_cons (hk gd Wx tw) (hv gd Wx tw) pps_nil) rfl rfl (by simp) (by simp)) fun σ H Q ⟨W, δ, G, R, hs, hg, ht, lQ, lW⟩ => by
    intro p hp
    have e0 : Ext H G (L2.upd H p (.dK [])) (upG G p (.dct [])) := Ext.new hp
    refine ⟨W, δ, _, _, hs.ext e0, HpOk.new hg hp (.dct upd_same .nil), ht p (hg.free hp), fun kd G1 H1 x h1 e1 g1 r1 => ?_, fun ex δ' G' σ' H' cls dd hw e2 => lW ex δ' G' σ' H' cls dd hw (e0.trans e2)⟩
    refine ⟨W, δ, G1, _, (hs.ext e0).ext e1, g1, h1, fun vd G2 H2 y h2 e2 g2 r2 => ?_, fun ex δ' G' σ' H' cls dd hw e2 => lW ex δ' G' σ' H' cls dd hw ((e0.trans e1).trans e2)⟩
    cases ek : kyD kd with
    | none => simp only [ek] at h2
    | some kk =>
      simp only [ek] at h2
      obtain ⟨gp, hq⟩ := h2
      cases key_v r1 ek
      have ob := g2 p _ gp
      cases ob with
      | dct e3 ra =>
        cases ra
        have wr := Ext.write (H := H2) (o := .dct [(kk, vd)]) (u := .dK [(kk, y)]) gp
        exact ⟨e3, [(kk, y)], rfl, by simp, lQ _ _ _ _ hq (((e0.trans e1).trans e2).trans wr) (g2.upd wr (.dct upd_same (.cons (r2.ext wr) .nil))) (.ref p)⟩
/-! ### 40. comprehensions: taken as they are, or changed -/
def dLcE (it : DI) (g : DG) (tt : DT) (te : DE) (vs : List Nat) : DE := lcLoop it g tt te vs fun p ys G Q => Q (.lst ys) (delG G p) ∨ Q (.ref p) G
theorem finE : FinOk X fun p ys G Q => Q (.lst ys) (delG G p) ∨ Q (.ref p) G := fun p ys H G R hg hp h => by
  rcases h with h | h
  · exact finF p ys H G R hg hp h
  · exact finM p ys H G R hg hp h
end
/-! ### 41. t[::-1] -/
def dRev (te ts : DE) : DE := fun W δ G Q => te W δ G fun x G1 => ts W δ G1 fun y G2 => match y with
  | .int i => i = -1 ∧ (match rs G2 x with
    | .tup xs => Q (.tup xs.reverse) G2
    | .tpk xs => Q (.tup xs.reverse) G2
    | _ => False)
  | _ => False
section
variable {prog : Program} {w : World} {A : Around} {E : Value → Shared → Prop} {s : Shared}
open HT in
theorem sliceApplied_rev {sl : Addr} {t : Tok} {n : Nat} {Q : Int × Int × Nat → Shared → Prop} (hs : s.heap.IsSliceOf sl .none .none (.int (-1) t))
    (h : Q (((n : Int) - 1), -1, n) s) : wpAny (model prog w) A (Builtin.Slice.sliceApplied (.ref sl) (pure (n : Int))) Q E s := by
  obtain ⟨os, hos, hcs, hds⟩ := id hs
  unfold Builtin.Slice.sliceApplied Builtin.Slice.sliceFields
  refine wpAny_bind (wpAny_bind (wpAny_field hos hds (x := .none) rfl (wpAny_bind (wpAny_field hos hds (x := .none) rfl (wpAny_bind (wpAny_field hos hds (x := .int (-1) t) rfl (wpAny_pure ?_)))))))
  refine wpAny_bind (slicePart_ (.int (-1) t) ?_)
  show wpAny _ _ (if ((-1 : Int) == 0) = true then _ else _) _ _ s
  rw [if_neg (by decide)]
  refine wpAny_bind (slicePart_ .none (wpAny_bind (slicePart_ .none (wpAny_bind (wpAny_pure ?_)))))
  show wpAny _ _ (pure (((n : Int) - 1), (-1 : Int), Builtin.Slice.slicePlaces ((n : Int) - 1) (-1) (-1))) _ _ s
  have e : Builtin.Slice.slicePlaces ((n : Int) - 1) (-1) (-1) = n := by
    unfold Builtin.Slice.slicePlaces
    rw [if_neg (show ¬ ((-1 : Int) > 0) by decide)]
    by_cases hn : (n : Int) - 1 > -1
    · rw [if_pos hn, show (-(-1) : Int) = 1 by decide, Int.ediv_one]; omega
    · rw [if_neg hn]; omega
  rw [e]
  exact wpAny_pure h
theorem pick_rev (xs : Array Value) : ((List.range xs.size).filterMap fun (m : Nat) => xs[((xs.size : Int) - 1 + (m : Int) * -1).toNat]?).toArray = xs.toList.reverse.toArray := by
  congr 1
  have e : ∀ m ∈ List.range xs.size, xs[((xs.size : Int) - 1 + (m : Int) * -1).toNat]? = xs.toList.reverse[m]? := fun m hm => by
    have hm' := List.mem_range.mp hm
    rw [List.getElem?_reverse (by rw [Array.length_toList]; exact hm'), Array.length_toList, Array.getElem?_toList]
    congr 1
    omega
  have cg : ∀ (l : List Nat) (f g : Nat → Option Value), (∀ m ∈ l, f m = g m) → l.filterMap f = l.filterMap g := fun l f g => by
    induction l with
    | nil => intro _; rfl
    | cons y ys ih =>
      intro h
      rw [List.filterMap_cons, List.filterMap_cons, h y (List.mem_cons_self ..), ih fun m hm => h m (List.mem_cons_of_mem _ hm)]
  rw [cg _ _ _ e]
  have : ∀ ys : List Value, (List.range ys.length).filterMap (fun m => ys[m]?) = ys := fun ys => by
    induction ys with
    | nil => rfl
    | cons y ys ih =>
      rw [List.length_cons, List.range_succ_eq_map, List.filterMap_cons]
      simp only [List.getElem?_cons_zero, List.filterMap_map]
      congr 1
  have q := this xs.toList.reverse
  rw [List.length_reverse, Array.length_toList] at q
  exact q
open HT in
theorem getItem_tuple_rev {t sl : Addr} {items : Array Value} {tk : Tok} {Q : Value → Shared → Prop} (ht : IsTup s.heap t items) (hs : s.heap.IsSliceOf sl .none .none (.int (-1) tk))
    (h : Q (.ref s.heap.objs.size) { s with heap := s.heap.push { cls := .type "tuple", data := .seq items.toList.reverse.toArray } })
    (hsz : items.size ≤ sizeLine) : wpAny (model prog w) A (getItem (.ref t) (.ref sl)) Q E s := by
  have htake : sizeOk (.seq items.toList.reverse.toArray) := by
    show items.toList.reverse.toArray.size ≤ sizeLine
    rw [List.size_toArray, List.length_reverse, Array.length_toList]
    exact hsz
  obtain ⟨os, hos, hcs, hds⟩ := id hs
  have hTs : s.TypeIs (.ref sl) "slice" := ⟨os, hos, hcs⟩
  unfold getItem
  try with_reducible refine wpAny_holding ?_
  first | refine wpAny_bind (wpAny_pure ?_) | skip
  refine wpAny_bind (wpAny_sequenceKey ht.typeIs (by decide) ?_)
  refine wpAny_bind (wpAny_callSpecial?_slot (name := Str.ofString "__getitem__") ht.typeIs PyProof.Rows.slot_tuple_getitem
    (wpAny_call_entry PyProof.Rows.slot_tuple_getitem ht.typeIs entry_tuple_getitem ?_ (args_tuple_getitem _ _)))
  show wpAny _ _ (Builtin.Tuple.tupleItemsOf (.ref t) >>= _) _ _ s
  refine wpAny_bind (tupleItemsOf_ ht ?_)
  refine wpAny_bind (wpAny_typeOf hTs ?_)
  rw [if_pos (by decide)]
  refine wpAny_bind (sliceApplied_rev hs ?_)
  have hno : ¬ ((((items.size : Int) - 1) == 0 && (-1 : Int) == 1 && items.size == items.size) = true) := by
    simp
  show wpAny _ _ (if (((items.size : Int) - 1) == 0 && (-1 : Int) == 1 && items.size == items.size) = true then _ else _) _ _ s
  rw [if_neg hno, pick_rev]
  first
    | exact wpAny_bind (m := Builtin.Tuple.tupleExact _) (wpAny_newObj_type (wpAny_pure ⟨_, rfl, wpAny_pure h⟩) htake)
    | exact wpAny_bind (m := Builtin.Tuple.tupleExact _) (wpAny_newObj_type (wpAny_bind (wpAny_pure (wpAny_pure ⟨_, rfl, wpAny_pure h⟩))) htake)
    | exact wpAny_bind (wpAny_bind (m := Builtin.Tuple.tupleExact _) (wpAny_newObj_type (wpAny_pure (wpAny_pure ⟨_, rfl, wpAny_pure h⟩)) htake))
    | exact wpAny_bind (wpAny_bind (m := Builtin.Tuple.tupleExact _) (wpAny_newObj_type (wpAny_pure ⟨_, rfl, wpAny_pure h⟩) htake))
end
section
variable {X : Cx} {lv : Nat} {cm : Bool} {pos p2 : Pos}
theorem vals_rev {xs : List V} {us : List Value} (r : Vals xs us) : Vals xs.reverse us.reverse := by
  induction xs generalizing us with
  | nil => cases r; exact .nil
  | cons x xs ih =>
    cases r with
    | cons r t =>
      rw [List.reverse_cons, List.reverse_cons]
      have ap : ∀ {as bs : List V} {cs ds : List Value}, Vals as cs → Vals bs ds → Vals (as ++ bs) (cs ++ ds) := fun {as bs cs ds} h1 h2 => by
        induction as generalizing cs with
        | nil => cases h1; exact h2
        | cons a as ih =>
          cases h1 with
          | cons q t => exact .cons q (ih t)
      exact ap (ih t) (.cons r .nil)
theorem pd_rev {e st : Expr} {te ts : DE} (he : PD X lv cm e te) (hst : PD X lv cm st ts) : PD X lv cm (.Subscript e (.Slice none none (some st) p2) pos) (dRev te ts) := fun gd Wx tk => by
  refine ⟨fun pins s σ H Q I ⟨W, δ, G, R, hs', hgo, ht, lQ, lW⟩ => ?_⟩
  refine Subscript_ (thn ((he gd Wx tk).run pins s σ H (fun x H1 => ∃ d G1, Ext H G H1 G1 ∧ HpOk X.K X.mh H1 G1 ∧ Rp X.K X.mh H1 G1 d x ∧ ts W δ G1 fun y G2 => match y with
    | .int i => i = -1 ∧ (match rs G2 d with
      | .tup xs => R (.tup xs.reverse) G2
      | .tpk xs => R (.tup xs.reverse) G2
      | _ => False)
    | _ => False) I ⟨W, δ, G, _, hs', hgo, ht, fun d G1 H1 v h1 e1 g1 r1 => ⟨d, G1, e1, g1, r1, h1⟩, lW⟩) fun v s1 ⟨x, H1, I1, r1, d, G1, e1, g1, rd, q1⟩ => ?_)
  refine wpAny_Slice ?_
  rw [PySem.evalPart_none]
  refine wpAny_pure (wpAny_pure ?_)
  rw [PySem.evalPart_some]
  refine thn ((hst gd Wx tk).run pins s1 σ H1 (fun y H2 => ∃ t' xs, y = .int (-1) ∧ x = .ref t' ∧ SqT X.K H2 t' xs ∧ ∀ p, H2 p = none → Q (.ref p) (L2.upd H2 p (.tup xs.reverse))) I1 ⟨W, δ, G1, _, hs'.ext e1, g1, q1, fun y G2 H2 u h2 e2 g2 r2 => ?_, fun ex δ' G' σ' H' cls dd hw e2 => lW ex δ' G' σ' H' cls dd hw (e1.trans e2)⟩) fun u s2 ⟨y, H2, I2, r2, t', xs, ey, ex, hq, q2⟩ => ?_
  · cases r2 with
    | int i =>
      obtain ⟨rfl, h2⟩ := h2
      have rd2 := rd.ext e2
      cases er : rs G2 d with
      | tup xs =>
        rw [er] at h2
        obtain ⟨a, vs, rfl, ha, ra⟩ := rs_tup rd2 er
        exact ⟨a, vs, rfl, rfl, ha.sqT, fun p hp => lQ _ G2 _ _ h2 ((e1.trans e2).trans (Ext.newF hp)) (g2.newF hp) (.tup (.inl ⟨g2.free hp, upd_same⟩) (ra.reverse.ext (Ext.newF hp)))⟩
      | tpk xs =>
        rw [er] at h2
        have fin : ∀ {d'}, Rp X.K X.mh H2 G2 d' x → d' = .tpk xs → ∃ t' vs, (V.int (-1) : V) = .int (-1) ∧ x = .ref t' ∧ SqT X.K H2 t' vs ∧ ∀ p, H2 p = none → Q (.ref p) (L2.upd H2 p (.tup vs.reverse)) := fun {d'} rr ed => by
          subst ed
          cases rr with
          | tpk ha ra => exact ⟨_, _, rfl, rfl, ha.sqT, fun p hp => lQ _ G2 _ _ h2 ((e1.trans e2).trans (Ext.newF hp)) (g2.newF hp) (.tup (.inl ⟨g2.free hp, upd_same⟩) (ra.reverse.ext (Ext.newF hp)))⟩
        cases d with
        | tpk ys => exact fin rd2 er
        | ref a =>
          exfalso
          simp only [rs] at er
          cases ea : G2 a with
          | none => rw [ea] at er; cases er
          | some o => rw [ea] at er; cases o <;> cases er
        | _ => cases er
      | _ => rw [er] at h2; exact h2.elim
    | _ => exact h2.elim
  · subst ey; subst ex
    obtain ⟨tk', rfl⟩ := r2
    obtain rfl : v = Value.ref t' := r1
    have I3 : Inv X pins σ H2 { s2 with heap := s2.heap.push { cls := .type "slice", data := .fields #[.none, .none, .int (-1) tk'] } } := I2.kept (t' := s2.toks) fun b ob q => Heap.get?_push_of_some _ q
    obtain ⟨its, r, htu, hz⟩ := I3.tuple hq
    refine tail_any (T := "tuple") (ops := [.ref t', .ref s2.heap.objs.size]) htu.typeIs PyProof.Rows.slot_tuple_getitem.lookup (getItem_tuple_rev (s := { s2 with heap := s2.heap.push { cls := .type "slice", data := .fields #[.none, .none, .int (-1) tk'] } }) htu (Heap.IsSliceOf.new ..) ?_ (by rw [List.size_toArray, ← r.length]; exact hz)) (by with_unfolding_all rfl)
    refine ⟨.ref _, _, I3.laid (t' := s2.toks) (o := .tup xs.reverse) (fun b ob q => Heap.get?_push_of_some _ q) (Nat.le_refl _) ?_, rfl, q2 _ (I3.hok.fresh (Nat.le_refl _))⟩
    exact ⟨by rw [List.length_reverse]; exact hz, _, vals_rev r, IsTup.new _ _⟩
end
end DL
namespace DL
theorem gdCons_same {g : DG} {t : DGs} (h1 : ∀ d W δ G R, g d W δ G R → g d W δ G fun δ' G' => G' = G ∧ R δ' G) (h2 : ∀ ds W δ G R, t ds W δ G R → t ds W δ G fun δ' G' => G' = G ∧ R δ' G) (hm : ∀ d W δ G (R R' : Sl → DH → Prop), (∀ δ G, R δ G → R' δ G) → g d W δ G R → g d W δ G R') : ∀ ds W δ G R, gdCons g t ds W δ G R → gdCons g t ds W δ G fun δ' G' => G' = G ∧ R δ' G := fun ds W δ G R q => by
  unfold gdCons at q ⊢
  match ds, q with
  | d :: ds, q => exact hm d W δ G _ _ (fun δ' G' ⟨e, z⟩ => by subst e; exact h2 ds W δ' _ R z) (h1 d W δ G _ q)
  | [], q => exact q.elim
theorem gdName_mono {i : Nat} : ∀ d W δ G (R R' : Sl → DH → Prop), (∀ δ G, R δ G → R' δ G) → gdName i d W δ G R → gdName i d W δ G R' := fun _ _ _ _ _ _ h q => h _ _ q
end DL

namespace DL
open L2 PyProof.Rows PySem PySem.Spec

/-! ### 42. who hangs together -/
def Joins (ts : List TieD) (S : Str → Prop) : Prop := ∀ t ∈ ts, (S t.one ↔ S t.oth)
def Conn (ts : List TieD) (x y : Str) : Prop := ∀ S : Str → Prop, Joins ts S → S x → S y
section
variable {ts us : List TieD} {x y z : Str} {ns : List Str}
theorem Conn.refl : Conn ts x x := fun _ _ h => h
theorem Conn.trans (h : Conn ts x y) (k : Conn ts y z) : Conn ts x z := fun S j q => k S j (h S j q)
theorem Conn.symm (h : Conn ts x y) : Conn ts y x := fun S j q => Classical.byContradiction fun n => h (fun w => ¬ S w) (fun t ht => not_congr (j t ht)) n q
theorem Conn.tie {t : TieD} (h : t ∈ ts) : Conn ts t.one t.oth := fun S j q => (j t h).mp q
theorem Conn.mono (h : Conn ts x y) (s : ∀ t ∈ ts, t ∈ us) : Conn us x y := fun S j q => h S (fun t ht => j t (s t ht)) q
noncomputable instance (x p : Str) : Decidable (Conn ts x p) := Classical.propDecidable _
/-- the persons of a part -/
noncomputable def prt (ts : List TieD) (ns : List Str) (x : Str) : List Str := ns.filter fun p => decide (Conn ts x p)
theorem mem_prt {p : Str} : p ∈ prt ts ns x ↔ p ∈ ns ∧ Conn ts x p := by
  unfold prt
  rw [List.mem_filter, decide_eq_true_iff]
theorem prt_eq {F : Str → Bool} (h : ∀ p ∈ ns, (F p = true ↔ Conn ts x p)) : ns.filter F = prt ts ns x := by
  unfold prt
  refine List.filter_congr fun p hp => ?_
  rw [Bool.eq_iff_iff, h p hp, decide_eq_true_iff]
noncomputable def prts (ts : List TieD) (ns : List Str) : List (List Str) := (ns.filter fun n => decide ((prt ts ns n).head? = some n)).map (prt ts ns)
theorem prt_head {n : Str} (h : n ∈ ns) : ∃ m ms, prt ts ns n = m :: ms := by
  have : n ∈ prt ts ns n := mem_prt.mpr ⟨h, .refl⟩
  cases e : prt ts ns n with
  | nil => rw [e] at this; cases this
  | cons m ms => exact ⟨m, ms, rfl⟩
theorem prt_first {n : Str} {ms : List Str} : ∃ r, prt ts (n :: ms) n = n :: r := by
  unfold prt
  exact ⟨_, by rw [List.filter_cons, if_pos (decide_eq_true Conn.refl)]⟩
/-! marks -/
structure MkOk (ts : List TieD) (ns : List Str) (m : Str → Int) : Prop where
  a : ∀ t ∈ ts, m t.one = m t.oth
  b : ∀ y ∈ ns, ∀ z ∈ ns, m y = m z → Conn ts y z
theorem MkOk.iff {m : Str → Int} (h : MkOk ts ns m) (hy : y ∈ ns) (hz : z ∈ ns) : m y = m z ↔ Conn ts y z :=
  ⟨h.b y hy z hz, fun c => (c (fun w => m y = m w) (fun t ht => by show m y = m t.one ↔ m y = m t.oth; rw [h.a t ht]) rfl)⟩
theorem MkOk.step {m : Str → Int} (h : MkOk ts ns m) {t : TieD} (h1 : t.one ∈ ns) (h2 : t.oth ∈ ns) {lo hi : Int} (e : (lo = m t.one ∧ hi = m t.oth) ∨ (lo = m t.oth ∧ hi = m t.one)) : MkOk (ts ++ [t]) ns fun y => if m y = hi then lo else m y := by
  have up : ∀ {a b : Str}, Conn ts a b → Conn (ts ++ [t]) a b := fun c => c.mono fun u hu => List.mem_append_left _ hu
  have jt : Conn (ts ++ [t]) t.one t.oth := Conn.tie (by simp)
  refine ⟨fun u hu => ?_, fun y hy z hz q => ?_⟩
  · rcases List.mem_append.mp hu with hu | hu
    · show (if m u.one = hi then lo else m u.one) = if m u.oth = hi then lo else m u.oth
      rw [h.a u hu]
    · rw [List.mem_singleton] at hu
      subst hu
      show (if m u.one = hi then lo else m u.one) = if m u.oth = hi then lo else m u.oth
      rcases e with ⟨rfl, rfl⟩ | ⟨rfl, rfl⟩
      · rw [if_pos rfl]; split <;> rfl
      · rw [if_pos rfl]; split <;> rfl
  · have q' : (if m y = hi then lo else m y) = if m z = hi then lo else m z := q
    -- who has hi, who has lo
    have key : ∀ a ∈ ns, ∀ b ∈ ns, m a = hi → m b = lo → Conn (ts ++ [t]) a b := fun a ha b hb ea eb => by
      rcases e with ⟨e1, e2⟩ | ⟨e1, e2⟩
      · exact ((up (h.b a ha _ h2 (ea.trans e2))).trans jt.symm).trans (up (h.b _ h1 b hb (e1.symm.trans eb.symm)))
      · exact ((up (h.b a ha _ h1 (ea.trans e2))).trans jt).trans (up (h.b _ h2 b hb (e1.symm.trans eb.symm)))
    by_cases c1 : m y = hi
    · by_cases c2 : m z = hi
      · exact up (h.b y hy z hz (c1.trans c2.symm))
      · rw [if_pos c1, if_neg c2] at q'
        exact key y hy z hz c1 q'.symm
    · by_cases c2 : m z = hi
      · rw [if_neg c1, if_pos c2] at q'
        exact (key z hz y hy c2 q').symm
      · rw [if_neg c1, if_neg c2] at q'
        exact up (h.b y hy z hz q')
theorem MkOk.init {m : Str → Int} (h : ∀ y ∈ ns, ∀ z ∈ ns, m y = m z → y = z) : MkOk [] ns m := ⟨(fun t ht => nomatch ht), fun y hy z hz e => by
  have := h y hy z hz e
  subst this
  exact .refl⟩
/-! the search -/
structure Dfs (ts : List TieD) (ns : List Str) (x : Str) (F L : List Str) (sk : Str → Prop) : Prop where
  x0 : x ∈ F
  nd : F.Nodup
  sub : ∀ y ∈ F, y ∈ ns ∧ Conn ts x y
  lf : ∀ y ∈ L, y ∈ F
  cl : ∀ y ∈ F, y ∉ L → ¬ sk y → ∀ t ∈ ts, (y = t.one ∨ y = t.oth) → t.one ∈ F ∧ t.oth ∈ F
theorem Dfs.init (hx : x ∈ ns) : Dfs ts ns x [x] [x] (fun _ => False) :=
  ⟨List.mem_singleton.mpr rfl, by simp, fun y hy => by rw [List.mem_singleton] at hy; subst hy; exact ⟨hx, .refl⟩, fun _ h => h, fun y h1 h2 => absurd h1 h2⟩
theorem Dfs.pop {F L : List Str} {v : Str} (h : Dfs ts ns x F (L ++ [v]) fun _ => False) : Dfs ts ns x F L (fun z => z = v) :=
  ⟨h.x0, h.nd, h.sub, fun y hy => h.lf y (List.mem_append_left _ hy), fun y h1 h2 h3 => h.cl y h1 (fun m => by
    rcases List.mem_append.mp m with m | m
    · exact h2 m
    · exact h3 (List.mem_singleton.mp m)) (fun f => f)⟩
theorem Dfs.add {F L : List Str} {v : Str} {sk : Str → Prop} (h : Dfs ts ns x F L sk) (hn : v ∈ ns) (hc : Conn ts x v) (hv : v ∉ F) : Dfs ts ns x (F ++ [v]) (L ++ [v]) sk := by
  refine ⟨List.mem_append_left _ h.x0, ?_, fun y hy => ?_, fun y hy => ?_, fun y h1 h2 h3 t ht e => ?_⟩
  · rw [List.nodup_append]
    refine ⟨h.nd, by simp, fun a ha b hb e => ?_⟩
    rw [List.mem_singleton] at hb
    subst hb; subst e
    exact hv ha
  · rcases List.mem_append.mp hy with hy | hy
    · exact h.sub y hy
    · rw [List.mem_singleton] at hy; subst hy; exact ⟨hn, hc⟩
  · rcases List.mem_append.mp hy with hy | hy
    · exact List.mem_append_left _ (h.lf y hy)
    · exact List.mem_append_right _ hy
  · rcases List.mem_append.mp h1 with h1 | h1
    · obtain ⟨a, b⟩ := h.cl y h1 (fun m => h2 (List.mem_append_left _ m)) h3 t ht e
      exact ⟨List.mem_append_left _ a, List.mem_append_left _ b⟩
    · exact absurd (List.mem_append_right _ h1) h2
theorem Dfs.fin {F L : List Str} {v : Str} (h : Dfs ts ns x F L (fun z => z = v)) (k : ∀ t ∈ ts, (v = t.one ∨ v = t.oth) → t.one ∈ F ∧ t.oth ∈ F) : Dfs ts ns x F L (fun _ => False) :=
  ⟨h.x0, h.nd, h.sub, h.lf, fun y h1 h2 _ t ht e => by
    by_cases ey : y = v
    · subst ey; exact k t ht e
    · exact h.cl y h1 h2 ey t ht e⟩
theorem Dfs.all {F : List Str} (h : Dfs ts ns x F [] fun _ => False) : ∀ p ∈ ns, (decide (p ∈ F) = true ↔ Conn ts x p) := fun p hp => by
  rw [decide_eq_true_iff]
  refine ⟨fun m => (h.sub p m).2, fun c => c (fun w => w ∈ F) (fun t ht => ⟨fun m => ?_, fun m => ?_⟩) h.x0⟩
  · exact (h.cl _ m (by simp) (fun f => f) t ht (.inl rfl)).2
  · exact (h.cl _ m (by simp) (fun f => f) t ht (.inr rfl)).1
theorem nodup_len {α : Type} [DecidableEq α] : ∀ {xs ys : List α}, xs.Nodup → (∀ x ∈ xs, x ∈ ys) → xs.length ≤ ys.length
  | [], _, _, _ => Nat.zero_le _
  | x :: xs, ys, nd, h => by
    rw [List.nodup_cons] at nd
    have hx := h x (List.mem_cons_self ..)
    have ih := nodup_len (xs := xs) (ys := ys.erase x) nd.2 fun y hy => (List.mem_erase_of_ne (fun z => nd.1 (by rw [← z]; exact hy))).mpr (h y (List.mem_cons_of_mem _ hy))
    rw [List.length_erase_of_mem hx] at ih
    have : 0 < ys.length := List.length_pos_of_mem hx
    rw [List.length_cons]
    omega
theorem Dfs.len {F L : List Str} {sk : Str → Prop} (h : Dfs ts ns x F L sk) : F.length ≤ ns.length := nodup_len h.nd fun y hy => (h.sub y hy).1
end
/-! sets of names as dicts -/
def fK (F : List Str) : List (Key × D) := F.map fun n => (Sum.inr n, D.bl true)
theorem fK_keys (F : List Str) : (fK F).map (·.1) = F.map (Sum.inr : Str → Key) := by simp [fK, List.map_map]
theorem lk_fK {F : List Str} {n : Str} : (lkK (fK F) (.inr n)).isSome = decide (n ∈ F) := by
  cases e : lkK (fK F) (.inr n) with
  | none =>
    have h := lkK_none.mp e
    rw [decide_eq_false fun z => h ?_]; rfl
    rw [fK_keys]; exact List.mem_map.mpr ⟨n, z, rfl⟩
  | some d =>
    have h := lkK_mem e
    obtain ⟨p, hp, e2⟩ := List.mem_map.mp h
    cases e2
    rw [decide_eq_true hp]; rfl
theorem pt_fK {F : List Str} {n : Str} (h : n ∉ F) : ptK (fK F) (.inr n) (.bl true) = fK (F ++ [n]) := by
  rw [ptK_new]
  · simp [fK]
  · rw [lkK_none, fK_keys]
    intro z
    obtain ⟨p, hp, e⟩ := List.mem_map.mp z
    exact h (by rw [← Sum.inr.inj e]; exact hp)
theorem nd_fK {F : List Str} (h : F.Nodup) : ((fK F).map (·.1)).Nodup := by rw [fK_keys]; exact nodup_inr h
/-! marks as dicts -/
def mK (ns : List Str) (m : Str → Int) : List (Key × D) := ns.map fun n => (Sum.inr n, D.int (m n))
theorem mK_keys (ns : List Str) (m : Str → Int) : (mK ns m).map (·.1) = ns.map (Sum.inr : Str → Key) := by simp [mK, List.map_map]
theorem lk_mK {ns : List Str} {m : Str → Int} {n : Str} (h : n ∈ ns) : lkK (mK ns m) (.inr n) = some (.int (m n)) := by
  induction ns with
  | nil => cases h
  | cons a ns ih =>
    show lkK ((Sum.inr a, D.int (m a)) :: mK ns m) (.inr n) = _
    unfold lkK
    by_cases e : a = n
    · subst e; rw [if_pos rfl]
    · rw [if_neg (fun z => e (Sum.inr.inj z)), ih]
      rcases List.mem_cons.mp h with h | h
      · exact absurd h.symm e
      · exact h
theorem mg_mK {ns : List Str} {m : Str → Int} (h : ns.Nodup) : mgK [] (mK ns m) = mK ns m := by
  rw [mgK_new]
  · rfl
  · rw [List.nil_append, mK_keys]; exact nodup_inr h
theorem pairs_mK (ns : List Str) (m : Str → Int) : pairsT (mK ns m) = ns.map fun n => D.tup [.str n, .int (m n)] := by simp [pairsT, mK, List.map_map, kyK, Function.comp_def]
/-! comprehensions taken either way -/
theorem lcK_fmE {g : DG} {tt : DT} {te : DE} {vs : List Nat} {δ : Sl} {Q : DQ} {xs : List D} {S : DH → Prop} {G1 : DH} (c : D → Bool) (f : D → D) (hl : xs.length < sizeLine) (hS : ∀ G2, Sub G1 G2 → S G2)
    (h : ∀ x ∈ xs, ∀ (G2 : DH) (R : DQ) (R0 : DH → Prop), Sub G1 G2 → (c x = true → R (f x) G2) → (c x = false → R0 G2) → g x W0 (dWipe δ vs) G2 fun δ2 G3 => tt W0 δ2 G3 fun b G4 => if b = true then te W0 δ2 G4 R else R0 G4)
    (q : Q (.lst ((xs.filter c).map f)) G1 ∨ ∀ p, G1 p = none → Q (.ref p) (upG G1 p (.lst ((xs.filter c).map f)))) : lcK g tt te vs (fun p ys G Q => Q (.lst ys) (delG G p) ∨ Q (.ref p) G) δ Q xs S G1 .mk := fun p hp => by
  refine ⟨fun i ys G => ys = ((xs.take i).filter c).map f ∧ G = upG G1 p (.lst ys), ⟨by simp, rfl⟩, fun i x ys G hx hg ⟨e, eG⟩ => ?_, fun ys G hg ⟨e, eG⟩ => ?_⟩
  · subst eG
    have hsub : Sub G1 (upG G1 p (.lst ys)) := sub_new hp
    have hi := (List.getElem?_eq_some_iff.mp hx).1
    have et : xs.take (i + 1) = xs.take i ++ [x] := by rw [List.take_add_one, hx]; rfl
    refine ⟨hS _ hsub, h x (List.mem_of_getElem? hx) _ _ _ hsub (fun hc => ⟨upG_same, ?_, ?_, ?_⟩) fun hc => ⟨upG_same, ?_, rfl⟩⟩
    · rw [e, List.length_map]
      refine Nat.lt_of_le_of_lt (Nat.le_trans (List.length_filter_le _ _) ?_) hl
      rw [List.length_take]; omega
    · rw [et, List.filter_append, List.map_append, ← e, List.filter_cons, if_pos hc]; rfl
    · rw [upG_upG]
    · rw [et, List.filter_append, List.map_append, ← e, List.filter_cons, if_neg (by rw [hc]; exact Bool.false_ne_true)]; simp
  · subst eG
    rw [List.take_length] at e
    refine ⟨hS _ (sub_new hp), ?_⟩
    rcases q with q | q
    · left
      show Q (.lst ys) (delG (upG G1 p (.lst ys)) p)
      rw [delG_upG hp, e]; exact q
    · right
      rw [e]; exact q p hp
end DL

namespace DL
open L2 PyProof.Rows PySem PySem.Spec

/-! ### 43. a, b = a list -/
def gdLst (n : Nat) (t : DGs) : DG := fun d W δ G Q => match rs G d with
  | .lst xs => xs.length = n ∧ t xs W δ G Q
  | _ => False
section
variable {X : Cx} {lv : Nat} {pos : Pos}
theorem pdg_lst {es : List Expr} {k : Nat} {t : DGs} {n : Nat} (h : PDGs X lv true es t) (hn : (assignEach es X.env).length = n := by rfl) (hst : (assignEach es X.env).findIdx? (·.1) = none := by rfl) : PDG X lv true (.Tuple es k pos) (gdLst n t) := fun gd Wx tk =>
  pg_imp (pg_lst (gd.cl rfl) (h gd Wx tk) hn hst) fun v σ H Q ⟨W, δ, G, d, R, hs, hg, r, h, l1, l2⟩ => by
    unfold gdLst at h
    split at h
    · rename_i xs e
      obtain ⟨a, vs, rfl, ha, ra⟩ := rs_lst hg r e
      exact ⟨a, vs, rfl, .inl (.inl ha), by rw [← ra.length]; exact h.1, W, δ, G, xs, R, hs, hg, ra, h.2, l1, l2⟩
    · exact h.elim
end
end DL

namespace PySem.W
open PySem PySem.Calls PyProof.Rows Builtin
section
variable {prog : Program} {w : World} {A A₀ : Around} {E : Value → Shared → Prop} {s : Shared} {K : Frag} {x C L f : Addr} {h₀ : Heap} {m : Str → Option Value} {ox : Obj} {od : Option Obj} {name : Str} {b tb : Value}
theorem one_bind (self : Value) : bindSpecial (.builtin "object.__ne__") self = pure (.builtin "object.__ne__", [self]) :=
  (Slot.of (T := "object") (name := "__ne__") (owner := "object") (n := "__ne__") (by rw [typeLookup_type, builtinLookup_eq_fast]; kernel_rfl) (by decide +kernel) (by decide +kernel) (by decide +kernel)
    (.inl (by decide +kernel)) (by rw [isSubtype_type]; kernel_rfl)).bind self
theorem ifBound_ne {M : Model} {args : List Value} {Q : Option Value → Shared → Prop} (X : K.In s.heap) (I : InstAt s.heap x ox C od) (hs : findIn K (.ref C) name = some (some (.builtin "object.__ne__")))
    (h : wpAny M A (call (.builtin "object.__ne__") (.ref x :: args)) (fun v => Q (some v)) E s) : wpAny M A (callSpecialIfBound? (.ref x) name args) Q E s := by
  simp only [callSpecialIfBound?, bindSpecialIfBound?]
  refine wpAny_holding (wpAny_bind (wpAny_bind (wpAny_bind (I.type.here ((looks_findIn X hs).here ?_)))))
  refine wpAny_bind (wpAny_askSetting (wpAny_ite ?_))
  have fin : wpAny M A (call (.builtin "object.__ne__") ([.ref x] ++ args) >>= fun v => pure (some v)) Q E s := wpAny_bind (wpAny_mono h (fun v s' h' => wpAny_pure h') fun _ _ h' => h')
  split
  · exact wpAny_bind (by rw [one_bind]; exact wpAny_pure (wpAny_pure (by exact fin)))
  · exact wpAny_tryCatch (wpAny_bind (by rw [one_bind]; exact wpAny_pure (wpAny_pure (by exact fin))))
def NeBack (Q : Value → Shared → Prop) (v : Value) (s' : Shared) : Prop := match v with
  | .bool b => Q (.bool (!b)) s'
  | _ => False
theorem ne_K {Q : Value → Shared → Prop} (hu : A.units + 1 < cLine) (F : Fr h₀ L s.heap m) (X₀ : K.In h₀) (I : InstAt s.heap x ox C od) (hb : Looks (model prog w) s.heap (typeOf b) tb) (hn : notFirst K C tb = true) (hob : subIn K (.ref C) (.type "object") = some true)
    (hs : findIn K (.ref C) "__ne__" = some (some (.builtin "object.__ne__"))) (he : findIn K (.ref C) "__eq__" = some (some (.ref f))) (hf : isFn K (.ref f) = true)
    (h : wpAny (model prog w) A.in1 (call (.ref f) [.ref x, b]) (NeBack Q) E s) : wpAny (model prog w) A (richCompare .NotEq (.ref x) b) Q E s := by
  have X := X₀.keeps F.keep
  have one : wpAny (model prog w) A (tryCompare (.ref x) "__ne__" b) (fun r s' => ∃ v, r = some v ∧ Q v s') E s := by
    unfold tryCompare
    have sub : Looks (model prog w) s.heap (isInstance (.ref x) (.type "object")) true := I.type.andThen (looks_subIn X hob)
    refine wpAny_bind (ifBound_ne X I hs (wpAny_call (codeAny_call_builtin (by decide +kernel) PySem.F.cmpEntry_ne (@check_slot (model prog w) _ _ s "object.__ne__" "object" "__ne__" (.ref x) [b] [] _ PySem.F.cmpKind_ne PySem.F.cmpSplit_ne sub (PySem.F.cmpArgs_ne _ _) ?_))))
    obtain ⟨hp, g, d, t, os⟩ := s
    unfold Builtin.«object.__ne__»
    refine wpAny_bind (wpAny_pure ?_)
    refine wpAny_bind (wpAny_cRoomFor (show A.in1.units < cLine by show A.units + 1 < cLine; exact hu) ?_)
    refine wpAny_bind (m := callSpecialIfBound? (.ref x) (Str.ofString "__eq__") [b]) (ifBound_K X I he hf (wpAny_mono h (fun r s' hr => ?_) fun _ _ e => e))
    cases r <;> first | exact hr.elim | skip
    refine wpAny_bind (wpAny_truthy_bool ?_)
    exact wpAny_pure (wpAny_pure ⟨_, rfl, hr⟩)
  unfold richCompare
  simp only [oneThing_ref]
  refine wpAny_holding (wpAny_bind (wpAny_cRoomFor (by omega) ?_))
  refine wpAny_bind (I.type.here (wpAny_bind (hb.here ?_)))
  rw [cmpInfo_NotEq]
  dsimp only
  split
  · rename_i q
    have e : subIn K tb (.ref C) = some false := by
      rcases Bool.or_eq_true_iff.mp hn with e | e
      · rw [beq_iff_eq.mp e] at q; simp at q
      · exact beq_iff_eq.mp e
    refine wpAny_bind ((looks_subIn X e).here ?_)
    simp only [Bool.false_eq_true, if_false]
    refine wpAny_bind (wpAny_mono one (fun r s' z => ?_) fun _ _ e => e)
    obtain ⟨v, rfl, hq⟩ := z
    exact wpAny_pure hq
  · refine wpAny_bind (wpAny_pure ?_)
    simp only [Bool.false_eq_true, if_false]
    refine wpAny_bind (wpAny_mono one (fun r s' z => ?_) fun _ _ e => e)
    obtain ⟨v, rfl, hq⟩ := z
    exact wpAny_pure hq
end
end PySem.W
namespace PySem
open SeqAt MeetsSeq MeetsSeq2 MeetsSeq3 SeqRoads2 GQ
open AutoSeq1 (wpAny_loadPart')
section
variable {prog : Program} {w : World} {A : Around} {E : Value → Shared → Prop}
/-- x in [y], the list of one read anew behind the comparison -/
theorem in_oneG {l : Addr} {x y : Value} {items : Array Value} {n : Nat} {dd : Option Addr} {sl : Array (Option Value)} {Q : Value → Shared → Prop} {s : Shared} (hl : s.heap.get? l = some { cls := .type "list", dict := dd, data := .seq items n, slots := sl }) (hy : items[0]? = some y)
    (he : wpAny (model prog w) A.in1 (eqBool y x) (fun b s' => (∃ (items' : Array Value) (n' : Nat) (dd' : Option Addr) (sl' : Array (Option Value)), s'.heap.get? l = some { cls := .type "list", dict := dd', data := .seq items' n', slots := sl' } ∧ items'.size = 1) ∧ Q (.bool b) s') E s) :
    wpAny (model prog w) A (compareOp .In x (.ref l)) Q E s := by
  show wpAny _ A (do return .bool (← contains (.ref l) x)) Q E s
  have hT : s.TypeIs (.ref l) "list" := ⟨_, hl, rfl⟩
  refine wpAny_bind (wpAny_contains_slot hT F.slot_list_contains (call_here F.slot_list_contains hT F.entry_list_contains (F.args_list_contains_2 _ _) ?_))
  obtain ⟨hp, g, d, tk, os⟩ := s
  wp_walk using wpAny_loadPart' hl
  refine ⟨plainId_quiet plain_contains_loop _, codeAny_builtin entry_contains_loop ?_⟩
  rw [Around.under_plainId plain_contains_loop _]
  wp_walk using wpAny_loadPart' hl
  have hi : items[(0 : Int).toNat]? = some y := hy
  rw [hi]
  refine wpAny_bind (wpAny_mono he (fun b s2 hb => ?_) fun _ _ q => q)
  obtain ⟨⟨items', n', dd', sl', hl2, hz⟩, hq⟩ := hb
  obtain ⟨hp2, g2, d2, tk2, os2⟩ := s2
  cases b with
  | true =>
    wp_walk
    exact wpAny_truthy_bool (wpAny_pure hq)
  | false =>
    wp_walk
    refine ⟨plainId_quiet plain_contains_loop _, codeAny_builtin entry_contains_loop ?_⟩
    rw [Around.under_plainId plain_contains_loop _]
    wp_walk using wpAny_loadPart' hl2
    have hi2 : items'[((0 : Int) + 1).toNat]? = none := by
      rw [Array.getElem?_eq_none]
      rw [hz]; decide
    rw [hi2]
    wp_walk
    exact wpAny_truthy_bool (wpAny_pure hq)
end
end PySem
namespace DL
open L2 PyProof.Rows PySem PySem.Spec

/-! ### 44. own ==, != -/
/-- what the written part says of a class whose != is the default -/
structure CmpC (K : PySem.W.Frag) (C : Addr) : Prop where
  ne : PySem.W.findIn K (.ref C) "__ne__" = some (some (.builtin "object.__ne__"))
  ob : PySem.W.mroIn K C (.type "object") = some true
  ca : PySem.W.findIn K (.ref C) "__class__" = some (some (.builtin "object.__class__"))
  gt : PySem.W.specialIn K (.builtin "object.__class__") "__get__" = some (some (.builtin "getset_descriptor.__get__"))
  tk : PySem.W.takesIn K (.builtin "object.__class__") = some true
def BlQ (f : Bool → Bool) (Q : DQ) : DQ := fun d G => match d with
  | .bl b => Q (.bl (f b)) G
  | _ => False
/-- what may stand at the right -/
def cmpOk (n : Str) (d : D) : Prop := match d with
  | .ins c _ => c.nm = n
  | d => (tyD d).isSome = true
def rEqI (n : Str) (sp : DSp) : R2D := fun x y G Q => match rs G x with
  | .ins c _ => (c.nm = n ∧ cmpOk n (rs G y)) ∧ Ap sp [x, y] G (BlQ id Q) (fun _ _ => False) .mk
  | _ => False
def rNeI (n : Str) (sp : DSp) : R2D := fun x y G Q => match rs G x with
  | .ins c _ => (c.nm = n ∧ cmpOk n (rs G y)) ∧ Ap sp [x, y] G (BlQ (fun b => !b) Q) (fun _ _ => False) .mk
  | _ => False
/-- x in [y], two live instances -/
def rInI (n : Str) (sp : DSp) : R2D := fun x y G Q => match x, y with
  | .ref a, .lst [.ref b] => (a ≠ b ∧ (match G a, G b with
    | some (.ins c _), some (.ins c' _) => c.nm = n ∧ c'.nm = n
    | _, _ => False)) ∧ Ap sp [.ref b, .ref a] G (BlQ id Q) (fun _ _ => False) .mk
  | _, _ => False
section
variable {X : Cx} {lv k : Nat} {n : Str} {ps : List Str} {sp : DSp} {pins : List (Addr × Obj)} {σ : L2.St} {H : Hp} {G : DH} {s : Shared}
theorem sub_mro : ∀ T ∈ tysA, ∃ l, PySem.fastBuiltinMro T = some l ∧ (l.all fun v => match v with | .type _ => true | _ => false) = true := by
  have h : (tysA.all fun T => match PySem.fastBuiltinMro T with | some l => (l.all fun v => match v with | .type _ => true | _ => false) | none => false) = true := by decide +kernel
  intro T hT
  have := List.all_eq_true.mp h T hT
  cases e : PySem.fastBuiltinMro T with
  | none => rw [e] at this; cases this
  | some l => rw [e] at this; exact ⟨l, rfl, this⟩
theorem no_own {l : List Value} {C : Addr} (h : (l.all fun v => match v with | .type _ => true | _ => false) = true) : l.contains (.ref C) = false := by
  induction l with
  | nil => rfl
  | cons v l ih =>
    rw [List.all_cons, Bool.and_eq_true] at h
    rw [List.contains_cons, ih h.2, Bool.or_false]
    cases v <;> first | rfl | (exact absurd h.1 Bool.false_ne_true)
theorem notFirst_ty {K : PySem.W.Frag} {C : Addr} {T : String} (h : T ∈ tysA) : PySem.W.notFirst K C (.type T) = true := by
  obtain ⟨l, e, hl⟩ := sub_mro T h
  have : PySem.W.subIn K (.type T) (.ref C) = some false := by
    show (PySem.fastBuiltinMro T).map (·.contains (.ref C)) = some false
    rw [e]
    show some (l.contains (.ref C)) = some false
    rw [no_own hl]
  unfold PySem.W.notFirst
  rw [this]; simp
theorem tyIs_of {x : V} {u : Value} {T : String} (I : Inv X pins σ H s) (rx : RelV x u) (ty : TyX X.K H x (.type T)) (hT : T ∈ tysA) : s.TypeIs u T := by
  cases ty with
  | base b =>
    cases b with
    | non => cases (show u = Value.none from rx); exact rfl
    | bl y => cases (show u = Value.bool y from rx); exact rfl
    | int i => obtain ⟨t, q⟩ := (show ∃ t, u = Value.int i t from rx); cases q; exact rfl
    | str y => obtain ⟨t, q⟩ := (show ∃ t, u = Value.str y t from rx); cases q; exact rfl
    | flt y => exact absurd hT (by decide)
    | lst ea =>
      cases (show u = Value.ref _ from rx)
      obtain ⟨_, _, n, _, h1⟩ := (show ObjOk X.prog X.w H s.heap _ (.lst _) from I.hok _ _ ea)
      exact ⟨_, h1, rfl⟩
    | frz ea =>
      cases (show u = Value.ref _ from rx)
      obtain ⟨_, _, _, n, _, h1⟩ := (show ObjOk X.prog X.w H s.heap _ (.frz _ (.lst _)) from I.hok _ _ ea)
      exact ⟨_, h1, rfl⟩
    | tup ea =>
      cases (show u = Value.ref _ from rx)
      obtain ⟨_, _, _, o, h1, h2, _⟩ := (show ObjOk X.prog X.w H s.heap _ (.tup _) from I.hok _ _ ea)
      exact ⟨o, h1, h2⟩
    | dK ea =>
      cases (show u = Value.ref _ from rx)
      obtain ⟨_, _, vs, _, o, es, ep, h1, h2, _⟩ := (show ObjOk X.prog X.w H s.heap _ (.dK _) from I.hok _ _ ea)
      exact ⟨o, h1, h2.1⟩
    | dT ea =>
      cases (show u = Value.ref _ from rx)
      obtain ⟨_, _, xs, _, o, es, ep, h1, h2, _⟩ := (show ObjOk X.prog X.w H s.heap _ (.dT _) from I.hok _ _ ea)
      exact ⟨o, h1, h2.1⟩
  | byt y => exact absurd hT (by decide)
  | set ea => exact absurd hT (by decide)
  | kList e c => cases (show u = Value.ref _ from rx); exact ⟨_, I.kIn _ _ e, c⟩
  | kTuple e c => cases (show u = Value.ref _ from rx); exact ⟨_, I.kIn _ _ e, c⟩
  | kDict e c => cases (show u = Value.ref _ from rx); exact ⟨_, I.kIn _ _ e, c⟩
  | fTuple ea =>
    cases (show u = Value.ref _ from rx)
    obtain ⟨_, _, _, _, o, h1, h2, _⟩ := (show ObjOk X.prog X.w H s.heap _ (.frz _ (.tup _)) from I.hok _ _ ea)
    exact ⟨o, h1, h2⟩
  | fDict ea =>
    cases (show u = Value.ref _ from rx)
    obtain ⟨_, _, _, vs, _, o, es, ep, h1, h2, _⟩ := (show ObjOk X.prog X.w H s.heap _ (.frz _ (.dK _)) from I.hok _ _ ea)
    exact ⟨o, h1, h2.1⟩
theorem looks_tyIs {u : Value} {T : String} (h : s.TypeIs u T) : PySem.W.Looks (model X.prog X.w) s.heap (typeOf u) (.type T) := by
  cases u with
  | ref a =>
    obtain ⟨o, ho, hc⟩ := h
    exact fun A Q E s' k q => wpAny_typeOf_ref (k _ _ ho) (by rw [hc]; exact q)
  | _ => exact PySem.W.Looks.of_pure h
theorem ins_look {d : D} {v : V} {u : Value} {c : CI} {fs : List D} (I : Inv X pins σ H s) (hg : HpOk X.K X.mh H G) (r : Rp X.K X.mh H G d v) (ru : RelV v u) (e : rs G d = .ins c fs) : ∃ (a C : Addr) (ox od : Obj), v = .ref a ∧ u = .ref a ∧ X.mg c.nm = some (.ref C) ∧ PySem.W.InstAt s.heap a ox C (some od) := by
  obtain ⟨a, C, dx, fv, rfl, m, ea, ek, ra⟩ := rs_ins hg r e
  obtain rfl : u = Value.ref a := ru
  obtain ⟨mA, J, _⟩ := ins_get I.hok ea
  obtain ⟨od, J, _⟩ := J.look
  exact ⟨a, C, _, od, rfl, rfl, m, J⟩
/-- the right one's type -/
theorem right_look {C : Addr} {d : D} {v : V} {u : Value} (I : Inv X pins σ H s) (hg : HpOk X.K X.mh H G) (r : Rp X.K X.mh H G d v) (ru : RelV v u) (mC : X.mg n = some (.ref C)) (h : cmpOk n (rs G d)) : ∃ tb, PySem.W.Looks (model X.prog X.w) s.heap (typeOf u) tb ∧ PySem.W.notFirst X.K C tb = true := by
  have fin : ∀ T, tyD (rs G d) = some T → ∃ tb, PySem.W.Looks (model X.prog X.w) s.heap (typeOf u) tb ∧ PySem.W.notFirst X.K C tb = true := fun T e => by
    obtain ⟨t1, t2⟩ := tyX_of hg r e
    exact ⟨.type T, looks_tyIs (tyIs_of I ru t1 t2), notFirst_ty t2⟩
  unfold cmpOk at h
  split at h
  · rename_i c fs e
    obtain ⟨a, C', ox, od, rfl, rfl, m, J⟩ := ins_look I hg r ru e
    rw [h, mC] at m
    cases m
    exact ⟨.ref C, J.type, by simp [PySem.W.notFirst]⟩
  · cases e : tyD (rs G d) with
    | none => rw [e] at h; cases h
    | some T => exact fin T e
theorem od_eqI (M : HasMX X n "__eq__" k ps sp) (hk : k ≤ lv) : OpD X lv true (compareOp .Eq) (rEqI n sp) := by
  obtain ⟨C, f, fd, mC, cC, hme, hb, F⟩ := M.ex
  intro gd pins s σ H G dx dy x y v u Q R I rx ry hg r1 r2 h l
  unfold rEqI at h
  split at h
  · rename_i c fs e1
    obtain ⟨⟨en, hy⟩, h⟩ := h
    obtain ⟨a, C', ox, od, rfl, rfl, m, J⟩ := ins_look I hg r1 rx e1
    rw [en, mC] at m
    cases m
    obtain ⟨tb, hlk, hnf⟩ := right_look I hg r2 ry mC hy
    obtain ⟨m, hF⟩ := I.fr
    show wpAny _ _ (richCompare .Eq (.ref a) u) _ _ _
    refine PySem.W.cmp_K (op := .Eq) gd.room.units0 hF I.ok.mod.kin J hlk hnf hme.at_ hme.fn ?_
    have h0 : upSp X.K X.mh sp [.ref a, y] H (fun v H' => ∃ b, v = .bl b ∧ Q (.bl b) H') (fun cls dd H' => False) := ⟨[dx, dy], G, BlQ id R, fun _ _ => False, .cons r1 (.cons r2 .nil), hg, h, fun d G' H' v hd e3 g3 r3 => by
      unfold BlQ at hd
      split at hd
      · rename_i b
        cases r3
        exact ⟨b, rfl, l _ G' H' _ hd e3 g3 (.bl b)⟩
      · exact hd.elim, fun x G' H' cls dd hx => hx.elim⟩
    have run := run_fnG (Wx := fun _ _ _ _ => False) (Q := fun v H' => ∃ b, v = .bl b ∧ Q (.bl b) H') (vs := [.ref a, y]) (us := [.ref a, u]) (dvs := []) (ds := []) F gd hk L2.takes0 hb .nil I (.cons rfl (.cons ry .nil)) h0
    refine thn run fun w s2 hw => ?_
    obtain ⟨z, H2, I2, rz, b, ez, q⟩ := hw
    subst ez
    obtain rfl : w = Value.bool b := rz
    exact ⟨.bl b, H2, I2, rfl, q⟩
  · exact h.elim
theorem od_neI (M : HasMX X n "__eq__" k ps sp) (hk : k + 1 ≤ lv) (hc : ∃ C, X.mg n = some (.ref C) ∧ CmpC X.K C) : OpD X lv true (compareOp .NotEq) (rNeI n sp) := by
  obtain ⟨C, f, fd, mC, cC, hme, hb, F⟩ := M.ex
  obtain ⟨C0, mC0, hcc⟩ := hc
  rw [mC] at mC0
  cases mC0
  intro gd pins s σ H G dx dy x y v u Q R I rx ry hg r1 r2 h l
  unfold rNeI at h
  split at h
  · rename_i c fs e1
    obtain ⟨⟨en, hy⟩, h⟩ := h
    obtain ⟨a, C', ox, od, rfl, rfl, m, J⟩ := ins_look I hg r1 rx e1
    rw [en, mC] at m
    cases m
    obtain ⟨tb, hlk, hnf⟩ := right_look I hg r2 ry mC hy
    obtain ⟨m, hF⟩ := I.fr
    show wpAny _ _ (richCompare .NotEq (.ref a) u) _ _ _
    refine PySem.W.ne_K (by have := gd.un; omega) hF I.ok.mod.kin J hlk hnf hcc.ob hcc.ne hme.at_ hme.fn ?_
    have h0 : upSp X.K X.mh sp [.ref a, y] H (fun v H' => ∃ b, v = .bl b ∧ Q (.bl (!b)) H') (fun cls dd H' => False) := ⟨[dx, dy], G, BlQ (fun b => !b) R, fun _ _ => False, .cons r1 (.cons r2 .nil), hg, h, fun d G' H' v hd e3 g3 r3 => by
      unfold BlQ at hd
      split at hd
      · rename_i b
        cases r3
        exact ⟨b, rfl, l _ G' H' _ hd e3 g3 (.bl _)⟩
      · exact hd.elim, fun x G' H' cls dd hx => hx.elim⟩
    have run := run_fnG1 (Wx := fun _ _ _ _ => False) (vs := [.ref a, y]) (us := [.ref a, u]) F gd hk L2.takes0 hb I (.cons rfl (.cons ry .nil)) h0
    refine thn run fun w s2 hw => ?_
    obtain ⟨z, H2, I2, rz, b, ez, q⟩ := hw
    subst ez
    obtain rfl : w = Value.bool b := rz
    exact ⟨.bl (!b), H2, I2, rfl, q⟩
  · exact h.elim
theorem od_inI (M : HasMX X n "__eq__" k ps sp) (hk : k + 1 ≤ lv) : OpD X lv true (compareOp .In) (rInI n sp) := by
  obtain ⟨C, f, fd, mC, cC, hme, hb, F⟩ := M.ex
  intro gd pins s σ H G dx dy x y v u Q R I rx ry hg r1 r2 h l
  unfold rInI at h
  split at h
  · rename_i a b
    obtain ⟨⟨nab, hcl⟩, h⟩ := h
    cases r1
    obtain rfl : v = Value.ref a := rx
    cases r2 with
    | @lst p vs _ gp ep rl =>
      obtain rfl : u = Value.ref p := ry
      cases rl with
      | cons r3 r4 =>
        cases r4
        cases r3
        split at hcl
        · rename_i c fs c' fs' ea eb
          obtain ⟨z, its, kk, rr, hlen, eo⟩ := I.lstM ep
          obtain ⟨ui, rfl, rui⟩ := vals1 rr
          obtain rfl : ui = Value.ref b := rui
          obtain ⟨b', C', ox, od, eb1, eb2, m, J⟩ := ins_look (d := .ref b) (v := .ref b) (u := .ref b) (c := c') (fs := fs') I hg (.ref b) rfl (rs_ri eb)
          cases eb1
          rw [hcl.2, mC] at m
          cases m
          obtain ⟨a', C2, ox2, od2, ea1, ea2, m2, J2⟩ := ins_look (d := .ref a) (v := .ref a) (u := .ref a) (c := c) (fs := fs) I hg (.ref a) rfl (rs_ri ea)
          cases ea1
          rw [hcl.1, mC] at m2
          cases m2
          obtain ⟨m, hF⟩ := I.fr
          refine PySem.in_oneG eo rfl (GQ.eqBool_refG (fun z => nab z.symm) ?_)
          refine PySem.W.cmp_K (op := .Eq) (by have := gd.un; show X.A.units + 1 < cLine; omega) hF I.ok.mod.kin J J2.type (by simp [PySem.W.notFirst]) hme.at_ hme.fn ?_
          have h0 : upSp X.K X.mh sp [.ref b, .ref a] H (fun v H' => ∃ r, v = .bl r ∧ Q (.bl r) H' ∧ ∃ vs', H' p = some (.lst vs') ∧ vs'.length = 1) (fun cls dd H' => False) := ⟨[.ref b, .ref a], G, BlQ id R, fun _ _ => False, .cons (.ref b) (.cons (.ref a) .nil), hg, h, fun d G' H' v hd e3 g3 r3 => by
            unfold BlQ at hd
            split at hd
            · rename_i r
              cases r3
              exact ⟨r, rfl, l _ G' H' _ hd e3 g3 (.bl r), _, (e3.get gp ep).1, rfl⟩
            · exact hd.elim, fun x G' H' cls dd hx => hx.elim⟩
          refine thn (run_fnG1 (Wx := fun _ _ _ _ => False) (vs := [.ref b, .ref a]) (us := [.ref b, .ref a]) F gd hk L2.takes0 hb I (.cons rfl (.cons rfl .nil)) h0) fun w s2 ⟨z, H2, I2, rz, r, ez, q, vs', ep', lv'⟩ => ?_
          subst ez
          obtain rfl : w = Value.bool r := rz
          obtain ⟨z2, its2, k2, rr2, hl2, eo2⟩ := I2.lstM ep'
          exact ⟨r, rfl, ⟨_, _, _, _, eo2, by rw [List.size_toArray, ← rr2.length]; exact lv'⟩, .bl r, H2, I2, rfl, q⟩
        · exact hcl.elim
  · exact h.elim
end
end DL

namespace PySem
open PyProof.Rows
/-! len(set(texts)): how many unlike ones -/
section
variable {prog : Program} {w : World} {A : Around}
/-- the set at S holds the first i texts; m of them, all just where no two are alike -/
def UpTo (prog : Program) (w : World) (h : Heap) (S : Addr) (xs : List Str) (i : Nat) : Prop := ∃ m, h.SetOf (strKind prog w) S (fun k => decide (k ∈ xs.take i)) m ∧ (m = i ↔ (xs.take i).Nodup) ∧ m ≤ i
theorem UpTo.keep {h h' : Heap} {S : Addr} {xs : List Str} {i : Nat} (u : UpTo prog w h S xs i) (k : ∀ o, h.get? S = some o → h'.get? S = some o) : UpTo prog w h' S xs i := by
  obtain ⟨m, ⟨o, es, ep, t, ho, r⟩, e⟩ := u
  exact ⟨m, ⟨o, es, ep, t, k o ho, r⟩, e⟩
theorem UpTo.next {h : Heap} {S : Addr} {xs : List Str} {i m m' : Nat} {x : Str} (hx : xs[i]? = some x) (hi : i < xs.length) (e : m = i ↔ (xs.take i).Nodup) (hm : m ≤ i) (em : m' = if decide (x ∈ xs.take i) = true then m else m + 1) (hS : h.SetOf (strKind prog w) S (fun k => decide (k ∈ xs.take i) || decide (k = x)) m') : UpTo prog w h S xs (i + 1) := by
  have et : xs.take (i + 1) = xs.take i ++ [x] := by rw [List.take_add_one, hx]; rfl
  have ef : (fun k => decide (k ∈ xs.take i) || decide (k = x)) = fun k => decide (k ∈ xs.take (i + 1)) := by
    funext k
    rw [et, Bool.eq_iff_iff]
    simp
  rw [ef] at hS
  have nd : (xs.take (i + 1)).Nodup ↔ (xs.take i).Nodup ∧ x ∉ xs.take i := by
    rw [et, List.nodup_append]
    constructor
    · rintro ⟨h1, _, h3⟩
      exact ⟨h1, fun z => h3 x z x (by simp) rfl⟩
    · rintro ⟨h1, h2⟩
      exact ⟨h1, by simp, fun a ha b hb z => h2 (by rw [List.mem_singleton] at hb; rw [← hb, ← z]; exact ha)⟩
  refine ⟨m', hS, ?_, ?_⟩
  · rw [nd, em]
    by_cases hin : x ∈ xs.take i
    · rw [if_pos (decide_eq_true hin)]
      constructor
      · intro z; omega
      · rintro ⟨_, z⟩; exact absurd hin z
    · rw [if_neg (by simpa using hin)]
      constructor
      · intro z; exact ⟨e.mp (by omega), hin⟩
      · rintro ⟨z, _⟩; have := e.mpr z; omega
  · rw [em]; split <;> omega
theorem fill_loop {R : Result → Shared → Prop} {I : Addr} {fp wr : List Addr} {Gg : Array GenState → Array GenState → Prop} {n : Nat} {P : Nat → Value → Prop} {St : Nat → Shared → Prop} (W : WalksS prog w A.in1 I fp wr Gg n P St) (S : Addr) (hSf : S ∉ fp) (xs : List Str) (hn : xs.length = n) (hval : ∀ i v, P i v → ∃ x t, xs[i]? = some x ∧ v = .str x t) (hb : n + 1 < scanBound) :
    ∀ (d i : Nat) (s : Shared), i + d = n → St i s → UpTo prog w s.heap S xs i → (∀ s', Moved (S :: wr) Gg s s' → UpTo prog w s'.heap S xs n → R (.ok (.ret .none)) s') → codeAny (model prog w) A (.builtin "set.update.loop" ⟨[.ref S, .ref I], []⟩) R s := by
  have out : S ∉ wr := fun h => hSf (W.sub _ h)
  have into : ∀ b ∈ wr, b ∈ S :: wr := fun b hb => List.mem_cons_of_mem _ hb
  intro d
  induction d with
  | zero =>
    intro i s hd st u hR
    obtain rfl : i = n := by omega
    refine codeAny_builtin PyProof.Rows.F.entry_set_update_loop ?_
    rw [Around.under_plainId PyProof.Rows.F.plain_set_update_loop _]
    show wpAny _ A.in1 (pyNext (.ref I) >>= _) _ _ s
    refine wpAny_bind (W.done s _ _ st fun s' mv => ?_)
    show wpAny _ A.in1 (ret Value.none) _ _ s'
    exact wpAny_pure (hR s' (mv.mono into) (u.keep fun o e => mv.heap S o out e))
  | succ d ih =>
    intro i s hd st u hR
    refine codeAny_builtin PyProof.Rows.F.entry_set_update_loop ?_
    rw [Around.under_plainId PyProof.Rows.F.plain_set_update_loop _]
    show wpAny _ A.in1 (pyNext (.ref I) >>= _) _ _ s
    refine wpAny_bind (W.item i s _ _ (by omega) st fun v s' hP st' mv => ?_)
    obtain ⟨x, t, hx, rfl⟩ := hval i v hP
    obtain ⟨m, hS, e, hm⟩ := u.keep fun o e => mv.heap S o out e
    show wpAny _ A.in1 (holding [Value.str x t] (setAdd S (.str x t)) >>= _) _ _ s'
    refine wpAny_bind (wpAny_holding ?_)
    unfold setAdd
    refine wpAny_holding (wpAny_bind ((strKind prog w).pyHash (k := x) (strKind_is _ _ _ _) ?_))
    refine wpAny_setAddHashed_of (knd := strKind prog w) (s := { s' with toks := s'.toks + 1 }) (strKind_is _ _ _ _) rfl hS (by omega) fun h' sb hS2 => ?_
    have u2 : UpTo prog w h' S xs (i + 1) := UpTo.next hx (by omega) e hm rfl hS2
    have still : ∀ b, b ≠ S → ∀ o, s'.heap.get? b = some o → h'.get? b = some o := fun b hb o e => (sb.2 b hb).trans e
    refine wpAny_pure ⟨plainId_quiet PyProof.Rows.F.plain_set_update_loop _, ih (i + 1) _ (by omega) (W.frame _ s' _ _ st' (Nat.le_succ _) fun b hb o e => still b (fun z => hSf (by rw [← z]; exact hb)) o e) u2 fun s'' mv' u' => ?_⟩
    exact hR s'' (Moved.trans W.gtrans ((mv.mono into).then_heap (Nat.le_succ _) fun b o hb e => still b (fun z => hb (by rw [z]; exact List.mem_cons_self)) o e) mv') u'
end
end PySem
namespace PySem
open PyProof.Rows
section
variable {prog : Program} {w : World} {A : Around} {E : Value → Shared → Prop} {s : Shared}
theorem set_init_texts {S l : Addr} {items : Array Value} {xs : List Str} {led : Bool} {s₁ : Shared} (hh : A.handled = none) (hS : s₁.heap.get? S = some { cls := .type "set", dict := none, data := .set #[] 0 (.fresh 0 0 led) }) (hl : s₁.heap.IsList l items) (hlS : l ≠ S) (hv : ∀ (i : Nat) (v : Value), items[i]? = some v → ∃ (x : Str) (t : Tok), xs[i]? = some x ∧ v = Value.str x t) (hn : xs.length = items.size) (hb : items.size + 1 < scanBound)
    {R : Value → Shared → Prop} (h : ∀ (h' : Heap) (tk : Nat), UpTo prog w h' S xs xs.length → (∀ b o, b ≠ S → b < s₁.heap.objs.size → s₁.heap.get? b = some o → h'.get? b = some o) → R .none { s₁ with heap := h', toks := tk }) :
    codeAny (model prog w) A (.call (.builtin "set.__init__") ⟨[.ref S, .ref l], []⟩) (wants R E) s₁ := by
  have hT : s₁.TypeIs (.ref S) "set" := ⟨_, hS, rfl⟩
  refine codeAny_call_builtin PySem.F.called_set.init.plain PySem.F.entry_set_init (check_set_init_1 hT ?_)
  obtain ⟨⟨c1, d1, dt, sl⟩, hol, hcl, nl, hdl⟩ := id hl
  simp only at hcl hdl
  subst hcl hdl
  have q1 := PySem.F.sub_list_set
  have q2 := PySem.F.sub_list_frozenset
  have q3 : (Value.type "list" == Value.type "dict") = false := by decide
  unfold Builtin.«set.__init__» noKeywords Builtin.Frozenset.updateFrom
  generalize hPI : pyIter = PI
  obtain ⟨hp, g, dr, tk, os⟩ := s₁
  wp_walk
  subst hPI
  refine wpAny_pyIter_list hl (wpAny_bind (wpAny_runValue ?_))
  have lS : S < hp.objs.size := Heap.lt_size hS
  have ll : l < hp.objs.size := Heap.lt_size hol
  have h3 : A.in1.in1.handled = none := by simp [hh]
  refine fill_loop ((Walks.list h3 hp.objs.size l (Nat.ne_of_lt ll) items).toS) S ?_ xs hn hv hb items.size 0 ⟨hp.push { cls := .type "list_iterator", data := .fields #[.ref l, .int 0 0] }, g, dr, tk, os⟩ (by omega) ⟨⟨_, Heap.get?_push_size _ rfl, rfl, rfl⟩, (show (hp.push _).IsList l items from Heap.IsList.push hl _)⟩ ?_ ?_
  · intro m
    rcases List.mem_cons.mp m with e | m
    · exact Nat.ne_of_lt lS e
    · exact hlS (List.mem_singleton.mp m).symm
  · refine ⟨0, ?_, by simp, Nat.le_refl _⟩
    exact PyProof.Rows.SetOf_congr ((PyProof.Rows.setObjOf_fresh (knd := strKind prog w) led).setOf (Heap.get?_push_of_some _ hS) (by unfold scanBound; omega)) (fun k => by simp) rfl
  · intro s' mv u
    obtain ⟨h', g', d', tk', os'⟩ := s'
    obtain rfl : g' = g := mv.gens
    obtain rfl : d' = dr := mv.drawn
    obtain rfl : os' = os := mv.os
    show wpAny _ _ _ _ _ _
    refine wpAny_pure ?_
    show wpAny _ _ (ret Value.none) _ _ _
    rw [← hn] at u
    refine wpAny_pure (h h' tk' u fun b o h1 h2 e => mv.heap b o (fun m => ?_) (Heap.get?_push_of_some _ e))
    rcases List.mem_cons.mp m with z | m
    · exact h1 z
    · exact Nat.ne_of_lt h2 (List.mem_singleton.mp m)
theorem call_set_texts {l : Addr} {items : Array Value} {xs : List Str} {Q : Value → Shared → Prop} (hh : A.handled = none) (hl : s.heap.IsList l items) (hv : ∀ (i : Nat) (v : Value), items[i]? = some v → ∃ (x : Str) (t : Tok), xs[i]? = some x ∧ v = Value.str x t) (hn : xs.length = items.size) (hb : items.size + 1 < scanBound)
    (h : ∀ (h' : Heap) (tk : Nat), UpTo prog w h' s.heap.objs.size xs xs.length → (∀ b o, s.heap.get? b = some o → h'.get? b = some o) → Q (.ref s.heap.objs.size) { s with heap := h', toks := tk }) :
    wpAny (model prog w) A (call (.type "set") [.ref l]) Q E s := by
  have q1 := PySem.F.called_set.mro
  obtain ⟨c, tl, q1⟩ := q1
  have q2 := PySem.F.called_set.made
  have q3 := PySem.F.called_set.sub
  have q4 := PySem.F.called_set.notType
  have q5 := PySem.F.called_set.canCreate
  have q6 := PySem.F.typeCall_set_1 (.ref l)
  refine wpAny_call (codeAny_of_tree ?_)
  show wpAny _ _ (callAny (.type "set") _) _ _ _
  refine wpAny_pure ⟨Code.quiet_builtin _ (by decide +kernel), codeAny_builtin PySem.F.entry_type_call ?_⟩
  rw [Around.under_plain (weight_type_call_type "set" [.ref l] []) rfl]
  repeat (any_goals (first | assumption | wp_step))
  refine codeAny_mono (code_set_new_1 (.ref l) (E := E) (Q₁ := fun obj s₁ => ∃ led : Bool, obj = .ref s.heap.objs.size ∧ s₁ = { s with heap := s.heap.push { cls := .type "set", dict := none, data := .set #[] 0 (.fresh 0 0 led) } }) fun led => ⟨led, rfl, rfl⟩) fun r s₁ hr => ?_
  match r, hr with
  | .error e, hr => exact hr
  | .ok (.ret obj), hr =>
    obtain ⟨led, rfl, rfl⟩ := hr
    have ll : l < s.heap.objs.size := hl.elim fun o ho => Heap.lt_size ho.1
    have hS : (s.heap.push { cls := .type "set", dict := none, data := .set #[] 0 (.fresh 0 0 led) }).get? s.heap.objs.size = some { cls := .type "set", dict := none, data := .set #[] 0 (.fresh 0 0 led) } := Heap.get?_push_size _ rfl
    have hT : Shared.TypeIs { s with heap := s.heap.push { cls := .type "set", dict := none, data := .set #[] 0 (.fresh 0 0 led) } } (.ref s.heap.objs.size) "set" := ⟨_, hS, rfl⟩
    have q7 := PySem.F.called_set.init.lookup
    have q8 := PySem.F.called_set.init.bind (.ref s.heap.objs.size)
    repeat (any_goals (first | assumption | wp_step))
    refine codeAny_mono (set_init_texts (E := E) (R := fun r s₂ => r = .none ∧ ∃ h' tk, s₂ = { s with heap := h', toks := tk } ∧ UpTo prog w h' s.heap.objs.size xs xs.length ∧ ∀ b o, s.heap.get? b = some o → h'.get? b = some o) (by simp [hh]) hS (hl.push _) (Nat.ne_of_lt ll) hv hn hb fun h' tk u k => ⟨rfl, h', tk, rfl, u, fun b o e => k b o (Nat.ne_of_lt (Heap.lt_size e)) (by rw [Heap.size_push]; exact Nat.lt_succ_of_lt (Heap.lt_size e)) (Heap.get?_push_of_some _ e)⟩) fun r2 s2 hr2 => ?_
    match r2, hr2 with
    | .error e, hr2 => exact hr2
    | .ok (.ret r), hr2 =>
      obtain ⟨rfl, h', tk, rfl, u, k⟩ := hr2
      repeat (any_goals (first | assumption | wp_step))
      exact h _ _ u k
    | .ok .next, hr2 => exact hr2.elim
    | .ok .brk, hr2 => exact hr2.elim
    | .ok .cont, hr2 => exact hr2.elim
  | .ok .next, hr => exact hr.elim
  | .ok .brk, hr => exact hr.elim
  | .ok .cont, hr => exact hr.elim
end
end PySem

namespace DL
open L2 PyProof.Rows PySem PySem.Spec

/-! ### 45. len(set(texts)) -/
def dLenSet (t : DE) : DE := fun W δ G Q => t W δ G fun d G1 => match rs G1 d with
  | .lst xs => ∃ ns : List Str, xs = ns.map D.str ∧ ns.length < 20 ∧ ∀ m : Nat, (m = ns.length ↔ ns.Nodup) → Q (.int m) G1
  | _ => False
section
variable {X : Cx} {lv k : Nat} {cm : Bool} {p p2 pos pos2 : Pos}
theorem strs_at {xs : List Str} : ∀ {us : List Value}, Vals (xs.map V.str) us → ∀ (i : Nat) (v : Value), us[i]? = some v → ∃ (x : Str) (t : Tok), xs[i]? = some x ∧ v = Value.str x t := by
  induction xs with
  | nil => intro us r i v h; cases r; simp at h
  | cons x xs ih =>
    intro us r i v h
    cases r with
    | cons q t =>
      obtain ⟨tk, rfl⟩ := q
      cases i with
      | zero =>
        simp only [List.getElem?_cons_zero, Option.some.injEq] at h
        subst h
        exact ⟨x, tk, rfl, rfl⟩
      | succ i =>
        simp only [List.getElem?_cons_succ] at h ⊢
        exact ih t i v h
theorem pd_lenSet {e : Expr} {t : DE} (he : PD X lv true e t) (hm : X.mg "len" = none) (hm2 : X.mg "set" = none) (hg : Gl X "len" := by rfl) (hg2 : Gl X "set" := by rfl) (hs0 : starEach [e] X.env = [(false, eval e X.env)] := by rfl)
    (hs : starEach [.Call (.Name "set" p2) [e] [] pos2] X.env = (false, eval (.Call (.Name "set" p2) [e] [] pos2) X.env) :: starEach [] X.env := by rfl) :
    PD X lv true (.Call (.Name "len" p) [.Call (.Name "set" p2) [e] [] pos2] [] pos) (dLenSet t) := fun gd Wx tk => by
  refine ⟨fun pins s σ H Q I ⟨W, δ, G, R, hs', hgo, ht, lQ, lW⟩ => ?_⟩
  refine wpAny_Call_Name_kw (ld_blt I hg hm boot_len ?_)
  refine PyProof.Rows.callWith_builtin1 ?_ hs rfl
  rw [hs]
  refine Calls.spliced_cons (rest := backTo pos (starEach [] X.env)) ?_
  have ha : PDA X lv true [e] (dCons t dNil) := pda_cons he pda_nil (by rw [hs0]; rfl)
  refine Call_ (ld_blt I hg2 hm2 boot_set (PyProof.Rows.callWith_type1 (thn ((ha gd Wx tk).run pos2 pins s σ H (fun vs H1 => ∃ x d G1, vs = [x] ∧ Ext H G H1 G1 ∧ HpOk X.K X.mh H1 G1 ∧ Rp X.K X.mh H1 G1 d x ∧ (match rs G1 d with
    | .lst xs => ∃ ns : List Str, xs = ns.map D.str ∧ ns.length < 20 ∧ ∀ m : Nat, (m = ns.length ↔ ns.Nodup) → R (.int m) G1
    | _ => False)) I ⟨W, δ, G, fun ds G1 => match ds with
      | [d] => (match rs G1 d with
        | .lst xs => ∃ ns : List Str, xs = ns.map D.str ∧ ns.length < 20 ∧ ∀ m : Nat, (m = ns.length ↔ ns.Nodup) → R (.int m) G1
        | _ => False)
      | _ => False, hs', hgo, ht, fun ds G1 H1 vs h1 e1 g1 r1 => by
        dsimp only at h1
        split at h1
        · rename_i d
          obtain ⟨v, rfl, r2⟩ := one_rp r1
          exact ⟨v, d, G1, rfl, e1, g1, r2, h1⟩
        · exact h1.elim, lW⟩) fun us s1 hus => ?_) hs0 rfl))
  obtain ⟨vs1, H1, I1, rus, x, d, G1, evs, e1, g1, r1, h1⟩ := hus
  subst evs
  obtain ⟨u, rfl, rx⟩ := vals1 rus
  cases er : rs G1 d with
  | lst xs =>
    rw [er] at h1
    obtain ⟨ns, rfl, hz, h1⟩ := h1
    obtain ⟨a, vs, rfl, ha, ra⟩ := rs_lst g1 r1 er
    cases rpL_strs ra
    obtain rfl : u = Value.ref a := rx
    obtain ⟨z, its, n, rr, hlen, eo⟩ := I1.lstM ha
    rw [List.length_map] at hlen
    refine PySem.call_set_texts (xs := ns) (I1.ok.hd (gd.cl rfl)) ⟨_, eo, rfl, n, rfl⟩ (fun i v hv => strs_at rr i v (by simpa using hv)) (by rw [List.size_toArray]; exact hlen) (by rw [List.size_toArray, ← hlen]; unfold scanBound; omega) fun h' tk' hu hk => ?_
    obtain ⟨m, ⟨o, es, ep, t', ho, hex, hd, _, _, _, hf, hn⟩, hmi, hle⟩ := hu
    rw [List.take_length] at hmi
    have I2 : Inv X pins σ H1 { s1 with heap := h', toks := tk' } := I1.kept hk
    refine Calls.spliced_nil ?_
    refine PySem.call_len_set ho hex hd hf (by omega) ?_
    rw [hn]
    exact ⟨.int m, H1, (I2.tok _).tok _, ⟨_, rfl⟩, lQ _ G1 H1 _ (h1 m hmi) e1 g1 (.int m)⟩
  | _ => rw [er] at h1; exact h1.elim
end
/-! ### 46. isinstance(x, an own class) -/
def dCls (c : CI) : DE := fun _ _ G Q => Q (.cls c) G
def rIsiC (n : Str) : RLD := fun ds G Q => match ds with
  | [d, .cls c] => c.nm = n ∧ (match rs G d with
    | .ins c' _ => c'.nm = n ∧ Q (.bl true) G
    | e => (tyD e).isSome = true ∧ Q (.bl false) G)
  | _ => False
structure IsC (K : PySem.W.Frag) (C : Addr) : Prop where
  cm : CmpC K C
  cl : Cls K C
  no : ∀ T ∈ tysA, PySem.W.kitOne K (.type T) (.ref C) = some false
section
variable {X : Cx} {lv k : Nat} {cm : Bool} {p pos : Pos} {n : Str}
theorem pd_clsN {c : CI} {C : Addr} (hm : X.mg n = some (.ref C)) (hn : c.nm = n) (hg : Gl X n := by rfl) (hd : (n == ("__debug__" : Str)) = false := by decide) : PD X lv cm (.Name n p) (dCls c) := fun gd Wx tk =>
  pe_imp (pe_glob (v := .ref C) hg hm rfl hd) fun σ H Q ⟨W, δ, G, R, hs, hg, ht, lQ, lW⟩ => lQ (.cls c) G H (.ref C) ht (Ext.refl _ _) hg (.cls (by rw [hn]; exact hm))
theorem cd_isiC (hc : ∃ C, X.mg n = some (.ref C) ∧ IsC X.K C) : CallD X lv cm (.builtin "isinstance") (rIsiC n) := by
  obtain ⟨C, mC, hc⟩ := hc
  intro gd pins s σ H vs us Q I rv ⟨ds, G, R, hg, r0, h, l⟩
  unfold rIsiC at h
  split at h
  · rename_i d c
    obtain ⟨en, h⟩ := h
    obtain ⟨v, u, rfl, r, r2⟩ := two_rp r0
    cases r2 with
    | cls m =>
      rw [en, show X.mh.g n = _ from mC] at m
      cases m
      split at h
      · rename_i c' fs e
        obtain ⟨a, C', dx, fv, rfl, m, ea, ek, ra⟩ := rs_ins hg r e
        rw [h.1, mC] at m
        cases m
        exact call_isi pins s σ H _ us Q I rv ⟨.ref a, .ref C, .ref C, .ref C, true, rfl, .own C, .base (.ins ea hc.cl hc.cm.ca hc.cm.gt hc.cm.tk hc.cm.ob), by unfold PySem.W.kitOne; rw [if_pos (by simp)], l _ G H _ h.2 (Ext.refl _ _) hg (.bl _)⟩
      · cases e : tyD (rs G d) with
        | none => rw [e] at h; exact absurd h.1 (by simp)
        | some T =>
          obtain ⟨t1, t2⟩ := tyX_of hg r e
          exact call_isi pins s σ H _ us Q I rv ⟨v, .ref C, .type T, .ref C, false, rfl, .own C, t1, hc.no T t2, l _ G H _ h.2 (Ext.refl _ _) hg (.bl _)⟩
  · exact h.elim
end
/-! ### 47. repr(an instance with its own __repr__) -/
def StQ (Q : DQ) : DQ := fun d G => match d with
  | .str x => Q (.str x) G
  | _ => False
def dReprI (n : Str) (sp : DSp) (to : DE) : DE := fun W δ G Q => to W δ G fun x G1 => match rs G1 x with
  | .ins c _ => c.nm = n ∧ Ap sp [x] G1 (StQ Q) (fun y G3 => W y δ G3) .mk
  | _ => False
section
variable {X : Cx} {lv k : Nat} {f : Addr} {fd : FuncData} {ps : List Str} {n : Str} {sp : DSp}
theorem pd_reprI {e : Expr} {t : DE} {p pos : Pos} (M : HasMX X n "__repr__" k ps sp) (hk : k + 1 ≤ lv) (he : PD X lv true e t) (hm : X.mg "repr" = none) (hg : Gl X "repr" := by rfl) (hs : starEach [e] X.env = (false, eval e X.env) :: starEach [] X.env := by rfl) :
    PD X lv true (.Call (.Name "repr" p) [e] [] pos) (dReprI n sp t) := fun gd Wx tk => by
  obtain ⟨C, f, fd, mC, cC, hme, hb, F⟩ := M.ex
  refine ⟨fun pins s σ H Q I ⟨W, δ, G, R, hs', hgo, ht, lQ, lW⟩ => ?_⟩
  refine wpAny_Call_Name_kw (ld_blt I hg hm boot_repr ?_)
  refine PyProof.Rows.callWith_builtin1 ?_ hs rfl
  rw [hs]
  refine Calls.spliced_cons (rest := backTo pos (starEach [] X.env)) ?_
  refine thn ((he gd Wx tk).run pins s σ H (fun x H1 => ∃ d G1, Ext H G H1 G1 ∧ HpOk X.K X.mh H1 G1 ∧ Rp X.K X.mh H1 G1 d x ∧ (match rs G1 d with
    | .ins c _ => c.nm = n ∧ Ap sp [d] G1 (StQ R) (fun y G3 => W y δ G3) .mk
    | _ => False)) I ⟨W, δ, G, _, hs', hgo, ht, fun d G1 H1 v h1 e1 g1 r1 => ⟨d, G1, e1, g1, r1, h1⟩, lW⟩) fun u s1 ⟨x, H1, I1, rx, d, G1, e1, g1, r1, h1⟩ => Calls.spliced_nil ?_
  cases er : rs G1 d with
  | ins c fs =>
    rw [er] at h1
    obtain ⟨en, h1⟩ := h1
    obtain ⟨a, C', ox, od, rfl, rfl, m', J⟩ := ins_look I1 g1 r1 rx er
    rw [en, mC] at m'
    cases m'
    obtain ⟨m, hF⟩ := I1.fr
    refine PySem.W.repr_K (by have := gd.un; show X.A.units + 1 < cLine; omega) hF I1.ok.mod.kin J hme.at_ hme.fn ?_
    have run := run_fnG1 (Q := fun v H' => ∃ y : Str, v = .str y ∧ Q (.str y) H') (vs := [.ref a]) (us := [.ref a]) F gd hk tk hb I1 (.cons rfl .nil) (up_sp (hs'.ext e1) g1 (.cons r1 .nil) h1 (fun d G' H' v hd e3 g3 r3 => by
      unfold StQ at hd
      split at hd
      · cases r3
        exact ⟨_, rfl, lQ _ G' H' _ hd (e1.trans e3) g3 (.str _)⟩
      · exact hd.elim) (fun ex δ' G' σ' H' cls dd hw e3 => lW ex δ' G' σ' H' cls dd hw (e1.trans e3)))
    refine thn run fun w s2 hw => ?_
    obtain ⟨v, H2, I2, r2, y, ev, q⟩ := hw
    subst ev
    obtain ⟨t', rfl⟩ := r2
    exact ⟨.str y, H2, I2, ⟨t', rfl⟩, q⟩
  | _ => rw [er] at h1; exact h1.elim
/-! ### 48. f-strings -/
/-- {x!r} -/
def dFmtR (te : DE) : DE := fun W δ G Q => te W δ G fun d G1 => match rs G1 d with
  | .lst xs => (okS 60 (.lst xs) = true ∧ (py (.lst xs)).shown.length ≤ sizeLine) ∧ Q (.str (py (.lst xs)).shown) G1
  | _ => False
/-- {x}, a text -/
def dFmt (te : DE) : DE := fun W δ G Q => te W δ G fun d G1 => match d with
  | .str y => y.length ≤ sizeLine ∧ Q (.str y) G1
  | _ => False
def dJs : List DE → Str → DW → Sl → DH → DQ → Prop
  | [], acc, _, _, G, Q => Q (.str acc) G
  | t :: ts, acc, W, δ, G, Q => t W δ G fun x G1 => match x with
    | .str y => (acc ++ y).length ≤ sizeLine ∧ dJs ts (acc ++ y) W δ G1 Q
    | _ => False
def dJoined (ts : List DE) : DE := dJs ts Str.empty
variable {cm : Bool} {pos : Pos}
theorem pd_fmtR {e : Expr} {te : DE} (he : PD X lv cm e te) : PD X lv cm (.FormattedValue e 114 none pos) (dFmtR te) := fun gd Wx tk => by
  refine ⟨fun pins s σ H Q I ⟨W, δ, G, R, hs', hgo, ht, lQ, lW⟩ => ?_⟩
  refine wpAny_FormattedValue_repr (thn ((he gd Wx tk).run pins s σ H (fun x H1 => ∃ d G1, Ext H G H1 G1 ∧ HpOk X.K X.mh H1 G1 ∧ Rp X.K X.mh H1 G1 d x ∧ (match rs G1 d with
    | .lst xs => (okS 60 (.lst xs) = true ∧ (py (.lst xs)).shown.length ≤ sizeLine) ∧ R (.str (py (.lst xs)).shown) G1
    | _ => False)) I ⟨W, δ, G, _, hs', hgo, ht, fun d G1 H1 v h1 e1 g1 r1 => ⟨d, G1, e1, g1, r1, h1⟩, lW⟩) fun u s1 ⟨x, H1, I1, rx, d, G1, e1, g1, r1, h1⟩ => ?_)
  cases er : rs G1 d with
  | lst xs =>
    rw [er] at h1
    obtain ⟨⟨h2, h3⟩, h4⟩ := h1
    obtain ⟨a, vs, rfl, ha, ra⟩ := rs_lst g1 r1 er
    obtain rfl : u = Value.ref a := rx
    have sh : Shw X s1 (py (.lst xs)) (.ref a) := by
      have q : Rp X.K X.mh H1 (delG G1 a) (.lst xs) (.ref a) := .lst delG_same ha (ra.ext delG_sub.ext)
      exact q.shw I1 h2 rfl h3
    obtain ⟨_, _, hT⟩ := sh
    obtain ⟨T, idr, S⟩ := hT a rfl
    have un := gd.un
    have hd := okS_depth h2
    refine wpAny_pyReprObj_slot (by omega) (S.typeIs s1 fun _ _ e => e) S.slotRepr (S.call X.A X.xe s1 _ gd.gu (by omega) (fun _ _ e => e) fun h' t tk hk => ⟨_, _, rfl, ?_⟩)
    exact wpAny_formatField_str ⟨.str _, H1, I1.kept hk, ⟨_, rfl⟩, lQ _ G1 H1 _ h4 e1 g1 (.str _)⟩ ⟨.str _, H1, (I1.kept hk).tok _, ⟨_, rfl⟩, lQ _ G1 H1 _ h4 e1 g1 (.str _)⟩ h3
  | _ => rw [er] at h1; exact h1.elim
theorem pd_fmt {e : Expr} {te : DE} (he : PD X lv cm e te) : PD X lv cm (.FormattedValue e (-1) none pos) (dFmt te) := fun gd Wx tk =>
  pe_imp (pe_fmt (he gd Wx tk)) fun σ H Q ⟨W, δ, G, R, hs, hg, ht, lQ, lW⟩ => ⟨W, δ, G, _, hs, hg, ht, fun d G1 H1 v h1 e1 g1 r1 => by
    cases r1 with
    | str y => exact .inl ⟨y, rfl, h1.1, lQ _ G1 H1 _ h1.2 e1 g1 (.str y)⟩
    | _ => exact h1.elim, lW⟩
def PDJ (X : Cx) (lv : Nat) (cm : Bool) (es : List Expr) (ts : List DE) : Prop := Gd X lv cm → ∀ Wx, Takes X Wx → PJ X es (ts.map (upE X Wx))
theorem pdj_nil : PDJ X lv cm [] [] := fun gd Wx tk => .nil
theorem pdj_cons {e : Expr} {t : DE} {es : List Expr} {ts : List DE} (h : PD X lv cm e t) (r : PDJ X lv cm es ts) : PDJ X lv cm (e :: es) (t :: ts) := fun gd Wx tk => .cons (h gd Wx tk) (r gd Wx tk)
theorem up_js {Wx : WX} {W : DW} {δ : Sl} {σ : L2.St} {H0 : Hp} {G0 : DH} {R : DQ} {Q : VK} (lQ : ∀ d G' H' v, R d G' → Ext H0 G0 H' G' → HpOk X.K X.mh H' G' → Rp X.K X.mh H' G' d v → Q v H')
    (lW : ∀ ex δ' G' σ' H' cls dd, W ex δ' G' → Ext H0 G0 H' G' → StOk X.K X.mh H' G' δ' σ' → HpOk X.K X.mh H' G' → ExOk X.K X.mh H' G' ex cls dd → Wx cls dd σ' H') :
    ∀ (ts : List DE) (acc : Str) (H : Hp) (G : DH), Ext H0 G0 H G → StOk X.K X.mh H G δ σ → HpOk X.K X.mh H G → dJs ts acc W δ G R → tJs (ts.map (upE X Wx)) acc σ H fun out H1 => Q (.str out) H1
  | [], acc, H, G, e, hs, hg, h => lQ _ G H _ h e hg (.str _)
  | t :: ts, acc, H, G, e, hs, hg, h => ⟨W, δ, G, _, hs, hg, h, fun d G1 H1 v h1 e1 g1 r1 => by
      cases r1 with
      | str y => exact ⟨y, rfl, h1.1, up_js lQ lW ts (acc ++ y) H1 G1 (e.trans e1) (hs.ext e1) g1 h1.2⟩
      | _ => exact h1.elim, fun ex δ' G' σ' H' cls dd hw e2 => lW ex δ' G' σ' H' cls dd hw (e.trans e2)⟩
theorem pd_joined {v1 v2 : Expr} {rest : List Expr} {ts : List DE} (h : PDJ X lv cm (v1 :: v2 :: rest) ts) : PD X lv cm (.JoinedStr (v1 :: v2 :: rest) pos) (dJoined ts) := fun gd Wx tk =>
  pe_imp (pe_joined (h gd Wx tk)) fun σ H Q ⟨W, δ, G, R, hs, hg, ht, lQ, lW⟩ => up_js lQ lW ts Str.empty H G (Ext.refl _ _) hs hg ht
end
/-! ### 49. xs * n, t[a:b] of plain tuples -/
def rRepD : R2D := fun x y G Q => match rs G x, y with
  | .lst xs, .int k => (0 ≤ k ∧ k ≤ 1000 ∧ xs.length * k.toNat ≤ sizeLine) ∧ Q (.lst (List.replicate k.toNat xs).flatten) G
  | _, _ => False
def rSl2 (x : D) (lo hi : Option Int) (G : DH) (Q : DQ) : Prop := match x with
  | .tpk xs => ¬ (HT.sIx xs.length 0 lo = 0 ∧ HT.sIx xs.length xs.length hi = xs.length) ∧ Q (.tup (cutD xs lo hi)) G
  | x => rSl x lo hi G Q
def dSl2 (te : DE) (tl th : Option DE) : DE := fun W δ G Q => te W δ G fun x G1 => dPart tl W δ G1 fun lo G2 => dPart th W δ G2 fun hi G3 => rSl2 x lo hi G3 Q
section
variable {X : Cx} {lv : Nat} {cm : Bool}
theorem RpL.rep {H : Hp} {G : DH} {xs : List D} {vs : List V} (r : RpL X.K X.mh H G xs vs) : ∀ n : Nat, RpL X.K X.mh H G (List.replicate n xs).flatten (List.replicate n vs).flatten
  | 0 => .nil
  | n + 1 => by
    rw [List.replicate_succ, List.replicate_succ, List.flatten_cons, List.flatten_cons]
    exact r.append (r.rep n)
theorem od_rep : OpD X lv cm (binaryOp .Mult) rRepD := by
  intro gd pins s σ H G dx dy x y v u Q R I rx ry hg r1 r2 h l
  unfold rRepD at h
  split at h
  · rename_i xs kk e1
    obtain ⟨⟨h0, h1, hz⟩, h⟩ := h
    obtain ⟨a, vs, rfl, ha, ra⟩ := rs_lst hg r1 e1
    cases r2
    exact op_rep pins s σ H _ _ v u Q I rx ry ⟨a, _, vs, rfl, rfl, ha, by omega, by omega, by rw [← ra.length]; exact hz, fun p hp => l _ G _ _ h (Ext.newF hp) (hg.newF hp) (.lst (hg.free hp) upd_same ((ra.rep _).ext (Ext.newF hp)))⟩
  · exact h.elim
def upSl2 (X : Cx) : V → Option Int → Option Int → Hp → VK → Prop := fun x lo hi H Q => ∃ (dx : D) (G : DH) (R : DQ), HpOk X.K X.mh H G ∧ Rp X.K X.mh H G dx x ∧ rSl2 dx lo hi G R ∧
  ∀ d G' H' v, R d G' → Ext H G H' G' → HpOk X.K X.mh H' G' → Rp X.K X.mh H' G' d v → Q v H'
theorem sld2 : SlR X (upSl2 X) := by
  intro pins s σ H x v vl vu lo hi sl Q I rx hs pl pu ⟨dx, G, R, hg, r1, h, l⟩
  unfold rSl2 at h
  split at h
  · rename_i xs
    cases r1 with
    | tpk ha ra =>
      exact sl_tup pins s σ H _ v vl vu lo hi sl Q I rx hs pl pu ⟨_, _, rfl, ha.sqT, by rw [← ra.length]; exact h.1, fun p hp => l _ G _ _ h.2 (Ext.newF hp) (hg.newF hp) (.tup (.inl ⟨hg.free hp, upd_same⟩) ((cut_rp ra lo hi).ext (Ext.newF hp)))⟩
  · exact sld pins s σ H x v vl vu lo hi sl Q I rx hs pl pu ⟨_, G, R, hg, r1, h, l⟩
theorem pd_sl2 {e : Expr} {lo hi : Option Expr} {te : DE} {tl th : Option DE} {p2 pos : Pos} (he : PD X lv cm e te) (hl : PDO X lv cm lo tl) (hh : PDO X lv cm hi th) : PD X lv cm (.Subscript e (.Slice lo hi none p2) pos) (dSl2 te tl th) := fun gd Wx tk =>
  pe_imp (pe_slice sld2 (he gd Wx tk) (hl gd Wx tk) (hh gd Wx tk)) fun σ H Q ⟨W, δ, G, R, hs, hg, ht, lQ, lW⟩ =>
    ⟨W, δ, G, _, hs, hg, ht, fun dx G1 H1 x h1 e1 g1 r1 => ⟨W, δ, G1, _, hs.ext e1, g1, h1, fun o G2 H2 h2 e2 g2 => ⟨W, δ, G2, _, hs.ext (e1.trans e2), g2, h2, fun o' G3 H3 h3 e3 g3 =>
      ⟨dx, G3, R, g3, r1.ext (e2.trans e3), h3, fun d G' H' v hd e4 g4 r4 => lQ d G' H' v hd (((e1.trans e2).trans e3).trans e4) g4 r4⟩,
        fun ex δ' G' σ' H' cls dd hw e3 => lW ex δ' G' σ' H' cls dd hw ((e1.trans e2).trans e3)⟩, fun ex δ' G' σ' H' cls dd hw e2 => lW ex δ' G' σ' H' cls dd hw (e1.trans e2)⟩, lW⟩
end
end DL

namespace DL
open L2 PyProof.Rows PySem PySem.Spec

/-! ### 50. a def by another name; a def called with keywords -/
theorem hasF_ofA {P : Program} {w : World} {K : PySem.W.Frag} {mg : Str → Option Value} {base : Heap} {k : Nat} {f : Addr} {fd : FuncData} {x y qual : Str} {params : Arguments} {body : List Stmt} {scope : Scope} {N ps : List Str} {sp : DSp} {rd : DS}
    (hm : mg y = some (.ref f)) (F : FunD K x qual params body scope [] [] f fd) (S : FnScope N ps scope)
    (hbd : ∀ (kV doc pm : Value) (an : Option Addr) (cdv ct : Value) (us : List Value), us.length = ps.length → bindArgs (PySem.W.fnOf x qual params body scope .none kV doc pm an cdv ct) ⟨us, []⟩ = pure (ps.zip us))
    (len : ∀ ds G Q E, sp ds G Q E → ds.length = ps.length)
    (hb : ∀ (cdv : Value) (A : Around) (outer : List Env) (s : Shared) (H : Hp) (E : XK), PDSs (cxOf (L2.CX P w) P w K mg base N qual scope f cdv A outer s H E) k true body rd)
    (hsp : ∀ ds G Q E, sp ds G Q E → rd (bodyEnds Q E) (slots N ds) G) : HasF P w K mg base y (k + 1) ps sp :=
  ⟨f, fd, hm, F.kp, F.bindsN hbd, fnG_FunD F S len hb hsp⟩
/-- a def of the text, as called with these keywords -/
structure HasFK (P : Program) (w : World) (K : PySem.W.Frag) (mg : Str → Option Value) (base : Heap) (x : Str) (k np : Nat) (ks : List Str) (gD : List D → List D → List D) (sp : DSp) : Prop where
  ex : ∃ (f : Addr) (fd : FuncData) (ps : List Str), mg x = some (.ref f) ∧ PySem.W.keepIn K (.ref f) = true ∧ KBD K (mhOf P w mg) fd ps np ks gD ∧ FnG P w K mg base k f fd ps (upSp K (mhOf P w mg) sp)
abbrev HasFKX (X : Cx) (x : Str) (k np : Nat) (ks : List Str) (gD : List D → List D → List D) (sp : DSp) : Prop := HasFK X.prog X.w X.K X.mg X.base x k np ks gD sp
def dCallK (np nk : Nat) (gD : List D → List D → List D) (sp : DSp) (t u : DA) : DE := fun W δ G Q => t W δ G fun ds G1 => u W δ G1 fun es G2 => (ds.length = np ∧ es.length = nk) ∧ Ap sp (gD ds es) G2 Q (fun x G3 => W x δ G3) .mk
section
variable {X : Cx} {lv k np : Nat} {n : Str} {ks : List Str} {sp : DSp} {gD : List D → List D → List D} {e : Expr} {es : List Expr} {kws : List Keyword} {t u : DA} {p pos : Pos}
theorem run_fnK {pins : List (Addr × Obj)} {σ : L2.St} {H : Hp} {s : Shared} {Q : VK} {us ws : List Value} {vs zs : List V} {f : Addr} {fd : FuncData} {ps : List Str} {S : Sp} {Wx : WX} {m : Nat} {g : List Value → List Value → List Value} {gV : List V → List V → List V}
    (F : FnG X.prog X.w X.K X.mg X.base k f fd ps S) (gd : Gd X lv true) (hk : k ≤ lv) (tk : Takes X Wx) (hb : KBn X.K fd ps m ks g gV)
    (I : Inv X pins σ H s) (r : Vals vs us) (rz : Vals zs ws) (l1 : vs.length = m) (l2 : zs.length = ks.length) (h : S (gV vs zs) H Q (fun cls dd H' => Wx cls dd σ H')) :
    wpAny (model X.prog X.w) X.A (call (.ref f) us (ks.zip ws)) (EP X pins σ Q) X.xe s := by
  have r2 := hb.rel r rz
  refine wpAny_call (codeAny_mono (F.run X.A X.stack s H ⟨us, ks.zip ws⟩ (g us ws) (gV vs zs) Q _ (gd.room.mono hk) gd.gu I.env0 (hb.to s us ws I.kIn (r.length.symm.trans l1) (rz.length.symm.trans l2)) r2 h) (fun y s' hq => ?_))
  match y, hq with
  | .error e, hq => exact passAt tk σ pins H s e s' I hq
  | .ok (.ret u), hq => exact I.after hq
  | .ok .next, hq => exact hq.elim
  | .ok .brk, hq => exact hq.elim
  | .ok .cont, hq => exact hq.elim
/-- f(e, .., k = v, ..) -/
theorem pd_callK (Fn : HasFKX X n k np ks gD sp) (hk : k ≤ lv) (ha : PDA X lv true (e :: es) t) (hkw : PDK X lv true kws u) (hg : Gl X n := by rfl)
    (hall : (backToKw pos (keywordEach kws X.env)).all (·.1.isSome) = true := by rfl) (hks : (backToKw pos (keywordEach kws X.env)).filterMap (·.1) = ks := by rfl) (hdb : (n == ("__debug__" : Str)) = false := by decide)
    (he : starEach (e :: es) X.env = (false, eval e X.env) :: starEach es X.env := by rfl) (hpl : ((backTo pos (starEach (e :: es) X.env)).any (·.1) || (backToKw pos (keywordEach kws X.env)).any (·.1.isNone)) = false := by rfl) :
    PD X lv true (.Call (.Name n p) (e :: es) kws pos) (dCallK np ks.length gD sp t u) := fun gd Wx tk => by
  obtain ⟨f, fd, ps, mf, kp, ⟨g, gV, hb, hgv⟩, F⟩ := Fn.ex
  refine ⟨fun pins s σ H Q I ⟨W, δ, G, R, hs, hgo, ht, lQ, lW⟩ => ?_⟩
  refine wpAny_Call_Name_kw (ld_glob I hg mf ?_ hdb)
  refine PySem.W.callWith_KW (h₀ := X.base) I.ok.mod.kin kp hall (thn ((ha gd Wx tk).run pos pins s σ H (fun vs H1 => ∃ ds G1, Ext H G H1 G1 ∧ HpOk X.K X.mh H1 G1 ∧ RpL X.K X.mh H1 G1 ds vs ∧ u W δ G1 fun es G2 => (ds.length = np ∧ es.length = ks.length) ∧
    Ap sp (gD ds es) G2 R (fun x G3 => W x δ G3) .mk) I ⟨W, δ, G, _, hs, hgo, ht, fun ds G1 H1 vs h1 e1 g1 r1 => ⟨ds, G1, e1, g1, r1, h1⟩, lW⟩) fun us s1 ⟨vs, H1, I1, r, ds, G1, e1, g1, r1, q⟩ => ?_) hpl he
  refine thn ((hkw gd Wx tk).run pos pins s1 σ H1 (fun zs H2 => vs.length = np ∧ zs.length = ks.length ∧ upSp X.K X.mh sp (gV vs zs) H2 Q (fun cls dd H' => Wx cls dd σ H')) I1
    ⟨W, δ, G1, _, hs.ext e1, g1, q, fun es G2 H2 zs h2 e2 g2 r2 => ⟨by rw [← r1.length]; exact h2.1.1, by rw [← r2.length]; exact h2.1.2, up_sp ((hs.ext e1).ext e2) g2 (hgv _ _ _ _ _ _ (r1.ext e2) r2) h2.2 (fun d G' H' v hd e3 => lQ d G' H' v hd ((e1.trans e2).trans e3)) (fun ex δ' G' σ' H' cls dd hw e3 => lW ex δ' G' σ' H' cls dd hw ((e1.trans e2).trans e3))⟩,
      fun ex δ' G' σ' H' cls dd hw e2 => lW ex δ' G' σ' H' cls dd hw (e1.trans e2)⟩) fun ws s2 ⟨zs, H2, I2, rz, l1, l2, q2⟩ => ⟨I2.kIn, ?_⟩
  rw [hks]
  exact run_fnK F gd hk tk hb I2 r rz l1 l2 q2
end
/-- keyword-only parameters that lack, no other defaults -/
theorem FunD.kbinds0 {K : PySem.W.Frag} {x qual : Str} {params : Arguments} {body : List Stmt} {scope : Scope} {kws : List (Str × V)} {f : Addr} {fd : FuncData} {ps : List Str} (F : FunD K x qual params body scope [] kws f fd) (n : Nat) (ks : List Str) (ms : List (Str × V)) (g : {α : Type} → List α → List α → List α → List α) (hk : kws ≠ []) (hms : ∀ q ∈ ms, q ∈ kws)
    (hrel : ∀ {vs mz zs : List V} {us mv ws : List Value}, Vals vs us → Vals mz mv → Vals zs ws → Vals (g vs mz zs) (g us mv ws))
    (h : ∀ (D : Addr) (doc pm : Value) (an : Option Addr) (cdv ct : Value) (us mv ws : List Value), us.length = n → mv.length = ms.length → ws.length = ks.length →
      KwChain D ((ms.map (·.1)).zip mv) (bindArgs (PySem.W.fnOf x qual params body scope .none (.ref D) doc pm an cdv ct) ⟨us, ks.zip ws⟩) (ps.zip (g us mv ws))) :
    ∃ mv : List Value, KBn K fd ps n ks (fun us ws => g us mv ws) (fun vs zs => g vs (ms.map (·.2)) zs) := by
  obtain ⟨oc, od, dV, kV, doc, pm, an, cdv, ct, osl, rfl, lk, hcd, hD, hK⟩ := F.ex
  rcases hD with ⟨_, rfl⟩ | ⟨e, _⟩
  · rcases hK with e | ⟨D, rfl, hq⟩
    · exact absurd e hk
    · obtain ⟨mv, hl, rk, hks⟩ := kwd_vals (ms := ms) fun q hm => hq q (hms q hm)
      refine ⟨mv, ⟨fun s us ws X l1 l2 => ?_, fun r1 r2 => hrel r1 rk r2⟩⟩
      exact BindsTo.of_looks fun M => KwChain.looks X hks (h D doc pm an cdv ct us mv ws l1 hl l2)
  · exact absurd rfl e
theorem funD_mkK {K : PySem.W.Frag} {x qual : Str} {params : Arguments} {body : List Stmt} {scope : Scope} {f D : Addr} {oc doc pm cdv ct v : Value} {z : V} {od an : Option Addr} {osl : Array (Option Value)} {y : Str}
    (l : K.lookup f = some ⟨oc, od, .func (PySem.W.fnOf x qual params body scope .none (.ref D) doc pm an cdv ct), osl⟩) (c : PySem.W.codeIn K cdv qual = true) (k : PySem.W.keepIn K (.ref f) = true) (hy : PySem.W.nsIn K D y = some (some v)) (r : RelV z v) :
    FunD K x qual params body scope [] [(y, z)] f (PySem.W.fnOf x qual params body scope .none (.ref D) doc pm an cdv ct) :=
  ⟨⟨oc, od, .none, .ref D, doc, pm, an, cdv, ct, osl, rfl, l, c, .inl ⟨rfl, rfl⟩, .inr ⟨D, rfl, fun q hq => by
    rw [List.mem_singleton] at hq
    subst hq
    exact ⟨v, hy, r⟩⟩⟩, k⟩
end DL

namespace DL
open L2 PyProof.Rows PySem PySem.Spec

/-! ### 51. keywords alone -/
section
variable {X : Cx} {lv k np : Nat} {n : Str} {ks : List Str} {sp : DSp} {gD : List D → List D → List D} {e : Expr} {es : List Expr} {kws : List Keyword} {t u : DA} {p pos : Pos}
theorem pd_callK0 (Fn : HasFKX X n k 0 ks gD sp) (hk : k ≤ lv) (hkw : PDK X lv true kws u) (hg : Gl X n := by rfl)
    (hall : (backToKw pos (keywordEach kws X.env)).all (·.1.isSome) = true := by rfl) (hks : (backToKw pos (keywordEach kws X.env)).filterMap (·.1) = ks := by rfl) (hdb : (n == ("__debug__" : Str)) = false := by decide)
    (hpl : ((backTo pos (starEach [] X.env)).any (·.1) || (backToKw pos (keywordEach kws X.env)).any (·.1.isNone)) = false := by rfl) :
    PD X lv true (.Call (.Name n p) [] kws pos) (dCallK 0 ks.length gD sp dNil u) := fun gd Wx tk => by
  obtain ⟨f, fd, ps, mf, kp, ⟨g, gV, hb, hgv⟩, F⟩ := Fn.ex
  refine ⟨fun pins s σ H Q I ⟨W, δ, G, R, hs, hgo, ht, lQ, lW⟩ => ?_⟩
  refine wpAny_Call_Name_kw (ld_glob I hg mf ?_ hdb)
  refine PySem.W.callWith_KW0 (h₀ := X.base) I.ok.mod.kin kp hall ?_ hpl
  refine thn ((hkw gd Wx tk).run pos pins s σ H (fun zs H2 => zs.length = ks.length ∧ upSp X.K X.mh sp (gV [] zs) H2 Q (fun cls dd H' => Wx cls dd σ H')) I
    ⟨W, δ, G, _, hs, hgo, ht, fun es G2 H2 zs h2 e2 g2 r2 => ⟨by rw [← r2.length]; exact h2.1.2, up_sp (hs.ext e2) g2 (hgv _ _ _ _ _ _ .nil r2) h2.2 (fun d G' H' v hd e3 => lQ d G' H' v hd (e2.trans e3)) (fun ex δ' G' σ' H' cls dd hw e3 => lW ex δ' G' σ' H' cls dd hw (e2.trans e3))⟩,
      fun ex δ' G' σ' H' cls dd hw e2 => lW ex δ' G' σ' H' cls dd hw e2⟩) fun ws s2 ⟨zs, H2, I2, rz, l2, q2⟩ => ⟨I2.kIn, ?_⟩
  rw [hks]
  exact run_fnK (us := []) (vs := []) F gd hk tk hb I2 .nil rz rfl l2 q2
end
/-- no defaults at all, some keywords -/
theorem FunD.kbindsN {K : PySem.W.Frag} {x qual : Str} {params : Arguments} {body : List Stmt} {scope : Scope} {kws : List (Str × V)} {f : Addr} {fd : FuncData} {ps : List Str} (F : FunD K x qual params body scope [] kws f fd) (n : Nat) (ks : List Str) (g : {α : Type} → List α → List α → List α)
    (hrel : ∀ {vs zs : List V} {us ws : List Value}, Vals vs us → Vals zs ws → Vals (g vs zs) (g us ws))
    (h : ∀ (kV doc pm : Value) (an : Option Addr) (cdv ct : Value) (us ws : List Value), us.length = n → ws.length = ks.length →
      bindArgs (PySem.W.fnOf x qual params body scope .none kV doc pm an cdv ct) ⟨us, ks.zip ws⟩ = pure (ps.zip (g us ws))) :
    KBn K fd ps n ks (fun us ws => g us ws) (fun vs zs => g vs zs) := by
  obtain ⟨oc, od, dV, kV, doc, pm, an, cdv, ct, osl, rfl, lk, hcd, hD, hK⟩ := F.ex
  rcases hD with ⟨_, rfl⟩ | ⟨e, _⟩
  · exact ⟨fun s us ws X l1 l2 => .of_eq (h kV doc pm an cdv ct us ws l1 l2), fun r1 r2 => hrel r1 r2⟩
  · exact absurd rfl e
/-! ### 52. xs.extend(ys), x += e, xs[::-1], sorted of a pair -/
def dExtend (to te : DE) : DE := fun W δ G Q => to W δ G fun x G1 => match x with
  | .ref a => isL G1 a ∧ te W δ G1 fun y G2 => match G2 a with
    | some (.lst xs) => match rs G2 y with
      | .lst ys => xs.length + ys.length ≤ sizeLine ∧ Q .non (upG G2 a (.lst (xs ++ ys)))
      | _ => False
    | _ => False
  | _ => False
section
variable {X : Cx} {lv : Nat} {cm : Bool} {apos pos : Pos}
theorem pd_extend {o e : Expr} {to te : DE} (ho : PD X lv cm o to) (he : PD X lv cm e te) (hs : starEach [e] X.env = [(false, eval e X.env)] := by rfl) (hb : attributeBase o "extend" X.env (eval o X.env) = eval o X.env := by rfl) (hl : (apos.endLine == pos.line) = true := by rfl) :
    PD X lv cm (.Call (.Attribute o "extend" apos) [e] [] pos) (dExtend to te) := fun gd Wx tk => by
  refine ⟨fun pins s σ H Q I ⟨W, δ, G, R, st, hgo, ht, lQ, lW⟩ => ?_⟩
  refine PySem.Call_method1 hb hs hl (thn ((ho gd Wx tk).run pins s σ H (fun x H1 => ∃ a G1, x = .ref a ∧ Ext H G H1 G1 ∧ HpOk X.K X.mh H1 G1 ∧ isL G1 a ∧ te W δ G1 fun y G2 => match G2 a with
    | some (.lst xs) => match rs G2 y with
      | .lst ys => xs.length + ys.length ≤ sizeLine ∧ R .non (upG G2 a (.lst (xs ++ ys)))
      | _ => False
    | _ => False) I ⟨W, δ, G, _, st, hgo, ht, fun d G1 H1 v h1 e1 g1 r1 => by
      cases r1 with
      | ref a => exact ⟨a, G1, rfl, e1, g1, h1.1, h1.2⟩
      | _ => exact h1.elim, lW⟩) fun u s1 ⟨x, H1, I1, rx, a, G1, ex, e1, g1, hi, q⟩ => ?_)
  subst ex
  obtain rfl : u = Value.ref a := rx
  obtain ⟨vs, ha⟩ := isL_at g1 hi
  obtain ⟨z, its, n, rr, hlen, eo⟩ := I1.lstM ha
  refine ⟨"list", _, F.plainAttrs_list, F.slot_list_extend, F.type_list_extend, ⟨_, eo, rfl⟩, (fun b eb => by cases eb; exact ⟨_, eo, rfl⟩), Calls.callWith_builtin rfl (Calls.evalArgs_plain (Calls.spliced_cons ?_))⟩
  refine thn ((he gd Wx tk).run pins s1 σ H1 (fun y H2 => rExtend (.ref a) [y] H2 Q) I1 ⟨W, δ, G1, _, st.ext e1, g1, q, fun y G2 H2 v h2 e2 g2 r2 => ?_, fun ex δ' G' σ' H' cls dd hw e2 => lW ex δ' G' σ' H' cls dd hw (e1.trans e2)⟩) fun w s2 ⟨y, H2, I2, r2, q2⟩ => Calls.spliced_nil (mt_extend pins s2 σ H2 (.ref a) [y] (.ref a) [w] Q I2 rfl (.cons r2 .nil) q2)
  cases ea : G2 a with
  | none => simp only [ea] at h2
  | some w =>
    simp only [ea] at h2
    have ob := g2 a w ea
    cases ob with
    | lst e3 ra =>
      rename_i vs2 xs
      simp only at h2
      cases er : rs G2 y with
      | lst ys =>
        rw [er] at h2
        obtain ⟨b, us, rfl, hb2, rb⟩ := rs_lst g2 r2 er
        have ext := Ext.write (H := H2) (o := .lst (xs ++ ys)) (u := .lst (vs2 ++ us)) ea
        exact ⟨a, b, vs2, us, rfl, rfl, e3, hb2, by rw [← ra.length, ← rb.length]; exact h2.1, lQ .non _ _ _ h2.2 ((e1.trans e2).trans ext) (g2.upd ext (.lst upd_same ((ra.append rb).ext ext))) .non⟩
      | _ => rw [er] at h2; exact h2.elim
    | dct _ _ => exact h2.elim
    | ins _ _ _ _ => exact h2.elim
    | tb _ => exact h2.elim
    | mx _ _ => exact h2.elim
/-- x += e, of numbers -/
def dAug (i : Nat) (te : DE) : DS := fun D δ G => match δ[i]? with
  | some (some (.int x)) => te D.ex δ G fun y G1 => match y with
    | .int j => D.nx (δ.set i (some (.int (x + j)))) G1
    | _ => False
  | _ => False
theorem pds_aug {i : Nat} {x : Str} {e : Expr} {te : DE} {pos' : Pos} (hN : X.N.Nodup) (hi : X.N[i]? = some x) (hx : Loc X.env.scope x) (he : PD X lv cm e te) (hf : X.fn x = true ∨ X.env.scope.names.lookup x = some .local := by first | exact .inl rfl | exact .inr rfl | assumption) :
    PDS X lv cm (.AugAssign (.Name x pos') .Add e pos) (dAug i te) := fun gd Wx tk =>
  ps_imp (ps_aug hN hi hx (he gd Wx tk) ip_add hf) fun D σ H ⟨DD, δ, G, hs, hg, ht, l1, l2, l3, l4, l5⟩ => by
    unfold dAug at ht
    split at ht
    · rename_i z hz
      obtain ⟨v, h1, h2⟩ := hs.2 i _ hz
      cases h2
      refine ⟨_, h1, DD.ex, δ, G, _, hs, hg, ht, fun d G1 H1 v h1 e1 g1 r1 => ?_, l5⟩
      cases r1 with
      | int j => exact ⟨z, j, rfl, rfl, l1 _ G1 _ H1 h1 e1 ((hs.ext e1).set i (.int _)) g1⟩
      | _ => exact h1.elim
    · exact ht.elim
def dRevL (te : DE) : DE := fun W δ G Q => te W δ G fun x G1 => match rs G1 x with
  | .lst xs => Q (.lst xs.reverse) G1
  | _ => False
theorem pd_revL {e : Expr} {te : DE} {k : Nat} {p1 p2 p3 : Pos} (he : PD X lv cm e te) : PD X lv cm (.Subscript e (.Slice none none (some (.UnaryOp .USub (.Constant (.int 1) k p1) p2)) p3) pos) (dRevL te) := fun gd Wx tk =>
  pe_imp (pe_revL (he gd Wx tk)) fun σ H Q ⟨W, δ, G, R, hs, hg, ht, lQ, lW⟩ => ⟨W, δ, G, _, hs, hg, ht, fun d G1 H1 v h1 e1 g1 r1 => by
    cases er : rs G1 d with
    | lst xs =>
      rw [er] at h1
      obtain ⟨a, vs, rfl, ha, ra⟩ := rs_lst g1 r1 er
      exact ⟨a, vs, rfl, .inl (.inl ha), fun p hp => lQ _ G1 _ _ h1 (e1.trans (Ext.newF hp)) (g1.newF hp) (.lst (g1.free hp) upd_same (ra.reverse.ext (Ext.newF hp)))⟩
    | _ => rw [er] at h1; exact h1.elim, lW⟩
end
end DL
/-! ### 53. sorted of a tuple of ints -/
namespace DL
open L2 PyProof.Rows PySem PySem.Spec
section
variable {prog : Program} {w : World} {A : Around} {E : Value → Shared → Prop} {s : Shared}
theorem collect_tup {l : Addr} {vs : List Value} {Q : List Value → Shared → Prop} (hl : IsTup s.heap l vs.toArray)
    (h : Q vs { s with heap := (s.heap.push (seqObj "list" #[] 0)).update s.heap.objs.size (Obj.mapSeq (· ++ vs.toArray)) }) (hsz : vs.length ≤ sizeLine) :
    wpAny (model prog w) A (collect (.ref l)) Q E s := by
  obtain ⟨o, ho, hc, n, hd⟩ := id hl
  unfold collect
  refine wpAny_bind (wpAny_runValue (codeAny_builtin entry_proto_collect' ?_))
  show wpAny _ _ (do again (.builtin "list.__iadd__" ⟨[← newList [], .ref l], []⟩)) _ _ s
  refine wpAny_bind (wpAny_newList (wpAny_pure ⟨Code.quiet_builtin _ (by decide +kernel), codeAny_builtin entry_list_iadd' ?_⟩))
  show wpAny _ _ (Builtin.List.listExtendWith (.ref s.heap.objs.size) (.ref l) (.ref s.heap.objs.size)) _ _ { s with heap := s.heap.push (seqObj "list" #[] 0) }
  unfold Builtin.List.listExtendWith
  have ho' : (s.heap.push (seqObj "list" #[] 0)).get? l = some o := Heap.get?_push_of_some _ ho
  refine wpAny_bind (wpAny_typeOf (T := "tuple") ⟨o, ho', hc⟩ ?_)
  have ht : (Value.type "tuple" == Value.type "tuple") = true := by rfl
  rw [if_pos (by rw [ht]; simp)]
  refine wpAny_bind (listItems_at ho' hd ?_)
  refine wpAny_bind (listItems_at (xs := #[]) (n := 0) (Heap.get?_push_size _ rfl) rfl ?_)
  rw [if_neg (by simp)]
  refine wpAny_bind (listUpdate_at (xs := #[]) (n := 0) (Heap.get?_push_size _ rfl) rfl ?_ (Nat.zero_le _) (by show (#[] ++ vs.toArray).size ≤ sizeLine + 1; simp only [Array.size_append, List.size_toArray, List.length_nil]; omega))
  refine wpAny_pure ?_
  show wpAny (model prog w) A (do
      let o ← load s.heap.objs.size
      match o.data with
      | .seq xs _ => pure xs.toList
      | _ => unsupported "internal:collect") Q E { s with heap := (s.heap.push (seqObj "list" #[] 0)).update s.heap.objs.size (Obj.mapSeq (· ++ vs.toArray)) }
  refine wpAny_bind (wpAny_load (get?_update_seq (Heap.get?_push_size _ rfl) _) ?_)
  show wpAny _ _ (pure ((#[] : Array Value) ++ vs.toArray).toList) Q E _
  rw [show ((#[] : Array Value) ++ vs.toArray).toList = vs by simp]
  exact wpAny_pure h
theorem sorted_intsT {l : Addr} {vs : List Value} {ns : List Int} {Q : Value → Shared → Prop} (hl : IsTup s.heap l vs.toArray) (hI : IntsAre vs ns) (h64 : vs.length < 64)
    (h : ∀ (out : Array Value) (ns' : List Int), IntsAre out.toList ns' → ns'.Perm ns → ns'.Pairwise (· ≤ ·) → Q (.ref (s.heap.objs.size + 1)) { s with heap := sortedAll s.heap vs out }) :
    wpAny (model prog w) A (call (.builtin "sorted") [.ref l]) Q E s := by
  refine Calls.call_function_entry kind_sorted plain_sorted entry_sorted (args_sorted1 _) ?_
  unfold Builtin.«sorted»
  refine wpAny_bind (m := checkCount "sorted" 1 1 _) (wpAny_pure ?_)
  refine wpAny_bind (collect_tup hl ?_ (small64 h64))
  refine wpAny_bind (wpAny_newList ?_ (small64 h64))
  have hsz : ((s.heap.push (seqObj "list" #[] 0)).update s.heap.objs.size (Obj.mapSeq (· ++ vs.toArray))).objs.size = s.heap.objs.size + 1 := by
    rw [Heap.size_update, size_push']
  have hoL : (((s.heap.push (seqObj "list" #[] 0)).update s.heap.objs.size (Obj.mapSeq (· ++ vs.toArray))).push (seqObj "list" vs.toArray 0)).get? (s.heap.objs.size + 1) = some (seqObj "list" vs.toArray 0) := by
    rw [← hsz]; exact Heap.get?_push_size _ rfl
  show wpAny _ _ _ _ _ { s with heap := ((s.heap.push (seqObj "list" #[] 0)).update s.heap.objs.size (Obj.mapSeq (· ++ vs.toArray))).push (seqObj "list" vs.toArray 0) }
  rw [hsz]
  refine wpAny_bind (wpAny_holding (wpAny_call_entry slot_list_sort ⟨_, hoL, rfl⟩ entry_list_sort (list_sort_tree hoL hI h64 fun out ns' a1 a2 a3 => ⟨_, rfl, ?_⟩) (args_list_sort _)))
  exact wpAny_pure ⟨_, rfl, h out ns' a1 a2 a3⟩
end
def rSortT : RLD := fun ds G Q => match ds with
  | [.tup xs] => ∃ ns : List Int, xs = ns.map D.int ∧ ns.length < 64 ∧ ∀ ns' : List Int, ns'.Perm ns → ns'.Pairwise (· ≤ ·) → Q (.lst (ns'.map D.int)) G
  | _ => False
section
variable {X : Cx} {lv : Nat}
theorem cd_sortT : CallD X lv true (.builtin "sorted") rSortT := by
  intro gd pins s σ H vs us Q I rv ⟨ds, G, R, hg, r0, h, l⟩
  unfold rSortT at h
  split at h
  · rename_i xs
    obtain ⟨v, rfl, r⟩ := one_rp r0
    obtain ⟨ns, rfl, h64, h⟩ := h
    cases r with
    | tup ha ra =>
      cases rpL_intsV ra
      rw [Vals.ref1 rv]
      obtain ⟨its, rr, htu, hz⟩ := I.tuple ha.sqT
      have hi := rr.ints
      refine sorted_intsT htu hi (by rw [hi.length]; exact h64) fun out ns' h1 h2 h3 => ?_
      obtain ⟨ep, he'⟩ := PyProof.Rows.sortedAll_at s.heap its out
      have hlen : (ns'.map V.int).length ≤ sizeLine := by rw [List.length_map, h2.length_eq]; exact small64 h64
      have fr := I.hok.fresh (Nat.le_succ s.heap.objs.size)
      exact ⟨.ref _, L2.upd H (s.heap.objs.size + 1) (.lst (ns'.map V.int)), I.laid (t' := s.toks) (fun _ _ => PyProof.Rows.sortedAll_old) (Nat.le_succ _) ⟨hlen, out.toList, ep, vals_of_ints h1, he'⟩, rfl, l _ G _ _ (h ns' h2 h3) (Ext.newF fr) (hg.newF fr) (.lst (hg.free fr) upd_same (rpL_ofInts ns'))⟩
  · exact h.elim
end
end DL

namespace DL
open L2 PyProof.Rows PySem PySem.Spec
/-! ### 54. all readings in one bundle -/
def dR := And.intro @DL.thn_nx (And.intro @DL.thn_rt (And.intro @DL.thn_ex (And.intro @DL.thn_bk (And.intro @DL.thn_ct (And.intro @DL.trn_nx (And.intro @DL.trn_rt (And.intro @DL.trn_ex (And.intro @DL.trn_bk (And.intro @DL.trn_ct (And.intro @DL.dSeq.eq_1 (And.intro @DL.dNext.eq_1 (And.intro @DL.dPass.eq_1 (And.intro @DL.dBrk.eq_1 (And.intro @DL.dCnt.eq_1 (And.intro @DL.dDrop.eq_1 (And.intro @DL.dRet.eq_1 (And.intro @DL.dRetN.eq_1 (And.intro @DL.dIfS.eq_1 (And.intro @DL.gdName.eq_1 (And.intro @DL.gdNil.eq_1 (And.intro @DL.gdCons.eq_1 (And.intro @DL.gdCons.eq_2 (And.intro @DL.gdTup.eq_1 (And.intro @DL.gdSub.eq_1 (And.intro @DL.dAsg.eq_1 (And.intro @DL.dPar.eq_1 (And.intro @DL.dVar.eq_1 (And.intro @DL.dC.eq_1 (And.intro @DL.dUn.eq_1 (And.intro @DL.dBin.eq_1 (And.intro @DL.dTest.eq_1 (And.intro @DL.dNot.eq_1 (And.intro @DL.dAnd.eq_1 (And.intro @DL.dOr.eq_1 (And.intro @DL.dVal.eq_1 (And.intro @DL.dAndV.eq_1 (And.intro @DL.dOrV.eq_1 (And.intro @DL.dNotV.eq_1 (And.intro @DL.dIf.eq_1 (And.intro @DL.dNil.eq_1 (And.intro @DL.dCons.eq_1 (And.intro @DL.dChain.eq_1 (And.intro @DL.dTup.eq_1 (And.intro @DL.dLst.eq_1 (And.intro @DL.dLstM.eq_1 (And.intro @DL.dCB.eq_1 (And.intro @DL.dFor.eq_1 (And.intro @DL.dLc.eq_1 (And.intro @DL.dLcM.eq_1 (And.intro @DL.lcLoop.eq_1 (And.intro @DL.dYes.eq_1 (And.intro @DL.diVal.eq_1 (And.intro @DL.diRng1.eq_1 (And.intro @DL.diRng2.eq_1 (And.intro @DL.diEnum.eq_1 (And.intro @DL.diZip.eq_1 (And.intro @DL.walkD.eq_1 (And.intro @DL.walkD.eq_2 (And.intro @DL.walkD.eq_3 (And.intro @DL.walkD.eq_4 (And.intro @DL.walkD.eq_5 (And.intro @DL.walkD.eq_6 (And.intro @DL.walkD.eq_7 (And.intro @DL.walkD.eq_8 (And.intro @DL.dCall.eq_1 (And.intro @DL.dSl.eq_1 (And.intro @DL.dDct0.eq_1 (And.intro @DL.dDctM0.eq_1 (And.intro @DL.rII.eq_1 (And.intro @DL.rII.eq_2 (And.intro @DL.rLt.eq_1 (And.intro @DL.rLe.eq_1 (And.intro @DL.rGt.eq_1 (And.intro @DL.rGe.eq_1 (And.intro @DL.rSub.eq_1 (And.intro @DL.rSub.eq_2 (And.intro @DL.rMul.eq_1 (And.intro @DL.rMul.eq_2 (And.intro @DL.rDivP.eq_1 (And.intro @DL.rDivP.eq_2 (And.intro @DL.rDiv.eq_1 (And.intro @DL.rDiv.eq_2 (And.intro @DL.rModP.eq_1 (And.intro @DL.rModP.eq_2 (And.intro @DL.rPow.eq_1 (And.intro @DL.rPow.eq_2 (And.intro @DL.rNeg.eq_1 (And.intro @DL.rNeg.eq_2 (And.intro @DL.rAdd.eq_1 (And.intro @DL.rEq.eq_1 (And.intro @DL.rNe.eq_1 (And.intro @DL.rIsN.eq_1 (And.intro @DL.rIsN.eq_2 (And.intro @DL.rNotN.eq_1 (And.intro @DL.rNotN.eq_2 (And.intro @DL.isN.eq_1 (And.intro @DL.isN.eq_2 (And.intro @DL.cmp.eq_1 (And.intro @DL.cmp.eq_2 (And.intro @DL.rIn.eq_1 (And.intro @DL.rNotIn.eq_1 (And.intro @DL.rInB.eq_1 (And.intro @DL.rIx.eq_1 (And.intro @DL.rSl.eq_1 (And.intro @DL.rLen.eq_1 (And.intro @DL.rLen.eq_2 (And.intro @DL.rAbs.eq_1 (And.intro @DL.rAbs.eq_2 (And.intro @DL.rMax2.eq_1 (And.intro @DL.rMax2.eq_2 (And.intro @DL.rMin2.eq_1 (And.intro @DL.rMin2.eq_2 (And.intro @DL.rInt1.eq_1 (And.intro @DL.rInt1.eq_2 (And.intro @DL.rInt1.eq_3 (And.intro @DL.rInt1.eq_4 (And.intro @DL.rStr1.eq_1 (And.intro @DL.rStr1.eq_2 (And.intro @DL.rStr1.eq_3 (And.intro @DL.rDivmod.eq_1 (And.intro @DL.rDivmod.eq_2 (And.intro @DL.rListF.eq_1 (And.intro @DL.rListF.eq_2 (And.intro @DL.rListM.eq_1 (And.intro @DL.rListM.eq_2 (And.intro @DL.rTuple.eq_1 (And.intro @DL.rTuple.eq_2 (And.intro @DL.rAll.eq_1 (And.intro @DL.rAll.eq_2 (And.intro @DL.rAny.eq_1 (And.intro @DL.rAny.eq_2 (And.intro @DL.rSum.eq_1 (And.intro @DL.rSum.eq_2 (And.intro @DL.rMaxL.eq_1 (And.intro @DL.rMaxL.eq_2 (And.intro @DL.rMinL.eq_1 (And.intro @DL.rMinL.eq_2 (And.intro @DL.rIsi.eq_1 (And.intro @DL.rIsi.eq_2 (And.intro @DL.rRepr.eq_1 (And.intro @DL.rRepr.eq_2 (And.intro @DL.rSetD.eq_1 (And.intro @DL.rSetD.eq_2 (And.intro @DL.itemsD.eq_1 (And.intro @DL.itemsD.eq_2 (And.intro @DL.itemsD.eq_3 (And.intro @DL.itemsD.eq_4 (And.intro @DL.itemsD.eq_5 (And.intro @DL.lstD.eq_1 (And.intro @DL.lstD.eq_2 (And.intro @DL.lstD.eq_3 (And.intro @DL.dSortIt.eq_1 (And.intro @DL.rTupleK.eq_1 (And.intro @DL.rTupleK.eq_2 (And.intro @DL.rDictP.eq_1 (And.intro @DL.rDictP.eq_2 (And.intro @DL.dClear.eq_1 (And.intro @DL.dLenI.eq_1 (And.intro @DL.LenQ.eq_1 (And.intro @DL.LenQ.eq_2 (And.intro @DL.dMake.eq_1 (And.intro @DL.MkQ.eq_1 (And.intro @DL.rListDE.eq_1 (And.intro @DL.rListDE.eq_2 (And.intro @DL.dMeth.eq_1 (And.intro @DL.dPutF.eq_1 (And.intro @DL.dGet2.eq_1 (And.intro @DL.dJoin.eq_1 (And.intro @DL.dAppend.eq_1 (And.intro @DL.dReverse.eq_1 (And.intro @DL.diVals.eq_1 (And.intro @DL.diItems.eq_1 (And.intro @DL.diEnum2.eq_1 (And.intro @DL.dPop.eq_1 (And.intro @DL.dPopAt.eq_1 (And.intro @DL.gdLst.eq_1 (And.intro @DL.rSortI.eq_1 (And.intro @DL.rSortI.eq_2 (And.intro @DL.rDictQ.eq_1 (And.intro @DL.rDictQ.eq_2 (And.intro @DL.rDictQ.eq_3 (And.intro @DL.dDisp1.eq_1 (And.intro @DL.dLcE.eq_1 (And.intro @DL.dRev.eq_1 (And.intro @DL.diZipK.eq_1 (And.intro @DL.rEqI.eq_1 (And.intro @DL.rNeI.eq_1 (And.intro @DL.rInI.eq_1 (And.intro @DL.rInI.eq_2 (And.intro @DL.BlQ.eq_1 (And.intro @DL.BlQ.eq_2 (And.intro @DL.StQ.eq_1 (And.intro @DL.StQ.eq_2 (And.intro @DL.dLenSet.eq_1 (And.intro @DL.dCls.eq_1 (And.intro @DL.rIsiC.eq_1 (And.intro @DL.rIsiC.eq_2 (And.intro @DL.dReprI.eq_1 (And.intro @DL.dFmtR.eq_1 (And.intro @DL.dFmt.eq_1 (And.intro @DL.dJs.eq_1 (And.intro @DL.dJs.eq_2 (And.intro @DL.dJoined.eq_1 (And.intro @DL.rRepD.eq_1 (And.intro @DL.rRepD.eq_2 (And.intro @DL.rSl2.eq_1 (And.intro @DL.rSl2.eq_2 (And.intro @DL.dSl2.eq_1 (And.intro @DL.dCallK.eq_1 (And.intro @DL.dFz.eq_1 (And.intro @DL.itemsT.eq_1 (And.intro @DL.itemsT.eq_2 (And.intro @DL.itemsT.eq_3 (And.intro @DL.itemsT.eq_4 (And.intro @DL.dListItems.eq_1 (And.intro @DL.isL.eq_1 (And.intro @reduceIte.eq_1 (And.intro @DL.dExtend.eq_1 (And.intro @DL.dAug.eq_1 (And.intro @DL.dRevL.eq_1 (And.intro @DL.rSortT.eq_1 (@DL.rSortT.eq_2))))))))))))))))))))))))))))))))))))))))))))))))))))))))))))))))))))))))))))))))))))))))))))))))))))))))))))))))))))))))))))))))))))))))))))))))))))))))))))))))))))))))))))))))))))))))))))))))))))))))))))))))))))))))))))))
end DL

namespace DL
open L2 PyProof.Rows PySem PySem.Spec
section
variable {X : Cx} {lv : Nat} {cm : Bool}
/-! ### 55. xs + ys, changed later -/
def rAddM : R2D := fun x y G Q => match rs G x, rs G y with
  | .lst xs, .lst ys => xs.length + ys.length ≤ sizeLine ∧ ∀ p, G p = none → Q (.ref p) (upG G p (.lst (xs ++ ys)))
  | _, _ => False
theorem od_addM : OpD X lv cm (binaryOp .Add) rAddM := by
  intro gd pins s σ H G dx dy x y v u Q R I rx ry hg r1 r2 h l
  unfold rAddM at h
  split at h
  · rename_i xs ys e1 e2
    obtain ⟨a, vs, rfl, ha, ra⟩ := rs_lst hg r1 e1
    obtain ⟨b, us, rfl, hb, rb⟩ := rs_lst hg r2 e2
    exact op_cat pins s σ H _ _ v u Q I rx ry ⟨a, b, vs, us, rfl, rfl, ha, hb, by rw [← ra.length, ← rb.length]; exact h.1, fun p hp =>
      l _ _ _ _ (h.2 p (hg.free hp)) (Ext.new hp) (HpOk.new hg hp (.lst upd_same ((ra.append rb).ext (Ext.new hp)))) (.ref p)⟩
  · exact h.elim
end
/-! ### 56. what is shown is a text that can be compared -/
theorem so_iff {s : Str} : PyData.strOk s = true ↔ ∀ c ∈ s.cps.toList, c < 0x110000 := by
  unfold PyData.strOk
  rw [← Array.all_toList, List.all_eq_true]
  simp only [decide_eq_true_eq]
theorem so_app {a b : Str} (h : PyData.strOk a = true) (k : PyData.strOk b = true) : PyData.strOk (a ++ b) = true := by
  rw [so_iff] at *
  intro c hc
  have e : (a ++ b).cps.toList = a.cps.toList ++ b.cps.toList := by
    show (a.cps ++ b.cps).toList = _
    simp
  rw [e] at hc
  rcases List.mem_append.mp hc with hc | hc
  · exact h c hc
  · exact k c hc
theorem so_text (s : String) : PyData.strOk (Str.ofString s) = true := by
  rw [so_iff, Str.ofString_eq_toList]
  intro c hc
  simp only [List.mem_map] at hc
  obtain ⟨d, _, rfl⟩ := hc
  rcases d.valid with h | h
  · exact Nat.lt_trans h (by decide)
  · exact h.2
theorem so_join {sep : Str} (hs : PyData.strOk sep = true) : ∀ {xs : List Str}, (∀ x ∈ xs, PyData.strOk x = true) → PyData.strOk (Str.join sep xs) = true
  | [], _ => by rw [so_iff]; intro c hc; cases hc
  | [x], h => h x (List.mem_cons_self ..)
  | x :: y :: r, h => by
    show PyData.strOk (x ++ sep ++ Str.join sep (y :: r)) = true
    exact so_app (so_app (h x (List.mem_cons_self ..)) hs) (so_join hs fun z hz => h z (List.mem_cons_of_mem _ hz))
theorem so_int {i : Int} : PyData.strOk (py (.int i)).shown = true := by
  show PyData.strOk (PyData.int i).shown = true
  rw [PyData.shown_int]
  exact so_text _
theorem let_repr : (LET.cps.toList.all fun c => ((PySem.Builtin.Str.reprChar 39 c).all fun d => decide (d < 0x110000)) && ((PySem.Builtin.Str.reprChar 34 c).all fun d => decide (d < 0x110000))) = true := by decide +kernel
theorem so_fold {q : Nat} : ∀ (l : List Nat) (acc : Array Nat), (∀ c ∈ l, ∀ d ∈ PySem.Builtin.Str.reprChar q c, d < 0x110000) → (∀ c ∈ acc.toList, c < 0x110000) → ∀ c ∈ (l.foldl (fun out c => out ++ (PySem.Builtin.Str.reprChar q c).toArray) acc).toList, c < 0x110000
  | [], acc, _, h => h
  | x :: l, acc, hl, h => so_fold l _ (fun c hc => hl c (List.mem_cons_of_mem _ hc)) fun c hc => by
    simp only [Array.toList_append, List.mem_append] at hc
    rcases hc with hc | hc
    · exact h c hc
    · exact hl x (List.mem_cons_self ..) c hc
theorem so_nm {s : Str} (h : nmOk s) : PyData.strOk (py (.str s)).shown = true := by
  show PyData.strOk (PyData.str s).shown = true
  rw [PyData.shown_str, so_iff]
  have hq : ∀ q : Nat, q = 39 ∨ q = 34 → ∀ c ∈ s.cps.toList, ∀ d ∈ PySem.Builtin.Str.reprChar q c, d < 0x110000 := fun q hq c hc d hd => by
    have := List.all_eq_true.mp let_repr c (h.2 c hc)
    rw [Bool.and_eq_true, List.all_eq_true, List.all_eq_true] at this
    rcases hq with rfl | rfl
    · exact of_decide_eq_true (this.1 d hd)
    · exact of_decide_eq_true (this.2 d hd)
  have q2 : reprQuote s = 39 ∨ reprQuote s = 34 := by
    unfold reprQuote
    split
    · exact .inr rfl
    · exact .inl rfl
  unfold reprText
  intro c hc
  rw [← Array.foldl_toList] at hc
  simp only [Array.toList_push, List.mem_append, List.mem_singleton] at hc
  rcases hc with hc | rfl
  · refine so_fold _ _ (hq _ q2) ?_ c hc
    intro c hc
    simp only [List.mem_singleton] at hc
    rcases q2 with e | e <;> rw [hc, e] <;> decide
  · rcases q2 with e | e <;> rw [e] <;> decide
theorem shA_mem {xs : List D} {t : Str} (h : t ∈ PyData.shownAll (pyL xs)) : ∃ x ∈ xs, t = (py x).shown := by
  induction xs with
  | nil => simp only [pyL, PyData.shownAll_nil] at h; cases h
  | cons x xs ih =>
    simp only [pyL, PyData.shownAll_cons] at h
    rcases List.mem_cons.mp h with rfl | h
    · exact ⟨x, List.mem_cons_self .., rfl⟩
    · obtain ⟨y, h1, h2⟩ := ih h
      exact ⟨y, List.mem_cons_of_mem _ h1, h2⟩
theorem so_all {xs : List D} (h : ∀ x ∈ xs, PyData.strOk (py x).shown = true) : ∀ t ∈ PyData.shownAll (pyL xs), PyData.strOk t = true := fun t ht => by
  obtain ⟨x, h1, rfl⟩ := shA_mem ht
  exact h x h1
theorem so_tup {xs : List D} (h : ∀ x ∈ xs, PyData.strOk (py x).shown = true) : PyData.strOk (py (.tup xs)).shown = true := by
  simp only [py]
  rw [PyData.shown_tuple]
  refine so_app (so_app (so_text _) (so_join (so_text _) (so_all h))) ?_
  split <;> exact so_text _
theorem so_lst {xs : List D} (h : ∀ x ∈ xs, PyData.strOk (py x).shown = true) : PyData.strOk (py (.lst xs)).shown = true := by
  simp only [py]
  rw [PyData.shown_list]
  exact so_app (so_app (so_text _) (so_join (so_text _) (so_all h))) (so_text _)
/-! ### 57. comprehensions over things of a kind -/
theorem lcK_byf {α : Type} {g : DG} {tt : DT} {te : DE} {vs : List Nat} {δ : Sl} {Q : DQ} {S : DH → Prop} {G1 : DH} (cs : List α) (u v : α → D) (c : α → Bool) (hl : cs.length < sizeLine) (hS : ∀ G2, Sub G1 G2 → S G2)
    (h : ∀ x ∈ cs, ∀ (G2 : DH) (R : DQ) (R0 : DH → Prop), Sub G1 G2 → (c x = true → R (v x) G2) → (c x = false → R0 G2) → g (u x) W0 (dWipe δ vs) G2 fun δ2 G3 => tt W0 δ2 G3 fun b G4 => if b = true then te W0 δ2 G4 R else R0 G4)
    (q : Q (.lst ((cs.filter c).map v)) G1) : lcK g tt te vs (fun p ys G Q => Q (.lst ys) (delG G p)) δ Q (cs.map u) S G1 .mk := fun p hp => by
  refine ⟨fun i ys G => ys = ((cs.take i).filter c).map v ∧ G = upG G1 p (.lst ys), ⟨by simp, rfl⟩, fun i x ys G hx hg ⟨e, eG⟩ => ?_, fun ys G hg ⟨e, eG⟩ => ?_⟩
  · subst eG
    have hsub : Sub G1 (upG G1 p (.lst ys)) := sub_new hp
    rw [List.getElem?_map] at hx
    cases hz : cs[i]? with
    | none => rw [hz] at hx; cases hx
    | some z =>
      rw [hz] at hx
      cases hx
      have hi := (List.getElem?_eq_some_iff.mp hz).1
      have et : cs.take (i + 1) = cs.take i ++ [z] := by rw [List.take_add_one, hz]; rfl
      refine ⟨hS _ hsub, h z (List.mem_of_getElem? hz) _ _ _ hsub (fun hc => ⟨upG_same, ?_, ?_, ?_⟩) fun hc => ⟨upG_same, ?_, rfl⟩⟩
      · rw [e, List.length_map]
        refine Nat.lt_of_le_of_lt (Nat.le_trans (List.length_filter_le _ _) ?_) hl
        rw [List.length_take]; omega
      · rw [et, List.filter_append, List.map_append, ← e, List.filter_cons, if_pos hc]; rfl
      · rw [upG_upG]
      · rw [et, List.filter_append, List.map_append, ← e, List.filter_cons, if_neg (by rw [hc]; exact Bool.false_ne_true)]; simp
  · subst eG
    rw [List.length_map, List.take_length] at e
    refine ⟨hS _ (sub_new hp), ?_⟩
    show Q (.lst ys) (delG (upG G1 p (.lst ys)) p)
    rw [delG_upG hp, e]; exact q
theorem lcK_by {α : Type} {g : DG} {te : DE} {vs : List Nat} {δ : Sl} {Q : DQ} {S : DH → Prop} {G1 : DH} (cs : List α) (u v : α → D) (hl : cs.length < sizeLine) (hS : ∀ G2, Sub G1 G2 → S G2)
    (h : ∀ x ∈ cs, ∀ (G2 : DH) (R : DQ), Sub G1 G2 → R (v x) G2 → g (u x) W0 (dWipe δ vs) G2 fun δ2 G3 => te W0 δ2 G3 R)
    (q : Q (.lst (cs.map v)) G1) : lcK g dYes te vs (fun p ys G Q => Q (.lst ys) (delG G p)) δ Q (cs.map u) S G1 .mk :=
  lcK_byf cs u v (fun _ => true) hl hS (fun x hx G2 R R0 hs h1 _ => h x hx G2 R hs (h1 rfl)) (by rw [List.filter_eq_self.mpr fun _ _ => rfl]; exact q)
end DL

namespace DL
open L2 PyProof.Rows PySem PySem.Spec
section
variable {X : Cx} {lv : Nat} {cm : Bool}
/-! ### 58. dict(pairs), changed later -/
def rDictM : RLD := fun ds G Q => match ds with
  | [.tpk xs] => ∃ ps : List (Key × D), xs = pairsT ps ∧ ∀ p, G p = none → Q (.ref p) (upG G p (.dct (mgK [] ps)))
  | [.lst xs] => ∃ ps : List (Key × D), xs = pairsT ps ∧ ∀ p, G p = none → Q (.ref p) (upG G p (.dct (mgK [] ps)))
  | _ => False
theorem cd_dictM : CallD X lv true (.type "dict") rDictM := by
  intro gd pins s σ H vs us Q I rv ⟨ds, G, R, hg, r0, h, l⟩
  unfold rDictM at h
  split at h
  · rename_i xs
    obtain ⟨v, rfl, r⟩ := one_rp r0
    obtain ⟨ps, rfl, h⟩ := h
    cases r with
    | @tpk a ws _ ta ra =>
      obtain ⟨u, rfl, rx⟩ := vals1 rv
      cases rx
      obtain ⟨ga, o, od, ha⟩ := ta
      obtain ⟨ts, kvs, rfl, r1, r2⟩ := rpL_pairsT ra
      obtain ⟨ho, hlen, its, r', o2, ho2, oc, n, odat⟩ := (show ObjOk X.prog X.w H s.heap a (.frz o (.tup (ts.map V.ref))) from I.hok a _ ha)
      rw [ho] at ho2
      cases ho2
      have ei := refs_at r'
      subst ei
      obtain ⟨prs, pv, kv, l1, l2, hp⟩ := pairs_of2 I r2
      rw [List.length_map] at hlen
      refine PySem.call_dict_pairs (knd := mixKind X.prog X.w) (kvs := prs) (PySem.PairArg.tuple a (ts.map Value.ref).toArray (fun j => ts.getD j 0) pv) (I.ok.hd (gd.cl rfl)) ⟨⟨o, n, ho, oc, od, odat⟩, ?_, fun j k v e => ?_⟩ ⟨by rw [l1, l2], fun i key v e => ?_⟩ (by rw [l2]; exact hlen) fun h' tk hd' hk => ?_
      · rw [List.size_toArray, List.length_map, l2]
      · obtain ⟨b, kk, e1, e2, e3, e4⟩ := hp j k v e
        have e5 : ts.getD j 0 = b := by rw [List.getD_eq_getElem?_getD, e1]; rfl
        refine ⟨by rw [List.getElem?_toArray, List.getElem?_map, e1]; show some (Value.ref b) = some (Value.ref (ts.getD j 0)); rw [e5], .inl ?_⟩
        show IsTup s.heap (ts.getD j 0) #[k, v]
        rw [e5]; exact e3
      · obtain ⟨b, kk, e1, e2, e3, e4⟩ := hp i key v e
        exact ⟨kk, e2, e4⟩
      · have hm : (s.heap.objs.size == sysModules) = false := beq_eq_false_iff_ne.mpr (Nat.ne_of_gt I.big)
        have hz : (mergeK [] kvs).length ≤ sizeLine := by
          refine Nat.le_trans (length_mergeK kvs []) ?_
          rw [List.length_nil, Nat.zero_add, show kvs.length = prs.length from Paired.length kv, l1]
          exact hlen
        have hp0 : H s.heap.objs.size = none := I.hok.fresh (Nat.le_refl _)
        exact ⟨.ref s.heap.objs.size, L2.upd H s.heap.objs.size (.dK (mergeK [] kvs)), I.laid (t' := tk) (fun b o e => hk b o (by simp) e) (Nat.le_refl _) (show ObjOk X.prog X.w _ _ _ (.dK (mergeK [] kvs)) from ⟨hz, hm, merged [] prs, KV.merge kv .nil, hd'⟩), rfl,
          l _ _ _ _ (h s.heap.objs.size (hg.free hp0)) (Ext.new hp0) (HpOk.new hg hp0 (.dct upd_same ((RpK.merge r1 .nil (by simp)).ext (Ext.new hp0)))) (.ref _)⟩
  · rename_i xs
    obtain ⟨v, rfl, r⟩ := one_rp r0
    obtain ⟨ps, rfl, h⟩ := h
    cases r with
    | lst g e2 ra =>
      obtain ⟨ts, kvs, rfl, r1, r2⟩ := rpL_pairsT ra
      exact call_dictP (gd.cl rfl) pins s σ H _ us Q I rv ⟨_, ts, kvs, rfl, .inl (.inl e2), r2, fun p hp => l _ _ _ _ (h p (hg.free hp)) (Ext.new hp) (HpOk.new hg hp (.dct upd_same ((RpK.merge r1 .nil (by simp)).ext (Ext.new hp)))) (.ref p)⟩
  · exact h.elim
end
/-! ### 59. greater numbers shown -/
theorem sm_intB {n : Nat} {i : Int} (h : Bd 290 i) : Sm n 0 (.int i) := by
  refine ⟨?_, ?_, by simp [py, PyData.bulk]⟩
  · have := h.log2 (by decide)
    simp only [okS, decide_eq_true_eq]
    omega
  · simp only [py, PyData.leavesShort, decide_eq_true_eq]
    have := int_text_length_le (k := 290) (by decide) (h.log2 (by decide))
    simp only [PyData.shown]
    have e : (Str.ofString (toString i)).length = (toString i).length := PySem.ofString_length _
    show (Str.ofString (toString i)).length ≤ 300
    omega
theorem Lst.enumL {G : DH} {d : D} {xs : List D} {g : DG} {tt : DT} {te : DE} {vs : List Nat} {fin : Addr → List D → DH → DQ → Prop} {δ : Sl} {Q : DQ} (h : Lst G d xs)
    (k : ∀ S : DH → Prop, (∀ G', Lst G' d xs → S G') → lcK g tt te vs fin δ Q (enumD xs) S G .mk) :
    match [d] with
    | [.tup ys] => lcK g tt te vs fin δ Q (enumD ys) (fun _ => True) G .mk
    | [e] => walkD e G fun ys S => notTS e ∧ lcK g tt te vs fin δ Q (enumD ys) S G .mk
    | _ => False := h.enum (R := fun ys S G => lcK g tt te vs fin δ Q ys S G .mk) k
end DL

/-! ### 60. own exceptions with an __init__ of their own, over any of the built-in ones -/
namespace DL
open L2 PyProof.Rows PySem PySem.Spec PySem.W
/-- what the written part says of such a class at C: its built-in base is B -/
structure ExcG (K : PySem.W.Frag) (C : Addr) (B newId initId : String) (tl : List Value) (fl : List Str) : Prop where
  ini : excInitIn K C tl newId = true
  ovr : excOver K C tl = true
  hdi : hasDictIn K C = true
  sa : findIn K (.ref C) "__setattr__" = some (some (.builtin "object.__setattr__"))
  sub : subIn K (.ref C) (.type "BaseException") = some true
  ty : typeIn K (.ref C) = some (.type "type")
  kp : keepIn K (.ref C) = true
  no : ∀ f ∈ fl, takerIn K C f = some none
  base : ExcBaseFacts B newId initId tl
  store : StoreFacts B tl "object.__setattr__" "object"
section
variable {X : Cx} {pins : List (Addr × Obj)} {σ : L2.St} {H : Hp} {s : Shared} {a C dx : Addr} {f : Str} {y : V} {u : Value} {fs : List (Str × V)} {Q : Unit → Shared → Prop} {E : Value → Shared → Prop} {A : Around} {B newId initId : String} {tl : List Value} {fl : List Str}
theorem clsOf {K : PySem.W.Frag} (h : hasDictIn K C = true) : ∃ cd, PySem.W.clsIn K C = some cd ∧ cd.hasDict = true := by
  unfold hasDictIn at h
  cases e : PySem.W.clsIn K C with
  | none => rw [e] at h; cases h
  | some cd => rw [e] at h; exact ⟨cd, rfl, h⟩
/-- the first field: the dict is laid -/
theorem gst_new (T : ExcG X.K C B newId initId tl fl) (hf : f ∈ fl) (I : Inv X pins σ H s) (e : H a = some (exo a C none)) (ry : RelV y u)
    (h : ∀ dx s', H dx = none → dx ≠ a → Inv X pins σ (L2.upd (L2.upd H dx (exd dx [(f, y)])) a (exo a C (some dx))) s' → Q () s') : wpAny (model X.prog X.w) A (setAttr (.ref a) f u) Q E s := by
  obtain ⟨t1, ho⟩ := exo_at I.hok e
  obtain ⟨cd, hcd, hdd⟩ := clsOf T.hdi
  obtain ⟨hp, g, d, t, os⟩ := s
  have at0 : InstAt hp a ({ cls := .ref C, dict := none, data := .fields #[.ref t1, .none, .none, .none, .bool false, .none] } : Obj) C none := ⟨ho, rfl, rfl, trivial⟩
  have lk : Looks (model X.prog X.w) hp (classData C) cd := looks_clsIn I.kIn hcd
  refine set_plain I.kIn at0 T.sa (osa_openX T.store I.kIn at0 T.ovr (T.no f hf) fun b => ?_)
  have fresh : hp.objs.size ≠ a := fun z => Nat.lt_irrefl _ (z ▸ Heap.lt_size ho)
  show wpAny _ _ (Builtin.ObjectAttr.storeInOwnDict (.ref a) (.ref C) (.str f t) f u b) _ _ _
  obtain ⟨nm, bs, mro, ns, qn, hd, sn, sb, ab, col, del⟩ := cd
  dsimp only at hdd
  subst hdd
  unfold Builtin.ObjectAttr.storeInOwnDict Builtin.ObjectAttr.ownDictForStores
  repeat (first | with_reducible refine PySem.HandSPX.store_in_new ?_ ?_ | with_reducible refine wpAny_loadPart_at ho ?_ | with_reducible refine lk.at ?_ | wp_step)
  · exact ⟨_, #[], _, (Heap.get?_update_ne _ _ _ _ fresh).trans (Heap.get?_push_at rfl rfl), rfl, fun e he => absurd he (by simp), fun _ => rfl⟩
  · intro h2 tk2 hn2 same
    -- dx = the new dict's place
    have hlt : ∀ {b : Addr} {o : Obj}, hp.get? b = some o → b < hp.objs.size := fun z => Heap.lt_size z
    have old : ∀ {b : Addr} {o : Obj}, b ≠ a → hp.get? b = some o → h2.get? b = some o := fun {b o} hb z =>
      (same.2 b (Nat.ne_of_lt (hlt z))).trans ((Heap.get?_update_ne _ _ _ _ hb).trans (Heap.get?_push_of_some _ z))
    have here : h2.get? a = some ({ cls := .ref C, dict := some hp.objs.size, data := .fields #[.ref t1, .none, .none, .none, .bool false, .none] } : Obj) :=
      (same.2 a fresh.symm).trans (Heap.get?_update_self _ (Heap.get?_push_of_some _ ho) rfl)
    have free : H hp.objs.size = none := I.hok.fresh (Nat.le_refl _)
    have apart : ∀ {b : Addr}, H b = none → b ≠ a := fun n z => by rw [z, e] at n; cases n
    have step : Un X.fs [] H (L2.upd (L2.upd H hp.objs.size (exd hp.objs.size [(f, y)])) a (exo a C (some hp.objs.size))) hp h2 :=
      ⟨fun b o z n _ _ => old (apart n) z, fun b o z n _ _ => ⟨o.slots, old (apart n) z⟩, fun b o z n _ => by rw [L2.upd_ne (apart n), L2.upd_ne (Nat.ne_of_lt (hlt z))]; exact n,
        fun b o z _ => (Decidable.em (b = a)).elim (fun q => by rw [show h2.get? b = h2.get? a by rw [q]]; exact ⟨_, here⟩) (fun q => ⟨o, old q z⟩),
        fun b xs z => by rw [L2.upd_ne (at_ne e z exo_tup), L2.upd_ne (ne_of_none z free)]; exact z,
        fun b o v z => by rw [L2.upd_ne (at_ne e z exo_frz), L2.upd_ne (ne_of_none z free)]; exact z,
        fun b ps z => ⟨#[], by rw [L2.upd_ne (at_ne e z exo_tbl), L2.upd_ne (ne_of_none z free), z]; simp⟩⟩
    refine h hp.objs.size _ free fresh (I.un (t' := tk2) step fun b o z => ?_)
    rcases Decidable.em (b = a) with rfl | hb
    · rw [L2.upd_same] at z
      cases z
      exact exo_ok here
    · rw [L2.upd_ne hb] at z
      rcases Decidable.em (b = hp.objs.size) with rfl | hd
      · rw [L2.upd_same] at z
        cases z
        exact exd_ok hn2 (relO_put (fs := []) ry fun _ => True.intro)
      · rw [L2.upd_ne hd] at z
        refine (I.hok b o z).stay (fun c v hc q => old ?_ q) (fun c hc => by rw [L2.upd_ne (at_ne e hc exo_own), L2.upd_ne (ne_of_none hc free)]; exact hc) (fun c xs hc => by rw [L2.upd_ne (at_ne e hc exo_tup), L2.upd_ne (ne_of_none hc free)]; exact hc)
        rcases hc with hc | hc
        · rw [hc]; exact hb
        · exact at_ne e hc exo_own
/-- a further field -/
theorem gst_old (T : ExcG X.K C B newId initId tl fl) (hf : f ∈ fl) (I : Inv X pins σ H s) (e : H a = some (exo a C (some dx))) (ed : H dx = some (exd dx fs)) (hl : fs.length ≤ 900) (ry : RelV y u)
    (h : ∀ s', Inv X pins σ (L2.upd H dx (exd dx ((f, y) :: fs))) s' → Q () s') : wpAny (model X.prog X.w) A (setAttr (.ref a) f u) Q E s := by
  obtain ⟨t1, ho⟩ := exo_at I.hok e
  obtain ⟨mA, hns, rel⟩ := exd_at I.hok ed
  obtain ⟨cd, hcd, hdd⟩ := clsOf T.hdi
  have hw := within_of rel
  obtain ⟨hp, g, d, t, os⟩ := s
  obtain ⟨oD, _, _, hoD, _, _⟩ := hns.count hw
  have at1 : InstAt hp a ({ cls := .ref C, dict := some dx, data := .fields #[.ref t1, .none, .none, .none, .bool false, .none] } : Obj) C (some oD) := ⟨ho, rfl, rfl, hoD⟩
  have lk : Looks (model X.prog X.w) hp (classData C) cd := looks_clsIn I.kIn hcd
  refine set_plain I.kIn at1 T.sa (osa_openX T.store I.kIn at1 T.ovr (T.no f hf) fun b => ?_)
  show wpAny _ _ (Builtin.ObjectAttr.storeInOwnDict (.ref a) (.ref C) (.str f t) f u b) _ _ _
  obtain ⟨nm, bs, mro, ns, qn, hd, sn, sb, ab, col, del⟩ := cd
  dsimp only at hdd
  subst hdd
  unfold Builtin.ObjectAttr.storeInOwnDict Builtin.ObjectAttr.ownDictForStores
  repeat (first | with_reducible refine PySem.OEX.store_in_old hns hw (by rw [List.length_map]; omega) ?_ | with_reducible refine wpAny_loadPart_at ho ?_ | with_reducible refine lk.at ?_ | wp_step)
  intro h2 tk2 hn2 same
  have there : ∃ o, h2.get? dx = some o := by
    obtain ⟨o, _, _, z, _⟩ := hn2
    exact ⟨o, z⟩
  exact h _ (I.write (t' := tk2) (x := dx) (e := dx) (o := exd dx ((f, y) :: fs)) (by rw [ed]; exact True.intro) (.inl rfl) (fun b o hb z => (same.2 b hb).trans z) there (exd_ok hn2 (relO_put ry rel)))
/-- B.__init__(self, ..) -/
theorem gini_ok {us : List Value} {Q : Value → Shared → Prop} (T : ExcG X.K C B newId initId tl fl) (I : Inv X pins σ H s) (e : H a = some (exo a C none)) (hl : us.length ≤ sizeLine) (h : ∀ s', Inv X pins σ H s' → Q .none s') :
    wpAny (model X.prog X.w) A (call (.builtin initId) (.ref a :: us)) Q E s := by
  obtain ⟨nm, N, qn, bs, bm, hdct, sn, sub, ab, col, dd, k0, k1, k2, k3, k5, hC, hT⟩ := excInit_of I.kIn T.ini
  obtain ⟨t1, ho⟩ := exo_at I.hok e
  obtain ⟨hp, g, d, t, os⟩ := s
  refine wpAny_call (PySem.HandSPX.init_base T.base hT hC ho hl fun h2 t2 keep here => ?_)
  have J := I.write (t' := t) (x := a) (e := a) (o := exo a C none) (by rw [e]; exact True.intro) (.inl rfl) keep ⟨_, here⟩ (exo_ok here)
  rw [show L2.upd H a (exo a C none) = H from funext fun b => (Decidable.em (b = a)).elim (fun q => by rw [q, L2.upd_same, e]) fun q => L2.upd_ne q] at J
  exact h _ J
/-- the name Bn, asked for __init__, gives the built-in one -/
def GetsIni (K : PySem.W.Frag) (mg : Str → Option Value) (Bn : Str) (initId : String) : Prop :=
  (∃ (D : Addr) (mc : Value), mg Bn = some (.ref D) ∧ specialIn K (.ref D) "__getattribute__" = some (some (.builtin "type.__getattribute__")) ∧ typeIn K (.ref D) = some mc ∧ readsIn K D mc = true ∧ findCls K (.ref D) mc "__init__" = some (.val (.builtin initId))) ∨
  (∃ B : String, mg Bn = none ∧ Bn ≠ "__name__" ∧ bootBuiltins Bn = some (.type B) ∧ typeOf (.type B) = pure (.type "type") ∧ Manifest.isStub B = false ∧ findCls K (.type B) (.type "type") "__init__" = some (.val (.builtin initId)))
end
def tGini (K : PySem.W.Frag) (B newId initId : String) (tl : List Value) (fl : List Str) (ta : TA) : TE := fun σ H Q => ta σ H fun vs H1 => ∃ (a C : Addr) (ws : List V), vs = .ref a :: ws ∧ ws.length ≤ 1000 ∧ ExcG K C B newId initId tl fl ∧ H1 a = some (exo a C none) ∧ Q .non H1
def tGst (K : PySem.W.Frag) (B newId initId : String) (tl : List Value) (fl : List Str) (f : Str) (to te : TE) : TS := fun D σ H => te σ H fun y H1 => to σ H1 fun x H2 => ∃ a C : Addr, x = .ref a ∧ ExcG K C B newId initId tl fl ∧ f ∈ fl ∧
  ((H2 a = some (exo a C none) ∧ ∀ dx, H2 dx = none → dx ≠ a → D.nx σ (L2.upd (L2.upd H2 dx (exd dx [(f, y)])) a (exo a C (some dx)))) ∨
    ∃ (dx : Addr) (fs : List (Str × V)), H2 a = some (exo a C (some dx)) ∧ H2 dx = some (exd dx fs) ∧ fs.length ≤ 900 ∧ D.nx σ (L2.upd H2 dx (exd dx ((f, y) :: fs))))
section
variable {X : Cx} {o e : Expr} {es : List Expr} {to te : TE} {ta : TA} {f Bn : Str} {p p' p1 p2 pos : Pos} {B newId initId : String} {tl : List Value} {fl : List Str}
theorem pe_gini {pl : Sem Bool} (hg : Gl X Bn) (hd : (Bn == ("__debug__" : Str)) = false) (g : GetsIni X.K X.mg Bn initId) (hh : handedIn (.builtin initId) = true) (ha : PA X (e :: es) ta)
    (hc : eval (.Call (.Attribute (.Name Bn p1) "__init__" p2) (e :: es) [] pos) X.env = (do
      let ov ← eval (.Name Bn p1) X.env
      standAt p2.atName
      let (f, first) ← holding [ov] (getMethod ov "__init__" pl)
      callWith pos f first (backTo pos (starEach (e :: es) X.env)) (backToKw pos (keywordEach [] X.env))) := by rfl)
    (he : starEach (e :: es) X.env = (false, eval e X.env) :: starEach es X.env := by rfl) (hp : (backTo pos (starEach es X.env)).any (·.1) = false := by rfl) :
    PE X (.Call (.Attribute (.Name Bn p1) "__init__" p2) (e :: es) [] pos) (tGini X.K B newId initId tl fl ta) := ⟨fun pins s σ H Q I h => by
  have go : ∀ {n : Nat}, wpAny (model X.prog X.w) X.A (callWith pos (Value.builtin initId) [] (backTo pos (starEach (e :: es) X.env)) (backToKw pos (keywordEach [] X.env))) (EP X pins σ Q) X.xe { s with toks := n } := fun {n} =>
    PyProof.Rows.callWith_method1 (thn (ha.run pos pins _ σ H _ (I.tok _) h) fun us s1 ⟨vs, H1, I1, r1, a, C, ws, ev, hl, T, ea, q⟩ => by
      subst ev
      cases r1 with
      | @cons _ u0 _ ur ra rw' =>
        obtain rfl : u0 = Value.ref a := ra
        exact gini_ok T I1 ea (by rw [← Paired.length rw', sizeLine_eq]; omega) fun s' J => ⟨.non, H1, J, rfl, q⟩) he hp
  obtain ⟨m, fr⟩ := I.fr
  refine methodCall_KW ?_ hc
  rcases g with ⟨D, mc, hm, g1, g2, g3, g4⟩ | ⟨B', hm, hn, hv, g1, g2, g3⟩
  · exact ld_glob I hg hm (method_of_cls fr I.ok.mod.kin g1 (cls_val fr I.ok.mod.kin g2 g3 g4 hh go)) hd
  · exact ld_blt I hg hm hv (method_type fr I.ok.mod.kin g1 g2 g3 hh go) hn hd⟩
theorem ps_gst (ho : PE X o to) (he : PE X e te) (hs : swapsWith e (some (.Attribute o f p')) pos.line X.env = pure false := by rfl) : PS X (.Assign [.Attribute o f p'] e pos) (tGst X.K B newId initId tl fl f to te) := ⟨fun pins s σ H D I h =>
  plainObj_wpAny_Assign_Attribute (thn (he.run pins s σ H _ I h) fun v s1 ⟨y, H1, I1, r1, q1⟩ => thn (ho.run pins s1 σ H1 _ I1 q1) fun u s2 ⟨x, H2, I2, r2, a, C, ex, T, hf, q⟩ => by
    subst ex
    obtain rfl : u = Value.ref a := r2
    rcases q with ⟨ea, q⟩ | ⟨dx, fs, ea, ed, hl, q⟩
    · exact gst_new T hf I2 ea r1 fun dx s' n ne J => ⟨σ, _, J, q dx n ne⟩
    · exact gst_old T hf I2 ea ed hl r1 fun s' J => ⟨σ, _, J, q⟩) hs⟩
end
end DL

namespace DL
open L2 PyProof.Rows PySem PySem.Spec PySem.W
section
variable {P : Program} {w : World} {K : PySem.W.Frag} {mg : Str → Option Value} {base : Heap} {k : Nat} {f : Addr} {qual : Str} {scope : Scope} {cdv : Value} {N ps : List Str}
/-- a promise over values, of a def whose body is walked over values -/
theorem fnV_of {name : Str} {params : Arguments} {body : List Stmt} {dV kV doc pm ct oc : Value} {an od : Option Addr} {osl : Array (Option Value)} {sp : Sp} {rd : TS}
    (lk : K.lookup f = some ⟨oc, od, .func (PySem.W.fnOf name qual params body scope dV kV doc pm an cdv ct), osl⟩) (hcd : PySem.W.codeIn K cdv qual = true) (S : FnScope N ps scope)
    (len : ∀ vs H Q E, sp vs H Q E → vs.length = ps.length)
    (hb : ∀ (A : Around) (outer : List Env) (s : Shared) (H : Hp) (E : XK), PSs (cxOf (L2.CX P w) P w K mg base N qual scope f cdv A outer s H E) body rd)
    (hsp : ∀ vs H Q E, sp vs H Q E → rd { nx := fun _ H' => Q .non H', rt := Q } (L2.start N vs) H) :
    FnG P w K mg base (k + 1) f (PySem.W.fnOf name qual params body scope dV kV doc pm an cdv ct) ps sp := by
  refine ⟨len, fun A outer s H args us vs Q E hr hgd e0 hbt rv hs => ?_⟩
  have hl := len _ _ _ _ hs
  have inK : K.In s.heap := e0.mod.kin.keeps (fun b o e => (e0.bs b o e).1)
  have nolim : s.heap.NoLimit := e0.mod.nolimit.keeps (fun b o e => (e0.bs b o e).1)
  refine codeAny_call_function hr.depth (inK _ _ lk) rfl S.co S.gen rfl (PySem.W.codeRec_of inK hcd) (hbt _ _ _ _ ?_)
  refine wpAny_newFunctionEnv_cells S.kind (fun ⟨n, v⟩ hy => ?_) (fun env he s1 x => ?_)
  · rcases S.par n (List.of_mem_zip hy).1 with q | q
    · exact .inl q
    · exact .inr ⟨q, PySem.W.cellsFrom_some _ _ _ (.inl q)⟩
  subst he
  refine ⟨nolim.keeps x.toInCall.keep, codeAny_func ?_⟩
  generalize hX : cxOf (L2.CX P w) P w K mg base N qual scope f cdv A outer s H E = X
  have I : Inv X [] (start N vs) H s1 := by rw [← hX]; exact inv_start S hr.hd e0 hl rv x
  have goal := (hX ▸ hb A outer s H E : PSs X body rd).run [] s1 (start N vs) H { nx := fun _ H' => Q .non H', rt := Q } I (hsp _ _ _ _ hs)
  have hP : X.prog = P := by rw [← hX] <;> rfl
  have hw : X.w = w := by rw [← hX] <;> rfl
  have hA : X.A = A.deeper (envOfC qual scope s.heap.objs.size f cdv) := by rw [← hX] <;> rfl
  have hE : X.env = envOfC qual scope s.heap.objs.size f cdv := by rw [← hX] <;> rfl
  have hs0 : X.s_0 = s ∧ X.H_0 = H ∧ X.outer = outer ∧ X.ex = [] := by rw [← hX] <;> exact ⟨rfl, rfl, rfl, rfl⟩
  have hxe : X.xe = fun e s' => wpAny (model P w) (A.deeper (envOfC qual scope s.heap.objs.size f cdv)) (leaving (envOfC qual scope s.heap.objs.size f cdv) e) (fun _ s'' => L2.CX P w outer H s E e s'') (fun e' s'' => L2.CX P w outer H s E e' s'') s' := by rw [← hX] <;> rfl
  rw [hP, hw, hA, hE, hxe] at goal
  refine wpAny_mono goal (fun fl s' q => ?_) (fun _ _ q => q)
  have fin : ∀ {σ' : L2.St} {H' : Hp} {v : V} {u : Value}, Inv X [] σ' H' s' → RelV v u → Q v H' → CE outer P w H s Q u s' := fun {σ' H' v u} J r q => by
    have h1 := J.os
    have h2 := J.base
    have h3 := J.hok
    rw [hs0.1] at h1
    rw [hs0.1, hs0.2.1, hs0.2.2.2, show X.fs = frs outer from by show frs X.outer = _; rw [hs0.2.2.1]] at h2
    rw [hP, hw] at h3
    exact ⟨v, H', h1, J.bare, h2, h3, r, q⟩
  cases fl with
  | ret u => obtain ⟨v, σ', H', J, r, q⟩ := q; exact fin J r q
  | next => obtain ⟨σ', H', J, q⟩ := q; exact fin (v := V.non) (u := Value.none) J rfl q
  | brk => obtain ⟨_, _, _, q⟩ := q; exact q.elim
  | cont => obtain ⟨_, _, _, q⟩ := q; exact q.elim
end
/-- what __init__ of an exception of our own keeps -/
def spI (C : Addr) (fl : List Str) : Sp := fun vs H Q _ => ∃ (a : Addr) (ws : List V), vs = .ref a :: ws ∧ ws.length = fl.length ∧ H a = some (exo a C none) ∧
  ∀ dx H', H dx = none → dx ≠ a → H' a = some (exo a C (some dx)) → H' dx = some (exd dx (fl.zip ws).reverse) → (∀ b, b ≠ a → b ≠ dx → H' b = H b) → Q .non H'
theorem exo_exd {a C x dx : Addr} {d : Option Addr} {fs : List (Str × V)} : True := trivial
section
variable {K : PySem.W.Frag} {C : Addr} {B newId initId : String} {tl : List Value} {fl : List Str} {N : List Str}
/-- one field -/
theorem ini1 {f : Str} (T : ExcG K C B newId initId tl [f]) (hN : N.length = 2) : ∀ vs H Q E, spI C [f] vs H Q E →
    tSeq (tDrop (tGini K B newId initId tl [f] (tCons (tVar 0) (tCons (tVar 1) tNil)))) (tGst K B newId initId tl [f] f (tVar 0) (tVar 1)) { nx := fun _ H' => Q .non H', rt := Q } (L2.start N vs) H := by
  rintro vs H Q E ⟨a, ws, rfl, hl, ea, h⟩
  match ws, hl with
  | [v], _ =>
    have st : L2.start N [V.ref a, v] = [some (V.ref a), some v] := by unfold L2.start; rw [hN]; rfl
    rw [st]
    refine ⟨_, rfl, _, rfl, a, C, [v], rfl, by simp, T, ea, _, rfl, _, rfl, a, C, rfl, T, List.mem_singleton.mpr rfl, .inl ⟨ea, fun dx hdx ne => ?_⟩⟩
    refine h dx _ hdx ne L2.upd_same (by rw [L2.upd_ne ne, L2.upd_same]; rfl) fun b h1 h2 => by rw [L2.upd_ne h1, L2.upd_ne h2]
/-- two fields -/
theorem ini2 {f g : Str} (T : ExcG K C B newId initId tl [f, g]) (hN : N.length = 3) : ∀ vs H Q E, spI C [f, g] vs H Q E →
    tSeq (tDrop (tGini K B newId initId tl [f, g] (tCons (tVar 0) (tCons (tVar 1) (tCons (tVar 2) tNil))))) (tSeq (tGst K B newId initId tl [f, g] f (tVar 0) (tVar 1)) (tGst K B newId initId tl [f, g] g (tVar 0) (tVar 2))) { nx := fun _ H' => Q .non H', rt := Q } (L2.start N vs) H := by
  rintro vs H Q E ⟨a, ws, rfl, hl, ea, h⟩
  match ws, hl with
  | [v, u], _ =>
    have st : L2.start N [V.ref a, v, u] = [some (V.ref a), some v, some u] := by unfold L2.start; rw [hN]; rfl
    rw [st]
    refine ⟨_, rfl, _, rfl, _, rfl, a, C, [v, u], rfl, by simp, T, ea, _, rfl, _, rfl, a, C, rfl, T, List.mem_cons_self .., .inl ⟨ea, fun dx hdx ne => ?_⟩⟩
    refine ⟨_, rfl, _, rfl, a, C, rfl, T, List.mem_cons_of_mem _ (List.mem_singleton.mpr rfl), .inr ⟨dx, _, L2.upd_same, by rw [L2.upd_ne ne, L2.upd_same], by simp, ?_⟩⟩
    refine h dx _ hdx ne (by rw [L2.upd_ne ne.symm, L2.upd_same]) (by rw [L2.upd_same]; rfl) fun b h1 h2 => by rw [L2.upd_ne h2, L2.upd_ne h1, L2.upd_ne h2]
end
end DL

/-! ### 61. raise -/
namespace DL
open L2 PyProof.Rows PySem PySem.Spec PySem.W
/-- C(e, ..), C's own __init__ storing the fields fl -/
def tMkG (C : Addr) (fl : List Str) (ta : TA) : L2.St → Hp → XK → Prop := fun σ H Q => ta σ H fun vs H1 => (vs.length = fl.length ∧ vs.length ≤ 1000) ∧ ∀ d, H1 d = none → Q (.ref C) (some d) (L2.upd H1 d (.xd (fl.zip vs).reverse))
section
variable {X : Cx} {lv k : Nat} {x : Str} {C fI : Addr} {fd : FuncData} {ps : List Str} {B newId initId : String} {tl : List Value} {fl : List Str} {e : Expr} {es : List Expr} {ta : TA} {p pos : Pos}
theorem pmk_gex (T : ExcG X.K C B newId initId tl fl) (iC : findIn X.K (.ref C) "__init__" = some (some (.ref fI))) (tI : typeIn X.K (.ref fI) = some (.type "function")) (F : FnG X.prog X.w X.K X.mg X.base k fI fd ps (spI C fl)) (hb : Binds X.K fd ps [])
    (gd : Gd X lv true) (hk : k + 1 ≤ lv) (hg : Gl X x) (hm : X.mg x = some (.ref C)) (ha : PA X (e :: es) ta)
    (hdb : (x == ("__debug__" : Str)) = false := by decide) (he : starEach (e :: es) X.env = (false, eval e X.env) :: starEach es X.env := by rfl) (hpl : (backTo pos (starEach es X.env)).any (·.1) = false := by rfl) :
    PMk X (.Call (.Name x p) (e :: es) [] pos) (tMkG C fl ta) := fun pins s σ H Q I h => by
  refine wpAny_Call_Name_kw (ld_glob I hg hm ?_ hdb)
  refine callWith_K (h₀ := X.base) I.ok.mod.kin T.kp (thn (ha.run pos pins s σ H _ I h) fun us s1 ⟨vs, H1, I1, r1, ⟨hl, h1000⟩, q1⟩ => ⟨I1.kIn, ?_⟩) he hpl
  show wpAny _ _ (call (.ref C) us) _ _ _
  have hr := gd.room.mono hk
  obtain ⟨nm, N, qn, bs, bm, hdct, sn, sub, ab, col, dd, k0, k1, k2, k3, k5, hC, hT⟩ := excInit_of I1.kIn T.ini
  have ul : us.length ≤ sizeLine := by rw [← Paired.length r1, sizeLine_eq]; omega
  obtain ⟨hp, g, dr, tk, os⟩ := s1
  -- the fresh one
  have le : hp.objs.size ≤ hp.objs.size + 1 := Nat.le_succ _
  have fresh : H1 (hp.objs.size + 1) = none := I1.hok.fresh le
  have old : ∀ b o, hp.get? b = some o → ((hp.push (kdv_tup us)).push (PySem.HandSPX.excO C hp.objs.size)).get? b = some o := fun b o z => Heap.get?_push_of_some _ (Heap.get?_push_of_some _ z)
  have here : ((hp.push (kdv_tup us)).push (PySem.HandSPX.excO C hp.objs.size)).get? (hp.objs.size + 1) = some (PySem.HandSPX.excO C hp.objs.size) := by heap_get
  have I2 : Inv X pins σ (L2.upd H1 (hp.objs.size + 1) (exo (hp.objs.size + 1) C none)) ⟨(hp.push (kdv_tup us)).push (PySem.HandSPX.excO C hp.objs.size), g, dr, tk, os⟩ := I1.laid (t' := tk) old le (exo_ok here)
  have r2 : Vals (V.ref (hp.objs.size + 1) :: vs) (Value.ref (hp.objs.size + 1) :: us) := .cons rfl r1
  -- what its __init__ is asked
  have ask : spI C fl (V.ref (hp.objs.size + 1) :: vs) (L2.upd H1 (hp.objs.size + 1) (exo (hp.objs.size + 1) C none))
      (fun v H2 => v = .non ∧ ∃ d, H1 d = none ∧ H2 (hp.objs.size + 1) = some (exo (hp.objs.size + 1) C (some d)) ∧ H2 d = some (exd d (fl.zip vs).reverse) ∧ Q (.ref C) (some d) (L2.upd (del H2 (hp.objs.size + 1)) d (.xd (fl.zip vs).reverse))) (fun _ _ _ => False) :=
    ⟨_, vs, rfl, hl, L2.upd_same, fun dx H2 hdx ne ea ed oth => ⟨rfl, dx, by rw [L2.upd_ne ne] at hdx; exact hdx, ea, ed, by
      have hd1 : H1 dx = none := by rw [L2.upd_ne ne] at hdx; exact hdx
      have eq : L2.upd (del H2 (hp.objs.size + 1)) dx (.xd (fl.zip vs).reverse) = L2.upd H1 dx (.xd (fl.zip vs).reverse) := funext fun b => by
        by_cases h1 : b = dx
        · rw [h1, L2.upd_same, L2.upd_same]
        · rw [L2.upd_ne h1, L2.upd_ne h1]
          by_cases h2 : b = hp.objs.size + 1
          · rw [h2, del_same, fresh]
          · rw [del_ne h2, oth b h2 h1, L2.upd_ne h2]
      rw [eq]
      exact q1 dx hd1⟩⟩
  have bind := hb ((hp.push (kdv_tup us)).push (PySem.HandSPX.excO C hp.objs.size) |> fun hh => (⟨hh, g, dr, tk, os⟩ : Shared)) (Value.ref (hp.objs.size + 1) :: us) I2.kIn (by rw [List.append_nil, ← r2.length]; exact F.len _ _ _ _ ask)
  refine wpAny_call (PySem.HandSPX.call_own T.base hT hC (looks_findIn I1.kIn iC) (fun self => bind_fn I1.kIn self tI) ul
    (codeAny_mono (F.run _ X.stack _ _ ⟨Value.ref (hp.objs.size + 1) :: us, []⟩ (Value.ref (hp.objs.size + 1) :: us ++ []) _ _ (fun _ _ _ => False) (hr.make C us []) (make_guards gd.gu) (I2.env0.make C us []) bind (by rw [List.append_nil]; exact r2) ask) fun r s' hq' => ?_))
  match r, hq' with
  | .error er, hq' => exact (passAt (X := X) (W := fun _ _ _ _ => False) (fun u s' z => by obtain ⟨_, _, _, _, _, _, _, _, _, _, _, _, _, _, _, _, z⟩ := z; exact z.elim) σ pins _ _ er s' I2 hq')
  | .ok (.ret u), hq' =>
    obtain ⟨v, H2, os2, bare2, un2, hok2, rv, ev, d, hd1, ea, ed, q2⟩ := hq'
    subst ev
    obtain ⟨h2, g2, d2, t2, os'⟩ := s'
    exact ⟨rv, mk_end (raises_own T.sub T.ty) I1 le old un2 hok2 os2 bare2 ea ed hd1 q2⟩
  | .ok .next, hq' => exact False.elim hq'
  | .ok .brk, hq' => exact False.elim hq'
  | .ok .cont, hq' => exact False.elim hq'
end
end DL

namespace DL
open L2 PyProof.Rows PySem PySem.Spec PySem.W
/-- an exception class of the text that stores the fields fl -/
structure HasX (P : Program) (w : World) (K : PySem.W.Frag) (mg : Str → Option Value) (base : Heap) (n : Str) (k : Nat) (fl : List Str) : Prop where
  ex : ∃ (C fI : Addr) (fd : FuncData) (ps : List Str) (B newId initId : String) (tl : List Value), mg n = some (.ref C) ∧ ExcG K C B newId initId tl fl ∧ findIn K (.ref C) "__init__" = some (some (.ref fI)) ∧ typeIn K (.ref fI) = some (.type "function") ∧ Binds K fd ps [] ∧ FnG P w K mg base k fI fd ps (spI C fl)
abbrev HasXX (X : Cx) (n : Str) (k : Nat) (fl : List Str) : Prop := HasX X.prog X.w X.K X.mg X.base n k fl
/-- one without an __init__ of its own -/
def HasX0 (K : PySem.W.Frag) (mg : Str → Option Value) (n : Str) : Prop :=
  ∃ (C : Addr) (B newId initId : String) (tl : List Value), mg n = some (.ref C) ∧ ExcBaseFacts B newId initId tl ∧ excIn K C tl newId = true ∧ keepIn K (.ref C) = true ∧ subIn K (.ref C) (.type "BaseException") = some true ∧ typeIn K (.ref C) = some (.type "type")
def dRaise (c : CI) (t : DA) : DS := fun D δ G => t D.ex δ G fun ds G1 => (ds.length = c.fl.length ∧ ds.length ≤ 1000) ∧ D.ex ⟨c, ds.reverse⟩ δ G1
def dRaise0 (n : Str) (te : DE) : DS := fun D δ G => te D.ex δ G fun _ G1 => D.ex ⟨⟨n, []⟩, []⟩ δ G1
section
variable {X : Cx} {lv k : Nat} {n : Str} {fl : List Str} {e : Expr} {es : List Expr} {t : DA} {te : DE} {p pos pos' : Pos}
theorem pds_raise (h : HasXX X n k fl) (hk : k + 1 ≤ lv) (ha : PDA X lv true (e :: es) t) (hg : Gl X n := by rfl) (hdb : (n == ("__debug__" : Str)) = false := by decide)
    (he : starEach (e :: es) X.env = (false, eval e X.env) :: starEach es X.env := by rfl) (hpl : (backTo pos (starEach es X.env)).any (·.1) = false := by rfl) :
    PDS X lv true (.Raise (some (.Call (.Name n p) (e :: es) [] pos)) none pos') (dRaise ⟨n, fl.reverse⟩ t) := fun gd Wx tk => by
  obtain ⟨C, fI, fd, ps, B, newId, initId, tl, mC, T, iC, tI, hb, F⟩ := h.ex
  refine ps_imp (ps_raise (gd.cl rfl) tk (pmk_gex T iC tI F hb gd hk hg mC (ha gd Wx tk) hdb he hpl)) fun D σ H ⟨DD, δ, G, hs, hgo, ht, l1, l2, l3, l4, l5⟩ =>
    ⟨DD.ex, δ, G, _, hs, hgo, ht, fun ds G1 H1 vs ⟨⟨hl, h1000⟩, hx⟩ e1 g1 r1 => ⟨⟨?_, ?_⟩, fun d hd => ?_⟩, l5⟩
  · rw [← r1.length, hl]; simp
  · rw [← r1.length]; exact h1000
  · have lv : vs.length = fl.length := by rw [← r1.length, hl]; simp
    refine l5 _ δ G1 σ _ _ _ hx (e1.trans (Ext.newF hd)) (hs.ext (e1.trans (Ext.newF hd))) (g1.newF hd) ⟨C, mC, rfl, .inr ⟨d, _, rfl, g1.free hd, L2.upd_same, ?_, ?_⟩⟩
    · rw [List.map_reverse, List.map_fst_zip (by omega)]
    · rw [List.map_reverse, List.map_snd_zip (by omega)]
      exact (r1.reverse).ext (Ext.newF hd)
theorem pds_raise0 (h : HasX0 X.K X.mg n) (he' : PD X lv true e te) (hg : Gl X n := by rfl) (hdb : (n == ("__debug__" : Str)) = false := by decide) (hs' : starEach [e] X.env = (false, eval e X.env) :: starEach [] X.env := by rfl) :
    PDS X lv true (.Raise (some (.Call (.Name n p) [e] [] pos)) none pos') (dRaise0 n te) := fun gd Wx tk => by
  obtain ⟨C, B, newId, initId, tl, mC, F, q, kp, sb, ty⟩ := h
  exact ps_imp (ps_raise (gd.cl rfl) tk (SkE.pmk_own1 F q mC kp (raises_own sb ty) hg (he' gd Wx tk) hs' hdb)) fun D σ H ⟨DD, δ, G, hs, hgo, ht, l1, l2, l3, l4, l5⟩ =>
    ⟨DD.ex, δ, G, _, hs, hgo, ht, fun d G1 H1 v h1 e1 g1 r1 => l5 _ δ G1 σ H1 _ _ h1 e1 (hs.ext e1) g1 ⟨C, mC, rfl, .inl ⟨rfl, rfl⟩⟩, l5⟩
end
end DL

/-! ### 62. try .. except -/
namespace DL
open L2 PyProof.Rows PySem PySem.Spec PySem.W
/-- whether 'except n2' takes an exception of the class n1 -/
def Cat (K : PySem.W.Frag) (mg : Str → Option Value) (n1 n2 : Str) (b : Bool) : Prop := ∃ C1 C2 : Addr, mg n1 = some (.ref C1) ∧ mg n2 = some (.ref C2) ∧ exmOne K (.ref C1) (.ref C2) = some b
theorem SkE_takes0 {X : Cx} : Takes X (fun _ _ _ _ => False) := fun _ _ ⟨_, _, _, _, _, _, _, _, _, _, _, _, _, _, _, _, z⟩ => z.elim
def dTryO (cat : Str → Option Bool) (t u : DS) : DS := fun D δ G => t { D with ex := fun x δ' G' => match cat x.c.nm with
  | some true => u { D with ex := fun _ _ _ => False } δ' G'
  | some false => D.ex x δ' G'
  | none => False } δ G
section
variable {X : Cx} {lv : Nat} {cm : Bool} {n2 : Str} {cat : Str → Option Bool} {body suite : List Stmt} {b₀ : Stmt} {np pos pos' : Pos} {t u : DS}
theorem pds_tryO (hcat : ∀ n b, cat n = some b → Cat X.K X.mg n n2 b) (h2 : ∃ C2 : Addr, X.mg n2 = some (.ref C2)) (hb : ∀ pn xe, PDSs (X.tr pn xe) lv cm body t) (hsu : ∀ a pn, PDSs (X.suite a pn) lv false (b₀ :: suite) u)
    (hs : X.stack = X.env :: X.outer := by rfl) (hf : X.env.frame = some X.env.locals := by rfl) (hg : Gl X n2 := by rfl) (hdb : (n2 == ("__debug__" : Str)) = false := by decide) :
    PDS X lv cm (.Try body [.ExceptHandler (some (.Name n2 np)) none (b₀ :: suite) pos'] [] [] pos) (dTryO cat t u) := fun gd Wx tk => by
  obtain ⟨C2, m2⟩ := h2
  refine ps_imp (ps_try_only (tb := fun W => upS X W t) (ts := fun _ _ _ => upS X (fun _ _ _ _ => False) u) hs hf ⟨hg, hdb, .inl m2⟩ tk (fun W pn xe tkW po => hb pn xe ⟨gd.gu, gd.dp, gd.un, gd.hd, gd.cl, po⟩ W tkW)
    (fun a oe cls d pn hz hf => hsu a _ ⟨gd.gu, gd.dp, gd.un, (fun z => nomatch z), (fun z => nomatch z), .never⟩ _ SkE_takes0)) fun D σ H ⟨DD, δ, G, hs, hgo, ht, l1, l2, l3, l4, l5⟩ => ⟨_, δ, G, hs, hgo, ht, l1, l2, l3, l4, ?_⟩
  rintro x δ' G' σ' H' cls dd hx e1 s1 g1 xo
  obtain ⟨C, m1, rfl, rest⟩ := id xo
  cases ec : cat x.c.nm with
  | none => simp only [ec] at hx
  | some b =>
    obtain ⟨C1, C2', m1', m2', hex⟩ := hcat _ _ ec
    rw [show X.mg _ = _ from m1] at m1'
    rw [m2] at m2'
    cases m1'
    cases m2'
    refine ⟨b, hex, fun hb a ha => ?_, fun hb => ?_⟩
    · subst hb
      simp only [ec] at hx
      exact ⟨_, δ', G', s1, g1, hx, fun δ2 G2 σ2 H2 q e2 => l1 δ2 G2 σ2 H2 q (e1.trans e2), fun d G2 H2 v q e2 => l2 d G2 H2 v q (e1.trans e2), fun δ2 G2 σ2 H2 q e2 => l3 δ2 G2 σ2 H2 q (e1.trans e2), fun δ2 G2 σ2 H2 q e2 => l4 δ2 G2 σ2 H2 q (e1.trans e2), fun _ _ _ _ _ _ _ q => q.elim⟩
    · subst hb
      simp only [ec] at hx
      exact l5 x δ' G' σ' H' _ _ hx e1 s1 g1 xo
end
end DL

/-! ### 63. try .. except X as e: its fields, what it is -/
namespace DL
open L2 PyProof.Rows PySem PySem.Spec PySem.W
/-- what is known of a class whose exceptions are caught by a name -/
def HasE (K : PySem.W.Frag) (mg : Str → Option Value) (c : CI) (gl : List Str) : Prop := ∃ C : Addr, mg c.nm = some (.ref C) ∧ ExcC K C ∧ ∀ f ∈ gl, findIn K (.ref C) f = some none
def rXf (c : CI) (a : Addr) (d : Option Addr) (n : Str) : R1D := fun x G Q => match x with
  | .exc c' fs a' d' => (c' = c ∧ a' = a ∧ d' = d ∧ n ∈ c.fl ∧ c.fl.length = fs.length) ∧ match (c.fl.zip fs).lookup n with
    | some v => Q v G
    | none => False
  | _ => False
def isOf1 (tc : Str → Option Bool) (tt : String → Option Bool) (d : D) : Option Bool := match d with
  | .cls c => tc c.nm
  | .ty T => tt T
  | _ => none
def isOfL (tc : Str → Option Bool) (tt : String → Option Bool) : List D → Option Bool
  | [] => some false
  | x :: xs => match isOf1 tc tt x, isOfL tc tt xs with
    | some a, some b => some (a || b)
    | _, _ => none
/-- isinstance(e, ..) -/
def rIsX (c : CI) (a : Addr) (d : Option Addr) (tc : Str → Option Bool) (tt : String → Option Bool) : RLD := fun ds G Q => match ds with
  | [.exc c' _ a' d', t] => (c' = c ∧ a' = a ∧ d' = d) ∧ match (match t with | .tup ts => isOfL tc tt ts | t => isOf1 tc tt t) with
    | some b => Q (.bl b) G
    | none => False
  | _ => False
/-- what a class is -/
structure HasI (K : PySem.W.Frag) (mg : Str → Option Value) (c : CI) (tc : Str → Option Bool) (tt : String → Option Bool) : Prop where
  own : ∀ n b, tc n = some b → ∃ C C2 : Addr, mg c.nm = some (.ref C) ∧ mg n = some (.ref C2) ∧ kitOne K (.ref C) (.ref C2) = some b
  blt : ∀ T b, tt T = some b → ∃ C : Addr, mg c.nm = some (.ref C) ∧ kitOne K (.ref C) (.type T) = some b
def dTryAs (cat : Str → Option Bool) (i : Nat) (t : DS) (u : CI → Addr → Option Addr → DS) : DS := fun D δ G => t { D with ex := fun x δ' G' => match cat x.c.nm with
  | some true => ∀ a d, u x.c a d { nx := fun δ2 G2 => D.nx (δ2.set i none) G2, rt := D.rt, bk := fun δ2 G2 => D.bk (δ2.set i none) G2, ct := fun δ2 G2 => D.ct (δ2.set i none) G2, ex := fun _ _ _ => False } (δ'.set i (some (.exc x.c x.fs a d))) G'
  | some false => D.ex x δ' G'
  | none => False } δ G
theorem zip_look {K : PySem.W.Frag} {mg : MG} {H : Hp} {G : DH} {n : Str} {v : D} : ∀ {fl : List Str} {ds : List D} {fs : List (Str × V)}, fs.map (·.1) = fl → RpL K mg H G ds (fs.map (·.2)) → (fl.zip ds).lookup n = some v → ∃ w, fs.lookup n = some w ∧ Rp K mg H G v w
  | _, _, [], h, r, e => by
    subst h
    simp at e
  | _, _, (f, w) :: fs, h, r, e => by
    subst h
    cases r with
    | cons r0 r1 =>
      rw [List.map_cons, List.zip_cons_cons, List.lookup_cons] at e
      rw [List.lookup_cons]
      cases hb : n == f with
      | true =>
        simp only [hb, Option.some.injEq] at e
        subst e
        exact ⟨w, rfl, r0⟩
      | false =>
        simp only [hb] at e
        obtain ⟨w', h1, h2⟩ := zip_look rfl r1 e
        exact ⟨w', h1, h2⟩
section
variable {X : Cx} {lv : Nat} {cm : Bool} {a : Addr} {oe : Obj} {cls : Value} {d : Option Addr} {pn : List (Addr × Obj)} {c : CI} {e : Expr} {te : DE} {pos : Pos} {n : Str}
theorem pd_xf {gl : List Str} (hE : HasE X.K X.mg c gl) (hz : Zc cls d oe) (hf : ∃ vs, oe.data = .fields vs) (hc : ∃ C, X.mg c.nm = some (.ref C) ∧ cls = .ref C) (hn : n ∈ gl) (he : PD (X.suite a ((a, oe) :: pn)) lv cm e te)
    (hb : attributeBase e n X.env (eval e X.env) = eval e X.env := by rfl) : PD (X.suite a ((a, oe) :: pn)) lv cm (.Attribute e n pos) (dUn (rXf c a d n) te) := fun gd Wx tk => by
  obtain ⟨C, mC, T, no⟩ := hE
  obtain ⟨C', mC', rfl⟩ := hc
  rw [mC] at mC'
  cases mC'
  refine pe_imp (pe_xf (X := X) (C := C) ⟨T.hg, T.hk, T.hs, T.hd⟩ (no n hn) hz hf (he gd Wx tk) hb) fun σ H Q ⟨W, δ, G, R, hs, hg, ht, lQ, lW⟩ => ⟨W, δ, G, _, hs, hg, ht, fun x G1 H1 v h1 e1 g1 r1 => ?_, lW⟩
  unfold rXf at h1
  cases x with
  | exc c' fs a' d' =>
    obtain ⟨⟨rfl, rfl, rfl, hn', hl⟩, h1⟩ := h1
    cases r1 with
    | exc0 m =>
      rw [List.length_nil] at hl
      rw [List.eq_nil_of_length_eq_zero hl] at hn'
      cases hn'
    | @exc _ C2 _ dd gs _ m gd2 hd hk rr =>
      cases el : (c'.fl.zip fs).lookup n with
      | none => rw [el] at h1; exact h1.elim
      | some w =>
        rw [el] at h1
        obtain ⟨v', h2, h3⟩ := zip_look hk rr el
        exact ⟨rfl, rfl, dd, gs, v', rfl, hd, h2, lQ w G1 H1 v' h1 e1 g1 h3⟩
  | _ => exact h1.elim
/-- the object that a suite holds -/
theorem inst_of {pins : List (Addr × Obj)} {σ : L2.St} {H : Hp} {s : Shared} {C : Addr} (I : Inv (X.suite a ((a, oe) :: pn)) pins σ H s) (hz : Zc (.ref C) d oe) (hf : ∃ vs, oe.data = .fields vs) (hd : ∀ dd, d = some dd → ∃ fs, H dd = some (.xd fs)) : ∃ od, InstAt s.heap a oe C od := by
  obtain ⟨ha, _⟩ := I.pin (a, oe) (List.mem_append_left _ List.mem_cons_self)
  obtain ⟨vs, hv⟩ := hf
  cases d with
  | none => exact ⟨none, ha, hz.1, by unfold PySem.W.notCls; rw [hv] <;> rfl, by rw [hz.2]; exact True.intro⟩
  | some dd =>
    obtain ⟨fs, hd⟩ := hd dd rfl
    have hx : ObjOk X.prog X.w H s.heap dd (.xd fs) := I.hok dd _ hd
    obtain ⟨mA, hns, hr⟩ := hx
    obtain ⟨od, ho, hl⟩ := lookIn_ns hns
    exact ⟨some od, ha, hz.1, by unfold PySem.W.notCls; rw [hv] <;> rfl, by rw [hz.2]; exact ho⟩
theorem kit_L {H : Hp} {G : DH} {C : Addr} {tc : Str → Option Bool} {tt : String → Option Bool} (mC : X.mg c.nm = some (.ref C)) (hI : HasI X.K X.mg c tc tt) : ∀ {ts : List D} {vs : List V} {us : List Value} {b : Bool}, isOfL tc tt ts = some b → RpL X.K X.mh H G ts vs → Vals vs us → kitAny X.K (.ref C) us = some b
  | [], _, _, b, h, .nil, .nil => by cases h; rfl
  | t :: ts, _, _, b, h, .cons r0 r1, .cons q0 q1 => by
    unfold isOfL at h
    cases e1 : isOf1 tc tt t with
    | none => rw [e1] at h; cases h
    | some b1 =>
      cases e2 : isOfL tc tt ts with
      | none => rw [e1, e2] at h; cases h
      | some b2 =>
        rw [e1, e2] at h
        cases h
        have ih := kit_L mC hI e2 r1 q1
        unfold isOf1 at e1
        refine kitAny_cons (b := b1) ?_ (fun z => by rw [z, Bool.false_or]; exact ih) (fun z => by rw [z, Bool.true_or])
        split at e1
        · obtain ⟨C1, C2, m1, m2, k⟩ := hI.own _ _ e1
          rw [mC] at m1
          cases m1
          cases r0 with
          | cls m =>
            rw [show X.mh.g _ = _ from m2] at m
            cases m
            cases q0
            exact k
        · obtain ⟨C1, m1, k⟩ := hI.blt _ _ e1
          rw [mC] at m1
          cases m1
          cases r0
          cases q0
          exact k
        · cases e1
theorem cd_isX {tc : Str → Option Bool} {tt : String → Option Bool} {gl : List Str} (hE : HasE X.K X.mg c gl) (hI : HasI X.K X.mg c tc tt) (hz : Zc cls d oe) (hf : ∃ vs, oe.data = .fields vs) (hc : ∃ C, X.mg c.nm = some (.ref C) ∧ cls = .ref C) : CallD (X.suite a ((a, oe) :: pn)) lv cm (.builtin "isinstance") (rIsX c a d tc tt) := by
  obtain ⟨C, mC, T, no⟩ := hE
  obtain ⟨C', mC', rfl⟩ := hc
  rw [mC] at mC'
  cases mC'
  intro gd pins s σ H vs us Q I rv ⟨ds, G, R, hg, r0, h, l⟩
  unfold rIsX at h
  split at h
  · rename_i c' fs a' d' t
    obtain ⟨⟨rfl, rfl, rfl⟩, h⟩ := h
    obtain ⟨v, u, rfl, r, r2⟩ := two_rp r0
    obtain ⟨u1, u2, rfl, q1, q2⟩ := vals2 rv
    have hv : v = .ref a' ∧ ∀ dd, d' = some dd → ∃ fs, H dd = some (.xd fs) := by
      cases r with
      | exc0 m => exact ⟨rfl, fun dd z => by cases z⟩
      | exc m g hd hk rr => exact ⟨rfl, fun dd z => by cases z; exact ⟨_, hd⟩⟩
    obtain ⟨rfl, hd⟩ := hv
    obtain rfl : u1 = Value.ref a' := q1
    obtain ⟨od, J⟩ := inst_of I hz hf hd
    have Z : KitX X.K (.ref a') (.ref C) (fun h => InstAt h a' oe C od) := kitx_exc (by obtain ⟨cd, h1, _⟩ := clsOf T.hd; rw [h1]; rfl) T.hg T.hk T.hs T.ha T.hn T.ht T.hm
    have fin : ∀ (b : Bool), R (.bl b) G → ∀ tk : Nat, EP (X.suite a' ((a', oe) :: pn)) pins σ Q (.bool b) { s with toks := tk } := fun b hb tk => ⟨.bl b, H, I.tok tk, rfl, l _ G H _ hb (Ext.refl _ _) hg (.bl _)⟩
    have one : ∀ b, isOf1 tc tt t = some b → R (.bl b) G → wpAny (model X.prog X.w) (X.suite a' ((a', oe) :: pn)).A (call (.builtin "isinstance") [.ref a', u2]) (EP (X.suite a' ((a', oe) :: pn)) pins σ Q) (X.suite a' ((a', oe) :: pn)).xe s := fun b e1 hb => by
      unfold isOf1 at e1
      split at e1
      · obtain ⟨C1, C2, m1, m2, k⟩ := hI.own _ _ e1
        rw [mC] at m1
        cases m1
        cases r2 with
        | cls m =>
          rw [show X.mh.g _ = _ from m2] at m
          cases m
          obtain rfl : u2 = Value.ref C2 := q2
          exact kia_one Z I.kIn J k (fun z => nomatch z) (fin b hb)
      · obtain ⟨C1, m1, k⟩ := hI.blt _ _ e1
        rw [mC] at m1
        cases m1
        cases r2
        obtain rfl := q2
        exact kia_one Z I.kIn J k (fun z => nomatch z) (fin b hb)
      · cases e1
    cases t with
    | tup ts =>
      simp only at h
      cases e1 : isOfL tc tt ts with
      | none => rw [e1] at h; exact h.elim
      | some b =>
        rw [e1] at h
        cases r2 with
        | @tup tp ws _ ta ra =>
          obtain rfl : u2 = Value.ref tp := q2
          rcases ta with ⟨_, ha⟩ | ⟨o, its, nn, hk, oc, od', odat, sz, vv⟩
          · obtain ⟨_, its, rv2, o, h1, h2, nn, h3⟩ := (show ObjOk X.prog X.w H s.heap tp (.tup ws) from I.hok tp _ ha)
            obtain ⟨oc, od2, dt, sl⟩ := o
            simp only at h2 h3
            subst h2 h3
            exact kia_tup Z I.kIn J h1 (kit_L mC hI e1 ra rv2) (fun z => nomatch z) (fin b h)
          · obtain ⟨oc2, od2, dt, sl⟩ := o
            simp only at oc od' odat
            subst oc od' odat
            exact kia_tup (its := its.toList) Z I.kIn J (by rw [Array.toArray_toList]; exact I.kIn _ _ hk) (kit_L mC hI e1 ra vv) (fun z => nomatch z) (fin b h)
    | _ =>
      simp only at h
      split at h
      · rename_i b e1
        exact one b e1 h
      · exact h.elim
  · exact h.elim
end
section
variable {X : Cx} {lv : Nat} {cm : Bool} {n2 n : Str} {i : Nat} {cat : Str → Option Bool} {body suite : List Stmt} {b₀ : Stmt} {np pos pos' : Pos} {t : DS} {u : CI → Addr → Option Addr → DS}
theorem pds_tryAs (hN : X.N.Nodup) (hi : X.N[i]? = some n) (hln : X.env.kindOf n = some .local) (hcat : ∀ n b, cat n = some b → Cat X.K X.mg n n2 b) (h2 : ∃ C2 : Addr, X.mg n2 = some (.ref C2)) (hb : ∀ pn xe, PDSs (X.tr pn xe) lv cm body t)
    (hsu : ∀ (a : Addr) (oe : Obj) (cls : Value) (d : Option Addr) (pn : List (Addr × Obj)) (c : CI), cat c.nm = some true → Zc cls d oe → (∃ vs, oe.data = .fields vs) → (∃ C, X.mg c.nm = some (.ref C) ∧ cls = .ref C) → PDSs (X.suite a ((a, oe) :: pn)) lv false (b₀ :: suite) (u c a d))
    (hs : X.stack = X.env :: X.outer := by rfl) (hf : X.env.frame = some X.env.locals := by rfl) (hg : Gl X n2 := by rfl) (hdb : (n2 == ("__debug__" : Str)) = false := by decide) :
    PDS X lv cm (.Try body [.ExceptHandler (some (.Name n2 np)) (some n) (b₀ :: suite) pos'] [] [] pos) (dTryAs cat i t u) := fun gd Wx tk => by
  obtain ⟨C2, m2⟩ := h2
  refine ps_imp (ps_try_as (tb := fun W => upS X W t) (ts := fun a cls d D σ H => ∃ c : CI, (cat c.nm = some true ∧ ∃ C, X.mg c.nm = some (.ref C) ∧ cls = .ref C) ∧ upS X (fun _ _ _ _ => False) (u c a d) D σ H) hs hf hN hi hln ⟨hg, hdb, .inl m2⟩ tk
    (fun W pn xe tkW po => hb pn xe ⟨gd.gu, gd.dp, gd.un, gd.hd, gd.cl, po⟩ W tkW)
    (fun a oe cls d pn hz hf => ⟨fun pins s σ H D I ⟨c, ⟨h0, h1⟩, h2⟩ => (hsu a oe cls d _ c h0 hz hf h1 ⟨gd.gu, gd.dp, gd.un, (fun z => nomatch z), (fun z => nomatch z), .never⟩ _ SkE_takes0).run pins s σ H D I h2⟩)) fun D σ H ⟨DD, δ, G, hs, hgo, ht, l1, l2, l3, l4, l5⟩ => ⟨_, δ, G, hs, hgo, ht, l1, l2, l3, l4, ?_⟩
  rintro x δ' G' σ' H' cls dd hx e1 s1 g1 xo
  obtain ⟨C, m1, rfl, rest⟩ := id xo
  cases ec : cat x.c.nm with
  | none => simp only [ec] at hx
  | some b =>
    obtain ⟨C1, C2', m1', m2', hex⟩ := hcat _ _ ec
    rw [show X.mg _ = _ from m1] at m1'
    rw [m2] at m2'
    cases m1'
    cases m2'
    refine ⟨b, hex, fun hb a ha => ?_, fun hb => ?_⟩
    · subst hb
      simp only [ec] at hx
      have hr : Rp X.K X.mh H' G' (.exc x.c x.fs a dd) (.ref a) := by
        rcases rest with ⟨z1, z2⟩ | ⟨d', fs, z1, z2, z3, z4, z5⟩
        · rw [z1, z2]; exact .exc0 m1
        · rw [z1]; exact .exc m1 z2 z3 z4 z5
      exact ⟨x.c, ⟨ec, C, m1, rfl⟩, _, δ'.set i (some (.exc x.c x.fs a dd)), G', s1.set i hr, g1, hx a dd, fun δ2 G2 σ2 H2 q e2 s2 g2 => l1 _ G2 _ H2 q (e1.trans e2) (s2.clear i) g2, fun d G2 H2 v q e2 => l2 d G2 H2 v q (e1.trans e2), fun δ2 G2 σ2 H2 q e2 s2 g2 => l3 _ G2 _ H2 q (e1.trans e2) (s2.clear i) g2, fun δ2 G2 σ2 H2 q e2 s2 g2 => l4 _ G2 _ H2 q (e1.trans e2) (s2.clear i) g2, fun _ _ _ _ _ _ _ q => q.elim⟩
    · subst hb
      simp only [ec] at hx
      exact l5 x δ' G' σ' H' _ _ hx e1 s1 g1 xo
end
end DL

/-! ### 64. ==, against the empty tuple or the empty list -/
namespace PySem.SeqAt
open AutoSeq1 (wpAny_loadPart')
open MeetsSeq
theorem tuple_eq_declines_dict (l b : Addr) (items : Array Value) (n : Nat) (dd : Option Addr) (sl : Array (Option Value)) (dd2 : Option Addr) (dt : Data) (sl2 : Array (Option Value)) :
    Meets (Builtin.«tuple.__eq__» ⟨[.ref l, .ref b], []⟩) (fun _ R s => s.heap.get? l = some { cls := .type "tuple", dict := dd, data := .seq items n, slots := sl } ∧ s.heap.get? b = some { cls := .type "dict", dict := dd2, data := dt, slots := sl2 } ∧ R (.ok (.ret .notImplemented)) s) :=
  .of_wp fun prog w A R s h => by obtain ⟨hp, g, d, tk, os⟩ := s; obtain ⟨hl, hb, h⟩ := h; have f1 := F.sub_dict_tuple; wp_walk using wpAny_loadPart' hl, wpAny_loadPart' hb; exact ⟨_, rfl, h⟩
theorem list_eq_declines_dict (l b : Addr) (items : Array Value) (n : Nat) (dd : Option Addr) (sl : Array (Option Value)) (dd2 : Option Addr) (dt : Data) (sl2 : Array (Option Value)) :
    Meets (Builtin.«list.__eq__» ⟨[.ref l, .ref b], []⟩) (fun _ R s => s.heap.get? l = some { cls := .type "list", dict := dd, data := .seq items n, slots := sl } ∧ s.heap.get? b = some { cls := .type "dict", dict := dd2, data := dt, slots := sl2 } ∧ R (.ok (.ret .notImplemented)) s) :=
  .of_wp fun prog w A R s h => by obtain ⟨hp, g, d, tk, os⟩ := s; obtain ⟨hl, hb, h⟩ := h; have f1 := F.sub_dict_list; wp_walk using wpAny_loadPart' hl, wpAny_loadPart' hb; exact ⟨_, rfl, h⟩
theorem tuple_ne_declines_dict (l b : Addr) (items : Array Value) (n : Nat) (dd : Option Addr) (sl : Array (Option Value)) (dd2 : Option Addr) (dt : Data) (sl2 : Array (Option Value)) :
    Meets (Builtin.«tuple.__ne__» ⟨[.ref l, .ref b], []⟩) (fun _ R s => s.heap.get? l = some { cls := .type "tuple", dict := dd, data := .seq items n, slots := sl } ∧ s.heap.get? b = some { cls := .type "dict", dict := dd2, data := dt, slots := sl2 } ∧ R (.ok (.ret .notImplemented)) s) :=
  .of_wp fun prog w A R s h => by obtain ⟨hp, g, d, tk, os⟩ := s; obtain ⟨hl, hb, h⟩ := h; have f1 := F.sub_dict_tuple; wp_walk using wpAny_loadPart' hl, wpAny_loadPart' hb; exact ⟨_, rfl, h⟩
theorem list_ne_declines_dict (l b : Addr) (items : Array Value) (n : Nat) (dd : Option Addr) (sl : Array (Option Value)) (dd2 : Option Addr) (dt : Data) (sl2 : Array (Option Value)) :
    Meets (Builtin.«list.__ne__» ⟨[.ref l, .ref b], []⟩) (fun _ R s => s.heap.get? l = some { cls := .type "list", dict := dd, data := .seq items n, slots := sl } ∧ s.heap.get? b = some { cls := .type "dict", dict := dd2, data := dt, slots := sl2 } ∧ R (.ok (.ret .notImplemented)) s) :=
  .of_wp fun prog w A R s h => by obtain ⟨hp, g, d, tk, os⟩ := s; obtain ⟨hl, hb, h⟩ := h; have f1 := F.sub_dict_list; wp_walk using wpAny_loadPart' hl, wpAny_loadPart' hb; exact ⟨_, rfl, h⟩
section
variable {prog : Program} {w : World} {A : Around} {E : Value → Shared → Prop} {s : Shared}
/-- d.__eq__(x), x no dict -/
theorem dict_eq_declines {a b : Addr} {T : String} {Q : Value → Shared → Prop} (ha : s.TypeIs (.ref a) "dict") (hb : s.TypeIs (.ref b) T) (hs : isSubtype (.type T) (.type "dict") = pure false) (h : Q .notImplemented s) : wpAny (model prog w) A (call (.builtin "dict.__eq__") [.ref a, .ref b]) Q E s := by
  refine wpAny_call_entry PySem.F.slot_dict_eq ha PySem.F.entry_dict_eq ?_ (PySem.F.args_dict_eq_2 _ _)
  show wpAny _ _ (Builtin.Dict.dictSlotArgs "__eq__" ⟨[.ref a, .ref b], []⟩ >>= _) _ _ s
  refine wpAny_bind ?_
  unfold Builtin.Dict.dictSlotArgs
  refine wpAny_bind (wpAny_notOrdered_dict ha ?_)
  show wpAny _ _ (pure (Value.ref a, Value.ref b)) _ _ s
  refine wpAny_pure ?_
  refine wpAny_bind (wpAny_isInstance (T := T) hb hs ?_)
  simp only [Bool.not_false, if_true]
  refine wpAny_bind (wpAny_rule ?_)
  exact wpAny_pure ⟨_, rfl, h⟩
theorem dict_ne_declines {a b : Addr} {T : String} {Q : Value → Shared → Prop} (ha : s.TypeIs (.ref a) "dict") (hb : s.TypeIs (.ref b) T) (hs : isSubtype (.type T) (.type "dict") = pure false) (h : Q .notImplemented s) : wpAny (model prog w) A (call (.builtin "dict.__ne__") [.ref a, .ref b]) Q E s := by
  refine wpAny_call_entry PySem.F.slot_dict_ne ha PySem.F.entry_dict_ne ?_ (PySem.F.args_dict_ne_2 _ _)
  show wpAny _ _ (Builtin.Dict.dictSlotArgs "__ne__" ⟨[.ref a, .ref b], []⟩ >>= _) _ _ s
  refine wpAny_bind ?_
  unfold Builtin.Dict.dictSlotArgs
  refine wpAny_bind (wpAny_notOrdered_dict ha ?_)
  show wpAny _ _ (pure (Value.ref a, Value.ref b)) _ _ s
  refine wpAny_pure ?_
  refine wpAny_bind (wpAny_isInstance (T := T) hb hs ?_)
  simp only [Bool.not_false, if_true]
  refine wpAny_bind (wpAny_rule ?_)
  exact wpAny_pure ⟨_, rfl, h⟩
end
end PySem.SeqAt
namespace DL
open L2 PyProof.Rows PySem PySem.Spec PySem.W PySem.SeqAt
/-- == of x and the empty tuple, the empty list -/
def eqZ (x y : D) : Option Bool := match y with
  | .tup [] => match x with
    | .tup xs => some xs.isEmpty
    | .tpk xs => some xs.isEmpty
    | .lst _ => some false
    | .lsk _ => some false
    | .dct _ => some false
    | .non => some false
    | .bl _ => some false
    | .int _ => some false
    | .str s => if PyData.strOk s then some false else none
    | _ => none
  | .lst [] => match x with
    | .lst xs => some xs.isEmpty
    | .lsk xs => some xs.isEmpty
    | .tup _ => some false
    | .tpk _ => some false
    | .dct _ => some false
    | .non => some false
    | .bl _ => some false
    | .int _ => some false
    | .str s => if PyData.strOk s then some false else none
    | _ => none
  | _ => none
def rEqZ : R2D := fun x y G Q => match eqZ (rs G x) (rs G y) with
  | some b => Q (.bl b) G
  | none => False
def rNeZ : R2D := fun x y G Q => match eqZ (rs G x) (rs G y) with
  | some b => Q (.bl (!b)) G
  | none => False
section
variable {X : Cx} {lv : Nat} {cm : Bool}
theorem rs_T {H : Hp} {G : DH} {d : D} {v : V} {xs : List D} (r : Rp X.K X.mh H G d v) (h : rs G d = .tup xs ∨ rs G d = .tpk xs) : ∃ a vs, v = .ref a ∧ SqT X.K H a vs ∧ RpL X.K X.mh H G xs vs := by
  rcases h with h | h
  · obtain ⟨a, vs, q1, q2, q3⟩ := rs_tup r h; exact ⟨a, vs, q1, q2.sqT, q3⟩
  · obtain ⟨a, vs, q1, q2, q3⟩ := rs_tpk r h; exact ⟨a, vs, q1, q2.sqT, q3⟩
theorem rs_Lq {H : Hp} {G : DH} {d : D} {v : V} {xs : List D} (hg : HpOk X.K X.mh H G) (r : Rp X.K X.mh H G d v) (h : rs G d = .lst xs ∨ rs G d = .lsk xs) : ∃ a vs, v = .ref a ∧ SqL X.K H a vs ∧ RpL X.K X.mh H G xs vs := by
  rcases h with h | h
  · obtain ⟨a, vs, q1, q2, q3⟩ := rs_lst hg r h; exact ⟨a, vs, q1, .inl (.inl q2), q3⟩
  · obtain ⟨a, vs, q1, q2, q3⟩ := rs_lsk r h; exact ⟨a, vs, q1, q2.sqL, q3⟩
theorem isD_of {H : Hp} {s : Shared} {σ : L2.St} {pins : List (Addr × Obj)} {a : Addr} {vs : List (Key × V)} (I : Inv X pins σ H s) (h : Rd H a (.dK vs)) : s.TypeIs (.ref a) "dict" := by
  obtain ⟨_, _, ws, _, hd⟩ := dk_rd I.hok h
  exact hd.typeIs
theorem rc_dict_tup {A : Around} {s : Shared} {a b : Addr} {ys : Array Value} (ha : s.TypeIs (.ref a) "dict") (hb : s.heap.IsTuple b ys) (hu : A.units < cLine) {prog : Program} {w : World} {E : Value → Shared → Prop} {Q : Value → Shared → Prop} :
    (Q (.bool false) s → wpAny (model prog w) A (richCompare .Eq (.ref a) (.ref b)) Q E s) ∧ (Q (.bool true) s → wpAny (model prog w) A (richCompare .NotEq (.ref a) (.ref b)) Q E s) := by
  obtain ⟨⟨c1, d1, t1, s1⟩, h1, k1⟩ := id ha
  obtain ⟨⟨c2, d2, t2, s2⟩, h2, k2, n2, k3⟩ := id hb
  simp only at k1 k2 k3
  subst k1 k2 k3
  have hne : a ≠ b := fun z => by
    rw [z, h2] at h1
    have := congrArg Obj.cls (Option.some.inj h1)
    simp at this
  exact ⟨fun h => rc_eq_decline_or (k := false) ha ⟨_, h2, rfl⟩ (by decide) F.sub_tuple_dict F.slot_dict_eq F.slot_tuple_eq_refl (fun _ hq => dict_eq_declines ha ⟨_, h2, rfl⟩ F.sub_tuple_dict hq)
      (fun _ hq => call_meets F.slot_tuple_eq_refl ⟨_, h2, rfl⟩ F.entry_tuple_eq (F.args_tuple_eq_2 _ _) (tuple_eq_declines_dict b a ys n2 d2 s2 d1 t1 s1) ⟨h2, h1, hq⟩) (fun _ hq => wpAny_isSame_ref_other hne h1 h2 (by simp) hq) (.inr hu) h,
    fun h => rc_ne_decline_or (k := false) ha ⟨_, h2, rfl⟩ (by decide) F.sub_tuple_dict F.slot_dict_ne F.slot_tuple_ne_refl (fun _ hq => dict_ne_declines ha ⟨_, h2, rfl⟩ F.sub_tuple_dict hq)
      (fun _ hq => call_meets F.slot_tuple_ne_refl ⟨_, h2, rfl⟩ F.entry_tuple_ne (F.args_tuple_ne_2 _ _) (tuple_ne_declines_dict b a ys n2 d2 s2 d1 t1 s1) ⟨h2, h1, hq⟩) (fun _ hq => wpAny_isSame_ref_other hne h1 h2 (by simp) hq) (.inr hu) h⟩
theorem rc_dict_list {A : Around} {s : Shared} {a b : Addr} {ys : Array Value} (ha : s.TypeIs (.ref a) "dict") (hb : s.heap.IsList b ys) (hu : A.units < cLine) {prog : Program} {w : World} {E : Value → Shared → Prop} {Q : Value → Shared → Prop} :
    (Q (.bool false) s → wpAny (model prog w) A (richCompare .Eq (.ref a) (.ref b)) Q E s) ∧ (Q (.bool true) s → wpAny (model prog w) A (richCompare .NotEq (.ref a) (.ref b)) Q E s) := by
  obtain ⟨⟨c1, d1, t1, s1⟩, h1, k1⟩ := id ha
  obtain ⟨⟨c2, d2, t2, s2⟩, h2, k2, n2, k3⟩ := id hb
  simp only at k1 k2 k3
  subst k1 k2 k3
  have hne : a ≠ b := fun z => by
    rw [z, h2] at h1
    have := congrArg Obj.cls (Option.some.inj h1)
    simp at this
  exact ⟨fun h => rc_eq_decline_or (k := false) ha ⟨_, h2, rfl⟩ (by decide) F.sub_list_dict F.slot_dict_eq F.slot_list_eq_refl (fun _ hq => dict_eq_declines ha ⟨_, h2, rfl⟩ F.sub_list_dict hq)
      (fun _ hq => call_meets F.slot_list_eq_refl ⟨_, h2, rfl⟩ F.entry_list_eq (F.args_list_eq_2 _ _) (list_eq_declines_dict b a ys n2 d2 s2 d1 t1 s1) ⟨h2, h1, hq⟩) (fun _ hq => wpAny_isSame_ref_other hne h1 h2 (by simp) hq) (.inr hu) h,
    fun h => rc_ne_decline_or (k := false) ha ⟨_, h2, rfl⟩ (by decide) F.sub_list_dict F.slot_dict_ne F.slot_list_ne_refl (fun _ hq => dict_ne_declines ha ⟨_, h2, rfl⟩ F.sub_list_dict hq)
      (fun _ hq => call_meets F.slot_list_ne_refl ⟨_, h2, rfl⟩ F.entry_list_ne (F.args_list_ne_2 _ _) (list_ne_declines_dict b a ys n2 d2 s2 d1 t1 s1) ⟨h2, h1, hq⟩) (fun _ hq => wpAny_isSame_ref_other hne h1 h2 (by simp) hq) (.inr hu) h⟩
/-- both ways at once -/
theorem z_core (gd : Gd X lv cm) {pins : List (Addr × Obj)} {s : Shared} {σ : L2.St} {H : Hp} {G : DH} {dx dy : D} {x y : V} {v u : Value} {b : Bool} (I : Inv X pins σ H s) (rx : RelV x v) (ry : RelV y u) (hg : HpOk X.K X.mh H G) (r1 : Rp X.K X.mh H G dx x) (r2 : Rp X.K X.mh H G dy y)
    (h : eqZ (rs G dx) (rs G dy) = some b) : (∀ {Q : VK}, Q (.bl b) H → wpAny (model X.prog X.w) X.A (compareOp .Eq v u) (EP X pins σ Q) X.xe s) ∧ (∀ {Q : VK}, Q (.bl (!b)) H → wpAny (model X.prog X.w) X.A (compareOp .NotEq v u) (EP X pins σ Q) X.xe s) := by
  have hu : X.A.units < cLine := by have := gd.un; omega
  have flat : okN 60 (rs G dx) = true → okN 60 (rs G dy) = true → deq (rs G dx) (rs G dy) = b → (∀ {Q : VK}, Q (.bl b) H → wpAny (model X.prog X.w) X.A (compareOp .Eq v u) (EP X pins σ Q) X.xe s) ∧ (∀ {Q : VK}, Q (.bl (!b)) H → wpAny (model X.prog X.w) X.A (compareOp .NotEq v u) (EP X pins σ Q) X.xe s) := fun k1 k2 e => by
    subst e
    exact ⟨fun {Q} q => op_eqD gd.un64 pins s σ H _ _ v u Q I rx ry ⟨_, _, rs_dp hg r1 k1, rs_dp hg r2 k2, shaped_py k1, shaped_py k2, q⟩, fun {Q} q => op_neD gd.un64 pins s σ H _ _ v u Q I rx ry ⟨_, _, rs_dp hg r1 k1, rs_dp hg r2 k2, shaped_py k1, shaped_py k2, q⟩⟩
  have fin : ∀ {Q : VK} {c : Bool}, Q (.bl c) H → EP X pins σ Q (.bool c) s := fun q => ⟨.bl _, H, I, rfl, q⟩
  have okT : okN 60 (.tup []) = true := by decide
  have okL : okN 60 (.lst []) = true := by decide
  unfold eqZ at h
  cases ey : rs G dy with
  | tup ys =>
    cases ys with
    | cons _ _ => rw [ey] at h; cases h
    | nil =>
      obtain ⟨c, ws, rfl, tc, rc⟩ := rs_tup r2 ey
      cases rc
      obtain rfl : u = Value.ref c := ry
      obtain ⟨its, rv, hc, _⟩ := I.tuple tc.sqT
      cases rv
      rw [ey] at h
      simp only at h
      cases ex : rs G dx with
      | tup xs | tpk xs =>
        rw [ex] at h
        simp only [Option.some.injEq] at h
        obtain ⟨a, vs, rfl, ha, ra⟩ := rs_T r1 (by first | exact .inl ex | exact .inr ex)
        obtain rfl : v = Value.ref a := rx
        obtain ⟨its, rv, ht, _⟩ := I.tuple ha
        have hb : ((List.range (min its.toArray.size (#[] : Array Value).size)).all (fun _ => true) && its.toArray.size == (#[] : Array Value).size) = b := by
          have l1 : its.length = xs.length := by rw [← rv.length, ← ra.length]
          rw [← h]
          cases xs with
          | nil => simp [List.eq_nil_of_length_eq_zero (show its.length = 0 by simpa using l1)]
          | cons x xs =>
            have : its.length ≠ 0 := by rw [l1]; simp
            simp [this]
        have e1 := RcAt.tuples (A := X.A) (s := s) (e := fun _ => true) ht hc hu (fun j h1 h2 => absurd h2 (by simp))
        have e2 := RcNeAt.tuples (A := X.A) (s := s) (e := fun _ => true) ht hc hu (fun j h1 h2 => absurd h2 (by simp))
        rw [hb] at e1 e2
        exact ⟨fun {Q} q => e1 _ _ _ _ (fin q), fun {Q} q => e2 _ _ _ _ (fin q)⟩
      | lst xs | lsk xs =>
        rw [ex] at h
        cases h
        obtain ⟨a, vs, rfl, ha, _⟩ := rs_Lq hg r1 (by first | exact .inl ex | exact .inr ex)
        obtain rfl : v = Value.ref a := rx
        obtain ⟨its, rv, ht, _⟩ := I.list ha
        exact ⟨fun {Q} q => RcAt.list_tuple ht.isList hc hu _ _ _ _ (fin q), fun {Q} q => RcNeAt.list_tuple ht.isList hc hu _ _ _ _ (fin q)⟩
      | dct kvs =>
        rw [ex] at h
        cases h
        obtain ⟨a, vs, rfl, ha, _⟩ := rs_dct hg r1 ex
        obtain rfl : v = Value.ref a := rx
        exact ⟨fun {Q} q => (rc_dict_tup (isD_of I ha) hc hu).1 (fin q), fun {Q} q => (rc_dict_tup (isD_of I ha) hc hu).2 (fin q)⟩
      | non => rw [ex] at h; cases h; rw [ey, ex] at flat; exact flat rfl okT rfl
      | bl _ => rw [ex] at h; cases h; rw [ey, ex] at flat; exact flat rfl okT rfl
      | int _ => rw [ex] at h; cases h; rw [ey, ex] at flat; exact flat rfl okT rfl
      | str t =>
        rw [ex] at h
        simp only at h
        split at h
        · rename_i ho
          cases h
          rw [ey, ex] at flat
          exact flat (by rw [okN_str]; exact ho) okT rfl
        · cases h
      | _ => rw [ex] at h; cases h
  | lst ys =>
    cases ys with
    | cons _ _ => rw [ey] at h; cases h
    | nil =>
      obtain ⟨c, ws, rfl, tc, rc⟩ := rs_lst hg r2 ey
      cases rc
      obtain rfl : u = Value.ref c := ry
      obtain ⟨its, rv, hc0, _⟩ := I.list (xs := []) (.inl (.inl tc))
      cases rv
      have hc := hc0.isList
      rw [ey] at h
      simp only at h
      cases ex : rs G dx with
      | lst xs | lsk xs =>
        rw [ex] at h
        simp only [Option.some.injEq] at h
        cases xs with
        | nil =>
          rw [ey, ex] at flat
          subst h
          exact flat (by decide) okL rfl
        | cons x0 xs =>
          obtain ⟨a, vs, rfl, ha, ra⟩ := rs_Lq hg r1 (by first | exact .inl ex | exact .inr ex)
          obtain rfl : v = Value.ref a := rx
          obtain ⟨its, rv, ht, _⟩ := I.list ha
          have l1 : its.length = (x0 :: xs).length := by rw [← rv.length, ← ra.length]
          have hz : (its.toArray.size != (#[] : Array Value).size) = true := by
            rw [List.size_toArray, l1]; simp
          subst h
          exact ⟨fun {Q} q => RcAt.lists_lengths ht.isList hc hz hu _ _ _ _ (fin q), fun {Q} q => RcNeAt.lists_lengths ht.isList hc hz hu _ _ _ _ (fin q)⟩
      | tup xs | tpk xs =>
        rw [ex] at h
        cases h
        obtain ⟨a, vs, rfl, ha, _⟩ := rs_T r1 (by first | exact .inl ex | exact .inr ex)
        obtain rfl : v = Value.ref a := rx
        obtain ⟨its, rv, ht, _⟩ := I.tuple ha
        exact ⟨fun {Q} q => RcAt.tuple_list ht hc hu _ _ _ _ (fin q), fun {Q} q => RcNeAt.tuple_list ht hc hu _ _ _ _ (fin q)⟩
      | dct kvs =>
        rw [ex] at h
        cases h
        obtain ⟨a, vs, rfl, ha, _⟩ := rs_dct hg r1 ex
        obtain rfl : v = Value.ref a := rx
        exact ⟨fun {Q} q => (rc_dict_list (isD_of I ha) hc hu).1 (fin q), fun {Q} q => (rc_dict_list (isD_of I ha) hc hu).2 (fin q)⟩
      | non => rw [ex] at h; cases h; rw [ey, ex] at flat; exact flat rfl okL rfl
      | bl _ => rw [ex] at h; cases h; rw [ey, ex] at flat; exact flat rfl okL rfl
      | int _ => rw [ex] at h; cases h; rw [ey, ex] at flat; exact flat rfl okL rfl
      | str t =>
        rw [ex] at h
        simp only at h
        split at h
        · rename_i ho
          cases h
          rw [ey, ex] at flat
          exact flat (by rw [okN_str]; exact ho) okL rfl
        · cases h
      | _ => rw [ex] at h; cases h
  | _ => rw [ey] at h; cases h
theorem od_eqZ : OpD X lv cm (compareOp .Eq) rEqZ := by
  intro gd pins s σ H G dx dy x y v u Q R I rx ry hg r1 r2 h l
  unfold rEqZ at h
  cases e : eqZ (rs G dx) (rs G dy) with
  | none => rw [e] at h; exact h.elim
  | some b =>
    rw [e] at h
    exact (z_core gd I rx ry hg r1 r2 e).1 (l _ G H _ h (Ext.refl _ _) hg (.bl _))
theorem od_neZ : OpD X lv cm (compareOp .NotEq) rNeZ := by
  intro gd pins s σ H G dx dy x y v u Q R I rx ry hg r1 r2 h l
  unfold rNeZ at h
  cases e : eqZ (rs G dx) (rs G dy) with
  | none => rw [e] at h; exact h.elim
  | some b =>
    rw [e] at h
    exact (z_core gd I rx ry hg r1 r2 e).2 (l _ G H _ h (Ext.refl _ _) hg (.bl _))
end
end DL

/-! ### 65. truths reckoned with -/
namespace DL
open L2 PyProof.Rows PySem PySem.Spec PySem.W
def rSubB : R2D := fun x y G Q => match x, y with
  | .int i, .int j => Q (.int (i - j)) G
  | .bl b, .int j => Q (.int ((if b = true then (1 : Int) else 0) - j)) G
  | _, _ => False
def rAddB : R2D := fun x y G Q => match x, y with
  | .int i, .int j => Q (.int (i + j)) G
  | .bl b, .int j => Q (.int ((if b = true then (1 : Int) else 0) + j)) G
  | _, _ => False
section
variable {X : Cx} {lv : Nat} {cm : Bool}
theorem od_subB : OpD X lv cm (binaryOp .Sub) rSubB := by
  intro gd pins s σ H G dx dy x y v u Q R I rx ry hg r1 r2 h l
  unfold rSubB at h
  split at h
  · cases r1
    cases r2
    exact L2.op_sub pins s σ H _ _ v u Q I rx ry ⟨_, _, rfl, rfl, l _ G H _ h (Ext.refl _ _) hg (.int _)⟩
  · rename_i b j
    cases r1
    cases r2
    obtain rfl : v = Value.bool b := rx
    obtain ⟨t, rfl⟩ := ry
    exact IntBool.sub_bool_int ⟨.int _, H, I.tok _, ⟨_, rfl⟩, l _ G H _ h (Ext.refl _ _) hg (.int _)⟩
  · exact h.elim
theorem od_addB : OpD X lv cm (binaryOp .Add) rAddB := by
  intro gd pins s σ H G dx dy x y v u Q R I rx ry hg r1 r2 h l
  unfold rAddB at h
  split at h
  · cases r1
    cases r2
    exact L2.op_add pins s σ H _ _ v u Q I rx ry ⟨_, _, rfl, rfl, l _ G H _ h (Ext.refl _ _) hg (.int _)⟩
  · rename_i b j
    cases r1
    cases r2
    obtain rfl : v = Value.bool b := rx
    obtain ⟨t, rfl⟩ := ry
    exact IntBool.add_bool_int ⟨.int _, H, I.tok _, ⟨_, rfl⟩, l _ G H _ h (Ext.refl _ _) hg (.int _)⟩
  · exact h.elim
end
end DL

/-! ### 66. tuples put together, empty ones too -/
namespace DL
open L2 PyProof.Rows PySem PySem.Spec PySem.W
def rAddT : R2D := fun x y G Q => match rs G x, rs G y with
  | .tup xs, .tup ys => xs.length + ys.length ≤ sizeLine ∧ Q (.tup (xs ++ ys)) G
  | _, _ => False
section
variable {X : Cx} {lv : Nat} {cm : Bool}
theorem od_addT : OpD X lv cm (binaryOp .Add) rAddT := by
  intro gd pins s σ H G dx dy x y v u Q R I rx ry hg r1 r2 h l
  unfold rAddT at h
  split at h
  · rename_i xs ys e1 e2
    obtain ⟨a, vs, rfl, ha, ra⟩ := rs_tup r1 e1
    obtain ⟨b, us, rfl, hb, rb⟩ := rs_tup r2 e2
    refine op_catA pins s σ H _ _ v u Q I rx ry ⟨a, b, vs, us, rfl, rfl, ha.sqT, hb.sqT, by rw [← ra.length, ← rb.length]; exact h.1, fun z => ?_, fun _ z => ?_, fun _ _ p hp => ?_⟩
    · subst z; cases ra
      have q := h.2
      rw [List.nil_append] at q
      exact l _ G H _ q (Ext.refl _ _) hg (.tup hb rb)
    · subst z; cases rb
      have q := h.2
      rw [List.append_nil] at q
      exact l _ G H _ q (Ext.refl _ _) hg (.tup ha ra)
    · exact l _ G _ _ h.2 (Ext.newF hp) (hg.newF hp) (.tup (.inl ⟨hg.free hp, upd_same⟩) ((ra.append rb).ext (Ext.newF hp)))
  · exact h.elim
theorem pd_clsE {n : Str} {p : Pos} (h : ∃ C : Addr, X.mg n = some (.ref C)) (hg : Gl X n := by rfl) (hd : (n == ("__debug__" : Str)) = false := by decide) : PD X lv cm (.Name n p) (dCls ⟨n, []⟩) := by
  obtain ⟨C, h⟩ := h
  exact pd_clsN (c := ⟨n, []⟩) h rfl hg hd
end
end DL

/-! ### 67. a new dict that nobody changes -/
namespace DL
open L2 PyProof.Rows PySem PySem.Spec PySem.W
def dFzE (t : DE) : DE := fun W δ G Q => t W δ G fun d G' => match d with
  | .ref p => match G' p with
    | some (.dct kvs) => Q (.dct kvs) (delG G' p)
    | some (.lst xs) => Q (.lst xs) (delG G' p)
    | some (.mx kvs) => Q (.mxd kvs) (delG G' p)
    | _ => False
  | d => Q d G'
section
variable {X : Cx} {lv : Nat} {cm : Bool}
theorem pd_fzE {e : Expr} {t : DE} (h : PD X lv cm e t) : PD X lv cm e (dFzE t) := fun gd Wx tk =>
  pe_imp (h gd Wx tk) fun σ H Q ⟨W, δ, G, R, hs, hg, ht, lQ, lW⟩ => ⟨W, δ, G, _, hs, hg, ht, fun d G1 H1 v h1 e1 g1 r1 => by
    cases d with
    | ref p =>
      cases r1
      cases eg : G1 p with
      | none => simp only [eg] at h1
      | some o =>
        have sb : Sub (delG G1 p) G1 := delG_sub
        have ob := g1 p o eg
        cases o with
        | dct kvs =>
          simp only [eg] at h1
          cases ob with
          | dct hh rr => exact lQ _ _ H1 _ h1 (e1.trans sb.ext) (g1.sub sb) (.dct delG_same (.inl hh) (rr.ext sb.ext))
        | lst xs =>
          simp only [eg] at h1
          cases ob with
          | lst hh rr => exact lQ _ _ H1 _ h1 (e1.trans sb.ext) (g1.sub sb) (.lst delG_same hh (rr.ext sb.ext))
        | ins c fs => simp only [eg] at h1
        | tb q => simp only [eg] at h1
        | mx kvs =>
          simp only [eg] at h1
          cases ob with
          | mx hh rr => exact lQ _ _ H1 _ h1 (e1.trans sb.ext) (g1.sub sb) (.mxd delG_same hh (rr.ext sb.ext))
    | _ => exact lQ _ G1 H1 v h1 e1 g1 r1, lW⟩
end
end DL

/-! ### 68. enumerate(xs, start=c) -/
namespace DL
open L2 PyProof.Rows PySem PySem.Spec
section
variable {M : Model} {A : Around} {E : Value → Shared → Prop} {s : Shared} {env : Env}
theorem callWith_type_kwB {pos : Pos} {T : String} {first : List Value} {args : List (Bool × Sem Value)} {keywords : List (Option Str × Sem Value)} {Q : Value → Shared → Prop}
    (hplain : args.any (·.1) = false) (hkw : keywords.any (·.1.isNone) = false)
    (h : wpAny M A (evalArgs (.type T) true args keywords) (fun a s₁ => wpAny M A (call (.type T) (first ++ a.pos) a.kw) Q E s₁) E s) :
    wpAny M A (callWith pos (.type T) first args keywords) Q E s := by
  unfold callWith
  refine wpAny_bind (wpAny_holding (wpAny_mono h (fun a s₁ h₁ => wpAny_bind (wpAny_standAt ?_)) fun _ _ x => x))
  simp only [hplain, hkw, Bool.or_false]
  refine wpAny_bind (wpAny_pure ?_)
  exact wpAny_bind (wpAny_mono h₁ (fun r s₂ hr => wpAny_bind (wpAny_holding (wpAny_point (wpAny_pure hr)))) fun _ _ x => x)
theorem callWith_type_kw {pos : Pos} {T : String} {e : Expr} {rest : List Expr} {kws : List Keyword} {Q : Value → Shared → Prop}
    (h : wpAny M A (spliced (backTo pos (starEach (e :: rest) env))) (fun vs s₁ => wpAny M A (evalAll ((backToKw pos (keywordEach kws env)).map (·.2)))
      (fun kvs s₂ => wpAny M A (call (.type T) vs (((backToKw pos (keywordEach kws env)).filterMap (·.1)).zip kvs)) Q E s₂) E s₁) E s)
    (he : backTo pos (starEach (e :: rest) env) = (false, eval e env) :: backTo pos (starEach rest env) := by rfl)
    (hplain : (backTo pos (starEach (e :: rest) env)).any (·.1) = false := by rfl)
    (hall : (backToKw pos (keywordEach kws env)).all (·.1.isSome) = true := by rfl)
    (hkw : (backToKw pos (keywordEach kws env)).any (·.1.isNone) = false := by rfl) :
    wpAny M A (callWith pos (.type T) [] (backTo pos (starEach (e :: rest) env)) (backToKw pos (keywordEach kws env))) Q E s := by
  refine callWith_type_kwB hplain hkw ?_
  rw [he] at h ⊢
  exact evalArgs_kwB hall h
end
def IteS (K : PySem.W.Frag) (a : Addr) (c : Int) : It :=
  ⟨fun i H => ∃ (xs : List V) (x : V), SqL K H a xs ∧ xs[i]? = some x, fun i H v H' => ∃ T x, v = .ref T ∧ H T = none ∧ H' = L2.upd H T (.tup [.int (c + (i : Nat)), x]) ∧ ∀ xs, SqL K H a xs → xs[i]? = some x, fun i H => ∃ xs : List V, SqL K H a xs ∧ xs.length ≤ i⟩
theorem turn_enumS {P : Program} {w : World} {K : PySem.W.Frag} {elts : List Expr} {kk : Nat} {tpos : Pos} (a e it : Addr) (c : Int) :
    Turn P w K (.Tuple elts kk tpos) (IteS K a c) [e, it] e (fun i h => (∃ old, IsEnum h e it (c + ((i : Nat) : Int)) old) ∧ h.IsListIter it a i ∧ e ≠ it ∧ e ≠ a ∧ a ≠ it) where
  mem := by simp
  obj := fun i h st b hb => by
    obtain ⟨⟨old, he⟩, ⟨o, ho, hc, hd⟩, _⟩ := st
    have e' : b = e ∨ b = it := by simpa using hb
    rcases e' with z | z
    · rw [z]; exact ⟨_, he, fun v q => nomatch q⟩
    · rw [z]; exact ⟨o, ho, fun v q => by rw [hd] at q; cases q⟩
  keep := fun i h h' st k => let ⟨⟨old, he⟩, hi, hne⟩ := st; ⟨⟨old, k e (by simp) _ he⟩, hi.at fun o q => k it (by simp) o q, hne⟩
  item := by
    intro X hP hw hK hc i pins s σ H E I hf st hg
    subst hP hw hK
    obtain ⟨⟨old, he⟩, hit, hne, hea, hai⟩ := st
    obtain ⟨xs, x, hq, hx⟩ := hg
    obtain ⟨its, rv, p, hz⟩ := I.list hq
    obtain ⟨u, hu, ru⟩ := rv.get hx
    have hel : e < s.heap.objs.size := Heap.lt_size he
    have hil : it < s.heap.objs.size := by obtain ⟨_, q, _⟩ := hit; exact Heap.lt_size q
    have hlt : i < its.toArray.size := by
      have := (List.getElem?_eq_some_iff.mp hu).1
      simpa using this
    refine wpAny_pyNext_enum_itemC (Draws.list (A := X.A.in1) (I.ok.hd hc) it a hai its.toArray) he ⟨hit, p.isList⟩ hlt hne (by simp [hne, hea]) fun y h' tk hy ho hst' hT hsz hk => ?_
    have ey : y = u := by
      have h1 : its[i]? = some y := by simpa using hy
      rw [hu] at h1
      exact (Option.some.inj h1).symm
    subst ey
    refine ⟨_, rfl, wpAny_letOwnedTupleGo_enum (s := { s with heap := h', toks := tk + 1 }) ho fun h'' he' sb => ?_⟩
    have hT2 : h''.get? s.heap.objs.size = some { cls := .type "tuple", data := .seq #[.int (c + (i : Nat)) tk, y] } := (sb.2 _ (Nat.ne_of_gt hel)).trans hT
    have new : ObjOk X.prog X.w (L2.upd H s.heap.objs.size (.tup [.int (c + (i : Nat)), x])) h'' s.heap.objs.size (.tup [.int (c + (i : Nat)), x]) :=
      ⟨by show 2 ≤ sizeLine; decide, [.int (c + (i : Nat)) tk, y], .cons ⟨_, rfl⟩ (.cons ru .nil), ⟨_, hT2, rfl, _, rfl⟩⟩
    have I1 : Inv X pins σ (L2.upd H s.heap.objs.size (.tup [.int (c + (i : Nat)), x])) { s with heap := h'', toks := tk + 1 } :=
      I.turnedNew (ch := [e, it]) (fun b ob hb q => (sb.2 b (fun z => hb (by simp [z]))).trans (hk b ob (fun z => hb (by simp [z])) (fun z => hb (by simp [z])) q)) hf (Nat.le_refl _) new
    refine ⟨.ref s.heap.objs.size, _, I1, rfl, ⟨_, x, rfl, I.hok.fresh (Nat.le_refl _), rfl, fun ys hy => by rw [I.list_inj hy hq]; exact hx⟩, ⟨⟨y, ?_⟩, hst'.1.at fun o q => (sb.2 it (Ne.symm hne)).trans q, hne, hea, hai⟩, fun b hb => ?_⟩
    · have e1 : c + ((i + 1 : Nat) : Int) = c + (i : Int) + 1 := by omega
      rw [e1]; exact he'
    · have hb' : b < s.heap.objs.size := by
        have e' : b = e ∨ b = it := by simpa using hb
        rcases e' with z | z
        · rw [z]; exact hel
        · rw [z]; exact hil
      rw [L2.upd_ne (Nat.ne_of_lt hb')]
      exact (hf b hb).1
  done := by
    intro X hP hw hK hc i pins s σ H E I hf st hg
    subst hP hw hK
    obtain ⟨⟨old, he⟩, hit, hne, hea, hai⟩ := st
    obtain ⟨xs, hq, hx⟩ := hg
    obtain ⟨its, rv, p, hz⟩ := I.list hq
    obtain ⟨f0, f1, f2, f3, f4, f5⟩ := hf it (by simp)
    have hl := rv.length
    refine (?_ : wpAny (model X.prog X.w) X.A (pyNext (.ref e)) _ E s)
    have hT : s.TypeIs (.ref e) "enumerate" := ⟨_, he, rfl⟩
    unfold pyNext
    refine wpAny_bind (wpAny_attempt (wpAny_callSpecial?_slot (name := Str.ofString "__next__") hT F.slot_enumerate_next
      (wpAny_call_entry F.slot_enumerate_next hT F.entry_enumerate_next ?_ (F.args_enumerate_next_1 _))))
    show wpAny _ _ (field (.ref e) 2 >>= _) _ _ _
    refine wpAny_bind (wpAny_field he rfl (x := .ref it) rfl ?_)
    refine wpAny_bind (wpAny_nextOf_list_end (I.ok.hd hc) hit p.isList (by simp; omega) fun h' x eb hx' => ?_)
    obtain ⟨o, ho, hcc⟩ := hx'
    refine wpAny_bind (wpAny_isInstance (T := "StopIteration") (b := true) ⟨o, ho, hcc⟩ isSubtype_stop ?_)
    exact wpAny_pure ⟨rfl, I.turned (t' := s.toks) (fun b o hb q => eb b o hb q) f0 f1 f3 f4 f5⟩
  self := fun A i s Q E st h => let ⟨⟨_, he⟩, _⟩ := st; wpAny_pyIter_enum he h
def iEnumS (K : PySem.W.Frag) (c : Int) (ta : TA) : TI := fun σ H R => ta σ H fun vs H1 => ∃ a xs, vs = [.ref a] ∧ SqL K H1 a xs ∧ R (IteS K a c) H1
theorem pi_enumS {X : Cx} {e : Expr} {ta : TA} {c : Int} {k : Nat} {p pos tpos p1 p2 : Pos} {elts : List Expr} {kk : Nat} (hc0 : -(2 ^ 63) ≤ c ∧ c < 2 ^ 63) (hg : Gl X "enumerate") (hm : X.mg "enumerate" = none) (ha : PA X [e] ta)
    (hs : backTo pos (starEach [e] X.env) = (false, eval e X.env) :: backTo pos (starEach [] X.env) := by rfl) :
    PI X (.Tuple elts kk tpos) (.Call (.Name "enumerate" p) [e] [⟨some "start", .Constant (.int c) k p1, p2⟩] pos) (iEnumS X.K c ta) := by
  refine ⟨fun pins s σ H R I h => ?_⟩
  refine wpAny_Call_Name_kw (ld_blt I hg hm boot_enumerate ?_)
  refine callWith_type_kw (thn (ha.run pos pins s σ H _ I h) fun us s1 ⟨vs, H1, I1, r1, q1⟩ => kws_cons (thn ((pe_int (X := X)).run pins s1 σ H1 (fun z H2 => z = .int c ∧ H2 = H1) I1 ⟨rfl, rfl⟩) fun w s2 ⟨z, H2, I2, rz, ez, eh⟩ => kws_nil ?_)) hs (by rw [hs]; rfl)
  subst ez eh
  obtain ⟨tk, rfl⟩ := rz
  obtain ⟨a, xs, ex, hq, q⟩ := q1
  subst ex
  cases r1 with
  | cons r rr =>
    cases rr
    cases r
    have hfp : ∀ b ∈ [s2.heap.objs.size + 1, s2.heap.objs.size], FpOk X pins H2 b := fun b hb => by
      have e' : b = s2.heap.objs.size + 1 ∨ b = s2.heap.objs.size := by simpa using hb
      have hle : s2.heap.objs.size ≤ b := by
        rcases e' with z | z
        · rw [z]; exact Nat.le_add_right _ _
        · rw [z]; exact Nat.le_refl _
      exact I2.fpOk hle (I2.hok.fresh hle)
    obtain ⟨its, rv, p', hz⟩ := I2.list hq
    have hlt : a < s2.heap.objs.size := by obtain ⟨_, y, _⟩ := p'.isList; exact Heap.lt_size y
    show wpAny (model X.prog X.w) X.A (call (.type "enumerate") [.ref a] [(Str.ofString "start", .int c tk)]) _ _ _
    refine enum_begins_start (begins_list a its.toArray) p'.isList hc0.1 hc0.2 fun h' he hit hsz hk => wpAny_pyIter_enum he ?_
    have I3 : Inv X pins σ H2 { s2 with heap := h' } := I2.kept (t' := s2.toks) hk
    refine ⟨s2.heap.objs.size + 1, [s2.heap.objs.size + 1, s2.heap.objs.size], _, _, H2, rfl, I3, turn_enumS a (s2.heap.objs.size + 1) s2.heap.objs.size c, ⟨⟨.none, ?_⟩, ⟨_, hit, rfl, rfl⟩, Nat.succ_ne_self _, Nat.ne_of_gt (Nat.lt_succ_of_lt hlt), Nat.ne_of_lt hlt⟩, hfp, q⟩
    rw [show c + ((0 : Nat) : Int) = c by omega]
    exact he
def enumS (c : Int) (xs : List D) : List D := (List.range xs.length).zipWith (fun i x => D.tup [.int (c + (i : Nat)), x]) xs
theorem enumS_get {c : Int} {xs : List D} {i : Nat} {x : D} (h : (enumS c xs)[i]? = some x) : ∃ y, xs[i]? = some y ∧ x = .tup [.int (c + (i : Nat)), y] := by
  unfold enumS at h
  rw [List.getElem?_zipWith] at h
  cases e : xs[i]? with
  | none => rw [e] at h; cases e2 : (List.range xs.length)[i]? <;> rw [e2] at h <;> cases h
  | some y =>
    rw [e] at h
    have hi : i < xs.length := (List.getElem?_eq_some_iff.mp e).1
    rw [List.getElem?_range hi] at h
    exact ⟨y, rfl, (Option.some.inj h).symm⟩
theorem enumS_length (c : Int) (xs : List D) : (enumS c xs).length = xs.length := by simp [enumS]
def diEnumS (c : Int) (t : DA) : DI := fun W δ G R => t W δ G fun ds G1 => match ds with
  | [d] => walkD d G1 fun xs S => notTS d ∧ R (enumS c xs) S G1
  | _ => False
section
variable {X : Cx} {lv : Nat} {cm : Bool}
theorem it_enumS {c : Int} {a : Addr} {H0 : Hp} {G0 : DH} {xs : List D} {S : DH → Prop} (h : ∀ H G, Ext H0 G0 H G → HpOk X.K X.mh H G → S G → ∃ vs, SqL X.K H a vs ∧ RpL X.K X.mh H G xs vs) : ItD X (IteS X.K a c) H0 G0 (enumS c xs) S := by
  refine ⟨fun i x H G hx e hg s => ?_, fun H G e hg s => ?_⟩
  · obtain ⟨vs, hq, r⟩ := h H G e hg s
    obtain ⟨y, hy, rfl⟩ := enumS_get hx
    obtain ⟨v, hv, rv⟩ := r.get hy
    refine ⟨⟨vs, v, hq, hv⟩, fun w H' ⟨T, u, ew, hT, eh, hw⟩ => ?_⟩
    subst eh; subst ew
    have hu := hw vs hq
    exact ⟨Ext.newF hT, hg.newF hT, .tup (.inl ⟨hg.free hT, upd_same⟩) (.cons (.int _) (.cons ((r.getV2 hy hu).ext (Ext.newF hT)) .nil))⟩
  · obtain ⟨vs, hq, r⟩ := h H G e hg s
    exact ⟨vs, hq, by rw [enumS_length, r.length]; exact Nat.le_refl _⟩
theorem pdi_enumS {c : Int} {e : Expr} {t : DA} {k : Nat} {p pos tpos p1 p2 : Pos} {elts : List Expr} {kk : Nat} (hm : X.mg "enumerate" = none) (hc0 : -(2 ^ 63) ≤ c ∧ c < 2 ^ 63) (ha : PDA X lv cm [e] t) (hg : Gl X "enumerate" := by rfl) (hs : backTo pos (starEach [e] X.env) = (false, eval e X.env) :: backTo pos (starEach [] X.env) := by rfl) :
    PDI X lv cm (.Tuple elts kk tpos) (.Call (.Name "enumerate" p) [e] [⟨some "start", .Constant (.int c) k p1, p2⟩] pos) (diEnumS c t) := fun gd Wx tk =>
  pi_imp (pi_enumS hc0 hg hm (ha gd Wx tk) hs) fun σ H R ⟨W, δ, G, R', hs, hg, ht, l1, l2⟩ => ⟨W, δ, G, _, hs, hg, ht, fun ds G1 H1 vs h1 e1 g1 r1 => by
    split at h1
    · rename_i d
      obtain ⟨v, rfl, r2⟩ := one_rp r1
      obtain ⟨hns, hw⟩ := walkD_and h1
      obtain ⟨a, vs, xs, S, rfl, hq, hr, hl⟩ := walk_list g1 r2 hw hns
      exact ⟨a, vs, rfl, hq, l1 _ _ G1 H1 _ hr e1 g1 (it_enumS hl)⟩
    · exact h1.elim, l2⟩
/-! ### 69. xs[::2], xs[1::2] -/
def ev2 {α : Type} : List α → List α
  | [] => []
  | [x] => [x]
  | x :: _ :: xs => x :: ev2 xs
theorem ev2_get {α : Type} : ∀ (xs : List α) (m : Nat), (ev2 xs)[m]? = xs[2 * m]?
  | [], m => by simp [ev2]
  | [x], m => by
    cases m with
    | zero => rfl
    | succ m => simp [ev2]
  | x :: y :: xs, m => by
    cases m with
    | zero => rfl
    | succ m =>
      show (ev2 xs)[m]? = _
      rw [ev2_get xs m, show 2 * (m + 1) = 2 * m + 1 + 1 by omega]
      rfl
theorem ev2_len {α : Type} : ∀ xs : List α, (ev2 xs).length = (xs.length + 1) / 2
  | [] => by simp [ev2]
  | [x] => by simp [ev2]
  | x :: y :: xs => by
    show (ev2 xs).length + 1 = (xs.length + 1 + 1 + 1) / 2
    rw [ev2_len xs]; omega
theorem ev2_le {α : Type} (xs : List α) : (ev2 xs).length ≤ xs.length := by rw [ev2_len]; omega
theorem pick_all {α : Type} (f : Nat → Option α) (n : Nat) (ys : List α) (hl : ys.length = n) (hf : ∀ m, m < n → f m = ys[m]?) : (List.range n).filterMap f = ys := by
  have cg : ∀ (l : List Nat) (f g : Nat → Option α), (∀ m ∈ l, f m = g m) → l.filterMap f = l.filterMap g := fun l f g => by
    induction l with
    | nil => intro _; rfl
    | cons y ys ih =>
      intro h
      rw [List.filterMap_cons, List.filterMap_cons, h y (List.mem_cons_self ..), ih fun m hm => h m (List.mem_cons_of_mem _ hm)]
  rw [cg _ _ (fun m => ys[m]?) fun m hm => hf m (List.mem_range.mp hm), ← hl]
  have h := PySem.W.krv_all ys.toArray
  simpa using h
theorem pick2 (items : Array Value) (b : Bool) : slicePick items (if b then some 1 else none) none (some 2) = (ev2 (items.toList.drop (if b then 1 else 0))).toArray := by
  have hb : sliceBounds (if b then some 1 else none) none (some 2) items.size = (((if b then min 1 items.size else 0 : Nat) : Int), (items.size : Int), 2) := by
    cases b
    · simp [sliceBounds]
    · simp only [sliceBounds, if_true]
      simp
      omega
  unfold slicePick
  rw [hb]
  congr 1
  show (sliceRange ((if b then min 1 items.size else 0 : Nat) : Int) (items.size : Int) 2).filterMap (items[·]?) = _
  unfold sliceRange
  generalize hk : (if b then min 1 items.size else 0 : Nat) = k
  have hkn : k ≤ items.size := by subst hk; split <;> omega
  simp only [show ((2 : Int) > 0) = True by simp, if_true]
  have hd : items.toList.drop (if b then 1 else 0) = items.toList.drop k := by
    subst hk
    cases b
    · rfl
    · simp only [if_true]
      by_cases hz : items.size = 0
      · rw [hz]
        have : items.toList = [] := by rw [← List.length_eq_zero_iff, Array.length_toList, hz]
        rw [this]; rfl
      · rw [show min 1 items.size = 1 by omega]
  rw [hd, List.filterMap_map]
  have hlen : (ev2 (items.toList.drop k)).length = (items.size - k + 1) / 2 := by rw [ev2_len, List.length_drop, Array.length_toList]
  have main : ∀ n : Nat, n = (items.size - k + 1) / 2 → (List.range n).filterMap ((fun x => items[x]?) ∘ fun (m : Nat) => ((k : Int) + 2 * (m : Int)).toNat) = ev2 (items.toList.drop k) := fun n hn => by
    refine pick_all _ n _ (by rw [hlen, hn]) fun m hm => ?_
    rw [ev2_get, List.getElem?_drop, Array.getElem?_toList]
    show items[((k : Int) + 2 * (m : Int)).toNat]? = _
    rw [show ((k : Int) + 2 * (m : Int)).toNat = k + 2 * m by omega]
  refine main _ ?_
  split <;> omega
theorem vals_ev2 : ∀ {xs : List V} {us : List Value}, Vals xs us → Vals (ev2 xs) (ev2 us)
  | [], _, .nil => .nil
  | [x], _, .cons r .nil => .cons r .nil
  | x :: y :: xs, _, .cons r (.cons _ t) => .cons r (vals_ev2 t)
theorem vals_drop {k : Nat} : ∀ {xs : List V} {us : List Value}, Vals xs us → Vals (xs.drop k) (us.drop k) := by
  induction k with
  | zero => intro xs us r; exact r
  | succ k ih =>
    intro xs us r
    cases r with
    | nil => exact .nil
    | cons _ t => exact ih t
def tEv2 (K : PySem.W.Frag) (b : Bool) (te : TE) : TE := fun σ H Q => te σ H fun x H1 => ∃ a xs, x = .ref a ∧ SqL K H1 a xs ∧ ∀ p, H1 p = none → Q (.ref p) (L2.upd H1 p (.lst (ev2 (xs.drop (if b then 1 else 0)))))
theorem ev2_end {X : Cx} {e : Expr} {lo : Option Expr} {st : Expr} {p3 : Pos} {pins : List (Addr × Obj)} {σ : L2.St} {H : Hp} {Q : VK} {s : Shared} {vl vu vs : Value} {a : Addr} {xs : List V} {b : Bool} (I5 : Inv X pins σ H { s with heap := s.heap.push { cls := .type "slice", data := .fields #[vl, vu, vs] } }) (pl : IsPart vl (if b then some 1 else none)) (pu : IsPart vu none) (ps : IsPart vs (some 2)) (hx : SqL X.K H a xs) (q : ∀ p, H p = none → Q (.ref p) (L2.upd H p (.lst (ev2 (xs.drop (if b then 1 else 0)))))) (hsb : subscripted (.Slice lo none (some st) p3) false (.ref a) (.ref s.heap.objs.size) = operate [.ref a, .ref s.heap.objs.size] (getItem (.ref a) (.ref s.heap.objs.size))) :
    wpAny (model X.prog X.w) X.A (subscriptTail e (.Slice lo none (some st) p3) (.ref a) (.ref s.heap.objs.size)) (EP X pins σ Q) X.xe { s with heap := s.heap.push { cls := .type "slice", data := .fields #[vl, vu, vs] } } := by
  obtain ⟨its, r, ht, hz⟩ := I5.list hx
  have hlen := r.length
  refine tail_any (ops := [.ref a, .ref s.heap.objs.size]) ht.isList.typeIs (PySem.slot_list_getitem.lookup) ?_ hsb
  refine wpAny_getItem_list_slice ht.isList (Heap.IsSliceOf.new _ vl vu vs) pl pu ps (by decide) ?_ (by rw [List.size_toArray]; omega)
  rw [pick2]
  refine ⟨.ref _, _, I5.laid (t' := s.toks) (o := .lst (ev2 (xs.drop (if b then 1 else 0)))) (fun b ob q => Heap.get?_push_of_some _ q) (Nat.le_refl _) ?_, rfl, q _ (I5.hok.fresh (Nat.le_refl _))⟩
  refine ⟨?_, _, 0, vals_ev2 (vals_drop r), Heap.get?_push_size _ rfl⟩
  have h1 := ev2_le (xs.drop (if b then 1 else 0))
  rw [List.length_drop] at h1
  omega
section
variable {X : Cx}
theorem pe_ev2n {e : Expr} {te : TE} {k : Nat} {p1 p3 pos : Pos} (he : PE X e te) : PE X (.Subscript e (.Slice none none (some (.Constant (.int 2) k p1)) p3) pos) (tEv2 X.K false te) := by
  refine ⟨fun pins s σ H Q I h => ?_⟩
  refine Subscript_ (thn (he.run pins s σ H _ I h) fun v s1 ⟨x, H1, I1, r1, q1⟩ => ?_)
  obtain ⟨a, xs, ex, hx, q⟩ := q1
  subst ex
  cases r1
  have hst : PO X (some (.Constant (.int 2) k p1)) (tPart (tC (.int 2))) := po_some pe_int
  refine wpAny_Slice (thn (po_none.run pins s1 σ H1 (fun o H2 => o = none ∧ H2 = H1) I1 ⟨rfl, rfl⟩) fun vl s2 ⟨l, H2, I2, pl, el, e2⟩ => ?_)
  subst el e2
  refine thn (po_none.run pins s2 σ H2 (fun o H3 => o = none ∧ H3 = H2) I2 ⟨rfl, rfl⟩) fun vu s3 ⟨u, H3, I3, pu, eu, e3⟩ => ?_
  subst eu e3
  refine thn (hst.run pins s3 σ H3 (fun o H4 => o = some 2 ∧ H4 = H3) I3 ⟨2, rfl, rfl, rfl⟩) fun vs s4 ⟨o, H4, I4, ps, eo, e4⟩ => ?_
  subst eo e4
  have I5 : Inv X pins σ H4 { s4 with heap := s4.heap.push { cls := .type "slice", data := .fields #[vl, vu, vs] } } := I4.kept (t' := s4.toks) fun b ob q => Heap.get?_push_of_some _ q
  exact ev2_end (b := false) I5 pl pu ps hx q (by with_unfolding_all rfl)
theorem pe_ev2s {e : Expr} {te : TE} {k k' : Nat} {p0 p1 p3 pos : Pos} (he : PE X e te) : PE X (.Subscript e (.Slice (some (.Constant (.int 1) k' p0)) none (some (.Constant (.int 2) k p1)) p3) pos) (tEv2 X.K true te) := by
  refine ⟨fun pins s σ H Q I h => ?_⟩
  refine Subscript_ (thn (he.run pins s σ H _ I h) fun v s1 ⟨x, H1, I1, r1, q1⟩ => ?_)
  obtain ⟨a, xs, ex, hx, q⟩ := q1
  subst ex
  cases r1
  have hst : PO X (some (.Constant (.int 2) k p1)) (tPart (tC (.int 2))) := po_some pe_int
  have hlo : PO X (some (.Constant (.int 1) k' p0)) (tPart (tC (.int 1))) := po_some pe_int
  refine wpAny_Slice (thn (hlo.run pins s1 σ H1 (fun o H2 => o = some 1 ∧ H2 = H1) I1 ⟨1, rfl, rfl, rfl⟩) fun vl s2 ⟨l, H2, I2, pl, el, e2⟩ => ?_)
  subst el e2
  refine thn (po_none.run pins s2 σ H2 (fun o H3 => o = none ∧ H3 = H2) I2 ⟨rfl, rfl⟩) fun vu s3 ⟨u, H3, I3, pu, eu, e3⟩ => ?_
  subst eu e3
  refine thn (hst.run pins s3 σ H3 (fun o H4 => o = some 2 ∧ H4 = H3) I3 ⟨2, rfl, rfl, rfl⟩) fun vs s4 ⟨o, H4, I4, ps, eo, e4⟩ => ?_
  subst eo e4
  have I5 : Inv X pins σ H4 { s4 with heap := s4.heap.push { cls := .type "slice", data := .fields #[vl, vu, vs] } } := I4.kept (t' := s4.toks) fun b ob q => Heap.get?_push_of_some _ q
  exact ev2_end (b := true) I5 pl pu ps hx q (by with_unfolding_all rfl)
end
theorem rpL_ev2 {H : Hp} {G : DH} : ∀ {ds : List D} {vs : List V}, RpL X.K X.mh H G ds vs → RpL X.K X.mh H G (ev2 ds) (ev2 vs)
  | [], _, .nil => .nil
  | [x], _, .cons r .nil => .cons r .nil
  | x :: y :: xs, _, .cons r (.cons _ t) => .cons r (rpL_ev2 t)
theorem rpL_drop {H : Hp} {G : DH} {k : Nat} : ∀ {ds : List D} {vs : List V}, RpL X.K X.mh H G ds vs → RpL X.K X.mh H G (ds.drop k) (vs.drop k) := by
  induction k with
  | zero => intro xs us r; exact r
  | succ k ih =>
    intro xs us r
    cases r with
    | nil => exact .nil
    | cons _ t => exact ih t
def dEv2 (b : Bool) (te : DE) : DE := fun W δ G Q => te W δ G fun x G1 => match rs G1 x with
  | .lst xs => Q (.lst (ev2 (xs.drop (if b then 1 else 0)))) G1
  | _ => False
theorem up_ev2 {b : Bool} {te : DE} {σ : L2.St} {H : Hp} {Q : VK} {Wx : WX} (h : upE X Wx (dEv2 b te) σ H Q) : tEv2 X.K b (upE X Wx te) σ H Q := by
  obtain ⟨W, δ, G, R, hs, hg, ht, lQ, lW⟩ := h
  exact ⟨W, δ, G, _, hs, hg, ht, fun d G1 H1 v h1 e1 g1 r1 => by
    cases er : rs G1 d with
    | lst xs =>
      rw [er] at h1
      obtain ⟨a, vs, rfl, ha, ra⟩ := rs_lst g1 r1 er
      exact ⟨a, vs, rfl, .inl (.inl ha), fun p hp => lQ _ G1 _ _ h1 (e1.trans (Ext.newF hp)) (g1.newF hp) (.lst (g1.free hp) upd_same ((rpL_ev2 (rpL_drop ra)).ext (Ext.newF hp)))⟩
    | _ => rw [er] at h1; exact h1.elim, lW⟩
theorem pd_ev2n {e : Expr} {te : DE} {k : Nat} {p1 p3 pos : Pos} (he : PD X lv cm e te) : PD X lv cm (.Subscript e (.Slice none none (some (.Constant (.int 2) k p1)) p3) pos) (dEv2 false te) := fun gd Wx tk => pe_imp (pe_ev2n (he gd Wx tk)) fun σ H Q h => up_ev2 h
theorem pd_ev2s {e : Expr} {te : DE} {k k' : Nat} {p0 p1 p3 pos : Pos} (he : PD X lv cm e te) : PD X lv cm (.Subscript e (.Slice (some (.Constant (.int 1) k' p0)) none (some (.Constant (.int 2) k p1)) p3) pos) (dEv2 true te) := fun gd Wx tk => pe_imp (pe_ev2s (he gd Wx tk)) fun σ H Q h => up_ev2 h
/-! ### 70. x.split(y) -/
def dSplit (to te : DE) : DE := fun W δ G Q => to W δ G fun x G1 => match x with
  | .str a => te W δ G1 fun y G2 => match y with
    | .str b => ((b.length == 0) = false ∧ a.length + 2 ≤ sizeLine) ∧ Q (.lst ((Txt.split a b).map D.str)) G2
    | _ => False
  | _ => False
theorem rpL_strs' {K : PySem.W.Frag} {mg : MG} {H : Hp} {G : DH} : ∀ ys : List Str, RpL K mg H G (ys.map D.str) (ys.map V.str)
  | [] => .nil
  | y :: ys => .cons (.str y) (rpL_strs' ys)
theorem pd_split {o e : Expr} {to te : DE} {apos pos : Pos} (ho : PD X lv cm o to) (he : PD X lv cm e te) (hs : starEach [e] X.env = [(false, eval e X.env)] := by rfl) (hbase : attributeBase o "split" X.env (eval o X.env) = eval o X.env := by rfl) (hline : (apos.endLine == pos.line) = true := by rfl) :
    PD X lv cm (.Call (.Attribute o "split" apos) [e] [] pos) (dSplit to te) := fun gd Wx tk =>
  pe_imp (pe_split (ho gd Wx tk) (he gd Wx tk) hs hbase hline) fun σ H Q ⟨W, δ, G, R, hs, hg, ht, lQ, lW⟩ => ⟨W, δ, G, _, hs, hg, ht, fun d G1 H1 v h1 e1 g1 r1 => by
    cases r1 with
    | str a =>
      refine ⟨⟨a, rfl⟩, W, δ, G1, _, hs.ext e1, g1, h1, fun y G2 H2 w h2 e2 g2 r2 => ?_, fun ex δ' G' σ' H' cls dd hw e2 => lW ex δ' G' σ' H' cls dd hw (e1.trans e2)⟩
      cases r2 with
      | str b => exact ⟨a, b, rfl, rfl, h2.1.1, h2.1.2, fun p hp => lQ _ G2 _ _ h2.2 ((e1.trans e2).trans (Ext.newF hp)) (g2.newF hp) (.lst (g2.free hp) upd_same (rpL_strs' _))⟩
      | _ => exact h2.elim
    | _ => exact h1.elim, lW⟩
/-! ### 71. o.f += e, of numbers -/
def dAugF (n f : Str) (to te : DE) : DS := fun D δ G => to D.ex δ G fun x G1 => match x with
  | .ref a => match G1 a with
    | some (.ins c fs) => (c.nm = n ∧ f ∈ c.fl) ∧ (match (c.fl.zip fs).lookup f with
      | some (.int i) => te D.ex δ G1 fun y G2 => match y with
        | .int j => match G2 a with
          | some (.ins c' fs') => (c'.nm = n ∧ fs'.length < 1000) ∧ (match putD c'.fl fs' f (.int (i + j)) with
            | some fs'' => D.nx δ (upG G2 a (.ins c' fs''))
            | none => False)
          | _ => False
        | _ => False
      | _ => False)
    | _ => False
  | _ => False
theorem pds_augF {n f : Str} {fl : List Str} {o e : Expr} {to te : DE} {tpos pos : Pos} (T : ClsOk X n fl) (hf : f ∈ fl) (ho : PD X lv cm o to) (he : PD X lv cm e te) : PDS X lv cm (.AugAssign (.Attribute o f tpos) .Add e pos) (dAugF n f to te) := fun gd Wx tk =>
  ps_imp (ps_fldaug (ho gd Wx tk) (he gd Wx tk) in_add) fun D σ H ⟨DD, δ, G, hs, hg, ht, l1, l2, l3, l4, l5⟩ =>
    ⟨DD.ex, δ, G, _, hs, hg, ht, fun x G1 H1 v h1 e1 g1 r1 => by
      obtain ⟨C', mC, cC, nC⟩ := T.ex
      cases r1 with
      | ref a =>
        simp only at h1
        cases ea : G1 a with
        | none => simp only [ea] at h1
        | some w =>
          simp only [ea] at h1
          have ob := g1 a w ea
          cases ob with
          | tb _ => exact h1.elim
          | mx _ _ => exact h1.elim
          | ins m e3 n3 ra =>
            simp only at h1
            rename_i c C dx fs ds
            obtain ⟨⟨en, hfl⟩, h1⟩ := h1
            have m0 := m
            rw [en, show X.mh.g n = _ from mC] at m
            cases m
            cases el : (c.fl.zip ds).lookup f with
            | none => rw [el] at h1; exact h1.elim
            | some dd =>
              rw [el] at h1
              obtain ⟨u, hu, ru⟩ := zip_lookup n3 ra el
              cases ru with
              | int i =>
                simp only at h1
                refine ⟨a, C', dx, fs, _, rfl, e3, cC, nC f hf, hu, DD.ex, δ, G1, _, hs.ext e1, g1, h1, fun y G2 H2 v2 h2 e2 g2 r2 => ?_, fun ex δ2 G2 σ2 H2 cls dd hh e2 => l5 ex δ2 G2 σ2 H2 cls dd hh (e1.trans e2)⟩
                cases r2 with
                | int j =>
                  simp only at h2
                  cases eb : G2 a with
                  | none => simp only [eb] at h2
                  | some w2 =>
                    simp only [eb] at h2
                    have ob2 := g2 a w2 eb
                    cases ob2 with
                    | tb _ => exact h2.elim
                    | mx _ _ => exact h2.elim
                    | ins m2 e4 n4 rb =>
                      simp only at h2
                      rename_i c' C2 dx' fs' ds'
                      obtain ⟨⟨en2, hl⟩, h2⟩ := h2
                      have m20 := m2
                      rw [en2, show X.mh.g n = _ from mC] at m2
                      cases m2
                      cases ep : putD c'.fl ds' f (.int (i + j)) with
                      | none => rw [ep] at h2; exact h2.elim
                      | some ds'' =>
                        rw [ep] at h2
                        obtain ⟨q1, q2⟩ := putD_put (.int (i + j)) n4 rb ep
                        have ext := Ext.write (H := H2) (o := .ins c' ds'') (u := .ins C' dx' (putF f (.int (i + j)) fs')) eb
                        have hlen : fs'.length < 1000 := by
                          have := rb.length
                          rw [List.length_map] at this
                          omega
                        exact ⟨i, j, rfl, rfl, dx', fs', e4, hlen, l1 δ _ σ _ h2 ((e1.trans e2).trans ext) (hs.ext ((e1.trans e2).trans ext)) (g2.upd ext (.ins m20 upd_same q1 (q2.ext ext)))⟩
                    | lst _ _ => exact h2.elim
                    | dct _ _ => exact h2.elim
                | _ => exact h2.elim
              | _ => exact h1.elim
          | lst _ _ => exact h1.elim
          | dct _ _ => exact h1.elim
      | _ => exact h1.elim, l5⟩
/-! ### 72. a dict and {} -/
def isDct0 : D → Option Nat := fun d => match d with
  | .dct kvs => some kvs.length
  | _ => none
def rEqD0 : R2D := fun x y G Q => match isDct0 (rs G x), isDct0 (rs G y) with
  | some n, some 0 => Q (.bl (n == 0)) G
  | _, _ => False
theorem rs_dct0 {H : Hp} {G : DH} {d : D} {v : V} {n : Nat} (hg : HpOk X.K X.mh H G) (r : Rp X.K X.mh H G d v) (h : isDct0 (rs G d) = some n) : ∃ a vs, v = .ref a ∧ Rd H a (.dK vs) ∧ vs.length = n := by
  cases r with
  | dct g e ra =>
    simp only [rs, isDct0, Option.some.injEq] at h
    exact ⟨_, _, rfl, e, by rw [← h, ra.length]⟩
  | ref a =>
    cases ea : G a with
    | none => simp only [rs, ea, isDct0] at h; cases h
    | some o =>
      have ob := hg a o ea
      cases ob with
      | dct e ra =>
        simp only [rs, ea, isDct0, Option.some.injEq] at h
        exact ⟨_, _, rfl, .inl e, by rw [← h, ra.length]⟩
      | lst _ _ => simp only [rs, ea, isDct0] at h; cases h
      | ins _ _ _ _ => simp only [rs, ea, isDct0] at h; cases h
      | tb _ => simp only [rs, ea, isDct0] at h; cases h
      | mx _ _ => simp only [rs, ea, isDct0] at h; cases h
  | _ => simp only [rs, isDct0] at h; cases h
theorem od_eqD0 : OpD X lv cm (compareOp .Eq) rEqD0 := by
  intro gd pins s σ H G dx dy x y v u Q R I rx ry hg r1 r2 h l
  unfold rEqD0 at h
  cases e1 : isDct0 (rs G dx) with
  | none => rw [e1] at h; exact h.elim
  | some n =>
    cases e2 : isDct0 (rs G dy) with
    | none => rw [e1, e2] at h; exact h.elim
    | some m =>
      rw [e1, e2] at h
      cases m with
      | succ m => exact h.elim
      | zero =>
        obtain ⟨a, vs, rfl, ha, hn⟩ := rs_dct0 hg r1 e1
        obtain ⟨b, us, rfl, hb, hm⟩ := rs_dct0 hg r2 e2
        obtain rfl : v = Value.ref a := rx
        obtain rfl : u = Value.ref b := ry
        have hu : X.A.units < cLine := by have := gd.un; omega
        obtain ⟨_, ya, va, ra, da⟩ := dk_rd I.hok ha
        obtain ⟨_, yb, vb, rb, db⟩ := dk_rd I.hok hb
        have la := ra.length
        have lb := rb.length
        refine PySem.W.keq_eq (knd := mixKind X.prog X.w) (r := true) ya yb da db hu (fun hl => ?_) (fin_bl I (l _ G H _ h (Ext.refl _ _) hg (.bl _)) ?_)
        · have : va = [] := List.length_eq_zero_iff.mp (by omega)
          rw [this]
          exact .nil
        · rw [Bool.and_true, ← la, ← lb, hn, hm]
/-! ### 73. is, is not, of truths -/
def rIsB : R2D := fun x y G Q => match x, y with
  | .bl a, .bl b => Q (.bl (a == b)) G
  | _, _ => False
def rNotB : R2D := fun x y G Q => match x, y with
  | .bl a, .bl b => Q (.bl (a != b)) G
  | _, _ => False
theorem od_isB : OpD X lv cm (compareOp .Is) rIsB := by
  intro gd pins s σ H G dx dy x y v u Q R I rx ry hg r1 r2 h l
  unfold rIsB at h
  split at h
  · rename_i a b
    cases r1; cases r2
    obtain rfl : v = Value.bool a := rx
    obtain rfl : u = Value.bool b := ry
    have q := l _ G H _ h (Ext.refl _ _) hg (.bl _)
    by_cases e : a = b
    · subst e
      exact wpAny_is_self rfl ⟨.bl true, H, I, rfl, by simpa using q⟩
    · exact wpAny_is_other rfl (fun z => e (Value.bool.inj z)) ⟨.bl false, H, I, rfl, by rw [show (a == b) = false by simpa using e] at q; exact q⟩
  · exact h.elim
theorem od_notB : OpD X lv cm (compareOp .IsNot) rNotB := by
  intro gd pins s σ H G dx dy x y v u Q R I rx ry hg r1 r2 h l
  unfold rNotB at h
  split at h
  · rename_i a b
    cases r1; cases r2
    obtain rfl : v = Value.bool a := rx
    obtain rfl : u = Value.bool b := ry
    have q := l _ G H _ h (Ext.refl _ _) hg (.bl _)
    by_cases e : a = b
    · subst e
      exact wpAny_isNot_self rfl ⟨.bl false, H, I, rfl, by simpa using q⟩
    · exact wpAny_isNot_other rfl (fun z => e (Value.bool.inj z)) ⟨.bl true, H, I, rfl, by rw [show (a != b) = true by simpa using e] at q; exact q⟩
  · exact h.elim
end
end DL

/-! ### 74. {"a": x, ..}, to be changed -/
namespace DL
open L2 PyProof.Rows PySem PySem.Spec
def dPairs : List (Str × DE) → DW → Sl → DH → (List (Key × D) → DH → Prop) → Prop
  | [], W, δ, G, R => R [] G
  | (k, t) :: r, W, δ, G, R => t W δ G fun v G1 => dPairs r W δ G1 fun kvs G2 => R ((Sum.inr k, v) :: kvs) G2
def dDispS (kts : List (Str × DE)) : DE := fun W δ G Q => ∀ p, G p = none → dPairs kts W δ (upG G p (.dct [])) fun kvs G2 => G2 p = some (.dct []) ∧ Q (.ref p) (upG G2 p (.dct kvs))
def PDP (X : Cx) (lv : Nat) (cm : Bool) (pos : Pos) (keys : List (Option Expr)) (vs : List Expr) (kts : List (Str × DE)) : Prop :=
  Gd X lv cm → ∀ Wx, Takes X Wx → PPs X pos keys vs (kts.map fun kt => (upE X Wx (dC (.str kt.1)), upE X Wx kt.2))
section
variable {X : Cx} {lv : Nat} {cm : Bool} {pos : Pos}
theorem pdp_nil : PDP X lv cm pos [] [] [] := fun _ _ _ => pps_nil
theorem pdp_cons {k : Str} {kk : Nat} {p : Pos} {v : Expr} {t : DE} {ks : List (Option Expr)} {vs : List Expr} {kts : List (Str × DE)} (hv : PD X lv cm v t) (hr : PDP X lv cm pos ks vs kts) :
    PDP X lv cm pos (some (.Constant (.str k) kk p) :: ks) (v :: vs) ((k, t) :: kts) := fun gd Wx tk => pps_cons (pd_str gd Wx tk) (hv gd Wx tk) (hr gd Wx tk)
theorem up_pairs {Wx : WX} : ∀ (kts : List (Str × DE)) {σ : L2.St} {H : Hp} {G : DH} {W : DW} {δ : Sl} {R : List (Key × D) → DH → Prop} {Q : List (V × V) → Hp → Prop},
    StOk X.K X.mh H G δ σ → HpOk X.K X.mh H G → dPairs kts W δ G R →
    (∀ kvs G' H' ws, R kvs G' → Ext H G H' G' → HpOk X.K X.mh H' G' → RpK X.K X.mh H' G' kvs ws → kvs.map (·.1) = kts.map (fun kt => (Sum.inr kt.1 : Key)) → Q (ws.map fun kv => (kV kv.1, kv.2)) H') →
    (∀ ex δ' G' σ' H' cls dd, W ex δ' G' → Ext H G H' G' → StOk X.K X.mh H' G' δ' σ' → HpOk X.K X.mh H' G' → ExOk X.K X.mh H' G' ex cls dd → Wx cls dd σ' H') →
    tPairs (kts.map fun kt => (upE (X := X) Wx (dC (.str kt.1)), upE (X := X) Wx kt.2)) σ H Q
  | [], σ, H, G, W, δ, R, Q, hs, hg, h, k, lW => k [] G H [] h (Ext.refl _ _) hg .nil rfl
  | (s, t) :: r, σ, H, G, W, δ, R, Q, hs, hg, h, k, lW =>
    ⟨W, δ, G, fun d G1 => d = .str s ∧ G1 = G, hs, hg, ⟨rfl, rfl⟩, fun d G1 H1 v ⟨ed, eg⟩ e1 g1 r1 => by
      subst ed; subst eg
      cases r1
      exact ⟨W, δ, G1, _, hs.ext e1, g1, h, fun d2 G2 H2 y h2 e2 g2 r2 => up_pairs r (hs.ext (e1.trans e2)) g2 h2
        (fun kvs G3 H3 ws h3 e3 g3 r3 ek => k _ G3 H3 ((Sum.inr s, y) :: ws) h3 ((e1.trans e2).trans e3) g3 (.cons (r2.ext e3) r3) (by simp [ek]))
        (fun ex δ' G' σ' H' cls dd hw e3 => lW ex δ' G' σ' H' cls dd hw ((e1.trans e2).trans e3)),
        fun ex δ' G' σ' H' cls dd hw e2 => lW ex δ' G' σ' H' cls dd hw (e1.trans e2)⟩, lW⟩
theorem rpK_keys {H : Hp} {G : DH} : ∀ {ds : List (Key × D)} {vs : List (Key × V)}, RpK X.K X.mh H G ds vs → vs.map (·.1) = ds.map (·.1)
  | [], _, .nil => rfl
  | (_, _) :: ds, _, .cons _ t => by rw [List.map_cons, List.map_cons, rpK_keys t]
theorem merge_new : ∀ (ws acc : List (Key × V)), ((acc ++ ws).map (·.1)).Nodup → mergeK acc ws = acc ++ ws
  | [], acc, _ => by simp [mergeK]
  | (k, v) :: ws, acc, h => by
    have hk : (acc.any fun kv => decide (kv.1 = k)) = false := by
      rw [List.any_eq_false]
      intro kv hm z
      rw [decide_eq_true_eq] at z
      rw [List.map_append, List.nodup_append] at h
      exact h.2.2 kv.1 (List.mem_map.mpr ⟨kv, hm, rfl⟩) k (by simp) z
    have e : mergeK acc ((k, v) :: ws) = mergeK (putK acc k v) ws := rfl
    have e2 : putK acc k v = acc ++ [(k, v)] := by
      unfold putK
      rw [hk, if_neg Bool.false_ne_true]
    rw [e, e2, merge_new ws (acc ++ [(k, v)]) (by simpa using h)]
    simp
theorem pd_dispS {keys : List (Option Expr)} {vs : List Expr} {kts : List (Str × DE)} (h : PDP X lv cm pos keys vs kts) (hall : keys.all (·.isSome) = true := by rfl) (hl : keys.length = vs.length := by rfl) (h0 : keys ≠ [] := by simp) (h15 : keys.length ≤ 15 := by decide)
    (hk : kts.length ≤ 15 := by decide) (hnd : (kts.map (fun kt => (Sum.inr kt.1 : Key))).Nodup := by decide) : PD X lv cm (.Dict keys vs pos) (dDispS kts) := fun gd Wx tw =>
  pe_imp (pe_disp (h gd Wx tw) hall hl h0 h15) fun σ H Q ⟨W, δ, G, R, hs, hg, ht, lQ, lW⟩ => by
    intro p hp
    have e0 : Ext H G (L2.upd H p (.dK [])) (upG G p (.dct [])) := Ext.new hp
    refine up_pairs kts (hs.ext e0) (HpOk.new hg hp (.dct upd_same .nil)) (ht p (hg.free hp)) (fun kvs G2 H2 ws ⟨gp, hq⟩ e1 g1 r1 ek => ?_) fun ex δ' G' σ' H' cls dd hw e2 => lW ex δ' G' σ' H' cls dd hw (e0.trans e2)
    have ob := g1 p _ gp
    cases ob with
    | dct e3 ra =>
      cases ra
      have ew := (rpK_keys r1).trans ek
      have wl : ws.length ≤ 15 := by
        have := congrArg List.length ew
        rw [List.length_map, List.length_map] at this
        omega
      have wr := Ext.write (H := H2) (o := .dct kvs) (u := .dK (mergeK [] ws)) gp
      have em : mergeK [] ws = ws := by
        have h := merge_new ws [] (by rw [List.nil_append, ew]; exact hnd)
        rwa [List.nil_append] at h
      refine ⟨e3, ws, rfl, wl, ?_⟩
      rw [em] at wr ⊢
      exact lQ _ _ _ _ hq ((e0.trans e1).trans wr) (g1.upd wr (.dct upd_same (r1.ext wr))) (.ref p)
/-! ### 75. x.split(y), to be changed -/
def dSplitM (to te : DE) : DE := fun W δ G Q => to W δ G fun x G1 => match x with
  | .str a => te W δ G1 fun y G2 => match y with
    | .str b => ((b.length == 0) = false ∧ a.length + 2 ≤ sizeLine) ∧ ∀ p, G2 p = none → Q (.ref p) (upG G2 p (.lst ((Txt.split a b).map D.str)))
    | _ => False
  | _ => False
theorem pd_splitM {o e : Expr} {to te : DE} {apos pos : Pos} (ho : PD X lv cm o to) (he : PD X lv cm e te) (hs : starEach [e] X.env = [(false, eval e X.env)] := by rfl) (hbase : attributeBase o "split" X.env (eval o X.env) = eval o X.env := by rfl) (hline : (apos.endLine == pos.line) = true := by rfl) :
    PD X lv cm (.Call (.Attribute o "split" apos) [e] [] pos) (dSplitM to te) := fun gd Wx tk =>
  pe_imp (pe_split (ho gd Wx tk) (he gd Wx tk) hs hbase hline) fun σ H Q ⟨W, δ, G, R, hs, hg, ht, lQ, lW⟩ => ⟨W, δ, G, _, hs, hg, ht, fun d G1 H1 v h1 e1 g1 r1 => by
    cases r1 with
    | str a =>
      refine ⟨⟨a, rfl⟩, W, δ, G1, _, hs.ext e1, g1, h1, fun y G2 H2 w h2 e2 g2 r2 => ?_, fun ex δ' G' σ' H' cls dd hw e2 => lW ex δ' G' σ' H' cls dd hw (e1.trans e2)⟩
      cases r2 with
      | str b => exact ⟨a, b, rfl, rfl, h2.1.1, h2.1.2, fun p hp => lQ _ _ _ _ (h2.2 p (g2.free hp)) ((e1.trans e2).trans (Ext.new hp)) (HpOk.new g2 hp (.lst upd_same (rpL_strs' _))) (.ref p)⟩
      | _ => exact h2.elim
    | _ => exact h1.elim, lW⟩
/-! ### 76. x.isdigit() -/
def dIsdigit (to : DE) : DE := fun W δ G Q => to W δ G fun x G1 => match x with
  | .str a => Q (.bl (Txt.isdigit a)) G1
  | _ => False
theorem pe_isdigit {X : Cx} {o : Expr} {to : TE} {apos pos : Pos} (ho : PE X o to) (hbase : attributeBase o "isdigit" X.env (eval o X.env) = eval o X.env := by rfl) (hline : (apos.endLine == pos.line) = true := by rfl) :
    PE X (.Call (.Attribute o "isdigit" apos) [] [] pos) (tM0 (fun x xs H Q => ∃ a, x = .str a ∧ xs = [] ∧ True ∧ Q (.bl (Txt.isdigit a)) H) to) :=
  pe_m0 F.slot_str_isdigit F.type_str_isdigit mt_isdigit ho hbase hline
theorem pd_isdigit {o : Expr} {to : DE} {apos pos : Pos} (ho : PD X lv cm o to) (hbase : attributeBase o "isdigit" X.env (eval o X.env) = eval o X.env := by rfl) (hline : (apos.endLine == pos.line) = true := by rfl) :
    PD X lv cm (.Call (.Attribute o "isdigit" apos) [] [] pos) (dIsdigit to) := fun gd Wx tk =>
  pe_imp (pe_isdigit (ho gd Wx tk) hbase hline) fun σ H Q ⟨W, δ, G, R, hs, hg, ht, lQ, lW⟩ => ⟨W, δ, G, _, hs, hg, ht, fun d G1 H1 v h1 e1 g1 r1 => by
    cases r1 with
    | str a => exact ⟨⟨a, rfl⟩, a, rfl, rfl, trivial, lQ _ G1 H1 _ h1 e1 g1 (.bl _)⟩
    | _ => exact h1.elim, lW⟩
/-! ### 77. xs[k::2] -/
theorem pick2k (items : Array Value) (k0 : Nat) : slicePick items (some (k0 : Int)) none (some 2) = (ev2 (items.toList.drop k0)).toArray := by
  have hb : sliceBounds (some (k0 : Int)) none (some 2) items.size = (((min k0 items.size : Nat) : Int), (items.size : Int), 2) := by
    simp only [sliceBounds]
    simp
    omega
  unfold slicePick
  rw [hb]
  congr 1
  show (sliceRange ((min k0 items.size : Nat) : Int) (items.size : Int) 2).filterMap (items[·]?) = _
  unfold sliceRange
  generalize hk : (min k0 items.size : Nat) = k
  have hkn : k ≤ items.size := by subst hk; omega
  simp only [show ((2 : Int) > 0) = True by simp, if_true]
  have hd : items.toList.drop k0 = items.toList.drop k := by
    subst hk
    by_cases hz : k0 ≤ items.size
    · rw [Nat.min_eq_left hz]
    · rw [Nat.min_eq_right (by omega), List.drop_of_length_le (by rw [Array.length_toList]; omega), List.drop_of_length_le (by rw [Array.length_toList]; omega)]
  rw [hd, List.filterMap_map]
  have hlen : (ev2 (items.toList.drop k)).length = (items.size - k + 1) / 2 := by rw [ev2_len, List.length_drop, Array.length_toList]
  have main : ∀ n : Nat, n = (items.size - k + 1) / 2 → (List.range n).filterMap ((fun x => items[x]?) ∘ fun (m : Nat) => ((k : Int) + 2 * (m : Int)).toNat) = ev2 (items.toList.drop k) := fun n hn => by
    refine pick_all _ n _ (by rw [hlen, hn]) fun m hm => ?_
    rw [ev2_get, List.getElem?_drop, Array.getElem?_toList]
    show items[((k : Int) + 2 * (m : Int)).toNat]? = _
    rw [show ((k : Int) + 2 * (m : Int)).toNat = k + 2 * m by omega]
  refine main _ ?_
  split <;> omega
def tEvk (K : PySem.W.Frag) (k0 : Nat) (te : TE) : TE := fun σ H Q => te σ H fun x H1 => ∃ a xs, x = .ref a ∧ SqL K H1 a xs ∧ ∀ p, H1 p = none → Q (.ref p) (L2.upd H1 p (.lst (ev2 (xs.drop k0))))
theorem pe_evk {X : Cx} {e : Expr} {te : TE} {k0 k k' : Nat} {p0 p1 p3 pos : Pos} (he : PE X e te) : PE X (.Subscript e (.Slice (some (.Constant (.int (k0 : Nat)) k' p0)) none (some (.Constant (.int 2) k p1)) p3) pos) (tEvk X.K k0 te) := by
  refine ⟨fun pins s σ H Q I h => ?_⟩
  refine Subscript_ (thn (he.run pins s σ H _ I h) fun v s1 ⟨x, H1, I1, r1, q1⟩ => ?_)
  obtain ⟨a, xs, ex, hx, q⟩ := q1
  subst ex
  cases r1
  have hst : PO X (some (.Constant (.int 2) k p1)) (tPart (tC (.int 2))) := po_some pe_int
  have hlo : PO X (some (.Constant (.int (k0 : Nat)) k' p0)) (tPart (tC (.int (k0 : Nat)))) := po_some pe_int
  refine wpAny_Slice (thn (hlo.run pins s1 σ H1 (fun o H2 => o = some (k0 : Int) ∧ H2 = H1) I1 ⟨_, rfl, rfl, rfl⟩) fun vl s2 ⟨l, H2, I2, pl, el, e2⟩ => ?_)
  subst el e2
  refine thn (po_none.run pins s2 σ H2 (fun o H3 => o = none ∧ H3 = H2) I2 ⟨rfl, rfl⟩) fun vu s3 ⟨u, H3, I3, pu, eu, e3⟩ => ?_
  subst eu e3
  refine thn (hst.run pins s3 σ H3 (fun o H4 => o = some 2 ∧ H4 = H3) I3 ⟨2, rfl, rfl, rfl⟩) fun vs s4 ⟨o, H4, I4, ps, eo, e4⟩ => ?_
  subst eo e4
  have I5 : Inv X pins σ H4 { s4 with heap := s4.heap.push { cls := .type "slice", data := .fields #[vl, vu, vs] } } := I4.kept (t' := s4.toks) fun b ob q => Heap.get?_push_of_some _ q
  obtain ⟨its, r, ht, hz⟩ := I5.list hx
  have hlen := r.length
  refine tail_any (ops := [.ref a, .ref s4.heap.objs.size]) ht.isList.typeIs (PySem.slot_list_getitem.lookup) ?_ (by with_unfolding_all rfl)
  refine wpAny_getItem_list_slice ht.isList (Heap.IsSliceOf.new _ vl vu vs) pl pu ps (by decide) ?_ (by rw [List.size_toArray]; omega)
  rw [pick2k]
  refine ⟨.ref _, _, I5.laid (t' := s4.toks) (o := .lst (ev2 (xs.drop k0))) (fun b ob q => Heap.get?_push_of_some _ q) (Nat.le_refl _) ?_, rfl, q _ (I5.hok.fresh (Nat.le_refl _))⟩
  refine ⟨?_, _, 0, vals_ev2 (vals_drop r), Heap.get?_push_size _ rfl⟩
  have h1 := ev2_le (xs.drop k0)
  rw [List.length_drop] at h1
  omega
def dEvk (k0 : Nat) (te : DE) : DE := fun W δ G Q => te W δ G fun x G1 => match rs G1 x with
  | .lst xs => Q (.lst (ev2 (xs.drop k0))) G1
  | _ => False
theorem pd_evk {e : Expr} {te : DE} {k0 k k' : Nat} {p0 p1 p3 pos : Pos} (he : PD X lv cm e te) : PD X lv cm (.Subscript e (.Slice (some (.Constant (.int (k0 : Nat)) k' p0)) none (some (.Constant (.int 2) k p1)) p3) pos) (dEvk k0 te) := fun gd Wx tk =>
  pe_imp (pe_evk (he gd Wx tk)) fun σ H Q ⟨W, δ, G, R, hs, hg, ht, lQ, lW⟩ => ⟨W, δ, G, _, hs, hg, ht, fun d G1 H1 v h1 e1 g1 r1 => by
    cases er : rs G1 d with
    | lst xs =>
      rw [er] at h1
      obtain ⟨a, vs, rfl, ha, ra⟩ := rs_lst g1 r1 er
      exact ⟨a, vs, rfl, .inl (.inl ha), fun p hp => lQ _ G1 _ _ h1 (e1.trans (Ext.newF hp)) (g1.newF hp) (.lst (g1.free hp) upd_same ((rpL_ev2 (rpL_drop ra)).ext (Ext.newF hp)))⟩
    | _ => rw [er] at h1; exact h1.elim, lW⟩
/-! ### 78. x, y, z = a, b, c -/
def dPar3 (i j l : Nat) (t : DA) : DS := fun D δ G => t D.ex δ G fun ds G1 => match ds with
  | [a, b, c] => D.nx (((δ.set i (some a)).set j (some b)).set l (some c)) G1
  | _ => False
theorem pds_par3 {i j l : Nat} {x y z : Str} {a b c : Expr} {t : DA} {px py pz pt pos : Pos} {kt k2 pt2} (hN : X.N.Nodup) (hi : X.N[i]? = some x) (hj : X.N[j]? = some y) (hl : X.N[l]? = some z) (hij : i ≠ j) (hil : i ≠ l) (hjl : j ≠ l)
    (hx : X.env.scope.names.lookup x = some .local) (hy : X.env.scope.names.lookup y = some .local) (hz : X.env.scope.names.lookup z = some .local) (ha : PDA X lv true [a, b, c] t)
    (hw : swappedStores [.Tuple [.Name x px, .Name y py, .Name z pz] kt pt] (.Tuple [a, b, c] k2 pt2) X.env = pure (some [x, y, z]) := by rfl)
    (hs : swapsWithSole [.Tuple [.Name x px, .Name y py, .Name z pz] kt pt] (.Tuple [a, b, c] k2 pt2) pos.line X.env = pure false := by rfl) :
    PDS X lv true (.Assign [.Tuple [.Name x px, .Name y py, .Name z pz] kt pt] (.Tuple [a, b, c] k2 pt2) pos) (dPar3 i j l t) := fun gd Wx tk =>
  ps_imp (ps_par3 (gd.cl rfl) hN hi hj hl hij hil hjl hx hy hz (ha gd Wx tk) hw hs) fun D σ H ⟨DD, δ, G, hs, hg, ht, l1, l2, l3, l4, l5⟩ => ⟨DD.ex, δ, G, _, hs, hg, ht, fun ds G1 H1 vs h1 e1 g1 r1 => by
    match ds, r1, h1 with
    | [d1, d2, d3], .cons r1 (.cons r2 (.cons r3 .nil)), h1 => exact ⟨_, _, _, rfl, l1 _ G1 _ H1 h1 e1 ((((hs.ext e1).set i r1).set j r2).set l r3) g1⟩
    | [], _, h => exact h.elim
    | [_], _, h => exact h.elim
    | [_, _], _, h => exact h.elim
    | _ :: _ :: _ :: _ :: _, _, h => exact h.elim, l5⟩
end
end DL

/-! ### 69. try with several clauses, each by a name -/
namespace DL
open L2 PyProof.Rows PySem PySem.Spec PySem.W
/-- a clause: what it catches, the slot of its name, its suite's reading -/
structure Cl where
  c : Value
  i : Nat
  ts : Addr → Value → Option Addr → TS
def wCl (K : PySem.W.Frag) (Wo : WX) (D : Ends) : List Cl → WX
  | [] => Wo
  | k :: ks => wAs K k.c k.i k.ts (wCl K Wo D ks) D
inductive ClOk (X : Cx) : List ExceptHandler → List Cl → Prop
  | nil : ClOk X [] []
  | cons {x n : Str} {k : Cl} {b₀ : Stmt} {su : List Stmt} {np p : Pos} {hds : List ExceptHandler} {ks : List Cl} (hc : Names X x k.c) (hN : X.N[k.i]? = some n) (hl : X.env.kindOf n = some .local)
      (hsu : ∀ (a : Addr) (ob : Obj) (cl : Value) (dd : Option Addr) (pn : List (Addr × Obj)), Zc cl dd ob → (∃ vs, ob.data = .fields vs) → PSs (X.suite a ((a, ob) :: pn)) (b₀ :: su) (k.ts a cl dd)) (r : ClOk X hds ks) :
      ClOk X (.ExceptHandler (some (.Name x np)) (some n) (b₀ :: su) p :: hds) (k :: ks)
section
variable {X : Cx} {body : List Stmt} {h₀ : ExceptHandler} {hds : List ExceptHandler} {ks : List Cl} {pos : Pos} {tb : WX → TS} {Wo : WX}
theorem ps_try_cl (es : X.stack = X.env :: X.outer) (ef : X.env.frame = some X.env.locals) (nd : X.N.Nodup) (tk : Takes X Wo)
    (hb : ∀ (W : WX) (pn : List (Addr × Obj)) (xe : Value → Shared → Prop), Takes (X.tr pn xe) W → PassesOwn (model X.prog X.w) X.A X.env xe → PSs (X.tr pn xe) body (tb W))
    (oks : ClOk X (h₀ :: hds) ks) : PS X (.Try body (h₀ :: hds) [] [] pos) (fun D σ H => tb (wCl X.K Wo D ks) D σ H) := by
  refine ⟨fun pins s σ H D I hyp => ?_⟩
  have okX := I.ok
  have frX : X.A.frames = some (X.env :: X.outer) := okX.frames.trans (by rw [es])
  refine wpAny_Try_except (wpAny_mono ((hb (wCl X.K Wo D ks) (X.pn ++ pins) (fun e s₁ => wpAny (model X.prog X.w) X.A (noteFrame e X.env) (fun _ s₂ => wpAny (model X.prog X.w) X.A (setFlight e none) (fun _ s₃ =>
    wpAny (model X.prog X.w) X.A (handleBy e X.env (h₀ :: hds)) (SP X pins D) X.xe s₃) X.xe s₂) X.xe s₁) (fun u s' caught => ?_) PassesOwn.looking).run [] s σ H D (I.toTry _) hyp) (fun fl s1 sp => ?_) (fun _ _ z => z))
  · obtain ⟨a, B, sI, pins', σ1, H1, cls, d, rfl, J0, nb, up, sky, na, os, ag, w⟩ := caught
    have J : Inv X pins σ1 H1 sI := J0.ofTry okX
    show wpAny (model X.prog X.w) X.A (noteFrame (.ref a) X.env) _ _ _
    refine Sky.land Zc.steady frX ef (show Sky B (X.env :: X.outer) a (Zc cls d) X.env.locals s'.heap by rw [← es]; exact sky) fun hp fly upp => ?_
    have Jp : Inv X pins σ1 H1 { s' with heap := hp } := J.landed nb fly.1 (up.trans upp) os ag
    obtain ⟨ob, vs, hob, hz, hdt⟩ := fly.there
    have nfr : a ∉ frs (X.env :: X.outer) := fun hm => by
      obtain ⟨_, o2, e2, hnf⟩ := fly.2.2.1.mem hm
      rw [hob] at e2; cases e2; exact hnf _ hdt
    have nL : a ≠ X.env.locals := fun z => nfr (List.mem_filterMap.mpr ⟨_, List.mem_cons_self, by rw [ef, z]⟩)
    have nF : a ∉ X.fs := fun hm => by
      obtain ⟨e, me, q⟩ := List.mem_filterMap.mp hm; exact nfr (List.mem_filterMap.mpr ⟨e, .tail _ me, q⟩)
    have Sp := Jp.suite hob hdt na nL nF
    have main : ∀ {hs' : List ExceptHandler} {ks' : List Cl}, ClOk X hs' ks' → wCl X.K Wo D ks' cls d σ1 H1 → wpAny (model X.prog X.w) X.A (handleBy (.ref a) X.env hs') (SP X pins D) X.xe { s' with heap := hp } := by
      intro hs' ks' hk
      induction hk with
      | nil =>
        intro w
        refine wpAny_handleBy_nil ?_
        obtain ⟨-, -, -, ob2, vs2, T, oT, ts', he2, -, hd2, h12, -⟩ := id fly
        have go : wpAny (model X.prog X.w) X.A (setFlight (.ref a) X.env.frame) (fun _ s4 => wpAny (model X.prog X.w) X.A (throw (.ref a) : Sem Flow) (SP X pins D) X.xe s4) X.xe { s' with heap := hp } := by
          rw [ef]
          exact HandSPX.setFlight_upZ fly fun h4 f4 u4 => wpAny_throw (tk _ _ ⟨a, B, sI, pins, σ1, H1, cls, d, rfl, J, nb, (up.trans upp).trans u4, .inr (.inr (by rw [es]; exact f4)), na, os, ag, w⟩)
        unfold PySem.passOn
        refine wpAny_bind (wpAny_field he2 hd2 h12 ?_)
        rw [if_neg (show ¬ ((Value.ref T == Value.none) = true) by simp)]
        first
          | exact wpAny_bind (wpAny_pure (wpAny_bind go))
          | exact wpAny_bind go
      | @cons x n k b₀ su np p hds2 ks2 hc hN hl hsu r ih =>
        rintro ⟨b, hb1, yes, no⟩
        refine wpAny_handleBy_cons (codeAny_handlers_test ?_) (by intro q; cases q)
        have look : PySem.W.Looks (model X.prog X.w) hp (typeOf (.ref a)) cls := fun A Q E s kp q => wpAny_typeOf_ref (kp _ _ hob) (by rw [hz.1]; exact q)
        have named : ∀ {Q E : Value → Shared → Prop}, Q k.c { s' with heap := hp } → wpAny (model X.prog X.w) (X.A.mark (some (.ref a))) (eval (.Name x np) X.env) Q E { s' with heap := hp } := fun {Q E} q => by
          rcases hc with ⟨g1, g2, m | ⟨m, v1, v2⟩⟩
          · exact ld_glob (X := X.suite a ((a, ob) :: (X.pn ++ pins))) Sp g1 m q g2
          · exact ld_blt (X := X.suite a ((a, ob) :: (X.pn ++ pins))) Sp g1 m v1 q v2 g2
        refine named ((PySem.W.exm_one (M := model X.prog X.w) Jp.kIn look hb1).here ?_)
        cases b with
        | false => exact ih (no rfl)
        | true =>
          refine codeAny_handlers_suite_as (HandSPX.lands_againZ fly fun h4 f4 u4 => ?_)
          obtain ⟨ob4, vs4, hob4, hz4, hdt4⟩ := f4.there
          have S4 := (show Inv X pins σ1 H1 { s' with heap := h4 } from J.landed nb f4.1 ((up.trans upp).trans u4) os ag).suite hob4 hdt4 na nL nF
          refine store_ok (X := X.suite a ((a, ob4) :: (X.pn ++ pins))) (v := .ref a) S4 nd hN (.inl hl) rfl (fun s5 S5 => ?_) (.inr hl)
          refine wpAny_mono ((hsu a ob4 cls d (X.pn ++ pins) hz4 ⟨_, hdt4⟩).run [] s5 _ H1 _ S5 (yes rfl a na)) (fun fl s6 sp => ?_) (fun _ _ z => z.elim)
          have off : ∀ {σ6 : L2.St} {H6 : Hp} {Q : Shared → Prop}, Inv (X.suite a ((a, ob4) :: (X.pn ++ pins))) [] σ6 H6 s6 → (∀ s7, Inv X pins (σ6.set k.i none) H6 s7 → Q s7) →
              wpAny (model X.prog X.w) X.A (do bindName X.env n .none; unbindBehindTheSuite X.env n p) (fun _ s7 => Q s7) X.xe s6 := fun {σ6 H6 Q} S6 hq => gone_ok (S6.unsuite okX) nd hN hl hq
          cases fl with
          | next => obtain ⟨_, _, S6, q6⟩ := sp; exact off S6 fun _ J7 => ⟨_, _, J7, q6⟩
          | brk => obtain ⟨_, _, S6, q6⟩ := sp; exact off S6 fun _ J7 => ⟨_, _, J7, q6⟩
          | cont => obtain ⟨_, _, S6, q6⟩ := sp; exact off S6 fun _ J7 => ⟨_, _, J7, q6⟩
          | ret u => obtain ⟨_, _, _, S6, r6, q6⟩ := sp; exact off S6 fun _ J7 => ⟨_, _, _, J7, r6, q6⟩
    exact main oks w
  · cases fl with
    | next => obtain ⟨_, _, J, q⟩ := sp; exact wpAny_execs_nil ⟨_, _, J.ofTry okX, q⟩
    | brk => obtain ⟨_, _, J, q⟩ := sp; exact ⟨_, _, J.ofTry okX, q⟩
    | cont => obtain ⟨_, _, J, q⟩ := sp; exact ⟨_, _, J.ofTry okX, q⟩
    | ret u => obtain ⟨_, _, _, J, r, q⟩ := sp; exact ⟨_, _, _, J.ofTry okX, r, q⟩
end
/-- try: t, except A as e: u1, except B as e: u2 -/
def dTryAs2 (cat1 cat2 : Str → Option Bool) (i : Nat) (t : DS) (u1 u2 : CI → Addr → Option Addr → DS) : DS := fun D δ G => t { D with ex := fun x δ' G' => match cat1 x.c.nm with
  | some true => ∀ a d, u1 x.c a d { nx := fun δ2 G2 => D.nx (δ2.set i none) G2, rt := D.rt, bk := fun δ2 G2 => D.bk (δ2.set i none) G2, ct := fun δ2 G2 => D.ct (δ2.set i none) G2, ex := fun _ _ _ => False } (δ'.set i (some (.exc x.c x.fs a d))) G'
  | some false => match cat2 x.c.nm with
    | some true => ∀ a d, u2 x.c a d { nx := fun δ2 G2 => D.nx (δ2.set i none) G2, rt := D.rt, bk := fun δ2 G2 => D.bk (δ2.set i none) G2, ct := fun δ2 G2 => D.ct (δ2.set i none) G2, ex := fun _ _ _ => False } (δ'.set i (some (.exc x.c x.fs a d))) G'
    | some false => D.ex x δ' G'
    | none => False
  | none => False } δ G
section
variable {X : Cx} {lv : Nat} {cm : Bool} {n1 n2 n : Str} {i : Nat} {cat1 cat2 : Str → Option Bool} {body su1 su2 : List Stmt} {b₁ b₂ : Stmt} {np1 np2 pos p1 p2 : Pos} {t : DS} {u1 u2 : CI → Addr → Option Addr → DS}
theorem pds_tryAs2 (hN : X.N.Nodup) (hi : X.N[i]? = some n) (hln : X.env.kindOf n = some .local)
    (hcat1 : ∀ n b, cat1 n = some b → Cat X.K X.mg n n1 b) (h1 : ∃ C : Addr, X.mg n1 = some (.ref C)) (hcat2 : ∀ n b, cat2 n = some b → Cat X.K X.mg n n2 b) (h2 : ∃ C : Addr, X.mg n2 = some (.ref C)) (hb : ∀ pn xe, PDSs (X.tr pn xe) lv cm body t)
    (hs1 : ∀ (a : Addr) (oe : Obj) (cls : Value) (d : Option Addr) (pn : List (Addr × Obj)) (c : CI), cat1 c.nm = some true → Zc cls d oe → (∃ vs, oe.data = .fields vs) → (∃ C, X.mg c.nm = some (.ref C) ∧ cls = .ref C) → PDSs (X.suite a ((a, oe) :: pn)) lv false (b₁ :: su1) (u1 c a d))
    (hs2 : ∀ (a : Addr) (oe : Obj) (cls : Value) (d : Option Addr) (pn : List (Addr × Obj)) (c : CI), cat2 c.nm = some true → Zc cls d oe → (∃ vs, oe.data = .fields vs) → (∃ C, X.mg c.nm = some (.ref C) ∧ cls = .ref C) → PDSs (X.suite a ((a, oe) :: pn)) lv false (b₂ :: su2) (u2 c a d))
    (hs : X.stack = X.env :: X.outer := by rfl) (hf : X.env.frame = some X.env.locals := by rfl) (hg1 : Gl X n1 := by rfl) (hdb1 : (n1 == ("__debug__" : Str)) = false := by decide) (hg2 : Gl X n2 := by rfl) (hdb2 : (n2 == ("__debug__" : Str)) = false := by decide) :
    PDS X lv cm (.Try body [.ExceptHandler (some (.Name n1 np1)) (some n) (b₁ :: su1) p1, .ExceptHandler (some (.Name n2 np2)) (some n) (b₂ :: su2) p2] [] [] pos) (dTryAs2 cat1 cat2 i t u1 u2) := fun gd Wx tk => by
  obtain ⟨C1, m1⟩ := h1
  obtain ⟨C2, m2⟩ := h2
  refine ps_imp (ps_try_cl (tb := fun W => upS X W t)
    (ks := [⟨.ref C1, i, fun a cls d D σ H => ∃ c : CI, (cat1 c.nm = some true ∧ ∃ C, X.mg c.nm = some (.ref C) ∧ cls = .ref C) ∧ upS X (fun _ _ _ _ => False) (u1 c a d) D σ H⟩,
            ⟨.ref C2, i, fun a cls d D σ H => ∃ c : CI, (cat2 c.nm = some true ∧ ∃ C, X.mg c.nm = some (.ref C) ∧ cls = .ref C) ∧ upS X (fun _ _ _ _ => False) (u2 c a d) D σ H⟩]) hs hf hN tk
    (fun W pn xe tkW po => hb pn xe ⟨gd.gu, gd.dp, gd.un, gd.hd, gd.cl, po⟩ W tkW)
    (.cons ⟨hg1, hdb1, .inl m1⟩ hi hln (fun a oe cls d pn hz hf => ⟨fun pins s σ H D I ⟨c, ⟨h0, h1⟩, h2⟩ => (hs1 a oe cls d _ c h0 hz hf h1 ⟨gd.gu, gd.dp, gd.un, (fun z => nomatch z), (fun z => nomatch z), .never⟩ _ SkE_takes0).run pins s σ H D I h2⟩)
      (.cons ⟨hg2, hdb2, .inl m2⟩ hi hln (fun a oe cls d pn hz hf => ⟨fun pins s σ H D I ⟨c, ⟨h0, h1⟩, h2⟩ => (hs2 a oe cls d _ c h0 hz hf h1 ⟨gd.gu, gd.dp, gd.un, (fun z => nomatch z), (fun z => nomatch z), .never⟩ _ SkE_takes0).run pins s σ H D I h2⟩) .nil)))
    fun D σ H ⟨DD, δ, G, hs, hgo, ht, l1, l2, l3, l4, l5⟩ => ⟨_, δ, G, hs, hgo, ht, l1, l2, l3, l4, ?_⟩
  rintro x δ' G' σ' H' cls dd hx e1 s1 g1 xo
  obtain ⟨C, mC, rfl, rest⟩ := id xo
  have suite : ∀ (cat : Str → Option Bool) (u : CI → Addr → Option Addr → DS) (a : Addr), cat x.c.nm = some true →
      (∀ a d, u x.c a d { nx := fun δ2 G2 => DD.nx (δ2.set i none) G2, rt := DD.rt, bk := fun δ2 G2 => DD.bk (δ2.set i none) G2, ct := fun δ2 G2 => DD.ct (δ2.set i none) G2, ex := fun _ _ _ => False } (δ'.set i (some (.exc x.c x.fs a d))) G') →
      ∃ c : CI, (cat c.nm = some true ∧ ∃ C', X.mg c.nm = some (.ref C') ∧ Value.ref C = .ref C') ∧ upS X (fun _ _ _ _ => False) (u c a dd) { nx := fun σ' H' => D.nx (σ'.set i none) H', rt := D.rt, bk := fun σ' H' => D.bk (σ'.set i none) H', ct := fun σ' H' => D.ct (σ'.set i none) H' } (σ'.set i (some (.ref a))) H' := fun cat u a ec hu => by
    have hr : Rp X.K X.mh H' G' (.exc x.c x.fs a dd) (.ref a) := by
      rcases rest with ⟨z1, z2⟩ | ⟨d', fs, z1, z2, z3, z4, z5⟩
      · rw [z1, z2]; exact .exc0 mC
      · rw [z1]; exact .exc mC z2 z3 z4 z5
    exact ⟨x.c, ⟨ec, C, mC, rfl⟩, _, δ'.set i (some (.exc x.c x.fs a dd)), G', s1.set i hr, g1, hu a dd, fun δ2 G2 σ2 H2 q e2 s2 g2 => l1 _ G2 _ H2 q (e1.trans e2) (s2.clear i) g2, fun d G2 H2 v q e2 => l2 d G2 H2 v q (e1.trans e2), fun δ2 G2 σ2 H2 q e2 s2 g2 => l3 _ G2 _ H2 q (e1.trans e2) (s2.clear i) g2, fun δ2 G2 σ2 H2 q e2 s2 g2 => l4 _ G2 _ H2 q (e1.trans e2) (s2.clear i) g2, fun _ _ _ _ _ _ _ q => q.elim⟩
  have cat_is : ∀ {n3 : Str} {C3 : Addr} {b : Bool}, X.mg n3 = some (.ref C3) → Cat X.K X.mg x.c.nm n3 b → PySem.W.exmOne X.K (.ref C) (.ref C3) = some b := fun m3 ⟨C1', C3', q1, q3, hex⟩ => by
    rw [show X.mg _ = _ from mC] at q1; rw [m3] at q3; cases q1; cases q3; exact hex
  cases ec1 : cat1 x.c.nm with
  | none => simp only [ec1] at hx
  | some b =>
    refine ⟨b, cat_is m1 (hcat1 _ _ ec1), fun hb a ha => ?_, fun hb => ?_⟩
    · subst hb
      simp only [ec1] at hx
      exact suite cat1 u1 a ec1 hx
    · subst hb
      simp only [ec1] at hx
      cases ec2 : cat2 x.c.nm with
      | none => simp only [ec2] at hx
      | some b2 =>
        refine ⟨b2, cat_is m2 (hcat2 _ _ ec2), fun hb a ha => ?_, fun hb => ?_⟩
        · subst hb
          simp only [ec2] at hx
          exact suite cat2 u2 a ec2 hx
        · subst hb
          simp only [ec2] at hx
          exact l5 x δ' G' σ' H' _ _ hx e1 s1 g1 xo
end
end DL

/-! ### 70. xs.index(b), of truths -/
namespace DL
open L2 PyProof.Rows PySem PySem.Spec PySem.W
def dIndexB (to : DE) (t : DA) : DE := fun W δ G Q => to W δ G fun x G1 => (∃ xs, rs G1 x = .lst xs) ∧ t W δ G1 fun ys G2 => ∃ (bs : List Bool) (b : Bool), rs G2 x = .lst (bs.map D.bl) ∧ ys = [.bl b] ∧ b ∈ bs ∧ Q (.int (bs.idxOf b : Nat)) G2
section
variable {X : Cx} {lv : Nat} {cm : Bool} {apos cpos : Pos}
theorem rpL_bls {K : PySem.W.Frag} {mg : MG} {H : Hp} {G : DH} : ∀ {bs : List Bool} {vs : List V}, RpL K mg H G (bs.map D.bl) vs → vs = bs.map V.bl
  | [], _, .nil => rfl
  | b :: bs, _, .cons r t => by
    cases r
    rw [rpL_bls t]; rfl
theorem pd_indexB {o e : Expr} {to : DE} {t : DA} (ho : PD X lv cm o to) (ha : PDA X lv cm [e] t) (hbase : attributeBase o "index" X.env (eval o X.env) = eval o X.env := by rfl)
    (hfew : ((backTo cpos (starEach [e] X.env)).all (fun x => !x.1) && (backToKw cpos (keywordEach [] X.env)).all (fun x => x.1.isSome) && decide ([e].length + ([] : List Keyword).length + (if ([] : List Keyword).isEmpty then 0 else 1) < 30)) = true := by rfl)
    (hline : (apos.endLine == cpos.line) = true := by rfl) (hs : starEach [e] X.env = (false, eval e X.env) :: starEach [] X.env := by rfl) : PD X lv cm (.Call (.Attribute o "index" apos) [e] [] cpos) (dIndexB to t) := fun gd Wx tk =>
  pe_imp (pe_bm F.plainAttrs_list F.slot_list_index F.type_list_index mt_index (ho gd Wx tk) (ha gd Wx tk) hbase hfew hline hs rfl) fun σ H Q ⟨W, δ, G, R, st, hg, ht, lQ, lW⟩ => ⟨W, δ, G, _, st, hg, ht, fun x G1 H1 v h1 e1 g1 r1 => by
    obtain ⟨⟨xs, hx⟩, h1⟩ := h1
    obtain ⟨a, vs, rfl, sq, _⟩ := rs_Lq g1 r1 (.inl hx)
    refine ⟨.inl ⟨rfl, vs, sq⟩, W, δ, G1, _, st.ext e1, g1, h1, fun ys G2 H2 us h2 e2 g2 r2 => ?_, fun ex δ' G' σ' H' cls dd hw e2 => lW ex δ' G' σ' H' cls dd hw (e1.trans e2)⟩
    obtain ⟨bs, b, hr, rfl, hb, q⟩ := h2
    obtain ⟨a', vs2, ea, sq2, rr⟩ := rs_Lq g2 (r1.ext e2) (.inl hr)
    cases ea
    cases r2 with
    | cons rb rn =>
      cases rn
      cases rb
      rw [rpL_bls rr] at sq2
      have hj : bs.idxOf b < bs.length := List.idxOf_lt_length_of_mem hb
      refine ⟨a, bs.map V.bl, .bl b, bs.idxOf b, .bl b, rfl, rfl, sq2, rfl, ?_, ?_, ?_, fun m z hm hz => ?_, lQ _ G2 H2 _ q (e1.trans e2) g2 (.int _)⟩
      · rw [List.all_map]; exact List.all_eq_true.mpr fun _ _ => rfl
      · rw [List.getElem?_map, List.getElem?_eq_getElem hj, List.getElem_idxOf]; rfl
      · show (b == b) = true
        simp
      · rw [List.getElem?_map] at hz
        obtain ⟨c, hc, rfl⟩ := Option.map_eq_some_iff.mp hz
        obtain ⟨hl, rfl⟩ := List.getElem?_eq_some_iff.mp hc
        have := List.not_of_lt_findIdx (p := (· == b)) (xs := bs) hm
        show (bs[m] == b) = false
        simpa using this, lW⟩
end
end DL

/-! ### 71. x in texts, also where x is a dict -/
namespace PySem.SeqAt
open AutoSeq1 (wpAny_loadPart')
open MeetsSeq
theorem str_declines_dict (b : Str) (u : Tok) (l : Addr) (dd : Option Addr) (es : Array DictEntry) (ep : Nat) (sl : Array (Option Value)) :
    Meets (Builtin.«str.__eq__» ⟨[.str b u, .ref l], []⟩) (fun _ R s => s.heap.get? l = some { cls := .type "dict", dict := dd, data := .dict es ep, slots := sl } ∧ R (.ok (.ret .notImplemented)) s) :=
  .of_wp fun prog w A R s h => by obtain ⟨hp, g, d, tk, os⟩ := s; obtain ⟨hl, h⟩ := h; have f1 := F.sub_dict_str; wp_walk using wpAny_loadPart' hl, wpAny_load hl; exact ⟨_, rfl, h⟩
section
variable {prog : Program} {w : World} {A : Around} {E : Value → Shared → Prop} {s : Shared}
theorem dict_declines_str {a : Addr} {b : Str} {u : Tok} {Q : Value → Shared → Prop} (ha : s.TypeIs (.ref a) "dict") (h : Q .notImplemented s) : wpAny (model prog w) A (call (.builtin "dict.__eq__") [.ref a, .str b u]) Q E s := by
  refine wpAny_call_entry PySem.F.slot_dict_eq ha PySem.F.entry_dict_eq ?_ (PySem.F.args_dict_eq_2 _ _)
  show wpAny _ _ (Builtin.Dict.dictSlotArgs "__eq__" ⟨[.ref a, .str b u], []⟩ >>= _) _ _ s
  refine wpAny_bind ?_
  unfold Builtin.Dict.dictSlotArgs
  refine wpAny_bind (wpAny_notOrdered_dict ha ?_)
  show wpAny _ _ (pure (Value.ref a, Value.str b u)) _ _ s
  refine wpAny_pure (wpAny_bind (wpAny_isInstance (T := "str") (typeIs_str s b u) F.sub_str_dict ?_))
  simp only [Bool.not_false, if_true]
  exact wpAny_bind (wpAny_rule (wpAny_pure ⟨_, rfl, h⟩))
theorem eqAt_str_dict {l : Addr} {od : Obj} {es : Array DictEntry} {ep : Nat} (b : Str) (u : Tok) (hl : s.TypeIs (.ref l) "dict") (hod : s.heap.get? l = some od) (hdt : od.data = .dict es ep) (hu : A.units < cLine) : EqAt A s (.str b u) (.ref l) false := fun prog w E Q h => by
  obtain ⟨⟨cls, dd, data, sl⟩, ho, hc⟩ := id hl
  rw [hod] at ho
  cases ho
  simp only at hc hdt
  subst hc hdt
  have rc : ∀ (E : Value → Shared → Prop) (Q : Value → Shared → Prop), Q (.bool false) s → wpAny (model prog w) A (richCompare .Eq (.str b u) (.ref l)) Q E s := fun E Q h =>
    rc_eq_decline_or (k := false) (typeIs_str s b u) hl (by decide) F.sub_dict_str F.slot_str_eq F.slot_dict_eq
      (fun _ hq => call_meets F.slot_str_eq (typeIs_str s b u) F.entry_str_eq (F.args_str_eq_2 _ _) (str_declines_dict b u l dd es ep sl) ⟨hod, hq⟩)
      (fun _ hq => dict_declines_str hl hq) (fun _ hq => wpAny_of_eq (rfl : isSame (.str b u) (.ref l) = pure false) hq) (.inr hu) h
  unfold eqBool
  refine wpAny_holding (wpAny_ite_split (fun hab => absurd (eq_of_beq hab) nofun) fun _ => ?_)
  exact wpAny_bind (rc E _ (wpAny_truthy_bool h))
end
end PySem.SeqAt
namespace DL
open L2 PyProof.Rows PySem PySem.Spec PySem.W
def isDctB (d : D) : Bool := match d with
  | .dct _ => true
  | _ => false
def rInS : R2D := fun x y G Q => if isDctB (rs G x) = true then (∃ ns : List Str, rs G y = .lst (ns.map D.str)) ∧ Q (.bl false) G else rIn x y G Q
def rNotInS : R2D := fun x y G Q => if isDctB (rs G x) = true then (∃ ns : List Str, rs G y = .lst (ns.map D.str)) ∧ Q (.bl true) G else rNotIn x y G Q
section
variable {X : Cx} {lv : Nat} {cm : Bool}
theorem in_core (gd : Gd X lv cm) {pins : List (Addr × Obj)} {s : Shared} {σ : L2.St} {H : Hp} {G : DH} {dx dy : D} {x y : V} {v u : Value} {ns : List Str} (I : Inv X pins σ H s) (rx : RelV x v) (ry : RelV y u) (hg : HpOk X.K X.mh H G) (r1 : Rp X.K X.mh H G dx x) (r2 : Rp X.K X.mh H G dy y)
    (h1 : isDctB (rs G dx) = true) (h2 : rs G dy = .lst (ns.map D.str)) : ∃ (a : Addr) (its : List Value), u = .ref a ∧ s.heap.IsList a its.toArray ∧ ∀ w, w ∈ its.toArray → SeqAt.EqAt X.A.in1 s w v false := by
  cases e1 : rs G dx with
  | dct kvs =>
    obtain ⟨b, ws, rfl, hb, _⟩ := rs_dct hg r1 e1
    obtain rfl : v = Value.ref b := rx
    have ht := isD_of I hb
    obtain ⟨_, _, _, _, od, es, ep, hod, _, hdt, _⟩ := dk_rd I.hok hb
    obtain ⟨a, vs, rfl, ha, ra⟩ := rs_lst hg r2 h2
    obtain rfl : u = Value.ref a := ry
    obtain ⟨its, rv, pl, hz⟩ := I.list (X := X) (.inl (.inl ha))
    refine ⟨a, its, rfl, pl.isList, fun w hw => ?_⟩
    have hw' : w ∈ its := by simpa using hw
    obtain ⟨i, hi⟩ := List.getElem?_of_mem hw'
    rw [rpL_strs ra] at rv
    have hl := rv.length
    have hi2 := (List.getElem?_eq_some_iff.mp hi).1
    have ei : (ns.map V.str)[i]? = some (.str (ns[i]'(by simp at hl; omega))) := by
      rw [List.getElem?_map, List.getElem?_eq_getElem (by simp at hl; omega)]; rfl
    obtain ⟨w', e2, rw'⟩ := rv.get ei
    rw [hi] at e2
    cases e2
    obtain ⟨t, rfl⟩ := rw'
    exact SeqAt.eqAt_str_dict _ t ht hod hdt (by have := gd.un1; show X.A.units + 1 < _; omega)
  | _ => rw [e1] at h1; cases h1
theorem od_inS : OpD X lv cm (compareOp .In) rInS := by
  intro gd pins s σ H G dx dy x y v u Q R I rx ry hg r1 r2 h l
  unfold rInS at h
  by_cases c : isDctB (rs G dx) = true
  · rw [if_pos c] at h
    obtain ⟨⟨ns, h2⟩, q⟩ := h
    obtain ⟨a, its, rfl, hl, he⟩ := in_core gd I rx ry hg r1 r2 c h2
    refine SeqAt.in_listAt (fun _ => false) hl he ⟨.bl false, H, I, ?_, l _ G H _ q (Ext.refl _ _) hg (.bl _)⟩
    show Value.bool _ = Value.bool _
    simp
  · rw [if_neg c] at h
    exact od_in gd pins s σ H G dx dy x y v u Q R I rx ry hg r1 r2 h l
theorem od_notInS : OpD X lv cm (compareOp .NotIn) rNotInS := by
  intro gd pins s σ H G dx dy x y v u Q R I rx ry hg r1 r2 h l
  unfold rNotInS at h
  by_cases c : isDctB (rs G dx) = true
  · rw [if_pos c] at h
    obtain ⟨⟨ns, h2⟩, q⟩ := h
    obtain ⟨a, its, rfl, hl, he⟩ := in_core gd I rx ry hg r1 r2 c h2
    refine SeqAt.notIn_listAt (fun _ => false) hl he ⟨.bl true, H, I, ?_, l _ G H _ q (Ext.refl _ _) hg (.bl _)⟩
    show Value.bool _ = Value.bool _
    simp
  · rw [if_neg c] at h
    exact od_notIn gd pins s σ H G dx dy x y v u Q R I rx ry hg r1 r2 h l
end
end DL

/-! ### 72. sorted(xs, key=lambda p: ns.index(p)), of texts; tables of code objects -/
namespace DL
open L2 PyProof.Rows PySem PySem.Spec PySem.W
/-- a lambda of a frame is made: its table grows, or the code object is found -/
theorem lam_mk {X : Cx} {pins : List (Addr × Obj)} {σ : L2.St} {H : Hp} {s : Shared} {G : DH} {c P : Addr} {q : Str} {prm : Arguments} {bd : Expr} {scp : Scope} {lp : Pos} {E Q : Value → Shared → Prop}
    (I : Inv X pins σ H s) (tb : LamX.TabB X.base X.mg c P) (hc : X.env.code = .ref c) (hq : X.env.qual ++ "<lambda>" = q) (hg : HpOk X.K X.mh H G) (gP : G P = some (.tb q)) (hd : defaultsOf prm X.env = ([], []))
    (hf : ∀ y ∈ scp.names, y.2 = .free → ∃ c, X.env.cells.lookup y.1 = some c)
    (h : ∀ (f c' : Addr) (pm ctv : Value) (H1 : Hp) (s' : Shared), Inv X pins σ H1 s' → Ext H G H1 G → HpOk X.K X.mh H1 G →
      s'.heap.get? f = some (kla_obj "<lambda>" q prm bd scp (cloFrom X.env.cells scp.names []) pm c' ctv) → H1 c' = some (LamX.CodeO c' q) → (∀ b o, b ≠ P → s.heap.get? b = some o → s'.heap.get? b = some o) → Q (.ref f) s') :
    wpAny (model X.prog X.w) X.A (eval (.Lambda prm bd scp lp) X.env) Q E s := by
  subst hq
  have o1 := hg P _ gP
  cases o1 with
  | tb o1 =>
  obtain ⟨ps, tP, tok, tall⟩ := o1
  have sP := I.hok P _ tP
  have blt : s.heap.BuiltinsAt X.mg P := tb.bm.keeps I.bk
  refine kla_eval hd ?_
  cases hit : codeAmong lp ps.toList with
  | some cv =>
    obtain ⟨c', rfl, k1, _⟩ := tall lp cv hit
    exact kla_makeFunctionHit (closure_ok hf) I.ok.glob (I.mod.glob.keeps I.bk) hc (tb.code.keeps I.bk) sP tok hit blt fun ctv h' tk kp _ =>
      h h'.objs.size c' _ ctv H _ (I.kept fun b o e => Heap.get?_push_of_some _ (kp b o e)) (Ext.refl H G) hg (Heap.get?_push_size _ rfl) k1 fun b o _ e => Heap.get?_push_of_some _ (kp b o e)
  | none =>
    refine kla_makeFunction (closure_ok hf) I.ok.glob (I.mod.glob.keeps I.bk) hc (tb.code.keeps I.bk) sP tok hit tb.gP blt fun c' ctv h' tk kp ge _ rec grown => ?_
    obtain ⟨c2, oc, vs, t, ec, r1, r2, r3⟩ := rec
    cases ec
    have nc : H c' = none := I.hok.fresh ge
    have pc : P ≠ c' := fun z => by rw [z, nc] at tP; cases tP
    have J := LamX.inv_table (q := X.env.qual ++ "<lambda>") (t' := tk) (h' := h'.push (kla_obj "<lambda>" (X.env.qual ++ "<lambda>") prm bd scp (cloFrom X.env.cells scp.names []) ((X.mg "__name__").getD .none) c' ctv)) I tP
      (fun b o hb e => Heap.get?_push_of_some _ (kp b o hb e)) (Heap.get?_push_of_some _ grown) ge ⟨oc, vs, t, Heap.get?_push_of_some _ r1, r2, r3⟩
    generalize hH : upd (upd H P (.tbl (ps ++ #[rawInt lp.line, rawInt lp.col, .ref c']))) c' (LamX.CodeO c' (X.env.qual ++ "<lambda>")) = H1 at J
    have atc : H1 c' = some (LamX.CodeO c' (X.env.qual ++ "<lambda>")) := by rw [← hH]; exact upd_same
    have atP : H1 P = some (.tbl (ps ++ #[rawInt lp.line, rawInt lp.col, .ref c'])) := by rw [← hH, upd_ne pc]; exact upd_same
    have old : ∀ b o, b ≠ P → H b = some o → H1 b = some o := fun b o hb e => by
      rw [← hH, upd_ne (fun z => by rw [z, nc] at e; cases e), upd_ne hb]; exact e
    have ex : Ext H G H1 G := fun b o g e => ⟨.inl (old b o (fun z => by rw [z, gP] at g; cases g) e), g⟩
    have ok1 : HpOk X.K X.mh H1 G := fun b w e => by
      by_cases hb : b = P
      · subst hb
        rw [gP] at e
        cases e
        have al : (ps ++ #[rawInt lp.line, rawInt lp.col, .ref c']).toList = ps.toList ++ [rawInt lp.line, rawInt lp.col, .ref c'] := by simp
        refine .tb ⟨_, atP, by rw [al]; exact PySem.TriplesOk_snoc _ _ _ _ tok, fun p' cv z => ?_⟩
        rw [al] at z
        rcases LamX.among_app _ tok z with z | z
        · obtain ⟨c0, e1, e2, e3⟩ := tall p' cv z
          exact ⟨c0, e1, (ex.get e3 e2 codeO_dK).1, e3⟩
        · exact ⟨c', z, atc, hg.free nc⟩
      · exact (hg b w e).ext ex fun u hu => old b u hb hu
    exact h _ c' _ ctv H1 _ J ex ok1 (Heap.get?_push_size _ rfl) atc fun b o hb e => Heap.get?_push_of_some _ (kp b o hb e)
/-- the names of lambda p: L.index(p) -/
structure LamIx (sc scp : Scope) (L p : Str) : Prop where
  kind : scp.kind = .function
  co : scp.isCoroutine = false
  gen : scp.isGenerator = false
  cel : ∀ y ∈ scp.names, y.2 ≠ .cell
  par : scp.names.lookup p = some .local
  cap : scp.names.lookup L = some .free
  own : sc.names.lookup L = some .cell
  fre : ∀ y ∈ scp.names, y.2 = .free → y.1 = L
def lamIxB (sc scp : Scope) (L p : Str) : Bool :=
  decide (scp.kind = .function) && !scp.isCoroutine && !scp.isGenerator && (scp.names.all fun y => !decide (y.2 = .cell)) && decide (scp.names.lookup p = some .local) && decide (scp.names.lookup L = some .free) && decide (sc.names.lookup L = some .cell) && scp.names.all fun y => !decide (y.2 = .free) || decide (y.1 = L)
theorem lamIx_by {sc scp : Scope} {L p : Str} (h : lamIxB sc scp L p = true) : LamIx sc scp L p := by
  unfold lamIxB at h
  simp only [Bool.and_eq_true, Bool.or_eq_true, Bool.not_eq_true', decide_eq_true_eq, decide_eq_false_iff_not, List.all_eq_true] at h
  obtain ⟨⟨⟨⟨⟨⟨⟨h1, h2⟩, h3⟩, h4⟩, h5⟩, h6⟩, h7⟩, h8⟩ := h
  exact ⟨h1, h2, h3, h4, h5, h6, h7, fun y hy e => (h8 y hy).resolve_left fun z => z e⟩
/-- the key function, called: where the name's text stands among the list's -/
theorem run_lamIx {prog : Program} {w : World} {A : Around} {E : Value → Shared → Prop} {s : Shared} {f c' lc la : Addr} {q : Str} {prm : Arguments} {scp sc : Scope} {L p : Str} {cl : List (Str × Addr)} {pm ctv : Value} {p1 p2 ap cp : Pos} {its : List Value} {ns : List Str} {y : Str} {t : Tok}
    (S : LamIx sc scp L p) (hlim : s.heap.NoLimit) (hr : A.depth < recursionLimit)
    (hf : s.heap.get? f = some (kla_obj "<lambda>" q prm (.Call (.Attribute (.Name L p1) "index" ap) [.Name p p2] [] cp) scp cl pm c' ctv)) (hcd : s.heap.CodeRec (.ref c') q)
    (hb : bindArgs (kla_fn "<lambda>" q prm (.Call (.Attribute (.Name L p1) "index" ap) [.Name p p2] [] cp) scp cl pm (.ref c') ctv) ⟨[.str y t], []⟩ = pure [(p, .str y t)])
    (hcl : cl.lookup L = some lc) (hcell : s.heap.IsCell lc (some (.ref la))) (hl : PlainL s.heap la its.toArray) (hn : StrsAre its ns) (hz : ns.length ≤ sizeLine) (hy : y ∈ ns)
    (hline : (ap.endLine == cp.line) = true) (hdL : (L == ("__debug__" : Str)) = false) (hdp : (p == ("__debug__" : Str)) = false) (hcL : (L == ("__classdict__" : Str)) = false) :
    wpAny (model prog w) A (call (.ref f) [.str y t]) (KeyPure (.int (ns.idxOf y : Nat)) s) E s := by
  have rc : codeAny (model prog w) A (.call (.ref f) ⟨[.str y t], []⟩) (fun r s' => ∃ v, r = .ok (.ret v) ∧ KeyPure (.int (ns.idxOf y : Nat)) s v s') s := by
    refine kla_callFunE hr hf rfl S.co S.gen rfl hcd ?_
    rw [hb]
    refine wpAny_pure (wpAny_newFunctionEnv S.cel (fun z hz => ?_) (fun h₁ hns hsb => ⟨hlim.fresh _ hsb, ?_⟩) S.kind)
    · rw [List.mem_singleton] at hz
      subst hz
      exact S.par
    have kp : ∀ b o, s.heap.get? b = some o → h₁.get? b = some o := fun b o e => hsb.extBut b o (Nat.ne_of_lt (Heap.lt_size e)) (Heap.get?_push_of_some _ e)
    generalize hE : newEnv scp s.heap.objs.size mainGlobals cl (q ++ ".<locals>.") (some f) (.ref c') none builtinsNs = env'
    have kL : env'.kindOf L = some .free := by rw [← hE]; exact S.cap
    have kp' : env'.kindOf p = some .local := by rw [← hE]; exact S.par
    have kk : env'.scope.kind = .function := by rw [← hE]; exact S.kind
    have kc : env'.cells.lookup L = some lc := by rw [← hE]; exact hcl
    have kl : env'.locals = s.heap.objs.size := by rw [← hE] <;> rfl
    have goal : wpAny (model prog w) (A.deeper env') (eval (.Call (.Attribute (.Name L p1) "index" ap) [.Name p p2] [] cp) env') (fun v s' => KeyPure (.int (ns.idxOf y : Nat)) s v s') (fun e' s' => wpAny (model prog w) (A.deeper env') (leaving env' e') (fun _ s'' => ∃ v, (Except.error e' : Result) = .ok (.ret v) ∧ KeyPure (.int (ns.idxOf y : Nat)) s v s'') (fun e'' s'' => ∃ v, (Except.error e'' : Result) = .ok (.ret v) ∧ KeyPure (.int (ns.idxOf y : Nat)) s v s'') s') { s with heap := h₁, toks := s.toks + [(p, Value.str y t)].length } := by
      refine Call_method1 (by rfl) (by rfl) hline ?_
      refine wpAny_Name (wpAny_loadName_free kk kL kc (hcell.keeps kp) ?_ hcL) hdL
      have hl2 := hl.keeps kp
      obtain ⟨ol, nl, l1, l2, l3, l4⟩ := hl2
      refine ⟨"list", "list.index", F.plainAttrs_list, F.slot_list_index, F.type_list_index, ⟨ol, l1, l2⟩, fun a e => ?_, ?_⟩
      · cases e; exact ⟨ol, l1, l3⟩
      refine Calls.callWith_builtin rfl (Calls.evalArgs_plain (Calls.spliced_cons ?_))
      refine wpAny_Name (wpAny_loadName_local kk kp' (by rw [kl]; exact hns) (v := .str y t) (show List.lookup p [(p, Value.str y t)].reverse = some (.str y t) from by rw [List.reverse_singleton, List.lookup_cons, beq_self_eq_true]) ?_) hdp
      refine Calls.spliced_nil ?_
      exact SeqAt.list_index_strs ⟨ol, l1, l2, nl, l4⟩ hn hz hy ⟨_, _, rfl, kp, .int _ _⟩
    exact kla_codeExpr (wpAny_mono goal (fun v s' k => ⟨v, rfl, k⟩) fun _ _ x => x)
  refine wpAny_call (codeAny_mono rc fun r s' hq => ?_)
  obtain ⟨v, rfl, k⟩ := hq
  exact k
theorem each_strs : ∀ {ys : List Str} {us : List Value}, Vals (ys.map V.str) us → EachIs (fun (v : Value) (y : Str) => ∃ t, v = .str y t) us ys
  | [], _, .nil => .nil
  | y :: ys, _, .cons r t => by
    obtain ⟨k, rfl⟩ := r
    exact .cons ⟨k, rfl⟩ (each_strs t)
theorem strs_each : ∀ {ys : List Str} {us : List Value}, EachIs (fun (v : Value) (y : Str) => ∃ t, v = .str y t) us ys → Vals (ys.map V.str) us
  | [], _, .nil => .nil
  | y :: ys, _, .cons r t => by
    obtain ⟨k, rfl⟩ := r
    exact .cons ⟨k, rfl⟩ (strs_each t)
theorem clo_one {cells : List (Str × Addr)} {names : List (Str × NameKind)} {L : Str} {lc : Addr} (h : names.lookup L = some .free) (hc : cells.lookup L = some lc) : (cloFrom cells names []).lookup L = some lc := by
  have h1 := cloFrom_has (cells := cells) (acc := []) (PySem.mem_of_lookup h)
  obtain ⟨c1, e1⟩ := mem_lookup h1
  rcases cloFrom_mem (PySem.mem_of_lookup e1) with z | ⟨_, z⟩
  · cases z
  · rw [hc] at z
    rw [e1, z]; rfl
def sortedBy (ns ys : List Str) : List Str := ys.mergeSort fun a b => decide (ns.idxOf a ≤ ns.idxOf b)
def dSortLam (i : Nat) (P : Addr) (q : Str) (t : DA) : DE := fun W δ G Q => t W δ G fun ds G1 => ∃ (x d : D) (ys ns : List Str), ds = [x] ∧ rs G1 x = .lst (ys.map D.str) ∧ δ[i]? = some (some d) ∧ rs G1 d = .lst (ns.map D.str) ∧ G1 P = some (.tb q) ∧ (∀ y ∈ ys, y ∈ ns) ∧
  Q (.lst ((sortedBy ns ys).map D.str)) G1
section
variable {X : Cx} {lv : Nat} {cm : Bool}
theorem pd_sortlam {e : Expr} {t : DA} {i : Nat} {L p : Str} {P : Addr} {q : Str} {prm : Arguments} {scp : Scope} {p1 p2 ap cp lp np pos kpos : Pos} (ha : PDA X lv cm [e] t) (tb : ∃ c, X.env.code = .ref c ∧ LamX.TabB X.base X.mg c P) (hq : X.env.qual ++ "<lambda>" = q)
    (S : LamIx X.env.scope scp L p) (hN : X.N[i]? = some L) (hm : X.mg "sorted" = none) (hg : Gl X "sorted" := by rfl) (hdef : defaultsOf prm X.env = ([], []) := by rfl)
    (hb : ∀ (qq : Str) (cl : List (Str × Addr)) (pm cv ctv v : Value), bindArgs (kla_fn "<lambda>" qq prm (.Call (.Attribute (.Name L p1) "index" ap) [.Name p p2] [] cp) scp cl pm cv ctv) ⟨[v], []⟩ = pure [(p, v)] := by intros; rfl)
    (hline : (ap.endLine == cp.line) = true := by rfl) (hdL : (L == ("__debug__" : Str)) = false := by decide) (hdp : (p == ("__debug__" : Str)) = false := by decide) (hcL : (L == ("__classdict__" : Str)) = false := by decide)
    (hst : backTo pos (starEach [e] X.env) = (false, eval e X.env) :: backTo pos (starEach [] X.env) := by rfl) :
    PD X lv cm (.Call (.Name "sorted" np) [e] [{ arg := some "key", value := .Lambda prm (.Call (.Attribute (.Name L p1) "index" ap) [.Name p p2] [] cp) scp lp, pos := kpos }] pos) (dSortLam i P q t) := fun gd Wx tk => by
  refine ⟨fun pins s σ H Q I ⟨W, δ, G, R, hs, hgo, ht, lQ, lW⟩ => ?_⟩
  obtain ⟨c, hcode, tb⟩ := tb
  refine wpAny_Call_Name_kw (ld_blt I hg hm rfl ?_)
  refine PyProof.Rows.callWith_kw (thn ((ha gd Wx tk).run pos pins s σ H (fun vs H1 => ∃ ds G1, Ext H G H1 G1 ∧ HpOk X.K X.mh H1 G1 ∧ RpL X.K X.mh H1 G1 ds vs ∧ ∃ (x d : D) (ys ns : List Str), ds = [x] ∧ rs G1 x = .lst (ys.map D.str) ∧ δ[i]? = some (some d) ∧ rs G1 d = .lst (ns.map D.str) ∧ G1 P = some (.tb q) ∧ (∀ y ∈ ys, y ∈ ns) ∧
    R (.lst ((sortedBy ns ys).map D.str)) G1) I ⟨W, δ, G, _, hs, hgo, ht, fun ds G1 H1 vs h1 e1 g1 r1 => ⟨ds, G1, e1, g1, r1, h1⟩, lW⟩) fun us s1 ⟨vs, H1, I1, r, q1⟩ => ?_) hst (by rw [hst]; rfl)
  obtain ⟨ds, G1, e1, g1, r1, x, d, ys, ns, rfl, hx, hd, hdn, gP, hmem, hQ⟩ := q1
  refine wpAny_evalAll_cons ?_
  show wpAny _ _ (do let v ← eval (.Lambda prm (.Call (.Attribute (.Name L p1) "index" ap) [.Name p p2] [] cp) scp lp) X.env; standAt pos; pure v) _ _ _
  refine wpAny_bind (lam_mk I1 tb hcode hq g1 gP hdef (fun y hy z => by rw [S.fre y hy z]; exact I.ok.has L (.inl S.own)) fun f c' pm ctv H2 s2 I2 e2 g2 hf hco _ => ?_)
  refine wpAny_bind (wpAny_standAt (wpAny_pure (wpAny_pure ?_)))
  cases r1 with
  | cons rx rn =>
  cases rn
  cases r with
  | cons ru rn =>
  cases rn
  obtain ⟨a, vs, rfl, sq, rr⟩ := rs_Lq g2 (rx.ext e2) (.inl hx)
  rw [rpL_strs rr] at sq
  obtain rfl := ru
  obtain ⟨v, hv, rv⟩ := (hs.ext (e1.trans e2)).2 i d hd
  obtain ⟨la, vs2, rfl, sq2, rr2⟩ := rs_Lq g2 rv (.inl hdn)
  rw [rpL_strs rr2] at sq2
  obtain ⟨its, iv, ipl, _⟩ := I2.list sq
  obtain ⟨jts, jv, jpl, jlen⟩ := I2.list sq2
  obtain ⟨m, _, hl⟩ := I2.loc
  obtain ⟨u2, ru2, lk⟩ := hl i L _ hN hv (.inr (.inl S.own))
  obtain rfl := ru2
  have key : ∃ lc, X.env.cells.lookup L = some lc ∧ s2.heap.IsCell lc (some (.ref la)) := by
    rcases lk with ⟨z, _⟩ | ⟨_, lc, z1, z2⟩
    · have z' : X.env.scope.names.lookup L = some .local := z
      rw [S.own] at z'; cases z'
    · exact ⟨lc, z1, z2⟩
  obtain ⟨lc, hc1, hc2⟩ := key
  obtain ⟨⟨oc, cvs, ct, k1, k2, k3⟩, _, _⟩ := I2.hok c' _ hco
  rw [List.length_map] at jlen
  have el := each_strs iv
  have ylen : ys.length ≤ sizeLine := by
    obtain ⟨_, _, _, z⟩ := I2.list sq
    rw [List.length_map] at z; exact z
  refine sorted_key_data (b := false) (k := fun y : Str => .int ((ns.idxOf y : Nat) : Int)) ipl.isList el (AllAlike.of fun _ _ => by simp [alike]) (.inr fun z hz => ?_) ylen (fun y _ => ?_) (ksk_s1 _ _) (fun _ => ksk_l1 _ _) (fun _ => ksk_t1 _ _)
    (fun v y ⟨t, e⟩ hy h tk kp => ?_) fun out cc h' tk kp _ hD hlen eo => ?_
  · obtain ⟨y, _, rfl⟩ := List.mem_map.mp hz
    exact ⟨by simp, by simp⟩
  · have := gd.un
    show X.A.units + 2 + 0 < cLine
    omega
  · subst e
    exact run_lamIx (s := { s2 with heap := h, toks := tk }) S (I2.nolimit.keeps kp) (by have := gd.dp; show X.A.depth < _; omega) (kp _ _ hf) ⟨c', oc, cvs, ct, rfl, kp _ _ k1, k2, k3⟩ (hb _ _ _ _ _ _) (clo_one S.cap hc1) (hc2.keeps kp) (jpl.keeps kp) jv.strs jlen (hmem y hy) hline hdL hdp hcL
  · rw [dataLe_int (β := Str) (fun y => ((ns.idxOf y : Nat) : Int))] at eo
    have es : (fun a b : Str => decide (((ns.idxOf a : Nat) : Int) ≤ ((ns.idxOf b : Nat) : Int))) = fun a b => decide (ns.idxOf a ≤ ns.idxOf b) := by
      funext a b
      simp only [Int.ofNat_le]
    rw [es] at eo
    have vo := strs_each eo
    have nf : H2 (s2.heap.objs.size + 1) = none := I2.hok.fresh (Nat.le_succ _)
    have nw : ObjOk X.prog X.w (upd H2 (s2.heap.objs.size + 1) (.lst ((sortedBy ns ys).map V.str))) h' (s2.heap.objs.size + 1) (.lst ((sortedBy ns ys).map V.str)) := by
      refine ⟨?_, out, cc, vo, hD⟩
      rw [List.length_map]
      show (ys.mergeSort _).length ≤ _
      rw [List.length_mergeSort]
      exact ylen
    exact ⟨.ref _, _, I2.laid kp (Nat.le_succ _) nw, rfl, lQ _ G1 _ _ hQ ((e1.trans e2).trans (Ext.newF nf)) (g2.newF nf) (.lst (g2.free nf) upd_same (rpL_strs' _))⟩
end
end DL

/-! ### 73. d.setdefault(k, z); list(d.values()) of a live dict -/
namespace DL
open L2 PyProof.Rows PySem PySem.Spec PySem.W
def isDc (G : DH) (a : Addr) : Prop := ∃ kvs, G a = some (.dct kvs)
def dSetdef (td ty tx : DE) : DE := fun W δ G Q => td W δ G fun x G1 => ∃ a, x = .ref a ∧ isDc G1 a ∧ ty W δ G1 fun y G2 => tx W δ G2 fun z G3 => ∃ (kvs : List (Key × D)) (k : Key), G3 a = some (.dct kvs) ∧ kyD y = some k ∧ (kvs.map (·.1)).Nodup ∧ kvs.length < sizeLine ∧
  (∀ v, lkK kvs k = some v → Q v G3) ∧ (lkK kvs k = none → Q z (upG G3 a (.dct (ptK kvs k z))))
def dListVals (t : DE) : DE := fun W δ G Q => t W δ G fun d G1 => ∃ kvs, rs G1 d = .dct kvs ∧ Q (.lst (kvs.map (·.2))) G1
section
variable {X : Cx} {lv : Nat} {cm : Bool} {apos cpos pos p : Pos}
theorem pd_setdef {o e f : Expr} {td ty tx : DE} (ho : PD X lv cm o td) (he : PD X lv cm e ty) (hf : PD X lv cm f tx) (m : M2 X o "setdefault" apos e f pos) : PD X lv cm (.Call (.Attribute o "setdefault" apos) [e, f] [] pos) (dSetdef td ty tx) := fun gd Wx tk =>
  pe_imp (pe_dsetd (ho gd Wx tk) (he gd Wx tk) (hf gd Wx tk) m) fun σ H Q ⟨W, δ, G, R, hs, hg, ht, lQ, lW⟩ => ⟨W, δ, G, _, hs, hg, ht, fun d G1 H1 v h1 e1 g1 r1 => by
    obtain ⟨a, rfl, ⟨kv0, ha⟩, h1⟩ := h1
    cases r1
    have ob := g1 a _ ha
    cases ob with
    | dct e2 ra =>
    refine ⟨a, rfl, .inl ⟨_, .inl e2⟩, W, δ, G1, _, hs.ext e1, g1, h1, fun y G2 H2 w h2 e3 g2 r2 => ?_, fun ex δ' G' σ' H' cls dd hw e3 => lW ex δ' G' σ' H' cls dd hw (e1.trans e3)⟩
    refine ⟨W, δ, G2, _, (hs.ext e1).ext e3, g2, h2, fun z G3 H3 u h3 e4 g3 r3 => ?_, fun ex δ' G' σ' H' cls dd hw e4 => lW ex δ' G' σ' H' cls dd hw ((e1.trans e3).trans e4)⟩
    obtain ⟨kvs, k, h4, ek, nd, hl, q1, q2⟩ := h3
    have e14 := (e1.trans e3).trans e4
    cases key_v r2 ek
    have ob3 := g3 a _ h4
    cases ob3 with
    | dct e5 ra' =>
    rename_i vs3
    obtain ⟨k1, k2⟩ := ra'.look (k := k)
    refine ⟨vs3, k, e5, rfl, by rw [← ra'.length]; exact hl, fun v hv => ?_, fun hn => ?_⟩
    · cases el : lkK kvs k with
      | none => rw [k2 el] at hv; cases hv
      | some d0 =>
        obtain ⟨w0, hw, rw0⟩ := k1 d0 el
        rw [hw] at hv
        cases hv
        exact lQ d0 G3 H3 _ (q1 d0 el) e14 g3 rw0
    · have el : lkK kvs k = none := by
        cases el : lkK kvs k with
        | none => rfl
        | some d0 =>
          obtain ⟨w0, hw, _⟩ := k1 d0 el
          rw [hw] at hn; cases hn
      have ext := Ext.write (H := H3) (o := .dct (ptK kvs k z)) (u := .dK (putK vs3 k u)) h4
      refine lQ z _ _ _ (q2 el) (e14.trans ext) (g3.upd ext (.dct upd_same ?_)) (r3.ext ext)
      refine RpK.ext ext ?_
      rw [ptK_eq k z nd]
      unfold putK
      rw [any_keys ra'.keys]
      split
      · exact ra'.mapPut r3
      · exact ra'.append (.cons r3 .nil), lW⟩
theorem rpL_vals {K : PySem.W.Frag} {mg : MG} {H : Hp} {G : DH} : ∀ {kvs : List (Key × D)} {vs : List (Key × V)}, RpK K mg H G kvs vs → RpL K mg H G (kvs.map (·.2)) (vs.map (·.2))
  | _, _, .nil => .nil
  | _, _, .cons r t => .cons r (rpL_vals t)
theorem kv_vals : ∀ {vs : List (Key × V)} {ws : List (Key × Value)}, KV vs ws → Vals (vs.map (·.2)) (ws.map (·.2))
  | _, _, .nil => .nil
  | _, _, .cons h t => .cons h.2 (kv_vals t)
theorem pd_listVals {e : Expr} {t : DE} (he : PD X lv true e t) (hm : X.mg "list" = none) (hg : Gl X "list" := by rfl) (hb : attributeBase e "values" X.env (eval e X.env) = eval e X.env := by rfl) (hl : (apos.endLine == cpos.line) = true := by rfl)
    (hs : starEach [.Call (.Attribute e "values" apos) [] [] cpos] X.env = (false, eval (.Call (.Attribute e "values" apos) [] [] cpos) X.env) :: starEach [] X.env := by rfl) :
    PD X lv true (.Call (.Name "list" p) [.Call (.Attribute e "values" apos) [] [] cpos] [] pos) (dListVals t) := fun gd Wx tk => by
  refine ⟨fun pins s σ H Q J ⟨W, δ, G, R, st, hgo, ht, lQ, lW⟩ => ?_⟩
  refine wpAny_Call_Name_kw (ld_blt J hg hm PyProof.Rows.boot_list ?_)
  refine PyProof.Rows.callWith_type1 (T := "list") ?_ hs rfl
  rw [hs]
  refine Calls.spliced_cons (rest := backTo pos (starEach [] X.env)) ?_
  refine wpAny_Call_method (T := "dict") (id := "dict.values") hb rfl hl F.plainAttrs_dict F.slot_dict_values F.type_dict_values (thn ((he gd Wx tk).run pins s σ H (fun x H1 => ∃ a vs kvs G1, x = .ref a ∧ Rd H1 a (.dK vs) ∧ Ext H G H1 G1 ∧ HpOk X.K X.mh H1 G1 ∧ RpK X.K X.mh H1 G1 kvs vs ∧ R (.lst (kvs.map (·.2))) G1) J
    ⟨W, δ, G, _, st, hgo, ht, fun d G1 H1 v ⟨kvs, h1, q⟩ e1 g1 r1 => by
      obtain ⟨a, vs, rfl, h2, ra⟩ := rs_dct g1 r1 h1
      exact ⟨a, vs, kvs, G1, rfl, h2, e1, g1, ra, q⟩, lW⟩) fun u s1 ⟨x, H1, J1, rx, d, kv0, kvs, G1, ex, hd, e1, g1, ra, q⟩ => ?_)
  subst ex
  obtain rfl : u = Value.ref d := rx
  obtain ⟨hz, hy, vs, kv, hdo⟩ := dk_rd J1.hok hd
  obtain ⟨ep, hat⟩ := hdo.dictAt
  have ll : kv0.length = vs.length := Paired.length kv
  refine ⟨hdo.typeIs, hdo.mapOf.noDict, (?_ : wpAny _ _ (callWith cpos (.builtin "dict.values") [.ref d] [] []) _ X.xe s1)⟩
  refine method_meetsIn F.slot_dict_values F.entry_dict_values rfl (PySem.evalArgs_none ⟨rfl, hdo.typeIs, F.args_dict_values_1 _, _, meets_dict_values (mixKind X.prog X.w) d hy, ⟨vs, hdo⟩, Calls.spliced_nil ?_⟩)
  have J2 : Inv X pins σ H1 { s1 with heap := s1.heap.push { cls := .type "dict_values", data := .fields #[.ref d] } } := J1.kept (t' := s1.toks) fun _ _ z => Heap.get?_push_of_some _ z
  refine PySem.W.kdl_call (PySem.W.kdl_values (knd := mixKind X.prog X.w) (kvs := vs) (ep := ep)) (J1.ok.hd (gd.cl rfl)) ⟨⟨_, Heap.get?_push_size _ rfl, rfl, rfl⟩, hat.push _⟩ (by omega) fun h' tk2 acc c hk hD hacc => ?_
  have ea := PySem.W.kdl_vals_eq (kvs := vs) acc.toList (by rw [Array.length_toList]; exact hacc.1) fun j v z => hacc.2 j v (by rw [← Array.getElem?_toList]; exact z)
  have vv : Vals (kv0.map (·.2)) acc.toList := by rw [ea]; exact kv_vals kv
  generalize hn : (s1.heap.push { cls := .type "dict_values", data := .fields #[.ref d] }).objs.size = n at hD
  have nf : H1 n = none := by rw [← hn]; exact J2.hok.fresh (Nat.le_refl _)
  have nw : ObjOk X.prog X.w (upd H1 n (.lst (kv0.map (·.2)))) h' n (.lst (kv0.map (·.2))) := ⟨by rw [List.length_map]; exact hz, acc.toList, c, vv, by rw [Array.toArray_toList]; exact hD⟩
  have J3 := J2.laid (t' := tk2) hk (Nat.le_of_eq hn) nw
  exact ⟨.ref n, _, J3, rfl, lQ _ G1 _ _ q (e1.trans (Ext.newF nf)) (g1.newF nf) (.lst (g1.free nf) upd_same ((rpL_vals ra).ext (Ext.newF nf)))⟩
end
end DL

/-! ### 74. the end of a law whose text makes a lambda: one table of code objects -/
namespace DL
open L2 PyProof.Rows PySem PySem.Spec
/-- a def of the top, of which the code object is known -/
theorem hasF_cd {Pr : Program} {w : World} {K : PySem.W.Frag} {mg : Str → Option Value} {base : Heap} {k : Nat} {f : Addr} {x : Str} {params : Arguments} {body : List Stmt} {scope : Scope} {N ps : List Str} {sp : DSp} {rd : DS} {oc kV doc pm cdv ct : Value} {od an : Option Addr} {osl : Array (Option Value)}
    (hm : mg x = some (.ref f)) (l : K.lookup f = some ⟨oc, od, .func (PySem.W.fnOf x x params body scope .none kV doc pm an cdv ct), osl⟩) (hc : PySem.W.codeIn K cdv x = true) (hk : PySem.W.keepIn K (.ref f) = true) (S : FnScope N ps scope)
    (hbd : ∀ (kV doc pm : Value) (an : Option Addr) (cdv ct : Value) (us : List Value), us.length = ps.length → bindArgs (PySem.W.fnOf x x params body scope .none kV doc pm an cdv ct) ⟨us, []⟩ = pure (ps.zip us))
    (len : ∀ ds G Q E, sp ds G Q E → ds.length = ps.length)
    (hb : ∀ (A : Around) (outer : List Env) (s : Shared) (H : Hp) (E : XK), PDSs (cxOf (L2.CX Pr w) Pr w K mg base N x scope f cdv A outer s H E) k true body rd)
    (hsp : ∀ ds G Q E, sp ds G Q E → rd (bodyEnds Q E) (slots N ds) G) : HasF Pr w K mg base x (k + 1) ps sp :=
  ⟨f, _, hm, hk, (funD_mk l hc hk).bindsN hbd, fnG_of l hc S len hb hsp⟩
/-- the promise of a law that finds the table at P empty -/
def lawSpT (n : Nat) (P : Addr) (q : Str) : DSp := fun ds G Q _ => ∃ ns : List Int, ds = [.lsk (ns.map D.int)] ∧ G P = some (.tb q) ∧ ns.length ≤ n ∧ (∀ z ∈ ns, Builtin.Int.intBits z ≤ 1048576) ∧ ∀ G', Q (.bl true) G'
theorem law_callGT {Pr : Program} {w : World} {K : PySem.W.Frag} {mg mb : Str → Option Value} {k n : Nat} {fa a c P : Addr} {q x : Str} {fd : FuncData} {s₁ : Shared} {vs : List Value} {ns : List Int}
    (inK : K.In s₁.heap) (nsM : s₁.heap.Ns mainGlobals mg) (nsB : s₁.heap.Ns builtinsNs mb) (hbb : ∀ x : Str, x ≠ "__name__" → mb x = bootBuiltins x) (nolim : s₁.heap.NoLimit) (hg : s₁.gens = #[])
    (tabP : s₁.heap.get? P = some { cls := .none, data := .fields #[] }) (noP : K.lookup P = none) (hd : PySem.W.CodeHd s₁.heap c P)
    (bmn : ∃ (bm : Addr) (ob : Obj), mg "__builtins__" = some (.ref bm) ∧ bm ≠ builtinsNs ∧ s₁.heap.get? bm = some ob ∧ ob.cls = .type "module" ∧ ob.dict = some builtinsNs ∧ ob.data = .plain)
    (ha : s₁.heap.get? a = some { cls := .type "list", data := .seq vs.toArray }) (hi : IntsAre vs ns) (hl : ns.length ≤ sizeLine) (hn : ns.length ≤ n) (hbit : ∀ z ∈ ns, Builtin.Int.intBits z ≤ 1048576) (hr : Room k callerA)
    (F : ∀ base : Heap, K.In base → base.Ns mainGlobals mg → LamX.TabB base mg c P → FnG Pr w K mg base k fa fd [x] (upSp K (mhOf Pr w mg) (lawSpT n P q))) (hbind : ∀ (s : Shared) (u : Value), BindsTo s fd ⟨[u], []⟩ [(x, u)]) :
    codeAny (model Pr w) callerA (.call (.ref fa) ⟨[.ref a], []⟩) (fun r s' => r = .ok (.ret (.bool true)) ∧ OldK s₁.heap s'.heap ∧ s'.os = s₁.os ∧ AllBare s'.gens) s₁ := by
  have rv := vals_ints hi
  have aP : a ≠ P := fun z => by
    rw [z, tabP] at ha
    cases ha
  -- the abstract heap: the table, and the script where the module doesn't hold it
  have core : ∀ H : Hp, H P = some (.tbl #[]) → (∀ b, b ≠ P → H b = none ∨ (b = a ∧ K.lookup a = none ∧ ∃ o xs, H b = some (.frz o (.lst xs)))) → SqL K H a (ns.map V.int) → HOk Pr w H s₁.heap →
      codeAny (model Pr w) callerA (.call (.ref fa) ⟨[.ref a], []⟩) (fun r s' => r = .ok (.ret (.bool true)) ∧ OldK s₁.heap s'.heap ∧ s'.os = s₁.os ∧ AllBare s'.gens) s₁ := fun H hP hO hS hok => by
    have seen : ∀ {b : Addr} {o : Obj}, s₁.heap.get? b = some o → (∀ us m, o.data ≠ .seq us m) → o.data ≠ .fields #[] → (hidT s₁.heap H).get? b = some o := fun {b o} e h1 h2 => hidT_get e (by
      by_cases z : b = P
      · rw [z, tabP] at e
        cases e
        exact absurd rfl h2
      · rcases hO b z with y | ⟨rfl, _, _⟩
        · exact y
        · rw [ha] at e
          cases e
          exact absurd rfl (h1 _ _))
    have names : ∀ {b : Addr} {m : Str → Option Value}, s₁.heap.Ns b m → (hidT s₁.heap H).Ns b m := fun {b m} ⟨o, es, ep, e, d, r⟩ => ⟨o, es, ep, seen e (fun us m z => by rw [d] at z; cases z) (fun z => by rw [d] at z; cases z), d, r⟩
    have kb : K.In (hidT s₁.heap H) := fun b o e => hidT_get (inK b o e) (by
      by_cases z : b = P
      · rw [z, noP] at e; cases e
      · rcases hO b z with y | ⟨rfl, y, _⟩
        · exact y
        · rw [y] at e; cases e)
    have tb : LamX.TabB (hidT s₁.heap H) mg c P := by
      refine ⟨?_, ?_, fun z => ?_⟩
      · obtain ⟨o, us, file, tf, flags, tg, inF, text, tt, e1, r1, r2, r3, r⟩ := hd
        exact ⟨o, us, file, tf, flags, tg, inF, text, tt, seen e1 (fun us m z => by rw [r2] at z; cases z) (fun z => by rw [r2] at z; cases z; simp at r3), r1, r2, r3, r⟩
      · obtain ⟨bm, ob, b1, b2, b3, b4, b5, b6⟩ := bmn
        refine ⟨bm, ob, b1, b2, fun z => ?_, fun z => ?_, seen b3 (fun us m z => by rw [b6] at z; cases z) (fun z => by rw [b6] at z; cases z), b4, b5, b6⟩
        · obtain ⟨o, es, ep, e, hdd, _⟩ := nsM
          rw [z, e] at b3
          cases b3
          rw [hdd] at b6
          cases b6
        · rw [z, tabP] at b3
          cases b3
          cases b6
      · obtain ⟨o, es, ep, e, hdd, _⟩ := nsM
        rw [z, tabP] at e
        cases e
        cases hdd
    have md : Mod K mg (hidT s₁.heap H) := ⟨kb, names nsM, ⟨mb, names nsB, hbb⟩, by obtain ⟨mc, h1, h2⟩ := nolim; exact ⟨mc, names h1, h2⟩⟩
    have e0 : Env0 Pr w K mg (hidT s₁.heap H) callerA [] s₁ H := ⟨rfl, md, (fun b o e => of_hidT e), Nat.le_of_eq (hidT_size _ _), trivial, (fun b hb => nomatch hb), hok, .of_eq hg⟩
    have G0 : HpOk K (mhOf Pr w mg) H (fun b => if b = P then some (.tb q) else none) := fun b o e => by
      by_cases z : b = P
      · subst z
        have e := (if_pos rfl).symm.trans e
        cases e
        exact .tb ⟨#[], hP, True.intro, fun pos cv y => by
          have y : codeAmong pos [] = some cv := y
          simp [codeAmong] at y⟩
      · have e := (if_neg z).symm.trans e
        cases e
    have rs : Rp K (mhOf Pr w mg) H (fun b => if b = P then some (.tb q) else none) (.lsk (ns.map D.int)) (.ref a) := by
      refine .lsk ?_ (rpL_ints ns)
      rcases hS with (h | ⟨o, h⟩) | ⟨o, its, m, h⟩
      · rcases hO a aP with z | ⟨_, _, o, xs, z⟩
        · rw [z] at h; cases h
        · rw [z] at h; cases h
      · exact .inl ⟨if_neg aP, o, h⟩
      · exact .inr ⟨o, its, m, h⟩
    have ask : upSp K (mhOf Pr w mg) (lawSpT n P q) [.ref a] H (fun v _ => v = .bl true) (fun _ _ _ => False) :=
      ⟨_, _, fun d _ => d = .bl true, fun _ _ => False, .cons rs .nil, G0, ⟨ns, rfl, if_pos rfl, hn, hbit, fun _ => rfl⟩, fun d G' H' v e _ _ r => by subst e; cases r; rfl, fun _ _ _ _ _ z => z.elim⟩
    refine codeAny_mono ((F _ kb (names nsM) tb).run callerA [] s₁ H ⟨[.ref a], []⟩ [.ref a] [.ref a] _ _ hr rfl e0 (hbind s₁ (.ref a)) (.cons rfl .nil) ask) (fun y s' h => ?_)
    match y, h with
    | .error e, h =>
      obtain ⟨_, _, _, _, _, _, _, _, _, _, _, _, z⟩ := (show L2.CX Pr w [] H s₁ (fun _ _ _ => False) e s' from h)
      exact z.elim
    | .ok .next, h => exact h.elim
    | .ok .brk, h => exact h.elim
    | .ok .cont, h => exact h.elim
    | .ok (.ret u), h =>
      obtain ⟨v, H', os, bare, un, hok', r', ev⟩ := h
      subst ev
      obtain rfl : u = Value.bool true := r'
      have stays : ∀ b o, b ≠ P → s₁.heap.get? b = some o → s'.heap.get? b = some o := fun b o nb e => by
        rcases hO b nb with y | ⟨_, _, ob, xs, y⟩
        · exact un.keep b o e y (fun z => nomatch z) (fun z => nomatch z)
        · have z2 := un.frzs b ob _ y
          have e1 := (hok b _ y).1
          rw [e] at e1; cases e1
          exact (hok' b _ z2).1
      obtain ⟨more, gm⟩ := un.tbls P #[] hP
      have grown : s'.heap.get? P = some { cls := .none, data := .fields (#[] ++ more) } := hok' P _ gm
      refine ⟨rfl, ⟨fun b o e => ?_, fun b o e => ?_⟩, os, bare⟩
      · by_cases z : b = P
        · subst z
          rw [tabP] at e
          cases e
          exact .inr (.inl ⟨(hd.tab tabP).isCodeTable, rfl, #[], more, rfl, grown⟩)
        · exact .inl (stays b o z e)
      · by_cases z : b = P
        · subst z; exact ⟨_, grown⟩
        · exact ⟨o, stays b o z e⟩
  cases hk : K.lookup a with
  | some o =>
    have e := inK a o hk
    rw [ha] at e
    cases e
    exact core (fun b => if b = P then some (.tbl #[]) else none) (if_pos rfl) (fun b z => .inl (if_neg z)) (.inr ⟨_, vs.toArray, _, hk, rfl, rfl, rfl, by rw [List.size_toArray, hi.length]; exact hl, by simpa using rv⟩) fun b u z => by
      by_cases y : b = P
      · subst y
        have z := (if_pos rfl).symm.trans z
        cases z
        exact tabP
      · have z := (if_neg y).symm.trans z
        cases z
  | none =>
    refine core (fun b => if b = a then some (.frz { cls := .type "list", data := .seq vs.toArray } (.lst (ns.map V.int))) else if b = P then some (.tbl #[]) else none) ((if_neg (Ne.symm aP)).trans (if_pos rfl)) (fun b z => ?_) (.inl (.inr ⟨_, if_pos rfl⟩)) fun b u z => ?_
    · by_cases y : b = a
      · exact .inr ⟨y, hk, _, _, if_pos y⟩
      · exact .inl ((if_neg y).trans (if_neg z))
    · by_cases y : b = a
      · subst y
        have z := (if_pos rfl).symm.trans z
        cases z
        exact ⟨ha, by rw [List.length_map]; exact hl, vs, _, rv, ha⟩
      · have z1 := (if_neg y).symm.trans z
        by_cases y2 : b = P
        · subst y2
          have z2 := (if_pos rfl).symm.trans z1
          cases z2
          exact tabP
        · have z2 := (if_neg y2).symm.trans z1
          cases z2
/-- the code object c of a def of the text: its table at P stands empty ahead of the law's call -/
theorem walk_ofGT {l : PySem.W.OpenLaw} {n k : Nat} {q : Program} {loose : List Str} {XP : (Str → Option Value) → Heap → Prop} {YP : World → Heap → Prop} {d : DefRec} {K : Params → PySem.W.Frag} {x ql : Str}
    (hn : l.most = some n) (hn2 : n ≤ sizeLine) (hdf : d.params.defaults = []) (hr : Room k callerA) (hY : ∀ (w : World) (h : Heap), YP w h → (K w.params).In h)
    (F : ∀ (w : World) (mg : Str → Option Value) (fa : Addr) (h : Heap), YP w h → (K w.params).In h → h.Ns mainGlobals mg → mg d.name = some (.ref fa) →
      ∃ (fd : FuncData) (c P : Addr), (∀ (s : Shared) (u : Value), BindsTo s fd ⟨[u], []⟩ [(x, u)]) ∧ (h.get? P = some { cls := .none, data := .fields #[] } ∧ PySem.W.CodeHd h c P) ∧ (K w.params).lookup P = none ∧
        ∀ base : Heap, (K w.params).In base → base.Ns mainGlobals mg → LamX.TabB base mg c P → FnG l.prog w (K w.params) mg base k fa fd [x] (upSp (K w.params) (mhOf l.prog w mg) (lawSpT n P ql))) :
    PySem.W.WalkO q loose XP YP l.row.toRowW d [] (fun f vs => PySem.call f vs) := by
  refine Att.attach_callB hn hdf (fun w s₀ s₁ mg mb fa o pm cd doc a vs ns G Y ho hd hcd hmg hobj hints hlen hbits hg => ?_)
  have KX := hY w _ Y
  obtain ⟨fd, c, P, hb, ht, hP, hF⟩ := F w mg fa _ Y KX G.T.g hmg
  exact law_callGT KX G.T.g G.T.b G.T.builtins G.T.nolimit hg ht.1 hP ht.2 G.T.bmain hobj hints (Nat.le_trans hlen hn2) hlen hbits hr hF hb
end DL

/-! ### 75. xs.insert(i, v); x != y where live lists stand within x -/
namespace DL
open L2 PyProof.Rows PySem PySem.Spec PySem.W
def dInsert (to : DE) (t : DA) : DE := fun W δ G Q => to W δ G fun x G1 => ∃ a, x = .ref a ∧ isL G1 a ∧ t W δ G1 fun ds G2 => ∃ (i : Int) (y : D) (xs : List D), ds = [.int i, y] ∧ G2 a = some (.lst xs) ∧ xs.length < sizeLine ∧ (0 ≤ i ∧ i < 2 ^ 63) ∧ Q .non (upG G2 a (.lst (xs.take i.toNat ++ [y] ++ xs.drop i.toNat)))
/-- x as it is where its live lists stand still -/
def rNeP : R2D := fun x y G Q => ∃ (x' : D) (G' : DH), Sub G' G ∧ FzV G G' x x' ∧ rs G' x' = x' ∧ okN 60 x' = true ∧ okN 60 (rs G y) = true ∧ Q (.bl (!deq x' (rs G y))) G
section
variable {X : Cx} {lv : Nat} {cm : Bool} {apos cpos pos : Pos}
theorem od_neP : OpD X lv cm (compareOp .NotEq) rNeP := by
  intro gd pins s σ H G dx dy x y v u Q R I rx ry hg r1 r2 h l
  obtain ⟨x', G', sb, fz, er, k1, k2, q⟩ := h
  have g' := hg.sub sb
  have r' := FzV.rp sb hg fz r1
  have k1' : okN 60 (rs G' x') = true := by rw [er]; exact k1
  have d1 := rs_dp g' r' k1'
  rw [er] at d1
  exact op_neD gd.un64 pins s σ H _ _ v u Q I rx ry ⟨_, _, d1, rs_dp hg r2 k2, shaped_py k1, shaped_py k2, l _ G H _ q (Ext.refl _ _) hg (.bl _)⟩
theorem pd_insert {o e1 e2 : Expr} {to : DE} {t : DA} (ho : PD X lv cm o to) (ha : PDA X lv cm [e1, e2] t) (hbase : attributeBase o "insert" X.env (eval o X.env) = eval o X.env := by rfl)
    (hfew : ((backTo cpos (starEach [e1, e2] X.env)).all (fun x => !x.1) && (backToKw cpos (keywordEach [] X.env)).all (fun x => x.1.isSome) && decide ([e1, e2].length + ([] : List Keyword).length + (if ([] : List Keyword).isEmpty then 0 else 1) < 30)) = true := by rfl)
    (hline : (apos.endLine == cpos.line) = true := by rfl) (hs : starEach [e1, e2] X.env = (false, eval e1 X.env) :: starEach [e2] X.env := by rfl) (hpl : (backTo cpos (starEach [e2] X.env)).any (·.1) = false := by rfl) : PD X lv cm (.Call (.Attribute o "insert" apos) [e1, e2] [] cpos) (dInsert to t) := fun gd Wx tk =>
  pe_imp (pe_bm F.plainAttrs_list F.slot_list_insert F.type_list_insert mt_insert (ho gd Wx tk) (ha gd Wx tk) hbase hfew hline hs hpl) fun σ H Q ⟨W, δ, G, R, st, hg, ht, lQ, lW⟩ => ⟨W, δ, G, _, st, hg, ht, fun x G1 H1 v h1 e1 g1 r1 => by
    obtain ⟨a, rfl, hi, h1⟩ := h1
    cases r1
    obtain ⟨vs0, ha0⟩ := isL_at g1 hi
    refine ⟨.inl ⟨rfl, vs0, .inl (.inl ha0)⟩, W, δ, G1, _, st.ext e1, g1, h1, fun ys G2 H2 us h2 e2 g2 r2 => ?_, fun ex δ' G' σ' H' cls dd hw e2 => lW ex δ' G' σ' H' cls dd hw (e1.trans e2)⟩
    obtain ⟨i, y, xs, rfl, h3, hz, ⟨i0, i1⟩, q⟩ := h2
    have ob := g2 a _ h3
    cases ob with
    | lst e3 ra =>
    rename_i vs
    cases r2 with
    | cons ri rt =>
    cases ri
    cases rt with
    | cons ry rn =>
    cases rn
    rename_i vy
    have ext := Ext.write (H := H2) (o := .lst (xs.take i.toNat ++ [y] ++ xs.drop i.toNat)) (u := .lst (vs.take i.toNat ++ [vy] ++ vs.drop i.toNat)) h3
    refine ⟨a, vs, i, vy, rfl, rfl, e3, by rw [← ra.length]; exact hz, i0, i1, lQ .non _ _ _ q ((e1.trans e2).trans ext) (g2.upd ext (.lst upd_same ((((ra.take _).append (.one ry)).append (ra.drop _)).ext ext))) .non⟩, lW⟩
end
end DL

/-! ### 76. x not in texts, where x is a tuple of anything, or a dict -/
namespace DL
open L2 PyProof.Rows PySem PySem.Spec PySem.W
def isTupB (d : D) : Bool := match d with
  | .tup _ => true
  | _ => false
def rNotInT : R2D := fun x y G Q => if isTupB (rs G x) = true then (∃ ns : List Str, rs G y = .lst (ns.map D.str)) ∧ Q (.bl true) G else rNotInS x y G Q
section
variable {X : Cx} {lv : Nat} {cm : Bool}
theorem od_notInT : OpD X lv cm (compareOp .NotIn) rNotInT := by
  intro gd pins s σ H G dx dy x y v u Q R I rx ry hg r1 r2 h l
  unfold rNotInT at h
  by_cases c : isTupB (rs G dx) = true
  · rw [if_pos c] at h
    obtain ⟨⟨ns, h2⟩, q⟩ := h
    have key : ∃ (b : Addr) (ws : List V), x = .ref b ∧ SqT X.K H b ws := by
      cases r1 with
      | tup ta _ => exact ⟨_, _, rfl, ta.sqT⟩
      | ref a =>
        exfalso
        revert c
        simp only [rs]
        generalize G a = o
        rcases o with _ | o
        · exact fun c => Bool.noConfusion c
        · cases o <;> exact fun c => Bool.noConfusion c
      | _ => exact Bool.noConfusion c
    obtain ⟨b, ws, rfl, sq⟩ := key
    obtain rfl : v = Value.ref b := rx
    obtain ⟨jts, _, htup, _⟩ := I.tuple sq
    obtain ⟨a, vs, rfl, ha, ra⟩ := rs_lst hg r2 h2
    obtain rfl : u = Value.ref a := ry
    obtain ⟨its, rv, pl, hz⟩ := I.list (X := X) (.inl (.inl ha))
    rw [rpL_strs ra] at rv
    have st := rv.strs
    refine SeqAt.notIn_listAt (fun _ => false) pl.isList (fun w hw => ?_) ⟨.bl true, H, I, ?_, l _ G H _ q (Ext.refl _ _) hg (.bl _)⟩
    · have hw' : w ∈ its := by simpa using hw
      obtain ⟨i, hi, rfl⟩ := List.mem_iff_getElem.mp hw'
      have hl := rv.length
      have ei : (ns.map V.str)[i]? = some (.str (ns[i]'(by simp at hl; omega))) := by
        rw [List.getElem?_map, List.getElem?_eq_getElem (by simp at hl; omega)]; rfl
      obtain ⟨w', e2, t, et⟩ := rv.get ei
      rw [List.getElem?_eq_getElem hi] at e2
      cases e2
      rw [et]
      exact SeqAt.EqAt.str_tuple _ t htup (by have := gd.un1; show X.A.units + 1 < _; omega)
    · show Value.bool _ = Value.bool _
      simp
  · rw [if_neg c] at h
    exact od_notInS gd pins s σ H G dx dy x y v u Q R I rx ry hg r1 r2 h l
end
end DL

namespace DL
open L2 PyProof.Rows PySem PySem.Spec
/-! ### 83. dict(pairs) whose keys are of either kind, changed later -/
def mgX (acc more : List (MKey × D)) : List (MKey × D) := more.foldl (fun acc p => ptX p.1 p.2 acc) acc
def mgV (acc more : List MV) : List MV := more.foldl (fun acc p => mput p.1 p.2.1 p.2.2 acc) acc
theorem mgV_len : ∀ {more acc : List MV}, (mgV acc more).length ≤ acc.length + more.length
  | [], acc => Nat.le_refl _
  | q :: more, acc => by
    have h1 := mput_len (k := q.1) (y := q.2.1) (v := q.2.2) (kvs := acc)
    have h2 := mgV_len (more := more) (acc := mput q.1 q.2.1 q.2.2 acc)
    show (mgV (mput q.1 q.2.1 q.2.2 acc) more).length ≤ _
    rw [List.length_cons]
    omega
theorem mixRel.merge : ∀ {vs : List MV} {xs : List MEnt} {avs : List MV} {axs : List MEnt}, mixRel vs xs → mixRel avs axs → mixRel (mgV avs vs) (mmerge axs xs)
  | _, _, _, _, .nil, a => a
  | p :: vs, q :: xs, _, _, .cons r t, a => by
    show mixRel (mgV (mput p.1 p.2.1 p.2.2 _) vs) (mmerge (ptM q.1 q.2.1 q.2.2 _) xs)
    rw [← r.1]
    exact mixRel.merge t (a.put r.2.1 r.2.2)
section
variable {X : Cx} {lv : Nat} {cm : Bool}
theorem RpX.merge {H : Hp} {G : DH} : ∀ {kvs : List (MKey × D)} {vs : List MV} {ak : List (MKey × D)} {av : List MV}, RpX X.K X.mh H G kvs vs → RpX X.K X.mh H G ak av → RpX X.K X.mh H G (mgX ak kvs) (mgV av vs)
  | [], _, _, _, .nil, a => a
  | (k, d) :: kvs, (_, y, v) :: vs, ak, av, .cons q r t, a => show RpX X.K X.mh H G (mgX (ptX k d ak) kvs) (mgV (mput k y v av) vs) from RpX.merge t (RpX.put q r a)
def prX (ps : List (MKey × D)) : List D := ps.map fun p => .tup [keyD p.1, p.2]
theorem pairsX {pins : List (Addr × Obj)} {s : Shared} {σ : L2.St} {H : Hp} {G : DH} (I : Inv X pins σ H s) : ∀ {ps : List (MKey × D)} {ws : List V} {us : List Value}, RpL X.K X.mh H G (prX ps) ws → Vals ws us →
    ∃ (vs : List MV) (prs : List MEnt), RpX X.K X.mh H G ps vs ∧ mixRel vs prs ∧ prs.length = us.length ∧ ∀ (j : Nat) (q : MEnt), prs[j]? = some q → ∃ b : Addr, us[j]? = some (.ref b) ∧ IsTup s.heap b #[q.2.1, q.2.2] ∧ mIs X.prog X.w s.heap q.1 q.2.1
  | [], _, _, .nil, .nil => ⟨[], [], .nil, .nil, rfl, fun j q h => by simp at h⟩
  | p :: ps, _, _, .cons r t, .cons x y => by
    obtain ⟨vs, prs, h1, h2, h3, h4⟩ := pairsX I (ps := ps) t y
    cases (show Rp X.K X.mh H G (.tup [keyD p.1, p.2]) _ from r) with
    | tup ta rl =>
      cases rl with
      | cons rk rr => cases rr with
        | cons rv rn =>
          cases rn
          obtain ⟨its, rits, hp, hz⟩ := I.tuple (X := X) ta.sqT
          obtain ⟨u1, u2, ei, q1, q2⟩ := vals2 rits
          subst ei
          cases (show _ = Value.ref _ from x)
          refine ⟨(p.1, _, _) :: vs, (p.1, u1, u2) :: prs, .cons rk rv h1, .cons ⟨rfl, q1, q2⟩ h2, by simp [h3], fun j q h => ?_⟩
          cases j with
          | zero =>
            simp only [List.getElem?_cons_zero, Option.some.injEq] at h
            subst h
            exact ⟨_, rfl, hp, key_is I rk q1⟩
          | succ j =>
            simp only [List.getElem?_cons_succ] at h ⊢
            exact h4 j q h
def rDictX : RLD := fun ds G Q => match ds with
  | [.lst xs] => ∃ ps : List (MKey × D), xs = prX ps ∧ ∀ p, G p = none → Q (.ref p) (upG G p (.mx (mgX [] ps)))
  | _ => False
theorem cd_dictX : CallD X lv true (.type "dict") rDictX := by
  intro gd pins s σ H vs us Q I rv ⟨ds, G, R, hg, r0, h, l⟩
  unfold rDictX at h
  split at h
  · rename_i xs
    obtain ⟨v, rfl, r⟩ := one_rp r0
    obtain ⟨ps, rfl, h⟩ := h
    cases r with
    | lst g e2 ra =>
      obtain ⟨u, rfl, rx⟩ := vals1 rv
      cases rx
      obtain ⟨its, r', pl, hz⟩ := I.list (X := X) (.inl (.inl e2))
      obtain ⟨mvs, prs, h1, h2, h3, h4⟩ := pairsX I ra r'
      rw [r'.length] at hz
      obtain ⟨o, n, ho, hc, hd, hdat⟩ := pl
      refine call_dictX (prs := prs) (I.ok.hd (gd.cl rfl)) (by have := gd.un; omega) ho hc hd hdat (by simp [h3]) (by rw [h3]; exact hz) (fun j q e => ?_) fun h' tk hd' hk => ?_
      · obtain ⟨b, e1, e2', e3⟩ := h4 j q e
        exact ⟨b, by simpa using e1, e2', e3⟩
      · have hm : (s.heap.objs.size == sysModules) = false := beq_eq_false_iff_ne.mpr (Nat.ne_of_gt I.big)
        have hlen : (mgV [] mvs).length ≤ sizeLine := by
          refine Nat.le_trans mgV_len ?_
          rw [List.length_nil, Nat.zero_add, show mvs.length = prs.length from Paired.length h2, h3]
          exact hz
        have hp0 : H s.heap.objs.size = none := I.hok.fresh (Nat.le_refl _)
        obtain ⟨od, es, ep, ho', hc', hda, he, his, hn⟩ := hd'
        refine ⟨.ref s.heap.objs.size, L2.upd H s.heap.objs.size (mixO (mHash X.prog X.w) s.heap.objs.size od (mgV [] mvs)), I.laid (t' := tk) hk (Nat.le_refl _) ⟨⟨hlen, hm, _, es, ep, h2.merge .nil, ho', hc', hda, he, hn⟩, ⟨_, ho'⟩, ?_⟩, rfl,
          l _ _ _ _ (h s.heap.objs.size (hg.free hp0)) (Ext.new hp0) (HpOk.new hg hp0 (.mx upd_same ((RpX.merge h1 .nil).ext (Ext.new hp0)))) (.ref _)⟩
        rintro k1 k2 ⟨z1, z2, xs, es, ep, rel, ho, hc, hda, he, hn⟩ st
        exact ⟨z1, z2, xs, es, ep, rel, st _ ho, hc, hda, he, hn⟩
  · exact h.elim
variable {pos : Pos}
def dTupK (t : DA) : DE := fun W δ G Q => t W δ G fun ds G1 => ds.length ≤ sizeLine ∧ Q (.tpk ds) G1
/-- a tuple that is written out is a plain one -/
theorem pd_tupK {es : List Expr} {t : DA} {k : Nat} (ha : PDA X lv cm es t) : PD X lv cm (.Tuple es k pos) (dTupK t) := fun gd Wx tk => by
  refine ⟨fun pins s σ H Q I ⟨W, δ, G, R, st, hgo, ht, lQ, lW⟩ => ?_⟩
  refine wpAny_Tuple (thn ((ha gd Wx tk).run pos pins s σ H (fun vs H1 => ∃ ds G1, Ext H G H1 G1 ∧ HpOk X.K X.mh H1 G1 ∧ RpL X.K X.mh H1 G1 ds vs ∧ ds.length ≤ sizeLine ∧ R (.tpk ds) G1) I
    ⟨W, δ, G, _, st, hgo, ht, fun ds G1 H1 vs h1 e1 g1 r1 => ⟨ds, G1, e1, g1, r1, h1.1, h1.2⟩, lW⟩) fun us s1 ⟨vs, H1, I1, r, ds, G1, e1, g1, r1, hz, q⟩ => ?_)
  have lu : us.length = ds.length := r.length.symm.trans r1.length.symm
  refine ⟨by rw [lu]; exact hz, ?_⟩
  have nf : H1 s1.heap.objs.size = none := I1.hok.fresh (Nat.le_refl _)
  have I2 : Inv X pins σ (L2.upd H1 s1.heap.objs.size (.frz ⟨.type "tuple", none, .seq us.toArray 0, #[]⟩ (.tup vs))) { s1 with heap := s1.heap.push { cls := .type "tuple", data := .seq us.toArray } } :=
    I1.laid (t' := s1.toks) (fun b o e => Heap.get?_push_of_some _ e) (Nat.le_refl _) (show ObjOk X.prog X.w _ _ _ (.frz _ (.tup vs)) from ⟨Heap.get?_push_size _ rfl, by rw [← r1.length]; exact hz, us, r, IsTup.new _ _⟩)
  exact ⟨.ref s1.heap.objs.size, _, I2, rfl, lQ _ G1 _ _ q (e1.trans (Ext.newF nf)) (g1.newF nf) (.tpk ⟨g1.free nf, _, rfl, upd_same⟩ (r1.ext (Ext.newF nf)))⟩
end
end DL

/-! ### 84. (text, x) != (text, y), x and y instances that are equal by their own __eq__ -/
namespace DL
open L2 PyProof.Rows PySem PySem.Spec PySem.W
section
open GQ
variable {prog : Program} {w : World} {A : Around} {R : Result → Shared → Prop} {E : Value → Shared → Prop}
theorem tuple_neG (l b : Addr) (items items2 : Array Value) (n n2 : Nat) (dd dd2 : Option Addr) (sl sl2 : Array (Option Value)) (hsz : items.size = items2.size) (I : Nat → Shared → Prop)
    (turn : ∀ i (h1 : i < items.size) (h2 : i < items2.size) s, I i s → wpAny (model prog w) A.in1 (eqBool items[i] items2[i]) (fun r s' => r = true ∧ I (i + 1) s') (fun e s' => R (.error e) s') s)
    (fin : ∀ s, I items.size s → R (.ok (.ret (.bool false))) s) {s : Shared} (hl1 : s.heap.get? l = some { cls := .type "tuple", dict := dd, data := .seq items n, slots := sl }) (hb1 : s.heap.get? b = some { cls := .type "tuple", dict := dd2, data := .seq items2 n2, slots := sl2 }) (h : I 0 s) :
    wpAny (model prog w) A.in1 (Builtin.«tuple.__ne__» ⟨[.ref l, .ref b], []⟩) (FinOf prog w A R) (fun e s' => R (.error e) s') s := by
  have f2 := AutoSeq1.sub_tuple_tuple
  have hZ : (items.toList.zip items2.toList).length = items.size := by simp [hsz]
  have h0 := h
  obtain ⟨hp, g, d, tk, os⟩ := s
  wp_walk using wpAny_loadPart' hl1, wpAny_loadPart' hb1, wpAny_forIn_list _ (fun rest b s' => b.1 = none ∧ ∃ i, rest = (items.toList.zip items2.toList).drop i ∧ i ≤ items.size ∧ I i s') _
  case turn =>
    rintro ⟨y, x⟩ rest b s' ⟨hb', i, hz, hi, hI⟩
    have hlt : i < (items.toList.zip items2.toList).length := by
      rcases Nat.lt_or_ge i (items.toList.zip items2.toList).length with h' | h'
      · exact h'
      · rw [List.drop_of_length_le h'] at hz; cases hz
    have h1 : i < items.size := hZ ▸ hlt
    have h2 : i < items2.size := hsz ▸ h1
    rw [List.drop_eq_getElem_cons hlt] at hz
    injection hz with hyx hrest
    have hy : y = items[i] := by have := congrArg Prod.fst hyx; simpa using this
    have hx : x = items2[i] := by have := congrArg Prod.snd hyx; simpa using this
    subst hy hx
    refine wpAny_bind (wpAny_mono (turn i h1 h2 s' hI) (fun r s2 q2 => ?_) fun _ _ x => x)
    obtain ⟨hr, q2⟩ := q2
    subst hr
    wp_walk
    exact ⟨rfl, i + 1, hrest, h1, q2⟩
  case fin =>
    rintro ⟨b1, b2⟩ s' ⟨hb', i, hz, hi, hI⟩
    simp only at hb'
    subst hb'
    have hge : items.size ≤ i := by
      rcases Nat.lt_or_ge i (items.toList.zip items2.toList).length with h' | h'
      · rw [List.drop_eq_getElem_cons h'] at hz; cases hz
      · exact hZ ▸ h'
    have hi' : i = items.size := by omega
    have hR : R (.ok (.ret (.bool false))) s' := fin s' (hi' ▸ hI)
    wp_walk
    simpa [Builtin.Tuple.tupleCompareSizes, hsz] using hR
  case h =>
    exact ⟨rfl, 0, rfl, Nat.zero_le _, h0⟩
theorem rc_tupNe {s : Shared} {l b : Addr} {items items2 : Array Value} {Q : Value → Shared → Prop} (hsz : items.size = items2.size) (hu : A.units < cLine) (I : Nat → Shared → Prop)
    (hl : s.heap.IsTuple l items) (hb : s.heap.IsTuple b items2)
    (turn : ∀ i (h1 : i < items.size) (h2 : i < items2.size) s, I i s → wpAny (model prog w) A.in1 (eqBool items[i] items2[i]) (fun r s' => r = true ∧ I (i + 1) s') E s)
    (fin : ∀ s, I items.size s → Q (.bool false) s) (h : I 0 s) : wpAny (model prog w) A (richCompare .NotEq (.ref l) (.ref b)) Q E s := by
  obtain ⟨⟨cls, dd, data, sl⟩, ho, hc, n, hd⟩ := id hl
  obtain ⟨⟨cls2, dd2, data2, sl2⟩, ho2, hc2, n2, hd2⟩ := id hb
  simp only at hc hd hc2 hd2
  subst hc hd hc2 hd2
  refine wpAny_richCompare_same_room (op := .NotEq) ⟨_, ho, rfl⟩ ⟨_, ho2, rfl⟩ F.slot_tuple_ne (GQ.call_here F.slot_tuple_ne ⟨_, ho, rfl⟩ F.entry_tuple_ne (F.args_tuple_ne_2 _ _) ?_) hu
  exact tuple_neG (R := wants (fun v s' => v ≠ .notImplemented ∧ Q v s') E) l b items items2 n n2 dd dd2 sl sl2 hsz I turn (fun s' q => ⟨(fun x => nomatch x), fin s' q⟩) ho ho2 h
end
/-- a text and an instance, each -/
def rNeT (n : Str) (sp : DSp) : R2D := fun x y G Q => match x, y with
  | .tup [.str a, d], .tup [.str b, e] => (a = b ∧ (match rs G d, rs G e with
    | .ins c _, .ins c' _ => c.nm = n ∧ c'.nm = n
    | _, _ => False)) ∧ Q (.bl false) G ∧ Ap sp [d, e] G (fun v G1 => v = .bl true ∧ Q (.bl false) G1) (fun _ _ => False) .mk
  | _, _ => False
section
variable {X : Cx} {lv k : Nat} {n : Str} {ps : List Str} {sp : DSp}
theorem eqBool_same {prog : Program} {w : World} {A : Around} {E : Value → Shared → Prop} {s : Shared} {l : Addr} {Q : Bool → Shared → Prop} (q : Q true s) : wpAny (model prog w) A (eqBool (.ref l) (.ref l)) Q E s := by
  unfold eqBool
  refine wpAny_holding ?_
  rw [if_pos (by simp)]
  exact wpAny_bind (wpAny_rule (wpAny_pure q))
theorem od_neT (M : HasMX X n "__eq__" k ps sp) (hk : k + 1 ≤ lv) : OpD X lv true (compareOp .NotEq) (rNeT n sp) := by
  obtain ⟨C, f, fd, mC, cC, hme, hb, F⟩ := M.ex
  intro gd pins s σ H G dx dy x y v u Q R I rx ry hg r1 r2 h l
  unfold rNeT at h
  split at h
  · rename_i a d b e
    obtain ⟨⟨rfl, hcl⟩, h0, h⟩ := h
    cases r1 with
    | tup ta rl =>
      cases r2 with
      | tup tb rm =>
        cases rl with
        | cons p1 p2 => cases p2 with
          | cons p2 p3 =>
            cases p3
            cases rm with
            | cons q1 q2 => cases q2 with
              | cons q2 q3 =>
                cases q3
                cases p1
                cases q1
                obtain rfl : v = Value.ref _ := rx
                obtain rfl : u = Value.ref _ := ry
                obtain ⟨its, rv, tp, hz⟩ := I.tuple (X := X) ta.sqT
                obtain ⟨its2, rv2, tp2, hz2⟩ := I.tuple (X := X) tb.sqT
                obtain ⟨u1, u2, ei, a1, a2⟩ := vals2 rv
                subst ei
                obtain ⟨w1, w2, ei, b1, b2⟩ := vals2 rv2
                subst ei
                split at hcl
                · rename_i c fs c' fs' e1 e2
                  obtain ⟨pa, C1, ox, od, rfl, rfl, m, J⟩ := ins_look I hg p2 a2 e1
                  rw [hcl.1, mC] at m
                  cases m
                  obtain ⟨pb, C2, ox2, od2, rfl, rfl, m2, J2⟩ := ins_look I hg q2 b2 e2
                  rw [hcl.2, mC] at m2
                  cases m2
                  obtain ⟨m, hF⟩ := I.fr
                  show wpAny _ _ (richCompare .NotEq (.ref _) (.ref _)) _ _ _
                  refine rc_tupNe (items := #[u1, .ref pa]) (items2 := #[w1, .ref pb]) rfl (by have := gd.un; omega) (fun i s' => if i ≤ 1 then s' = s else EP X pins σ Q (.bool false) s') tp tp2 (fun i h1 h2 s' hI => ?_) (fun s' hI => ?_) ?_
                  · have hi : i = 0 ∨ i = 1 := by
                      have : i < 2 := h1
                      omega
                    rcases hi with rfl | rfl
                    · rw [if_pos (by omega)] at hI
                      subst hI
                      refine (mixKind X.prog X.w).eqBool (kV_is (P := X.prog) (w := X.w) (k := .inr a) a1) (kV_is (P := X.prog) (w := X.w) (k := .inr a) b1) ?_
                      exact ⟨decide_eq_true rfl, by rw [if_pos (by omega)]⟩
                    · rw [if_pos (by omega)] at hI
                      subst hI
                      show wpAny _ _ (eqBool (.ref pa) (.ref pb)) _ _ _
                      by_cases nab : pa = pb
                      · subst nab
                        exact eqBool_same ⟨rfl, by rw [if_neg (by omega)]; exact ⟨.bl false, H, I, rfl, l _ G H _ h0 (Ext.refl _ _) hg (.bl _)⟩⟩
                      · refine GQ.eqBool_refG nab ?_
                        refine PySem.W.cmp_K (op := .Eq) (by have := gd.un; show X.A.units + 1 < cLine; omega) hF I.ok.mod.kin J J2.type (by simp [PySem.W.notFirst]) hme.at_ hme.fn ?_
                        have hh : upSp X.K X.mh sp [.ref pa, .ref pb] H (fun v H' => v = .bl true ∧ Q (.bl false) H') (fun cls dd H' => False) := ⟨[d, e], G, _, fun _ _ => False, .cons p2 (.cons q2 .nil), hg, h, fun d G' H' v hd e3 g3 r3 => by
                          obtain ⟨ed, hq⟩ := hd
                          subst ed
                          cases r3
                          exact ⟨rfl, l _ G' H' _ hq e3 g3 (.bl _)⟩, fun x G' H' cls dd hx => hx.elim⟩
                        refine thn (run_fnG1 (Wx := fun _ _ _ _ => False) (vs := [.ref pa, .ref pb]) (us := [.ref pa, .ref pb]) F gd hk L2.takes0 hb I (.cons rfl (.cons rfl .nil)) hh) fun z s2 ⟨zv, H2, I2, rz, ez, q⟩ => ?_
                        subst ez
                        obtain rfl : z = Value.bool true := rz
                        exact ⟨true, rfl, rfl, by rw [if_neg (by omega)]; exact ⟨.bl false, H2, I2, rfl, q⟩⟩
                  · exact hI
                  · show (if (0 : Nat) ≤ 1 then s = s else _)
                    rw [if_pos (by omega)]
                · exact hcl.elim
  · exact h.elim
end
end DL

/-! ### 85. exceptions of own classes as values: made, their fields, what they are -/
namespace DL
open L2 PyProof.Rows PySem PySem.Spec PySem.W
def rXfV (cat : Str → Option Bool) (n : Str) : R1D := fun x G Q => match x with
  | .exv c fs => (cat c.nm = some true ∧ c.fl.length = fs.length) ∧ match (c.fl.zip fs).lookup n with
    | some v => Q v G
    | none => False
  | _ => False
def rIsV (cat : Str → Option Bool) (tc : Str → Str → Option Bool) (tt : Str → String → Option Bool) : RLD := fun ds G Q => match ds with
  | [.exv c _, t] => cat c.nm = some true ∧ match isOf1 (tc c.nm) (tt c.nm) t with
    | some b => Q (.bl b) G
    | none => False
  | _ => False
def dMkV (c : CI) (t : DA) : DE := fun W δ G Q => t W δ G fun ds G1 => (ds.length = c.fl.length ∧ ds.length ≤ 1000) ∧ Q (.exv c ds.reverse) G1
def dMkV0 (n : Str) (te : DE) : DE := fun W δ G Q => te W δ G fun _ G1 => Q (.exv ⟨n, []⟩ []) G1
/-- C(e, ..), C's own __init__ storing the fields fl, as a value -/
def tMkV (C : Addr) (fl : List Str) (ta : TA) : TE := fun σ H Q => ta σ H fun vs H1 => (vs.length = fl.length ∧ vs.length ≤ 1000) ∧ ∀ a d H2, H1 a = none → H1 d = none → a ≠ d → H2 a = some (exo a C (some d)) → H2 d = some (exd d (fl.zip vs).reverse) → (∀ b, b ≠ a → b ≠ d → H2 b = H1 b) → Q (.ref a) H2
section
variable {X : Cx} {lv k : Nat} {cm : Bool} {x n : Str} {C fI : Addr} {fd : FuncData} {ps : List Str} {B newId initId : String} {tl : List Value} {fl gl : List Str} {e : Expr} {es : List Expr} {ta : TA} {t : DA} {te : DE} {p pos : Pos} {cat : Str → Option Bool}
/-- the object, its dict -/
theorem exv_inst {pins : List (Addr × Obj)} {s : Shared} {σ : L2.St} {H : Hp} {G : DH} {c : CI} {fs : List D} {v : V} {u : Value} (I : Inv X pins σ H s) (r : Rp X.K X.mh H G (.exv c fs) v) (ru : RelV v u) :
    ∃ (a C : Addr) (oe : Obj) (od : Option Obj), u = .ref a ∧ X.mg c.nm = some (.ref C) ∧ PySem.W.InstAt s.heap a oe C od := by
  cases r with
  | exv m g h gd hd hk rr =>
    cases (show u = Value.ref _ from ru)
    obtain ⟨t1, ho⟩ := exo_at I.hok h
    obtain ⟨mA, hns, _⟩ := exd_at I.hok hd
    obtain ⟨od, hod, _⟩ := lookIn_ns hns
    exact ⟨_, _, _, some od, rfl, m, ho, rfl, rfl, hod⟩
  | exw m g h =>
    cases (show u = Value.ref _ from ru)
    obtain ⟨⟨oe, vs, ho, hz, hdt, _⟩, _, _⟩ := I.hok _ _ h
    exact ⟨_, _, oe, none, rfl, m, ho, hz.1, by unfold PySem.W.notCls; rw [hdt] <;> rfl, by rw [hz.2]; exact True.intro⟩
theorem pd_xfV (hE : ∀ c : CI, cat c.nm = some true → HasE X.K X.mg c gl) (hn : n ∈ gl) (he : PD X lv cm e te) (hb : attributeBase e n X.env (eval e X.env) = eval e X.env := by rfl) : PD X lv cm (.Attribute e n pos) (dUn (rXfV cat n) te) := fun gd Wx tk => by
  refine ⟨fun pins s σ H Q I ⟨W, δ, G, R, hs, hg, ht, lQ, lW⟩ => ?_⟩
  refine attr_of hb (thn ((he gd Wx tk).run pins s σ H (fun x H1 => ∃ (d : D) (G1 : DH), rXfV cat n d G1 R ∧ L2.Inv X pins σ H1 = L2.Inv X pins σ H1 ∧ DL.Ext H G H1 G1 ∧ HpOk X.K X.mh H1 G1 ∧ Rp X.K X.mh H1 G1 d x) I ⟨W, δ, G, _, hs, hg, ht, fun d G1 H1 v h1 e1 g1 r1 => ⟨d, G1, h1, rfl, e1, g1, r1⟩, lW⟩) fun u s1 ⟨v, H1, I1, ru, d, G1, h1, _, e1, g1, r1⟩ => ?_)
  unfold rXfV at h1
  cases d with
  | exv c fs =>
    obtain ⟨⟨hc, hl⟩, h1⟩ := h1
    obtain ⟨C, mC, T, no⟩ := hE c hc
    cases el : (c.fl.zip fs).lookup n with
    | none => rw [el] at h1; exact h1.elim
    | some w =>
      rw [el] at h1
      cases r1 with
      | exv m g h gd hd hk rr =>
        rw [show X.mh.g _ = _ from mC] at m
        cases m
        cases (show u = Value.ref _ from ru)
        obtain ⟨t1, ho⟩ := exo_at I1.hok h
        obtain ⟨mA, hns, rel⟩ := exd_at I1.hok hd
        obtain ⟨od, hod, hlk⟩ := lookIn_ns hns
        obtain ⟨v', h2, h3⟩ := zip_look hk rr el
        obtain ⟨u', hu, ru'⟩ := RelO.some_of (v := v') (o := mA n) (by rw [← h2]; exact rel n)
        have J : PySem.W.InstAt s1.heap _ _ C (some od) := ⟨ho, rfl, rfl, hod⟩
        exact HandSPX.exc_get I1.kIn J T.hg T.hk T.hs (PySem.W.findObj_own T.hd (no n hn) rfl (by rw [hlk, hu])) (handed_of ru') ⟨v', H1, I1.tok _, ru', lQ w G1 H1 v' h1 e1 g1 h3⟩
      | exw m g h =>
        rw [List.zip_nil_right] at el
        cases el
  | _ => exact h1.elim
theorem cd_isV {tc : Str → Str → Option Bool} {tt : Str → String → Option Bool} (hE : ∀ c : CI, cat c.nm = some true → HasE X.K X.mg c gl) (hI : ∀ c : CI, cat c.nm = some true → HasI X.K X.mg c (tc c.nm) (tt c.nm)) : CallD X lv cm (.builtin "isinstance") (rIsV cat tc tt) := by
  intro gd pins s σ H vs us Q I rv ⟨ds, G, R, hg, r0, h, l⟩
  unfold rIsV at h
  split at h
  · rename_i c fs t
    obtain ⟨hc, h⟩ := h
    obtain ⟨C, mC, T, no⟩ := hE c hc
    have hIc := hI c hc
    obtain ⟨v, u, rfl, r, r2⟩ := two_rp r0
    obtain ⟨u1, u2, rfl, q1, q2⟩ := vals2 rv
    obtain ⟨a, C', oe, od, rfl, m, J⟩ := exv_inst I r q1
    rw [mC] at m
    cases m
    have Z : KitX X.K (.ref a) (.ref C) (fun h => PySem.W.InstAt h a oe C od) := kitx_exc (by obtain ⟨cd, h1, _⟩ := clsOf T.hd; rw [h1]; rfl) T.hg T.hk T.hs T.ha T.hn T.ht T.hm
    have fin : ∀ (b : Bool), R (.bl b) G → ∀ tk : Nat, EP X pins σ Q (.bool b) { s with toks := tk } := fun b hb tk => ⟨.bl b, H, I.tok tk, rfl, l _ G H _ hb (Ext.refl _ _) hg (.bl _)⟩
    cases e1 : isOf1 (tc c.nm) (tt c.nm) t with
    | none => rw [e1] at h; exact h.elim
    | some b =>
      rw [e1] at h
      unfold isOf1 at e1
      split at e1
      · obtain ⟨C1, C2, m1, m2, k⟩ := hIc.own _ _ e1
        rw [mC] at m1
        cases m1
        cases r2 with
        | cls m =>
          rw [show X.mh.g _ = _ from m2] at m
          cases m
          obtain rfl : u2 = Value.ref C2 := q2
          exact kia_one Z I.kIn J k (fun z => nomatch z) (fin b h)
      · obtain ⟨C1, m1, k⟩ := hIc.blt _ _ e1
        rw [mC] at m1
        cases m1
        cases r2
        obtain rfl := q2
        exact kia_one Z I.kIn J k (fun z => nomatch z) (fin b h)
      · cases e1
  · exact h.elim
theorem pe_gexV (T : ExcG X.K C B newId initId tl fl) (iC : findIn X.K (.ref C) "__init__" = some (some (.ref fI))) (tI : typeIn X.K (.ref fI) = some (.type "function")) (F : FnG X.prog X.w X.K X.mg X.base k fI fd ps (spI C fl)) (hb : Binds X.K fd ps [])
    (gd : Gd X lv true) (hk : k + 1 ≤ lv) (hg : Gl X x) (hm : X.mg x = some (.ref C)) (ha : PA X (e :: es) ta)
    (hdb : (x == ("__debug__" : Str)) = false := by decide) (he : starEach (e :: es) X.env = (false, eval e X.env) :: starEach es X.env := by rfl) (hpl : (backTo pos (starEach es X.env)).any (·.1) = false := by rfl) :
    PE X (.Call (.Name x p) (e :: es) [] pos) (tMkV C fl ta) := ⟨fun pins s σ H Q I h => by
  refine wpAny_Call_Name_kw (ld_glob I hg hm ?_ hdb)
  refine callWith_K (h₀ := X.base) I.ok.mod.kin T.kp (thn (ha.run pos pins s σ H _ I h) fun us s1 ⟨vs, H1, I1, r1, ⟨hl, h1000⟩, q1⟩ => ⟨I1.kIn, ?_⟩) he hpl
  show wpAny _ _ (call (.ref C) us) _ _ _
  have hr := gd.room.mono hk
  obtain ⟨nm, N, qn, bs, bm, hdct, sn, sub, ab, col, dd, k0, k1, k2, k3, k5, hC, hT⟩ := excInit_of I1.kIn T.ini
  have ul : us.length ≤ sizeLine := by rw [← Paired.length r1, sizeLine_eq]; omega
  obtain ⟨hp, g, dr, tk, os⟩ := s1
  have le : hp.objs.size ≤ hp.objs.size + 1 := Nat.le_succ _
  have fresh : H1 (hp.objs.size + 1) = none := I1.hok.fresh le
  have old : ∀ b o, hp.get? b = some o → ((hp.push (kdv_tup us)).push (PySem.HandSPX.excO C hp.objs.size)).get? b = some o := fun b o z => Heap.get?_push_of_some _ (Heap.get?_push_of_some _ z)
  have here : ((hp.push (kdv_tup us)).push (PySem.HandSPX.excO C hp.objs.size)).get? (hp.objs.size + 1) = some (PySem.HandSPX.excO C hp.objs.size) := by heap_get
  have I2 : Inv X pins σ (L2.upd H1 (hp.objs.size + 1) (exo (hp.objs.size + 1) C none)) ⟨(hp.push (kdv_tup us)).push (PySem.HandSPX.excO C hp.objs.size), g, dr, tk, os⟩ := I1.laid (t' := tk) old le (exo_ok here)
  have r2 : Vals (V.ref (hp.objs.size + 1) :: vs) (Value.ref (hp.objs.size + 1) :: us) := .cons rfl r1
  have ask : spI C fl (V.ref (hp.objs.size + 1) :: vs) (L2.upd H1 (hp.objs.size + 1) (exo (hp.objs.size + 1) C none))
      (fun v H2 => v = .non ∧ Q (.ref (hp.objs.size + 1)) H2) (fun _ _ _ => False) :=
    ⟨_, vs, rfl, hl, L2.upd_same, fun dx H2 hdx ne ea ed oth => ⟨rfl, by
      have hd1 : H1 dx = none := by rw [L2.upd_ne ne] at hdx; exact hdx
      exact q1 _ dx H2 fresh hd1 (fun z => ne z.symm) ea ed fun b h1 h2 => by rw [oth b h1 h2, L2.upd_ne h1]⟩⟩
  have bind := hb ((hp.push (kdv_tup us)).push (PySem.HandSPX.excO C hp.objs.size) |> fun hh => (⟨hh, g, dr, tk, os⟩ : Shared)) (Value.ref (hp.objs.size + 1) :: us) I2.kIn (by rw [List.append_nil, ← r2.length]; exact F.len _ _ _ _ ask)
  refine wpAny_call (PySem.HandSPX.call_own T.base hT hC (looks_findIn I1.kIn iC) (fun self => bind_fn I1.kIn self tI) ul
    (codeAny_mono (F.run _ X.stack _ _ ⟨Value.ref (hp.objs.size + 1) :: us, []⟩ (Value.ref (hp.objs.size + 1) :: us ++ []) _ _ (fun _ _ _ => False) (hr.make C us []) (make_guards gd.gu) (I2.env0.make C us []) bind (by rw [List.append_nil]; exact r2) ask) fun r s' hq' => ?_))
  match r, hq' with
  | .error er, hq' => exact (passAt (X := X) (W := fun _ _ _ _ => False) (fun u s' z => by obtain ⟨_, _, _, _, _, _, _, _, _, _, _, _, _, _, _, _, z⟩ := z; exact z.elim) σ pins _ _ er s' I2 hq')
  | .ok (.ret u), hq' =>
    obtain ⟨v, H', I3, rv, ev, q3⟩ := I2.after hq'
    subst ev
    exact ⟨rv, ⟨V.ref (hp.objs.size + 1), H', I3, rfl, q3⟩⟩
  | .ok .next, hq' => exact False.elim hq'
  | .ok .brk, hq' => exact False.elim hq'
  | .ok .cont, hq' => exact False.elim hq'⟩
theorem pd_mkV (h : HasXX X n k fl) (hk : k + 1 ≤ lv) (ha : PDA X lv true (e :: es) t) (hg : Gl X n := by rfl) (hdb : (n == ("__debug__" : Str)) = false := by decide)
    (he : starEach (e :: es) X.env = (false, eval e X.env) :: starEach es X.env := by rfl) (hpl : (backTo pos (starEach es X.env)).any (·.1) = false := by rfl) :
    PD X lv true (.Call (.Name n p) (e :: es) [] pos) (dMkV ⟨n, fl.reverse⟩ t) := fun gd Wx tk => by
  obtain ⟨C, fI, fd, ps, B, newId, initId, tl, mC, T, iC, tI, hb, F⟩ := h.ex
  refine pe_imp (pe_gexV T iC tI F hb gd hk hg mC (ha gd Wx tk) hdb he hpl) fun σ H Q ⟨W, δ, G, R, hs, hgo, ht, lQ, lW⟩ => ⟨W, δ, G, _, hs, hgo, ht, fun ds G1 H1 vs ⟨⟨hl, h1000⟩, hx⟩ e1 g1 r1 => ⟨⟨?_, ?_⟩, fun a d H2 na nd ne ea ed oth => ?_⟩, lW⟩
  · rw [← r1.length, hl]; simp
  · rw [← r1.length]; exact h1000
  · have lv : vs.length = fl.length := by rw [← r1.length, hl]; simp
    have ex : DL.Ext H1 G1 H2 G1 := fun b o g hb => by
      have b1 : b ≠ a := fun z => by rw [z, na] at hb; cases hb
      have b2 : b ≠ d := fun z => by rw [z, nd] at hb; cases hb
      exact ⟨.inl (by rw [oth b b1 b2]; exact hb), g⟩
    have hk2 : HpOk X.K X.mh H2 G1 := fun b w hb => (g1 b w hb).ext ex fun u hu => by
      have b1 : b ≠ a := fun z => by rw [z, na] at hu; cases hu
      have b2 : b ≠ d := fun z => by rw [z, nd] at hu; cases hu
      rw [oth b b1 b2]; exact hu
    refine lQ _ G1 H2 _ hx (e1.trans ex) hk2 (.exv mC (g1.free na) ea (g1.free nd) ed ?_ ?_)
    · rw [List.map_reverse, List.map_fst_zip (by omega)]
    · rw [List.map_reverse, List.map_snd_zip (by omega)]
      exact (r1.reverse).ext ex
theorem pd_mkV0 (h : HasX0 X.K X.mg n) (he' : PD X lv true e te) (hg : Gl X n := by rfl) (hdb : (n == ("__debug__" : Str)) = false := by decide) (hs' : starEach [e] X.env = (false, eval e X.env) :: starEach [] X.env := by rfl) :
    PD X lv true (.Call (.Name n p) [e] [] pos) (dMkV0 n te) := fun gd Wx tk => by
  obtain ⟨C, B, newId, initId, tl, mC, F, q, kp, sb, ty⟩ := h
  exact pe_imp (pe_exc1 F q mC kp hg (he' gd Wx tk) hs' hdb) fun σ H Q ⟨W, δ, G, R, hs, hgo, ht, lQ, lW⟩ => ⟨W, δ, G, _, hs, hgo, ht, fun d G1 H1 v h1 e1 g1 r1 a na =>
    lQ _ G1 _ _ h1 (e1.trans (Ext.newF na)) (g1.newF na) (.exw mC (g1.free na) upd_same), lW⟩
end
/-! tables: what each class is, which fields it has not -/
def isoTab (K : PySem.W.Frag) (cl : List (Str × Addr)) (T : List (Str × List (Str × Bool))) : Bool := T.all fun r => r.2.all fun p => match cl.lookup r.1, cl.lookup p.1 with
  | some C, some D => PySem.W.kitOne K (.ref C) (.ref D) == some p.2
  | _, _ => false
def istTab (K : PySem.W.Frag) (cl : List (Str × Addr)) (T : List (Str × List (String × Bool))) : Bool := T.all fun r => r.2.all fun p => match cl.lookup r.1 with
  | some C => PySem.W.kitOne K (.ref C) (.type p.1) == some p.2
  | _ => false
def noTab (K : PySem.W.Frag) (cl : List (Str × Addr)) (fl : List Str) : Bool := cl.all fun r => fl.all fun f => match PySem.W.findIn K (.ref r.2) f with
  | some none => true
  | _ => false
theorem lookup_in {α β : Type} [BEq α] [LawfulBEq α] {a : α} {b : β} : ∀ {l : List (α × β)}, l.lookup a = some b → (a, b) ∈ l
  | [], h => nomatch h
  | (x, y) :: l, h => by
    rw [List.lookup_cons] at h
    by_cases e : (a == x) = true
    · rw [e] at h
      cases h
      rw [eq_of_beq e]
      exact List.mem_cons_self ..
    · rw [show (a == x) = false by simpa using e] at h
      exact List.mem_cons_of_mem _ (lookup_in h)
theorem hasI_tab {K : PySem.W.Frag} {mg : Str → Option Value} {cl : List (Str × Addr)} {T : List (Str × List (Str × Bool))} {U : List (Str × List (String × Bool))} {c : CI} (hc : ∀ p ∈ cl, mg p.1 = some (.ref p.2)) (h1 : isoTab K cl T = true) (h2 : istTab K cl U = true) :
    HasI K mg c (fun k => (T.lookup c.nm).bind fun r => r.lookup k) (fun k => (U.lookup c.nm).bind fun r => r.lookup k) := by
  refine ⟨fun n b h => ?_, fun n b h => ?_⟩
  · obtain ⟨r, e1, e2⟩ := Option.bind_eq_some_iff.mp h
    have h3 := List.all_eq_true.mp (List.all_eq_true.mp h1 _ (lookup_in e1)) _ (lookup_in e2)
    dsimp only at h3
    split at h3
    · rename_i C D l1 l2
      exact ⟨C, D, hc _ (lookup_in l1), hc _ (lookup_in l2), by simpa using h3⟩
    · cases h3
  · obtain ⟨r, e1, e2⟩ := Option.bind_eq_some_iff.mp h
    have h3 := List.all_eq_true.mp (List.all_eq_true.mp h2 _ (lookup_in e1)) _ (lookup_in e2)
    dsimp only at h3
    split at h3
    · rename_i C l1
      exact ⟨C, hc _ (lookup_in l1), by simpa using h3⟩
    · cases h3
theorem hasE_tab {K : PySem.W.Frag} {mg : Str → Option Value} {cl : List (Str × Addr)} {fl : List Str} {c : CI} (hc : ∀ p ∈ cl, mg p.1 = some (.ref p.2)) (he : ∀ p ∈ cl, ExcC K p.2) (h1 : noTab K cl fl = true) (hn : c.nm ∈ cl.map (·.1)) : HasE K mg c fl := by
  obtain ⟨p, hp, e⟩ := List.mem_map.mp hn
  refine ⟨p.2, by rw [← e]; exact hc p hp, he p hp, fun f hf => ?_⟩
  have h3 := List.all_eq_true.mp (List.all_eq_true.mp h1 _ hp) _ hf
  split at h3
  · assumption
  · cases h3
end DL

namespace K18
open DL L2 PyProof.Rows PySem PySem.Spec
/-! ### readings and walks of the text's defs (printed by gen.py) -/
def top (i : Nat) : Stmt := PySem.Challenge.pw_crywalks_k18_refusals_made.main.body.getD i (.Pass ⟨0, 0, 0, 0⟩)
def cat_Xv : Str → Option Bool := fun n => if n ∈ (["NoWeb", "NoText", "NoWalk", "NoPaper", "NoName", "NoSuch", "Taken", "Same", "Crying", "Alone", "Endless", "Crowded", "TooMany", "NoCount", "NoPlace", "NoState", "NoLength", "NoCries", "NoBack", "NoRow", "WebError"] : List Str) then some true else none
def tab_Xv : List (Str × List (Str × Bool)) := [("NoWeb", [("NoWeb", true), ("NoText", false), ("NoWalk", false), ("NoPaper", false), ("NoCount", false), ("NoPlace", false), ("NoState", false), ("NoLength", false), ("NoName", false), ("NoCries", false), ("NoBack", false), ("NoRow", false), ("NoSuch", false), ("Taken", false), ("Same", false), ("Crying", false), ("Alone", false), ("Endless", false), ("Crowded", false), ("TooMany", false), ("WebError", true)]), ("NoText", [("NoWeb", false), ("NoText", true), ("NoWalk", false), ("NoPaper", false), ("NoCount", false), ("NoPlace", false), ("NoState", false), ("NoLength", false), ("NoName", false), ("NoCries", false), ("NoBack", false), ("NoRow", false), ("NoSuch", false), ("Taken", false), ("Same", false), ("Crying", false), ("Alone", false), ("Endless", false), ("Crowded", false), ("TooMany", false), ("WebError", true)]), ("NoWalk", [("NoWeb", false), ("NoText", false), ("NoWalk", true), ("NoPaper", false), ("NoCount", false), ("NoPlace", false), ("NoState", false), ("NoLength", false), ("NoName", false), ("NoCries", false), ("NoBack", false), ("NoRow", false), ("NoSuch", false), ("Taken", false), ("Same", false), ("Crying", false), ("Alone", false), ("Endless", false), ("Crowded", false), ("TooMany", false), ("WebError", true)]), ("NoPaper", [("NoWeb", false), ("NoText", false), ("NoWalk", false), ("NoPaper", true), ("NoCount", false), ("NoPlace", false), ("NoState", false), ("NoLength", false), ("NoName", false), ("NoCries", false), ("NoBack", false), ("NoRow", false), ("NoSuch", false), ("Taken", false), ("Same", false), ("Crying", false), ("Alone", false), ("Endless", false), ("Crowded", false), ("TooMany", false), ("WebError", true)]), ("NoName", [("NoWeb", false), ("NoText", false), ("NoWalk", false), ("NoPaper", false), ("NoCount", false), ("NoPlace", false), ("NoState", false), ("NoLength", false), ("NoName", true), ("NoCries", false), ("NoBack", false), ("NoRow", false), ("NoSuch", false), ("Taken", false), ("Same", false), ("Crying", false), ("Alone", false), ("Endless", false), ("Crowded", false), ("TooMany", false), ("WebError", true)]), ("NoSuch", [("NoWeb", false), ("NoText", false), ("NoWalk", false), ("NoPaper", false), ("NoCount", false), ("NoPlace", false), ("NoState", false), ("NoLength", false), ("NoName", false), ("NoCries", false), ("NoBack", false), ("NoRow", false), ("NoSuch", true), ("Taken", false), ("Same", false), ("Crying", false), ("Alone", false), ("Endless", false), ("Crowded", false), ("TooMany", false), ("WebError", false)]), ("Taken", [("NoWeb", false), ("NoText", false), ("NoWalk", false), ("NoPaper", false), ("NoCount", false), ("NoPlace", false), ("NoState", false), ("NoLength", false), ("NoName", false), ("NoCries", false), ("NoBack", false), ("NoRow", false), ("NoSuch", false), ("Taken", true), ("Same", false), ("Crying", false), ("Alone", false), ("Endless", false), ("Crowded", false), ("TooMany", false), ("WebError", false)]), ("Same", [("NoWeb", false), ("NoText", false), ("NoWalk", false), ("NoPaper", false), ("NoCount", false), ("NoPlace", false), ("NoState", false), ("NoLength", false), ("NoName", false), ("NoCries", false), ("NoBack", false), ("NoRow", false), ("NoSuch", false), ("Taken", false), ("Same", true), ("Crying", false), ("Alone", false), ("Endless", false), ("Crowded", false), ("TooMany", false), ("WebError", false)]), ("Crying", [("NoWeb", false), ("NoText", false), ("NoWalk", false), ("NoPaper", false), ("NoCount", false), ("NoPlace", false), ("NoState", false), ("NoLength", false), ("NoName", false), ("NoCries", false), ("NoBack", false), ("NoRow", false), ("NoSuch", false), ("Taken", false), ("Same", false), ("Crying", true), ("Alone", false), ("Endless", false), ("Crowded", false), ("TooMany", false), ("WebError", false)]), ("Alone", [("NoWeb", false), ("NoText", false), ("NoWalk", false), ("NoPaper", false), ("NoCount", false), ("NoPlace", false), ("NoState", false), ("NoLength", false), ("NoName", false), ("NoCries", false), ("NoBack", false), ("NoRow", false), ("NoSuch", false), ("Taken", false), ("Same", false), ("Crying", false), ("Alone", true), ("Endless", false), ("Crowded", false), ("TooMany", false), ("WebError", false)]), ("Endless", [("NoWeb", false), ("NoText", false), ("NoWalk", false), ("NoPaper", false), ("NoCount", false), ("NoPlace", false), ("NoState", false), ("NoLength", false), ("NoName", false), ("NoCries", false), ("NoBack", false), ("NoRow", false), ("NoSuch", false), ("Taken", false), ("Same", false), ("Crying", false), ("Alone", false), ("Endless", true), ("Crowded", false), ("TooMany", false), ("WebError", false)]), ("Crowded", [("NoWeb", false), ("NoText", false), ("NoWalk", false), ("NoPaper", false), ("NoCount", false), ("NoPlace", false), ("NoState", false), ("NoLength", false), ("NoName", false), ("NoCries", false), ("NoBack", false), ("NoRow", false), ("NoSuch", false), ("Taken", false), ("Same", false), ("Crying", false), ("Alone", false), ("Endless", false), ("Crowded", true), ("TooMany", false), ("WebError", false)]), ("TooMany", [("NoWeb", false), ("NoText", false), ("NoWalk", false), ("NoPaper", false), ("NoCount", false), ("NoPlace", false), ("NoState", false), ("NoLength", false), ("NoName", false), ("NoCries", false), ("NoBack", false), ("NoRow", false), ("NoSuch", false), ("Taken", false), ("Same", false), ("Crying", false), ("Alone", false), ("Endless", false), ("Crowded", false), ("TooMany", true), ("WebError", false)]), ("NoCount", [("NoWeb", false), ("NoText", false), ("NoWalk", false), ("NoPaper", false), ("NoCount", true), ("NoPlace", false), ("NoState", false), ("NoLength", false), ("NoName", false), ("NoCries", false), ("NoBack", false), ("NoRow", false), ("NoSuch", false), ("Taken", false), ("Same", false), ("Crying", false), ("Alone", false), ("Endless", false), ("Crowded", false), ("TooMany", false), ("WebError", true)]), ("NoPlace", [("NoWeb", false), ("NoText", false), ("NoWalk", false), ("NoPaper", false), ("NoCount", false), ("NoPlace", true), ("NoState", false), ("NoLength", false), ("NoName", false), ("NoCries", false), ("NoBack", false), ("NoRow", false), ("NoSuch", false), ("Taken", false), ("Same", false), ("Crying", false), ("Alone", false), ("Endless", false), ("Crowded", false), ("TooMany", false), ("WebError", true)]), ("NoState", [("NoWeb", false), ("NoText", false), ("NoWalk", false), ("NoPaper", false), ("NoCount", false), ("NoPlace", false), ("NoState", true), ("NoLength", false), ("NoName", false), ("NoCries", false), ("NoBack", false), ("NoRow", false), ("NoSuch", false), ("Taken", false), ("Same", false), ("Crying", false), ("Alone", false), ("Endless", false), ("Crowded", false), ("TooMany", false), ("WebError", true)]), ("NoLength", [("NoWeb", false), ("NoText", false), ("NoWalk", false), ("NoPaper", false), ("NoCount", false), ("NoPlace", false), ("NoState", false), ("NoLength", true), ("NoName", false), ("NoCries", false), ("NoBack", false), ("NoRow", false), ("NoSuch", false), ("Taken", false), ("Same", false), ("Crying", false), ("Alone", false), ("Endless", false), ("Crowded", false), ("TooMany", false), ("WebError", true)]), ("NoCries", [("NoWeb", false), ("NoText", false), ("NoWalk", false), ("NoPaper", false), ("NoCount", false), ("NoPlace", false), ("NoState", false), ("NoLength", false), ("NoName", false), ("NoCries", true), ("NoBack", false), ("NoRow", false), ("NoSuch", false), ("Taken", false), ("Same", false), ("Crying", false), ("Alone", false), ("Endless", false), ("Crowded", false), ("TooMany", false), ("WebError", true)]), ("NoBack", [("NoWeb", false), ("NoText", false), ("NoWalk", false), ("NoPaper", false), ("NoCount", false), ("NoPlace", false), ("NoState", false), ("NoLength", false), ("NoName", false), ("NoCries", false), ("NoBack", true), ("NoRow", false), ("NoSuch", false), ("Taken", false), ("Same", false), ("Crying", false), ("Alone", false), ("Endless", false), ("Crowded", false), ("TooMany", false), ("WebError", true)]), ("NoRow", [("NoWeb", false), ("NoText", false), ("NoWalk", false), ("NoPaper", false), ("NoCount", false), ("NoPlace", false), ("NoState", false), ("NoLength", false), ("NoName", false), ("NoCries", false), ("NoBack", false), ("NoRow", true), ("NoSuch", false), ("Taken", false), ("Same", false), ("Crying", false), ("Alone", false), ("Endless", false), ("Crowded", false), ("TooMany", false), ("WebError", true)]), ("WebError", [("NoWeb", false), ("NoText", false), ("NoWalk", false), ("NoPaper", false), ("NoCount", false), ("NoPlace", false), ("NoState", false), ("NoLength", false), ("NoName", false), ("NoCries", false), ("NoBack", false), ("NoRow", false), ("NoSuch", false), ("Taken", false), ("Same", false), ("Crying", false), ("Alone", false), ("Endless", false), ("Crowded", false), ("TooMany", false), ("WebError", true)])]
def tbt_Xv : List (Str × List (String × Bool)) := [("NoWeb", [("ValueError", true), ("LookupError", false), ("RuntimeError", false), ("ArithmeticError", false)]), ("NoText", [("ValueError", true), ("LookupError", false), ("RuntimeError", false), ("ArithmeticError", false)]), ("NoWalk", [("ValueError", true), ("LookupError", false), ("RuntimeError", false), ("ArithmeticError", false)]), ("NoPaper", [("ValueError", true), ("LookupError", false), ("RuntimeError", false), ("ArithmeticError", false)]), ("NoName", [("ValueError", true), ("LookupError", false), ("RuntimeError", false), ("ArithmeticError", false)]), ("NoSuch", [("ValueError", false), ("LookupError", true), ("RuntimeError", false), ("ArithmeticError", false)]), ("Taken", [("ValueError", false), ("LookupError", false), ("RuntimeError", true), ("ArithmeticError", false)]), ("Same", [("ValueError", false), ("LookupError", false), ("RuntimeError", true), ("ArithmeticError", false)]), ("Crying", [("ValueError", false), ("LookupError", false), ("RuntimeError", true), ("ArithmeticError", false)]), ("Alone", [("ValueError", false), ("LookupError", false), ("RuntimeError", true), ("ArithmeticError", false)]), ("Endless", [("ValueError", false), ("LookupError", false), ("RuntimeError", true), ("ArithmeticError", false)]), ("Crowded", [("ValueError", false), ("LookupError", false), ("RuntimeError", false), ("ArithmeticError", true)]), ("TooMany", [("ValueError", false), ("LookupError", false), ("RuntimeError", false), ("ArithmeticError", true)]), ("NoCount", [("ValueError", true), ("LookupError", false), ("RuntimeError", false), ("ArithmeticError", false)]), ("NoPlace", [("ValueError", true), ("LookupError", false), ("RuntimeError", false), ("ArithmeticError", false)]), ("NoState", [("ValueError", true), ("LookupError", false), ("RuntimeError", false), ("ArithmeticError", false)]), ("NoLength", [("ValueError", true), ("LookupError", false), ("RuntimeError", false), ("ArithmeticError", false)]), ("NoCries", [("ValueError", true), ("LookupError", false), ("RuntimeError", false), ("ArithmeticError", false)]), ("NoBack", [("ValueError", true), ("LookupError", false), ("RuntimeError", false), ("ArithmeticError", false)]), ("NoRow", [("ValueError", true), ("LookupError", false), ("RuntimeError", false), ("ArithmeticError", false)]), ("WebError", [("ValueError", true), ("LookupError", false), ("RuntimeError", false), ("ArithmeticError", false)])]
def isc_Xv : Str → Str → Option Bool := fun n k => (tab_Xv.lookup n).bind fun r => r.lookup k
def ist_Xv : Str → String → Option Bool := fun n k => (tbt_Xv.lookup n).bind fun r => r.lookup k
structure Tx (K : PySem.W.Frag) (mg : Str → Option Value) : Prop where
  z_ArithmeticError : mg "ArithmeticError" = none
  z_LookupError : mg "LookupError" = none
  z_RuntimeError : mg "RuntimeError" = none
  z_ValueError : mg "ValueError" = none
  z_abs : mg "abs" = none
  z_all : mg "all" = none
  z_divmod : mg "divmod" = none
  z_enumerate : mg "enumerate" = none
  z_isinstance : mg "isinstance" = none
  z_len : mg "len" = none
  z_max : mg "max" = none
  z_min : mg "min" = none
  z_range : mg "range" = none
  z_repr : mg "repr" = none
  z_zip : mg "zip" = none
  x0_NoBack : HasX0 K mg "NoBack"
  x0_NoCount : HasX0 K mg "NoCount"
  x0_NoCries : HasX0 K mg "NoCries"
  x0_NoLength : HasX0 K mg "NoLength"
  x0_NoPlace : HasX0 K mg "NoPlace"
  x0_NoRow : HasX0 K mg "NoRow"
  x0_NoState : HasX0 K mg "NoState"
  x0_WebError : HasX0 K mg "WebError"
  n_Alone : ∃ C : Addr, mg "Alone" = some (.ref C)
  n_Crowded : ∃ C : Addr, mg "Crowded" = some (.ref C)
  n_Crying : ∃ C : Addr, mg "Crying" = some (.ref C)
  n_Endless : ∃ C : Addr, mg "Endless" = some (.ref C)
  n_NoBack : ∃ C : Addr, mg "NoBack" = some (.ref C)
  n_NoCount : ∃ C : Addr, mg "NoCount" = some (.ref C)
  n_NoCries : ∃ C : Addr, mg "NoCries" = some (.ref C)
  n_NoLength : ∃ C : Addr, mg "NoLength" = some (.ref C)
  n_NoName : ∃ C : Addr, mg "NoName" = some (.ref C)
  n_NoPaper : ∃ C : Addr, mg "NoPaper" = some (.ref C)
  n_NoPlace : ∃ C : Addr, mg "NoPlace" = some (.ref C)
  n_NoRow : ∃ C : Addr, mg "NoRow" = some (.ref C)
  n_NoState : ∃ C : Addr, mg "NoState" = some (.ref C)
  n_NoSuch : ∃ C : Addr, mg "NoSuch" = some (.ref C)
  n_NoText : ∃ C : Addr, mg "NoText" = some (.ref C)
  n_NoWalk : ∃ C : Addr, mg "NoWalk" = some (.ref C)
  n_NoWeb : ∃ C : Addr, mg "NoWeb" = some (.ref C)
  n_Same : ∃ C : Addr, mg "Same" = some (.ref C)
  n_Taken : ∃ C : Addr, mg "Taken" = some (.ref C)
  n_TooMany : ∃ C : Addr, mg "TooMany" = some (.ref C)
  n_WebError : ∃ C : Addr, mg "WebError" = some (.ref C)
  e_Xv : ∀ c : CI, cat_Xv c.nm = some true → HasE K mg c ["what", "who", "row", "number", "most", "limit"]
  i_Xv : ∀ c : CI, cat_Xv c.nm = some true → HasI K mg c (isc_Xv c.nm) (ist_Xv c.nm)
abbrev N_NoWeb___init__ : List Str := ["self", "what", "who"]
theorem sc_NoWeb___init__ : FnScope N_NoWeb___init__ N_NoWeb___init__ (defScope (inClass (top 2) 0)) := ⟨rfl, rfl, rfl, by decide +kernel, rfl, by decide +kernel, by decide +kernel⟩
theorem bx_NoWeb {P : Program} {w : World} {K : PySem.W.Frag} {mg : Str → Option Value} {base : Heap} (gI : GetsIni K mg "WebError" "ValueError.__init__") (f : Addr) (cdv : Value) (A : Around) (outer : List Env) (s : Shared) (H : Hp) (E : XK) :
    PSs (cxOf (L2.CX P w) P w K mg base N_NoWeb___init__ "NoWeb.__init__" (defScope (inClass (top 2) 0)) f cdv A outer s H E) (defBody (inClass (top 2) 0)) (tSeq (tDrop (tGini K "ValueError" "ValueError.__new__" "ValueError.__init__" [.type "ValueError", .type "Exception", .type "BaseException", .type "object"] ["what", "who"] (tCons (tVar 0) (tCons (tVar 1) (tCons (tVar 2) tNil))))) (tSeq (tGst K "ValueError" "ValueError.__new__" "ValueError.__init__" [.type "ValueError", .type "Exception", .type "BaseException", .type "object"] ["what", "who"] "what" (tVar 0) (tVar 1)) (tGst K "ValueError" "ValueError.__new__" "ValueError.__init__" [.type "ValueError", .type "Exception", .type "BaseException", .type "object"] ["what", "who"] "who" (tVar 0) (tVar 2)))) :=
  pss_cons (ps_expr (pe_gini rfl (by decide) gI rfl (pa_cons (pv 0) (pa_cons (pv 1) (pa_cons (pv 2) pa_nil))))) (pss_cons (ps_gst (pv 0) (pv 1)) (pss_one (ps_gst (pv 0) (pv 2))))
abbrev N_NoName___init__ : List Str := ["self", "who"]
theorem sc_NoName___init__ : FnScope N_NoName___init__ N_NoName___init__ (defScope (inClass (top 10) 0)) := ⟨rfl, rfl, rfl, by decide +kernel, rfl, by decide +kernel, by decide +kernel⟩
theorem bx_NoName {P : Program} {w : World} {K : PySem.W.Frag} {mg : Str → Option Value} {base : Heap} (gI : GetsIni K mg "WebError" "ValueError.__init__") (f : Addr) (cdv : Value) (A : Around) (outer : List Env) (s : Shared) (H : Hp) (E : XK) :
    PSs (cxOf (L2.CX P w) P w K mg base N_NoName___init__ "NoName.__init__" (defScope (inClass (top 10) 0)) f cdv A outer s H E) (defBody (inClass (top 10) 0)) (tSeq (tDrop (tGini K "ValueError" "ValueError.__new__" "ValueError.__init__" [.type "ValueError", .type "Exception", .type "BaseException", .type "object"] ["who"] (tCons (tVar 0) (tCons (tVar 1) tNil)))) (tGst K "ValueError" "ValueError.__new__" "ValueError.__init__" [.type "ValueError", .type "Exception", .type "BaseException", .type "object"] ["who"] "who" (tVar 0) (tVar 1))) :=
  pss_cons (ps_expr (pe_gini rfl (by decide) gI rfl (pa_cons (pv 0) (pa_cons (pv 1) pa_nil)))) (pss_one (ps_gst (pv 0) (pv 1)))
abbrev N_NoPaper___init__ : List Str := ["self", "row"]
theorem sc_NoPaper___init__ : FnScope N_NoPaper___init__ N_NoPaper___init__ (defScope (inClass (top 5) 0)) := ⟨rfl, rfl, rfl, by decide +kernel, rfl, by decide +kernel, by decide +kernel⟩
theorem bx_NoPaper {P : Program} {w : World} {K : PySem.W.Frag} {mg : Str → Option Value} {base : Heap} (gI : GetsIni K mg "WebError" "ValueError.__init__") (f : Addr) (cdv : Value) (A : Around) (outer : List Env) (s : Shared) (H : Hp) (E : XK) :
    PSs (cxOf (L2.CX P w) P w K mg base N_NoPaper___init__ "NoPaper.__init__" (defScope (inClass (top 5) 0)) f cdv A outer s H E) (defBody (inClass (top 5) 0)) (tSeq (tDrop (tGini K "ValueError" "ValueError.__new__" "ValueError.__init__" [.type "ValueError", .type "Exception", .type "BaseException", .type "object"] ["row"] (tCons (tVar 0) (tCons (tVar 1) tNil)))) (tGst K "ValueError" "ValueError.__new__" "ValueError.__init__" [.type "ValueError", .type "Exception", .type "BaseException", .type "object"] ["row"] "row" (tVar 0) (tVar 1))) :=
  pss_cons (ps_expr (pe_gini rfl (by decide) gI rfl (pa_cons (pv 0) (pa_cons (pv 1) pa_nil)))) (pss_one (ps_gst (pv 0) (pv 1)))
abbrev N_NoWalk___init__ : List Str := ["self", "number"]
theorem sc_NoWalk___init__ : FnScope N_NoWalk___init__ N_NoWalk___init__ (defScope (inClass (top 4) 0)) := ⟨rfl, rfl, rfl, by decide +kernel, rfl, by decide +kernel, by decide +kernel⟩
theorem bx_NoWalk {P : Program} {w : World} {K : PySem.W.Frag} {mg : Str → Option Value} {base : Heap} (gI : GetsIni K mg "WebError" "ValueError.__init__") (f : Addr) (cdv : Value) (A : Around) (outer : List Env) (s : Shared) (H : Hp) (E : XK) :
    PSs (cxOf (L2.CX P w) P w K mg base N_NoWalk___init__ "NoWalk.__init__" (defScope (inClass (top 4) 0)) f cdv A outer s H E) (defBody (inClass (top 4) 0)) (tSeq (tDrop (tGini K "ValueError" "ValueError.__new__" "ValueError.__init__" [.type "ValueError", .type "Exception", .type "BaseException", .type "object"] ["number"] (tCons (tVar 0) (tCons (tVar 1) tNil)))) (tGst K "ValueError" "ValueError.__new__" "ValueError.__init__" [.type "ValueError", .type "Exception", .type "BaseException", .type "object"] ["number"] "number" (tVar 0) (tVar 1))) :=
  pss_cons (ps_expr (pe_gini rfl (by decide) gI rfl (pa_cons (pv 0) (pa_cons (pv 1) pa_nil)))) (pss_one (ps_gst (pv 0) (pv 1)))
abbrev N_NoText___init__ : List Str := ["self", "row"]
theorem sc_NoText___init__ : FnScope N_NoText___init__ N_NoText___init__ (defScope (inClass (top 3) 0)) := ⟨rfl, rfl, rfl, by decide +kernel, rfl, by decide +kernel, by decide +kernel⟩
theorem bx_NoText {P : Program} {w : World} {K : PySem.W.Frag} {mg : Str → Option Value} {base : Heap} (gI : GetsIni K mg "WebError" "ValueError.__init__") (f : Addr) (cdv : Value) (A : Around) (outer : List Env) (s : Shared) (H : Hp) (E : XK) :
    PSs (cxOf (L2.CX P w) P w K mg base N_NoText___init__ "NoText.__init__" (defScope (inClass (top 3) 0)) f cdv A outer s H E) (defBody (inClass (top 3) 0)) (tSeq (tDrop (tGini K "ValueError" "ValueError.__new__" "ValueError.__init__" [.type "ValueError", .type "Exception", .type "BaseException", .type "object"] ["row"] (tCons (tVar 0) (tCons (tVar 1) tNil)))) (tGst K "ValueError" "ValueError.__new__" "ValueError.__init__" [.type "ValueError", .type "Exception", .type "BaseException", .type "object"] ["row"] "row" (tVar 0) (tVar 1))) :=
  pss_cons (ps_expr (pe_gini rfl (by decide) gI rfl (pa_cons (pv 0) (pa_cons (pv 1) pa_nil)))) (pss_one (ps_gst (pv 0) (pv 1)))
abbrev N_Endless___init__ : List Str := ["self", "who"]
theorem sc_Endless___init__ : FnScope N_Endless___init__ N_Endless___init__ (defScope (inClass (top 19) 0)) := ⟨rfl, rfl, rfl, by decide +kernel, rfl, by decide +kernel, by decide +kernel⟩
theorem bx_Endless {P : Program} {w : World} {K : PySem.W.Frag} {mg : Str → Option Value} {base : Heap} (gI : GetsIni K mg "RuntimeError" "RuntimeError.__init__") (f : Addr) (cdv : Value) (A : Around) (outer : List Env) (s : Shared) (H : Hp) (E : XK) :
    PSs (cxOf (L2.CX P w) P w K mg base N_Endless___init__ "Endless.__init__" (defScope (inClass (top 19) 0)) f cdv A outer s H E) (defBody (inClass (top 19) 0)) (tSeq (tDrop (tGini K "RuntimeError" "RuntimeError.__new__" "RuntimeError.__init__" [.type "RuntimeError", .type "Exception", .type "BaseException", .type "object"] ["who"] (tCons (tVar 0) (tCons (tVar 1) tNil)))) (tGst K "RuntimeError" "RuntimeError.__new__" "RuntimeError.__init__" [.type "RuntimeError", .type "Exception", .type "BaseException", .type "object"] ["who"] "who" (tVar 0) (tVar 1))) :=
  pss_cons (ps_expr (pe_gini rfl (by decide) gI rfl (pa_cons (pv 0) (pa_cons (pv 1) pa_nil)))) (pss_one (ps_gst (pv 0) (pv 1)))
abbrev N_Alone___init__ : List Str := ["self", "who"]
theorem sc_Alone___init__ : FnScope N_Alone___init__ N_Alone___init__ (defScope (inClass (top 18) 0)) := ⟨rfl, rfl, rfl, by decide +kernel, rfl, by decide +kernel, by decide +kernel⟩
theorem bx_Alone {P : Program} {w : World} {K : PySem.W.Frag} {mg : Str → Option Value} {base : Heap} (gI : GetsIni K mg "RuntimeError" "RuntimeError.__init__") (f : Addr) (cdv : Value) (A : Around) (outer : List Env) (s : Shared) (H : Hp) (E : XK) :
    PSs (cxOf (L2.CX P w) P w K mg base N_Alone___init__ "Alone.__init__" (defScope (inClass (top 18) 0)) f cdv A outer s H E) (defBody (inClass (top 18) 0)) (tSeq (tDrop (tGini K "RuntimeError" "RuntimeError.__new__" "RuntimeError.__init__" [.type "RuntimeError", .type "Exception", .type "BaseException", .type "object"] ["who"] (tCons (tVar 0) (tCons (tVar 1) tNil)))) (tGst K "RuntimeError" "RuntimeError.__new__" "RuntimeError.__init__" [.type "RuntimeError", .type "Exception", .type "BaseException", .type "object"] ["who"] "who" (tVar 0) (tVar 1))) :=
  pss_cons (ps_expr (pe_gini rfl (by decide) gI rfl (pa_cons (pv 0) (pa_cons (pv 1) pa_nil)))) (pss_one (ps_gst (pv 0) (pv 1)))
abbrev N_Crying___init__ : List Str := ["self", "who"]
theorem sc_Crying___init__ : FnScope N_Crying___init__ N_Crying___init__ (defScope (inClass (top 17) 0)) := ⟨rfl, rfl, rfl, by decide +kernel, rfl, by decide +kernel, by decide +kernel⟩
theorem bx_Crying {P : Program} {w : World} {K : PySem.W.Frag} {mg : Str → Option Value} {base : Heap} (gI : GetsIni K mg "RuntimeError" "RuntimeError.__init__") (f : Addr) (cdv : Value) (A : Around) (outer : List Env) (s : Shared) (H : Hp) (E : XK) :
    PSs (cxOf (L2.CX P w) P w K mg base N_Crying___init__ "Crying.__init__" (defScope (inClass (top 17) 0)) f cdv A outer s H E) (defBody (inClass (top 17) 0)) (tSeq (tDrop (tGini K "RuntimeError" "RuntimeError.__new__" "RuntimeError.__init__" [.type "RuntimeError", .type "Exception", .type "BaseException", .type "object"] ["who"] (tCons (tVar 0) (tCons (tVar 1) tNil)))) (tGst K "RuntimeError" "RuntimeError.__new__" "RuntimeError.__init__" [.type "RuntimeError", .type "Exception", .type "BaseException", .type "object"] ["who"] "who" (tVar 0) (tVar 1))) :=
  pss_cons (ps_expr (pe_gini rfl (by decide) gI rfl (pa_cons (pv 0) (pa_cons (pv 1) pa_nil)))) (pss_one (ps_gst (pv 0) (pv 1)))
abbrev N_Same___init__ : List Str := ["self", "who"]
theorem sc_Same___init__ : FnScope N_Same___init__ N_Same___init__ (defScope (inClass (top 16) 0)) := ⟨rfl, rfl, rfl, by decide +kernel, rfl, by decide +kernel, by decide +kernel⟩
theorem bx_Same {P : Program} {w : World} {K : PySem.W.Frag} {mg : Str → Option Value} {base : Heap} (gI : GetsIni K mg "RuntimeError" "RuntimeError.__init__") (f : Addr) (cdv : Value) (A : Around) (outer : List Env) (s : Shared) (H : Hp) (E : XK) :
    PSs (cxOf (L2.CX P w) P w K mg base N_Same___init__ "Same.__init__" (defScope (inClass (top 16) 0)) f cdv A outer s H E) (defBody (inClass (top 16) 0)) (tSeq (tDrop (tGini K "RuntimeError" "RuntimeError.__new__" "RuntimeError.__init__" [.type "RuntimeError", .type "Exception", .type "BaseException", .type "object"] ["who"] (tCons (tVar 0) (tCons (tVar 1) tNil)))) (tGst K "RuntimeError" "RuntimeError.__new__" "RuntimeError.__init__" [.type "RuntimeError", .type "Exception", .type "BaseException", .type "object"] ["who"] "who" (tVar 0) (tVar 1))) :=
  pss_cons (ps_expr (pe_gini rfl (by decide) gI rfl (pa_cons (pv 0) (pa_cons (pv 1) pa_nil)))) (pss_one (ps_gst (pv 0) (pv 1)))
abbrev N_Taken___init__ : List Str := ["self", "who"]
theorem sc_Taken___init__ : FnScope N_Taken___init__ N_Taken___init__ (defScope (inClass (top 15) 0)) := ⟨rfl, rfl, rfl, by decide +kernel, rfl, by decide +kernel, by decide +kernel⟩
theorem bx_Taken {P : Program} {w : World} {K : PySem.W.Frag} {mg : Str → Option Value} {base : Heap} (gI : GetsIni K mg "RuntimeError" "RuntimeError.__init__") (f : Addr) (cdv : Value) (A : Around) (outer : List Env) (s : Shared) (H : Hp) (E : XK) :
    PSs (cxOf (L2.CX P w) P w K mg base N_Taken___init__ "Taken.__init__" (defScope (inClass (top 15) 0)) f cdv A outer s H E) (defBody (inClass (top 15) 0)) (tSeq (tDrop (tGini K "RuntimeError" "RuntimeError.__new__" "RuntimeError.__init__" [.type "RuntimeError", .type "Exception", .type "BaseException", .type "object"] ["who"] (tCons (tVar 0) (tCons (tVar 1) tNil)))) (tGst K "RuntimeError" "RuntimeError.__new__" "RuntimeError.__init__" [.type "RuntimeError", .type "Exception", .type "BaseException", .type "object"] ["who"] "who" (tVar 0) (tVar 1))) :=
  pss_cons (ps_expr (pe_gini rfl (by decide) gI rfl (pa_cons (pv 0) (pa_cons (pv 1) pa_nil)))) (pss_one (ps_gst (pv 0) (pv 1)))
abbrev N_NoSuch___init__ : List Str := ["self", "who"]
theorem sc_NoSuch___init__ : FnScope N_NoSuch___init__ N_NoSuch___init__ (defScope (inClass (top 14) 0)) := ⟨rfl, rfl, rfl, by decide +kernel, rfl, by decide +kernel, by decide +kernel⟩
theorem bx_NoSuch {P : Program} {w : World} {K : PySem.W.Frag} {mg : Str → Option Value} {base : Heap} (gI : GetsIni K mg "LookupError" "LookupError.__init__") (f : Addr) (cdv : Value) (A : Around) (outer : List Env) (s : Shared) (H : Hp) (E : XK) :
    PSs (cxOf (L2.CX P w) P w K mg base N_NoSuch___init__ "NoSuch.__init__" (defScope (inClass (top 14) 0)) f cdv A outer s H E) (defBody (inClass (top 14) 0)) (tSeq (tDrop (tGini K "LookupError" "LookupError.__new__" "LookupError.__init__" [.type "LookupError", .type "Exception", .type "BaseException", .type "object"] ["who"] (tCons (tVar 0) (tCons (tVar 1) tNil)))) (tGst K "LookupError" "LookupError.__new__" "LookupError.__init__" [.type "LookupError", .type "Exception", .type "BaseException", .type "object"] ["who"] "who" (tVar 0) (tVar 1))) :=
  pss_cons (ps_expr (pe_gini rfl (by decide) gI rfl (pa_cons (pv 0) (pa_cons (pv 1) pa_nil)))) (pss_one (ps_gst (pv 0) (pv 1)))
abbrev N_TooMany___init__ : List Str := ["self", "limit"]
theorem sc_TooMany___init__ : FnScope N_TooMany___init__ N_TooMany___init__ (defScope (inClass (top 21) 0)) := ⟨rfl, rfl, rfl, by decide +kernel, rfl, by decide +kernel, by decide +kernel⟩
theorem bx_TooMany {P : Program} {w : World} {K : PySem.W.Frag} {mg : Str → Option Value} {base : Heap} (gI : GetsIni K mg "ArithmeticError" "ArithmeticError.__init__") (f : Addr) (cdv : Value) (A : Around) (outer : List Env) (s : Shared) (H : Hp) (E : XK) :
    PSs (cxOf (L2.CX P w) P w K mg base N_TooMany___init__ "TooMany.__init__" (defScope (inClass (top 21) 0)) f cdv A outer s H E) (defBody (inClass (top 21) 0)) (tSeq (tDrop (tGini K "ArithmeticError" "ArithmeticError.__new__" "ArithmeticError.__init__" [.type "ArithmeticError", .type "Exception", .type "BaseException", .type "object"] ["limit"] (tCons (tVar 0) (tCons (tVar 1) tNil)))) (tGst K "ArithmeticError" "ArithmeticError.__new__" "ArithmeticError.__init__" [.type "ArithmeticError", .type "Exception", .type "BaseException", .type "object"] ["limit"] "limit" (tVar 0) (tVar 1))) :=
  pss_cons (ps_expr (pe_gini rfl (by decide) gI rfl (pa_cons (pv 0) (pa_cons (pv 1) pa_nil)))) (pss_one (ps_gst (pv 0) (pv 1)))
abbrev N_Crowded___init__ : List Str := ["self", "most"]
theorem sc_Crowded___init__ : FnScope N_Crowded___init__ N_Crowded___init__ (defScope (inClass (top 20) 0)) := ⟨rfl, rfl, rfl, by decide +kernel, rfl, by decide +kernel, by decide +kernel⟩
theorem bx_Crowded {P : Program} {w : World} {K : PySem.W.Frag} {mg : Str → Option Value} {base : Heap} (gI : GetsIni K mg "ArithmeticError" "ArithmeticError.__init__") (f : Addr) (cdv : Value) (A : Around) (outer : List Env) (s : Shared) (H : Hp) (E : XK) :
    PSs (cxOf (L2.CX P w) P w K mg base N_Crowded___init__ "Crowded.__init__" (defScope (inClass (top 20) 0)) f cdv A outer s H E) (defBody (inClass (top 20) 0)) (tSeq (tDrop (tGini K "ArithmeticError" "ArithmeticError.__new__" "ArithmeticError.__init__" [.type "ArithmeticError", .type "Exception", .type "BaseException", .type "object"] ["most"] (tCons (tVar 0) (tCons (tVar 1) tNil)))) (tGst K "ArithmeticError" "ArithmeticError.__new__" "ArithmeticError.__init__" [.type "ArithmeticError", .type "Exception", .type "BaseException", .type "object"] ["most"] "most" (tVar 0) (tVar 1))) :=
  pss_cons (ps_expr (pe_gini rfl (by decide) gI rfl (pa_cons (pv 0) (pa_cons (pv 1) pa_nil)))) (pss_one (ps_gst (pv 0) (pv 1)))
abbrev N__law_pot : List Str := ["_law_script", "_law_k", "_law_cell"]
abbrev ps__law_pot : List Str := ["_law_script", "_law_k"]
theorem sc__law_pot : FnScope N__law_pot ps__law_pot (defScope (top 23)) := ⟨rfl, rfl, rfl, by decide +kernel, rfl, by decide +kernel, by decide +kernel⟩
theorem sl__law_pot {a0 a1 : D} : slots N__law_pot [a0, a1] = [some a0, some a1, none] := rfl
def rd__law_pot : DS :=
  (dSeq (dAsg (dC (.int 0)) (gdName 2))
    ((dSeq (dIfS (dTest (dBin rLt (dVar 1) ((dCB rLen ((dCons (dVar 0) (dNil))))))) (dAsg ((dCB rAbs ((dCons ((dBin rIx (dVar 0) (dVar 1))) (dNil))))) (gdName 2)) (dNext))
    (dRet ((dLstM ((dCons ((dCB rMax2 ((dCons (dC (.int 0)) ((dCons ((dBin rSub (dVar 2) ((dBin rPow (dC (.int 10)) (dC (.int 18)))))) (dNil))))))) ((dCons ((dBin rAdd ((dBin rModP ((dBin rPow ((dBin rAdd ((dBin rAdd ((dBin rModP (dVar 2) (dC (.int 2147483543)))) ((dBin rMul (dC (.int 101)) (dVar 1))))) (dC (.int 5)))) (dC (.int 2)))) (dC (.int 2147483497)))) (dC (.int 1)))) (dNil)))))))))))
theorem bd__law_pot {P : Program} {w : World} {K : PySem.W.Frag} {mg : Str → Option Value} {base : Heap} (M : Tx K mg) (f : Addr) (cdv : Value) (A : Around) (outer : List Env) (s : Shared) (H : Hp) (E : XK) :
    PDSs (cxOf (L2.CX P w) P w K mg base N__law_pot "_law_pot" (defScope (top 23)) f cdv A outer s H E) 0 true (defBody (top 23)) (rd__law_pot) := by
  have S := sc__law_pot
  exact (pdss_cons (pds_set (i := 2) S.nd rfl (by first | exact .inl rfl | exact .inr rfl) pd_int)
    (pdss_cons (pds_if (pdt_cmp od_lt (pd_var (i := 1) rfl (by first | exact .inl rfl | exact .inr (.inl rfl) | exact .inr (.inr rfl))) (pd_callB cd_len boot_len M.z_len (pda_cons (pd_var (i := 0) rfl (by first | exact .inl rfl | exact .inr (.inl rfl) | exact .inr (.inr rfl))) pda_nil))) (pdss_one (pds_set (i := 2) S.nd rfl (by first | exact .inl rfl | exact .inr rfl) (pd_callB cd_abs boot_abs M.z_abs (pda_cons (pd_ix (pd_var (i := 0) rfl (by first | exact .inl rfl | exact .inr (.inl rfl) | exact .inr (.inr rfl))) (pd_var (i := 1) rfl (by first | exact .inl rfl | exact .inr (.inl rfl) | exact .inr (.inr rfl)))) pda_nil)))) pdss_nil)
    (pdss_one (pds_ret (pd_lstM (pda_cons (pd_callB cd_max2 boot_max M.z_max (pda_cons pd_int (pda_cons (pd_bin od_sub (pd_var (i := 2) rfl (by first | exact .inl rfl | exact .inr (.inl rfl) | exact .inr (.inr rfl))) (pd_bin od_pow pd_int pd_int)) pda_nil))) (pda_cons (pd_bin od_add (pd_bin od_modP (pd_bin od_pow (pd_bin od_add (pd_bin od_add (pd_bin od_modP (pd_var (i := 2) rfl (by first | exact .inl rfl | exact .inr (.inl rfl) | exact .inr (.inr rfl))) pd_int) (pd_bin od_mul pd_int (pd_var (i := 1) rfl (by first | exact .inl rfl | exact .inr (.inl rfl) | exact .inr (.inr rfl))))) pd_int) pd_int) pd_int) pd_int) pda_nil)))))))
abbrev N__law_take : List Str := ["_law_pot_here", "_law_many", "_law_digit"]
abbrev ps__law_take : List Str := ["_law_pot_here", "_law_many"]
theorem sc__law_take : FnScope N__law_take ps__law_take (defScope (top 24)) := ⟨rfl, rfl, rfl, by decide +kernel, rfl, by decide +kernel, by decide +kernel⟩
theorem sl__law_take {a0 a1 : D} : slots N__law_take [a0, a1] = [some a0, some a1, none] := rfl
def rd__law_take : DS :=
  (dSeq (dIfS (dTest (dBin rGt ((dBin rIx (dVar 0) (dC (.int 0)))) (dC (.int 0)))) ((dSeq (dAsg ((dCB rDivmod ((dCons ((dBin rIx (dVar 0) (dC (.int 0)))) ((dCons (dVar 1) (dNil))))))) (gdTup 2 (gdCons (gdSub (dVar 0) (dC (.int 0))) (gdCons (gdName 2) (gdNil)))))
    (dRet (dVar 2)))) (dNext))
    ((dSeq (dAsg ((dBin rModP ((dBin rAdd ((dBin rMul ((dBin rIx (dVar 0) (dC (.int 1)))) (dC (.int 44029)))) (dC (.int 10133)))) (dC (.int 2147483587)))) (gdSub (dVar 0) (dC (.int 1))))
    (dRet ((dBin rModP ((dBin rDiv ((dBin rModP ((dBin rMul ((dBin rIx (dVar 0) (dC (.int 1)))) ((dBin rIx (dVar 0) (dC (.int 1)))))) (dC (.int 2147483549)))) (dC (.int 11)))) (dVar 1)))))))
theorem bd__law_take {P : Program} {w : World} {K : PySem.W.Frag} {mg : Str → Option Value} {base : Heap} (M : Tx K mg) (f : Addr) (cdv : Value) (A : Around) (outer : List Env) (s : Shared) (H : Hp) (E : XK) :
    PDSs (cxOf (L2.CX P w) P w K mg base N__law_take "_law_take" (defScope (top 24)) f cdv A outer s H E) 0 true (defBody (top 24)) (rd__law_take) := by
  have S := sc__law_take
  exact (pdss_cons (pds_if (pdt_cmp od_gt (pd_ix (pd_var (i := 0) rfl (by first | exact .inl rfl | exact .inr (.inl rfl) | exact .inr (.inr rfl))) pd_int) pd_int) (pdss_cons (pds_asg (pd_callB cd_divmod boot_divmod M.z_divmod (pda_cons (pd_ix (pd_var (i := 0) rfl (by first | exact .inl rfl | exact .inr (.inl rfl) | exact .inr (.inr rfl))) pd_int) (pda_cons (pd_var (i := 1) rfl (by first | exact .inl rfl | exact .inr (.inl rfl) | exact .inr (.inr rfl))) pda_nil))) (pdg_tup (pdgs_cons (pdg_sub (pd_var (i := 0) rfl (by first | exact .inl rfl | exact .inr (.inl rfl) | exact .inr (.inr rfl))) pd_int) (pdgs_cons (pdg_name (i := 2) S.nd rfl (by first | exact .inl rfl | exact .inr rfl)) pdgs_nil))))
    (pdss_one (pds_ret (pd_var (i := 2) rfl (by first | exact .inl rfl | exact .inr (.inl rfl) | exact .inr (.inr rfl)))))) pdss_nil)
    (pdss_cons (pds_asg (pd_bin od_modP (pd_bin od_add (pd_bin od_mul (pd_ix (pd_var (i := 0) rfl (by first | exact .inl rfl | exact .inr (.inl rfl) | exact .inr (.inr rfl))) pd_int) pd_int) pd_int) pd_int) (pdg_sub (pd_var (i := 0) rfl (by first | exact .inl rfl | exact .inr (.inl rfl) | exact .inr (.inr rfl))) pd_int))
    (pdss_one (pds_ret (pd_bin od_modP (pd_bin od_div (pd_bin od_modP (pd_bin od_mul (pd_ix (pd_var (i := 0) rfl (by first | exact .inl rfl | exact .inr (.inl rfl) | exact .inr (.inr rfl))) pd_int) (pd_ix (pd_var (i := 0) rfl (by first | exact .inl rfl | exact .inr (.inl rfl) | exact .inr (.inr rfl))) pd_int)) pd_int) pd_int) (pd_var (i := 1) rfl (by first | exact .inl rfl | exact .inr (.inl rfl) | exact .inr (.inr rfl))))))))
abbrev N__law_among : List Str := ["_law_pot_here", "_law_some"]
abbrev ps__law_among : List Str := ["_law_pot_here", "_law_some"]
theorem sc__law_among : FnScope N__law_among ps__law_among (defScope (top 25)) := ⟨rfl, rfl, rfl, by decide +kernel, rfl, by decide +kernel, by decide +kernel⟩
theorem sl__law_among {a0 a1 : D} : slots N__law_among [a0, a1] = [some a0, some a1] := rfl
def rd__law_among (sp__law_take : DSp) : DS :=
  dRet ((dBin rIx (dVar 1) ((dCall sp__law_take ((dCons (dVar 0) ((dCons ((dCB rLen ((dCons (dVar 1) (dNil))))) (dNil)))))))))
theorem bd__law_among {P : Program} {w : World} {K : PySem.W.Frag} {mg : Str → Option Value} {base : Heap} {sp__law_take : DSp} (M : Tx K mg) (h__law_take : HasF P w K mg base "_law_take" 1 ps__law_take sp__law_take) (f : Addr) (cdv : Value) (A : Around) (outer : List Env) (s : Shared) (H : Hp) (E : XK) :
    PDSs (cxOf (L2.CX P w) P w K mg base N__law_among "_law_among" (defScope (top 25)) f cdv A outer s H E) 1 true (defBody (top 25)) (rd__law_among sp__law_take) := by
  have S := sc__law_among
  exact (pdss_one (pds_ret (pd_ix (pd_var (i := 1) rfl (by first | exact .inl rfl | exact .inr (.inl rfl) | exact .inr (.inr rfl))) (pd_call h__law_take (by decide) (pda_cons (pd_var (i := 0) rfl (by first | exact .inl rfl | exact .inr (.inl rfl) | exact .inr (.inr rfl))) (pda_cons (pd_callB cd_len boot_len M.z_len (pda_cons (pd_var (i := 1) rfl (by first | exact .inl rfl | exact .inr (.inl rfl) | exact .inr (.inr rfl))) pda_nil)) pda_nil))))))
abbrev N__law_word : List Str := ["_law_pot_here", "_law_letters", "_law_k"]
abbrev ps__law_word : List Str := ["_law_pot_here"]
theorem sc__law_word : FnScope N__law_word ps__law_word (defScope (top 26)) := ⟨rfl, rfl, rfl, by decide +kernel, rfl, by decide +kernel, by decide +kernel⟩
theorem sl__law_word {a0 : D} : slots N__law_word [a0] = [some a0, none, none] := rfl
def rd__law_word (sp__law_take : DSp) : DS :=
  (dSeq (dAsg (dC (.str "abcdefghijklmnopqrstuvwxyz")) (gdName 1))
    (dRet ((dJoin (dC (.str "")) ((dLc (diRng1 ((dCons ((dCall sp__law_take ((dCons (dVar 0) ((dCons (dC (.int 9)) (dNil))))))) (dNil)))) (gdName 2) (dYes) ((dBin rIx (dVar 1) ((dCall sp__law_take ((dCons (dVar 0) ((dCons (dC (.int 26)) (dNil))))))))) [2]))))))
theorem bd__law_word {P : Program} {w : World} {K : PySem.W.Frag} {mg : Str → Option Value} {base : Heap} {sp__law_take : DSp} (M : Tx K mg) (h__law_take : HasF P w K mg base "_law_take" 1 ps__law_take sp__law_take) (f : Addr) (cdv : Value) (A : Around) (outer : List Env) (s : Shared) (H : Hp) (E : XK) :
    PDSs (cxOf (L2.CX P w) P w K mg base N__law_word "_law_word" (defScope (top 26)) f cdv A outer s H E) 1 true (defBody (top 26)) (rd__law_word sp__law_take) := by
  have S := sc__law_word
  exact (pdss_cons (pds_set (i := 1) S.nd rfl (by first | exact .inl rfl | exact .inr rfl) pd_str)
    (pdss_one (pds_ret (pd_join pd_str (pd_lcG (own := [("_law_k", 2)]) S.nd (pdi_range1 M.z_range (pda_cons (pd_call h__law_take (by decide) (pda_cons (pd_var (i := 0) rfl (by first | exact .inl rfl | exact .inr (.inl rfl) | exact .inr (.inr rfl))) (pda_cons pd_int pda_nil))) pda_nil)) (show BlkOk N__law_word (defScope (top 26)) _ [("_law_k", 2)] from ⟨rfl, by decide +kernel, by decide +kernel, by decide +kernel, by decide +kernel⟩) (lct_name (i := 2) S.nd rfl (by decide) (fun _ _ => (by first | exact .inl rfl | exact .inr rfl)) (fun _ _ => (by first | exact .inl rfl | exact .inr rfl))) (fun _ _ _ _ _ => pdts_nil) (fun _ _ _ _ _ => (pd_ix (pd_var (i := 1) rfl (by first | exact .inl rfl | exact .inr (.inl rfl) | exact .inr (.inr rfl))) (pd_call h__law_take (by decide) (pda_cons (pd_var (i := 0) rfl (by first | exact .inl rfl | exact .inr (.inl rfl) | exact .inr (.inr rfl))) (pda_cons pd_int pda_nil))))) finF)))))
abbrev N__law_thing : List Str := ["_law_pot_here", "_law_some"]
abbrev ps__law_thing : List Str := ["_law_pot_here"]
theorem sc__law_thing : FnScope N__law_thing ps__law_thing (defScope (top 27)) := ⟨rfl, rfl, rfl, by decide +kernel, rfl, by decide +kernel, by decide +kernel⟩
theorem sl__law_thing {a0 : D} : slots N__law_thing [a0] = [some a0, none] := rfl
def rd__law_thing (sp__law_word sp__law_take sp__law_among : DSp) : DS :=
  (dSeq (dAsg ((dLst ((dCons (dC .non) ((dCons (dC (.bl true)) ((dCons (dC (.bl false)) ((dCons (dC (.int 0)) ((dCons ((dCall sp__law_take ((dCons (dVar 0) ((dCons ((dBin rPow (dC (.int 10)) (dC (.int 60)))) (dNil))))))) ((dCons (dC (.str "")) ((dCons ((dCall sp__law_word ((dCons (dVar 0) (dNil))))) ((dCons ((dTupK (dNil))) ((dCons ((dTup ((dCons (dC (.str "a")) ((dCons (dC (.int 1)) (dNil))))))) ((dCons ((dLst (dNil))) ((dCons ((dLst ((dCons (dC (.str "a")) (dNil))))) ((dCons (dDct0) (dNil))))))))))))))))))))))))))) (gdName 1))
    (dRet ((dCall sp__law_among ((dCons (dVar 0) ((dCons (dVar 1) (dNil)))))))))
theorem bd__law_thing {P : Program} {w : World} {K : PySem.W.Frag} {mg : Str → Option Value} {base : Heap} {sp__law_word sp__law_take sp__law_among : DSp} (M : Tx K mg) (h__law_word : HasF P w K mg base "_law_word" 2 ps__law_word sp__law_word) (h__law_take : HasF P w K mg base "_law_take" 1 ps__law_take sp__law_take) (h__law_among : HasF P w K mg base "_law_among" 2 ps__law_among sp__law_among) (f : Addr) (cdv : Value) (A : Around) (outer : List Env) (s : Shared) (H : Hp) (E : XK) :
    PDSs (cxOf (L2.CX P w) P w K mg base N__law_thing "_law_thing" (defScope (top 27)) f cdv A outer s H E) 2 true (defBody (top 27)) (rd__law_thing sp__law_word sp__law_take sp__law_among) := by
  have S := sc__law_thing
  exact (pdss_cons (pds_set (i := 1) S.nd rfl (by first | exact .inl rfl | exact .inr rfl) (pd_lst (pda_cons pd_non (pda_cons pd_bl (pda_cons pd_bl (pda_cons pd_int (pda_cons (pd_call h__law_take (by decide) (pda_cons (pd_var (i := 0) rfl (by first | exact .inl rfl | exact .inr (.inl rfl) | exact .inr (.inr rfl))) (pda_cons (pd_bin od_pow pd_int pd_int) pda_nil))) (pda_cons pd_str (pda_cons (pd_call h__law_word (by decide) (pda_cons (pd_var (i := 0) rfl (by first | exact .inl rfl | exact .inr (.inl rfl) | exact .inr (.inr rfl))) pda_nil)) (pda_cons (pd_tupK pda_nil) (pda_cons (pd_tup (pda_cons pd_str (pda_cons pd_int pda_nil))) (pda_cons (pd_lst pda_nil) (pda_cons (pd_lst (pda_cons pd_str pda_nil)) (pda_cons (pd_dct0) pda_nil))))))))))))))
    (pdss_one (pds_ret (pd_call h__law_among (by decide) (pda_cons (pd_var (i := 0) rfl (by first | exact .inl rfl | exact .inr (.inl rfl) | exact .inr (.inr rfl))) (pda_cons (pd_var (i := 1) rfl (by first | exact .inl rfl | exact .inr (.inl rfl) | exact .inr (.inr rfl))) pda_nil))))))
abbrev N__law_which : List Str := ["_law_e", "_law_some", "_law_number", "_law_truth"]
abbrev ps__law_which : List Str := ["_law_e"]
theorem sc__law_which : FnScope N__law_which ps__law_which (defScope (top 28)) := ⟨rfl, rfl, rfl, by decide +kernel, rfl, by decide +kernel, by decide +kernel⟩
theorem sl__law_which {a0 : D} : slots N__law_which [a0] = [some a0, none, none, none] := rfl
def rd__law_which : DS :=
  (dSeq (dAsg ((dLst ((dCons ((dCB (rIsV cat_Xv isc_Xv ist_Xv) (dCons (dVar 0) (dCons ((dCls ⟨"NoWeb", []⟩)) dNil)))) ((dCons ((dCB (rIsV cat_Xv isc_Xv ist_Xv) (dCons (dVar 0) (dCons ((dCls ⟨"NoText", []⟩)) dNil)))) ((dCons ((dCB (rIsV cat_Xv isc_Xv ist_Xv) (dCons (dVar 0) (dCons ((dCls ⟨"NoWalk", []⟩)) dNil)))) ((dCons ((dCB (rIsV cat_Xv isc_Xv ist_Xv) (dCons (dVar 0) (dCons ((dCls ⟨"NoPaper", []⟩)) dNil)))) (dNil))))))))))) (gdName 1))
    ((dSeq (dAsg ((dBin rAdd (dVar 1) ((dLst ((dCons ((dCB (rIsV cat_Xv isc_Xv ist_Xv) (dCons (dVar 0) (dCons ((dCls ⟨"NoCount", []⟩)) dNil)))) ((dCons ((dCB (rIsV cat_Xv isc_Xv ist_Xv) (dCons (dVar 0) (dCons ((dCls ⟨"NoPlace", []⟩)) dNil)))) ((dCons ((dCB (rIsV cat_Xv isc_Xv ist_Xv) (dCons (dVar 0) (dCons ((dCls ⟨"NoState", []⟩)) dNil)))) ((dCons ((dCB (rIsV cat_Xv isc_Xv ist_Xv) (dCons (dVar 0) (dCons ((dCls ⟨"NoLength", []⟩)) dNil)))) (dNil))))))))))))) (gdName 1))
    ((dSeq (dAsg ((dBin rAdd (dVar 1) ((dLst ((dCons ((dCB (rIsV cat_Xv isc_Xv ist_Xv) (dCons (dVar 0) (dCons ((dCls ⟨"NoName", []⟩)) dNil)))) ((dCons ((dCB (rIsV cat_Xv isc_Xv ist_Xv) (dCons (dVar 0) (dCons ((dCls ⟨"NoCries", []⟩)) dNil)))) ((dCons ((dCB (rIsV cat_Xv isc_Xv ist_Xv) (dCons (dVar 0) (dCons ((dCls ⟨"NoBack", []⟩)) dNil)))) ((dCons ((dCB (rIsV cat_Xv isc_Xv ist_Xv) (dCons (dVar 0) (dCons ((dCls ⟨"NoRow", []⟩)) dNil)))) (dNil))))))))))))) (gdName 1))
    ((dSeq (dAsg ((dBin rAdd (dVar 1) ((dLst ((dCons ((dCB (rIsV cat_Xv isc_Xv ist_Xv) (dCons (dVar 0) (dCons ((dCls ⟨"NoSuch", []⟩)) dNil)))) ((dCons ((dCB (rIsV cat_Xv isc_Xv ist_Xv) (dCons (dVar 0) (dCons ((dCls ⟨"Taken", []⟩)) dNil)))) ((dCons ((dCB (rIsV cat_Xv isc_Xv ist_Xv) (dCons (dVar 0) (dCons ((dCls ⟨"Same", []⟩)) dNil)))) ((dCons ((dCB (rIsV cat_Xv isc_Xv ist_Xv) (dCons (dVar 0) (dCons ((dCls ⟨"Crying", []⟩)) dNil)))) (dNil))))))))))))) (gdName 1))
    ((dSeq (dAsg ((dBin rAdd (dVar 1) ((dLst ((dCons ((dCB (rIsV cat_Xv isc_Xv ist_Xv) (dCons (dVar 0) (dCons ((dCls ⟨"Alone", []⟩)) dNil)))) ((dCons ((dCB (rIsV cat_Xv isc_Xv ist_Xv) (dCons (dVar 0) (dCons ((dCls ⟨"Endless", []⟩)) dNil)))) ((dCons ((dCB (rIsV cat_Xv isc_Xv ist_Xv) (dCons (dVar 0) (dCons ((dCls ⟨"Crowded", []⟩)) dNil)))) ((dCons ((dCB (rIsV cat_Xv isc_Xv ist_Xv) (dCons (dVar 0) (dCons ((dCls ⟨"TooMany", []⟩)) dNil)))) (dNil))))))))))))) (gdName 1))
    (dRet ((dLc (diEnum2 ((dCons (dVar 1) (dNil)))) (gdTup 2 ((gdCons (gdName 2) ((gdCons (gdName 3) (gdNil)))))) (dTest (dVar 3)) (dVar 2) [2, 3]))))))))))))
theorem bd__law_which {P : Program} {w : World} {K : PySem.W.Frag} {mg : Str → Option Value} {base : Heap} (M : Tx K mg) (f : Addr) (cdv : Value) (A : Around) (outer : List Env) (s : Shared) (H : Hp) (E : XK) :
    PDSs (cxOf (L2.CX P w) P w K mg base N__law_which "_law_which" (defScope (top 28)) f cdv A outer s H E) 0 true (defBody (top 28)) (rd__law_which) := by
  have S := sc__law_which
  exact (pdss_cons (pds_set (i := 1) S.nd rfl (by first | exact .inl rfl | exact .inr rfl) (pd_lst (pda_cons (pd_callB (cd_isV M.e_Xv M.i_Xv) boot_isinstance M.z_isinstance (pda_cons (pd_var (i := 0) rfl (by first | exact .inl rfl | exact .inr (.inl rfl) | exact .inr (.inr rfl))) (pda_cons (pd_clsE M.n_NoWeb) pda_nil))) (pda_cons (pd_callB (cd_isV M.e_Xv M.i_Xv) boot_isinstance M.z_isinstance (pda_cons (pd_var (i := 0) rfl (by first | exact .inl rfl | exact .inr (.inl rfl) | exact .inr (.inr rfl))) (pda_cons (pd_clsE M.n_NoText) pda_nil))) (pda_cons (pd_callB (cd_isV M.e_Xv M.i_Xv) boot_isinstance M.z_isinstance (pda_cons (pd_var (i := 0) rfl (by first | exact .inl rfl | exact .inr (.inl rfl) | exact .inr (.inr rfl))) (pda_cons (pd_clsE M.n_NoWalk) pda_nil))) (pda_cons (pd_callB (cd_isV M.e_Xv M.i_Xv) boot_isinstance M.z_isinstance (pda_cons (pd_var (i := 0) rfl (by first | exact .inl rfl | exact .inr (.inl rfl) | exact .inr (.inr rfl))) (pda_cons (pd_clsE M.n_NoPaper) pda_nil))) pda_nil))))))
    (pdss_cons (pds_set (i := 1) S.nd rfl (by first | exact .inl rfl | exact .inr rfl) (pd_bin od_add (pd_var (i := 1) rfl (by first | exact .inl rfl | exact .inr (.inl rfl) | exact .inr (.inr rfl))) (pd_lst (pda_cons (pd_callB (cd_isV M.e_Xv M.i_Xv) boot_isinstance M.z_isinstance (pda_cons (pd_var (i := 0) rfl (by first | exact .inl rfl | exact .inr (.inl rfl) | exact .inr (.inr rfl))) (pda_cons (pd_clsE M.n_NoCount) pda_nil))) (pda_cons (pd_callB (cd_isV M.e_Xv M.i_Xv) boot_isinstance M.z_isinstance (pda_cons (pd_var (i := 0) rfl (by first | exact .inl rfl | exact .inr (.inl rfl) | exact .inr (.inr rfl))) (pda_cons (pd_clsE M.n_NoPlace) pda_nil))) (pda_cons (pd_callB (cd_isV M.e_Xv M.i_Xv) boot_isinstance M.z_isinstance (pda_cons (pd_var (i := 0) rfl (by first | exact .inl rfl | exact .inr (.inl rfl) | exact .inr (.inr rfl))) (pda_cons (pd_clsE M.n_NoState) pda_nil))) (pda_cons (pd_callB (cd_isV M.e_Xv M.i_Xv) boot_isinstance M.z_isinstance (pda_cons (pd_var (i := 0) rfl (by first | exact .inl rfl | exact .inr (.inl rfl) | exact .inr (.inr rfl))) (pda_cons (pd_clsE M.n_NoLength) pda_nil))) pda_nil)))))))
    (pdss_cons (pds_set (i := 1) S.nd rfl (by first | exact .inl rfl | exact .inr rfl) (pd_bin od_add (pd_var (i := 1) rfl (by first | exact .inl rfl | exact .inr (.inl rfl) | exact .inr (.inr rfl))) (pd_lst (pda_cons (pd_callB (cd_isV M.e_Xv M.i_Xv) boot_isinstance M.z_isinstance (pda_cons (pd_var (i := 0) rfl (by first | exact .inl rfl | exact .inr (.inl rfl) | exact .inr (.inr rfl))) (pda_cons (pd_clsE M.n_NoName) pda_nil))) (pda_cons (pd_callB (cd_isV M.e_Xv M.i_Xv) boot_isinstance M.z_isinstance (pda_cons (pd_var (i := 0) rfl (by first | exact .inl rfl | exact .inr (.inl rfl) | exact .inr (.inr rfl))) (pda_cons (pd_clsE M.n_NoCries) pda_nil))) (pda_cons (pd_callB (cd_isV M.e_Xv M.i_Xv) boot_isinstance M.z_isinstance (pda_cons (pd_var (i := 0) rfl (by first | exact .inl rfl | exact .inr (.inl rfl) | exact .inr (.inr rfl))) (pda_cons (pd_clsE M.n_NoBack) pda_nil))) (pda_cons (pd_callB (cd_isV M.e_Xv M.i_Xv) boot_isinstance M.z_isinstance (pda_cons (pd_var (i := 0) rfl (by first | exact .inl rfl | exact .inr (.inl rfl) | exact .inr (.inr rfl))) (pda_cons (pd_clsE M.n_NoRow) pda_nil))) pda_nil)))))))
    (pdss_cons (pds_set (i := 1) S.nd rfl (by first | exact .inl rfl | exact .inr rfl) (pd_bin od_add (pd_var (i := 1) rfl (by first | exact .inl rfl | exact .inr (.inl rfl) | exact .inr (.inr rfl))) (pd_lst (pda_cons (pd_callB (cd_isV M.e_Xv M.i_Xv) boot_isinstance M.z_isinstance (pda_cons (pd_var (i := 0) rfl (by first | exact .inl rfl | exact .inr (.inl rfl) | exact .inr (.inr rfl))) (pda_cons (pd_clsE M.n_NoSuch) pda_nil))) (pda_cons (pd_callB (cd_isV M.e_Xv M.i_Xv) boot_isinstance M.z_isinstance (pda_cons (pd_var (i := 0) rfl (by first | exact .inl rfl | exact .inr (.inl rfl) | exact .inr (.inr rfl))) (pda_cons (pd_clsE M.n_Taken) pda_nil))) (pda_cons (pd_callB (cd_isV M.e_Xv M.i_Xv) boot_isinstance M.z_isinstance (pda_cons (pd_var (i := 0) rfl (by first | exact .inl rfl | exact .inr (.inl rfl) | exact .inr (.inr rfl))) (pda_cons (pd_clsE M.n_Same) pda_nil))) (pda_cons (pd_callB (cd_isV M.e_Xv M.i_Xv) boot_isinstance M.z_isinstance (pda_cons (pd_var (i := 0) rfl (by first | exact .inl rfl | exact .inr (.inl rfl) | exact .inr (.inr rfl))) (pda_cons (pd_clsE M.n_Crying) pda_nil))) pda_nil)))))))
    (pdss_cons (pds_set (i := 1) S.nd rfl (by first | exact .inl rfl | exact .inr rfl) (pd_bin od_add (pd_var (i := 1) rfl (by first | exact .inl rfl | exact .inr (.inl rfl) | exact .inr (.inr rfl))) (pd_lst (pda_cons (pd_callB (cd_isV M.e_Xv M.i_Xv) boot_isinstance M.z_isinstance (pda_cons (pd_var (i := 0) rfl (by first | exact .inl rfl | exact .inr (.inl rfl) | exact .inr (.inr rfl))) (pda_cons (pd_clsE M.n_Alone) pda_nil))) (pda_cons (pd_callB (cd_isV M.e_Xv M.i_Xv) boot_isinstance M.z_isinstance (pda_cons (pd_var (i := 0) rfl (by first | exact .inl rfl | exact .inr (.inl rfl) | exact .inr (.inr rfl))) (pda_cons (pd_clsE M.n_Endless) pda_nil))) (pda_cons (pd_callB (cd_isV M.e_Xv M.i_Xv) boot_isinstance M.z_isinstance (pda_cons (pd_var (i := 0) rfl (by first | exact .inl rfl | exact .inr (.inl rfl) | exact .inr (.inr rfl))) (pda_cons (pd_clsE M.n_Crowded) pda_nil))) (pda_cons (pd_callB (cd_isV M.e_Xv M.i_Xv) boot_isinstance M.z_isinstance (pda_cons (pd_var (i := 0) rfl (by first | exact .inl rfl | exact .inr (.inl rfl) | exact .inr (.inr rfl))) (pda_cons (pd_clsE M.n_TooMany) pda_nil))) pda_nil)))))))
    (pdss_one (pds_ret (pd_lcG (own := [("_law_number", 2), ("_law_truth", 3)]) S.nd (pdi_enum2 M.z_enumerate (pda_cons (pd_var (i := 1) rfl (by first | exact .inl rfl | exact .inr (.inl rfl) | exact .inr (.inr rfl))) pda_nil)) (show BlkOk N__law_which (defScope (top 28)) _ [("_law_number", 2), ("_law_truth", 3)] from ⟨rfl, by decide +kernel, by decide +kernel, by decide +kernel, by decide +kernel⟩) (lct_tup (lcts_cons (lct_name (i := 2) S.nd rfl (by decide) (fun _ _ => (by first | exact .inl rfl | exact .inr rfl)) (fun _ _ => (by first | exact .inl rfl | exact .inr rfl))) (lcts_cons (lct_name (i := 3) S.nd rfl (by decide) (fun _ _ => (by first | exact .inl rfl | exact .inr rfl)) (fun _ _ => (by first | exact .inl rfl | exact .inr rfl))) lcts_nil gdName_same) gdName_same)) (fun _ _ _ _ _ => (pdts_one (pdt_val (pd_var (i := 3) rfl (by first | exact .inl rfl | exact .inr (.inl rfl) | exact .inr (.inr rfl)))))) (fun _ _ _ _ _ => (pd_var (i := 2) rfl (by first | exact .inl rfl | exact .inr (.inl rfl) | exact .inr (.inr rfl)))) finF))))))))
abbrev N__law_bases : List Str := ["_law_e", "_law_found", "_law_number", "_law_truth"]
abbrev ps__law_bases : List Str := ["_law_e"]
theorem sc__law_bases : FnScope N__law_bases ps__law_bases (defScope (top 29)) := ⟨rfl, rfl, rfl, by decide +kernel, rfl, by decide +kernel, by decide +kernel⟩
theorem sl__law_bases {a0 : D} : slots N__law_bases [a0] = [some a0, none, none, none] := rfl
def rd__law_bases : DS :=
  (dSeq (dAsg ((dLst ((dCons ((dCB (rIsV cat_Xv isc_Xv ist_Xv) (dCons (dVar 0) (dCons ((dCls ⟨"WebError", []⟩)) dNil)))) ((dCons ((dCB (rIsV cat_Xv isc_Xv ist_Xv) (dCons (dVar 0) (dCons (dC (.ty "ValueError")) dNil)))) ((dCons ((dCB (rIsV cat_Xv isc_Xv ist_Xv) (dCons (dVar 0) (dCons (dC (.ty "LookupError")) dNil)))) (dNil))))))))) (gdName 1))
    ((dSeq (dAsg ((dBin rAdd (dVar 1) ((dLst ((dCons ((dCB (rIsV cat_Xv isc_Xv ist_Xv) (dCons (dVar 0) (dCons (dC (.ty "RuntimeError")) dNil)))) ((dCons ((dCB (rIsV cat_Xv isc_Xv ist_Xv) (dCons (dVar 0) (dCons (dC (.ty "ArithmeticError")) dNil)))) (dNil))))))))) (gdName 1))
    (dRet ((dLc (diEnum2 ((dCons (dVar 1) (dNil)))) (gdTup 2 ((gdCons (gdName 2) ((gdCons (gdName 3) (gdNil)))))) (dTest (dVar 3)) (dVar 2) [2, 3]))))))
theorem bd__law_bases {P : Program} {w : World} {K : PySem.W.Frag} {mg : Str → Option Value} {base : Heap} (M : Tx K mg) (f : Addr) (cdv : Value) (A : Around) (outer : List Env) (s : Shared) (H : Hp) (E : XK) :
    PDSs (cxOf (L2.CX P w) P w K mg base N__law_bases "_law_bases" (defScope (top 29)) f cdv A outer s H E) 0 true (defBody (top 29)) (rd__law_bases) := by
  have S := sc__law_bases
  exact (pdss_cons (pds_set (i := 1) S.nd rfl (by first | exact .inl rfl | exact .inr rfl) (pd_lst (pda_cons (pd_callB (cd_isV M.e_Xv M.i_Xv) boot_isinstance M.z_isinstance (pda_cons (pd_var (i := 0) rfl (by first | exact .inl rfl | exact .inr (.inl rfl) | exact .inr (.inr rfl))) (pda_cons (pd_clsE M.n_WebError) pda_nil))) (pda_cons (pd_callB (cd_isV M.e_Xv M.i_Xv) boot_isinstance M.z_isinstance (pda_cons (pd_var (i := 0) rfl (by first | exact .inl rfl | exact .inr (.inl rfl) | exact .inr (.inr rfl))) (pda_cons (pd_ty (show bootBuiltins "ValueError" = some (.type "ValueError") from rfl) M.z_ValueError) pda_nil))) (pda_cons (pd_callB (cd_isV M.e_Xv M.i_Xv) boot_isinstance M.z_isinstance (pda_cons (pd_var (i := 0) rfl (by first | exact .inl rfl | exact .inr (.inl rfl) | exact .inr (.inr rfl))) (pda_cons (pd_ty (show bootBuiltins "LookupError" = some (.type "LookupError") from rfl) M.z_LookupError) pda_nil))) pda_nil)))))
    (pdss_cons (pds_set (i := 1) S.nd rfl (by first | exact .inl rfl | exact .inr rfl) (pd_bin od_add (pd_var (i := 1) rfl (by first | exact .inl rfl | exact .inr (.inl rfl) | exact .inr (.inr rfl))) (pd_lst (pda_cons (pd_callB (cd_isV M.e_Xv M.i_Xv) boot_isinstance M.z_isinstance (pda_cons (pd_var (i := 0) rfl (by first | exact .inl rfl | exact .inr (.inl rfl) | exact .inr (.inr rfl))) (pda_cons (pd_ty (show bootBuiltins "RuntimeError" = some (.type "RuntimeError") from rfl) M.z_RuntimeError) pda_nil))) (pda_cons (pd_callB (cd_isV M.e_Xv M.i_Xv) boot_isinstance M.z_isinstance (pda_cons (pd_var (i := 0) rfl (by first | exact .inl rfl | exact .inr (.inl rfl) | exact .inr (.inr rfl))) (pda_cons (pd_ty (show bootBuiltins "ArithmeticError" = some (.type "ArithmeticError") from rfl) M.z_ArithmeticError) pda_nil))) pda_nil)))))
    (pdss_one (pds_ret (pd_lcG (own := [("_law_number", 2), ("_law_truth", 3)]) S.nd (pdi_enum2 M.z_enumerate (pda_cons (pd_var (i := 1) rfl (by first | exact .inl rfl | exact .inr (.inl rfl) | exact .inr (.inr rfl))) pda_nil)) (show BlkOk N__law_bases (defScope (top 29)) _ [("_law_number", 2), ("_law_truth", 3)] from ⟨rfl, by decide +kernel, by decide +kernel, by decide +kernel, by decide +kernel⟩) (lct_tup (lcts_cons (lct_name (i := 2) S.nd rfl (by decide) (fun _ _ => (by first | exact .inl rfl | exact .inr rfl)) (fun _ _ => (by first | exact .inl rfl | exact .inr rfl))) (lcts_cons (lct_name (i := 3) S.nd rfl (by decide) (fun _ _ => (by first | exact .inl rfl | exact .inr rfl)) (fun _ _ => (by first | exact .inl rfl | exact .inr rfl))) lcts_nil gdName_same) gdName_same)) (fun _ _ _ _ _ => (pdts_one (pdt_val (pd_var (i := 3) rfl (by first | exact .inl rfl | exact .inr (.inl rfl) | exact .inr (.inr rfl)))))) (fun _ _ _ _ _ => (pd_var (i := 2) rfl (by first | exact .inl rfl | exact .inr (.inl rfl) | exact .inr (.inr rfl)))) finF)))))
abbrev N__law_is : List Str := ["_law_e", "_law_number", "_law_bases_here"]
abbrev ps__law_is : List Str := ["_law_e", "_law_number", "_law_bases_here"]
theorem sc__law_is : FnScope N__law_is ps__law_is (defScope (top 30)) := ⟨rfl, rfl, rfl, by decide +kernel, rfl, by decide +kernel, by decide +kernel⟩
theorem sl__law_is {a0 a1 a2 : D} : slots N__law_is [a0, a1, a2] = [some a0, some a1, some a2] := rfl
def rd__law_is (sp__law_which sp__law_bases : DSp) : DS :=
  dRet ((dAndV ((dBin rEq ((dCall sp__law_which ((dCons (dVar 0) (dNil))))) ((dLst ((dCons (dVar 1) (dNil))))))) ((dBin rEq ((dCall sp__law_bases ((dCons (dVar 0) (dNil))))) (dVar 2)))))
theorem bd__law_is {P : Program} {w : World} {K : PySem.W.Frag} {mg : Str → Option Value} {base : Heap} {sp__law_which sp__law_bases : DSp} (M : Tx K mg) (h__law_which : HasF P w K mg base "_law_which" 1 ps__law_which sp__law_which) (h__law_bases : HasF P w K mg base "_law_bases" 1 ps__law_bases sp__law_bases) (f : Addr) (cdv : Value) (A : Around) (outer : List Env) (s : Shared) (H : Hp) (E : XK) :
    PDSs (cxOf (L2.CX P w) P w K mg base N__law_is "_law_is" (defScope (top 30)) f cdv A outer s H E) 1 true (defBody (top 30)) (rd__law_is sp__law_which sp__law_bases) := by
  have S := sc__law_is
  exact (pdss_one (pds_ret (pd_and (pd_cmp od_eq (pd_call h__law_which (by decide) (pda_cons (pd_var (i := 0) rfl (by first | exact .inl rfl | exact .inr (.inl rfl) | exact .inr (.inr rfl))) pda_nil)) (pd_lst (pda_cons (pd_var (i := 1) rfl (by first | exact .inl rfl | exact .inr (.inl rfl) | exact .inr (.inr rfl))) pda_nil))) (pd_one (pd_cmp od_eq (pd_call h__law_bases (by decide) (pda_cons (pd_var (i := 0) rfl (by first | exact .inl rfl | exact .inr (.inl rfl) | exact .inr (.inr rfl))) pda_nil)) (pd_var (i := 2) rfl (by first | exact .inl rfl | exact .inr (.inl rfl) | exact .inr (.inr rfl))))))))
abbrev N__law_webs_right : List Str := ["_law_one", "_law_other", "_law_word_here", "_law_pair", "_law_told", "_law_made", "_law_e", "_law_number", "_law_plain"]
abbrev ps__law_webs_right : List Str := ["_law_one", "_law_other", "_law_word_here"]
theorem sc__law_webs_right : FnScope N__law_webs_right ps__law_webs_right (defScope (top 31)) := ⟨rfl, rfl, rfl, by decide +kernel, rfl, by decide +kernel, by decide +kernel⟩
theorem sl__law_webs_right {a0 a1 a2 : D} : slots N__law_webs_right [a0, a1, a2] = [some a0, some a1, some a2, none, none, none, none, none, none] := rfl
def rd__law_webs_right (sp__law_is : DSp) : DS :=
  (dSeq (dAsg ((dMkV ⟨"NoWeb", ["who", "what"]⟩ ((dCons (dVar 0) ((dCons (dVar 1) (dNil))))))) (gdName 3))
    ((dSeq (dAsg ((dLst ((dCons ((dUn (rXfV cat_Xv "what") (dVar 3))) ((dCons ((dUn (rXfV cat_Xv "who") (dVar 3))) ((dCons ((dUn (rXfV cat_Xv "row") ((dMkV ⟨"NoText", ["row"]⟩ ((dCons (dVar 0) (dNil))))))) ((dCons ((dUn (rXfV cat_Xv "number") ((dMkV ⟨"NoWalk", ["number"]⟩ ((dCons (dVar 0) (dNil))))))) ((dCons ((dUn (rXfV cat_Xv "row") ((dMkV ⟨"NoPaper", ["row"]⟩ ((dCons (dVar 0) (dNil))))))) ((dCons ((dUn (rXfV cat_Xv "who") ((dMkV ⟨"NoName", ["who"]⟩ ((dCons (dVar 0) (dNil))))))) (dNil))))))))))))))) (gdName 4))
    ((dSeq (dIfS (dTest (dBin rNe ((dCB rRepr ((dCons (dVar 4) (dNil))))) ((dCB rRepr ((dCons ((dBin rAdd ((dLst ((dCons (dVar 0) ((dCons (dVar 1) (dNil))))))) ((dBin rRepD ((dLst ((dCons (dVar 0) (dNil))))) (dC (.int 4)))))) (dNil))))))) (dRet (dC (.bl false))) (dNext))
    ((dSeq (dAsg ((dLst ((dCons (dVar 3) ((dCons ((dMkV ⟨"NoText", ["row"]⟩ ((dCons (dVar 0) (dNil))))) ((dCons ((dMkV ⟨"NoWalk", ["number"]⟩ ((dCons (dVar 0) (dNil))))) ((dCons ((dMkV ⟨"NoPaper", ["row"]⟩ ((dCons (dVar 0) (dNil))))) ((dCons ((dMkV ⟨"NoName", ["who"]⟩ ((dCons (dVar 0) (dNil))))) (dNil))))))))))))) (gdName 5))
    ((dSeq (dIfS ((dNot (dTest ((dCB rAll ((dCons ((dLc (diZip ((dCons (dVar 5) ((dCons ((dLst ((dCons (dC (.int 0)) ((dCons (dC (.int 1)) ((dCons (dC (.int 2)) ((dCons (dC (.int 3)) ((dCons (dC (.int 8)) (dNil))))))))))))) (dNil)))))) (gdTup 2 ((gdCons (gdName 6) ((gdCons (gdName 7) (gdNil)))))) (dYes) ((dCall sp__law_is ((dCons (dVar 6) ((dCons (dVar 7) ((dCons ((dLst ((dCons (dC (.int 0)) ((dCons (dC (.int 1)) (dNil))))))) (dNil))))))))) [6, 7])) (dNil)))))))) (dRet (dC (.bl false))) (dNext))
    ((dSeq (dAsg ((dLst ((dCons ((dMkV0 "NoCount" (dVar 2))) ((dCons ((dMkV0 "NoPlace" (dVar 2))) ((dCons ((dMkV0 "NoState" (dVar 2))) ((dCons ((dMkV0 "NoLength" (dVar 2))) ((dCons ((dMkV0 "NoCries" (dVar 2))) ((dCons ((dMkV0 "NoBack" (dVar 2))) ((dCons ((dMkV0 "NoRow" (dVar 2))) (dNil))))))))))))))))) (gdName 8))
    (dRet ((dCB rAll ((dCons ((dLc (diZip ((dCons (dVar 8) ((dCons ((dLst ((dCons (dC (.int 4)) ((dCons (dC (.int 5)) ((dCons (dC (.int 6)) ((dCons (dC (.int 7)) ((dCons (dC (.int 9)) ((dCons (dC (.int 10)) ((dCons (dC (.int 11)) (dNil))))))))))))))))) (dNil)))))) (gdTup 2 ((gdCons (gdName 6) ((gdCons (gdName 7) (gdNil)))))) (dYes) ((dCall sp__law_is ((dCons (dVar 6) ((dCons (dVar 7) ((dCons ((dLst ((dCons (dC (.int 0)) ((dCons (dC (.int 1)) (dNil))))))) (dNil))))))))) [6, 7])) (dNil)))))))))))))))))
theorem bd__law_webs_right {P : Program} {w : World} {K : PySem.W.Frag} {mg : Str → Option Value} {base : Heap} {sp__law_is : DSp} (M : Tx K mg) (h_x_NoWeb : HasX P w K mg base "NoWeb" 1 ["what", "who"]) (h_x_NoName : HasX P w K mg base "NoName" 1 ["who"]) (h_x_NoPaper : HasX P w K mg base "NoPaper" 1 ["row"]) (h_x_NoWalk : HasX P w K mg base "NoWalk" 1 ["number"]) (h_x_NoText : HasX P w K mg base "NoText" 1 ["row"]) (h__law_is : HasF P w K mg base "_law_is" 2 ps__law_is sp__law_is) (f : Addr) (cdv : Value) (A : Around) (outer : List Env) (s : Shared) (H : Hp) (E : XK) :
    PDSs (cxOf (L2.CX P w) P w K mg base N__law_webs_right "_law_webs_right" (defScope (top 31)) f cdv A outer s H E) 3 true (defBody (top 31)) (rd__law_webs_right sp__law_is) := by
  have S := sc__law_webs_right
  exact (pdss_cons (pds_set (i := 3) S.nd rfl (by first | exact .inl rfl | exact .inr rfl) (pd_mkV (n := "NoWeb") (fl := ["what", "who"]) h_x_NoWeb (by decide) (pda_cons (pd_var (i := 0) rfl (by first | exact .inl rfl | exact .inr (.inl rfl) | exact .inr (.inr rfl))) (pda_cons (pd_var (i := 1) rfl (by first | exact .inl rfl | exact .inr (.inl rfl) | exact .inr (.inr rfl))) pda_nil))))
    (pdss_cons (pds_set (i := 4) S.nd rfl (by first | exact .inl rfl | exact .inr rfl) (pd_lst (pda_cons (pd_xfV M.e_Xv (by decide) (pd_var (i := 3) rfl (by first | exact .inl rfl | exact .inr (.inl rfl) | exact .inr (.inr rfl)))) (pda_cons (pd_xfV M.e_Xv (by decide) (pd_var (i := 3) rfl (by first | exact .inl rfl | exact .inr (.inl rfl) | exact .inr (.inr rfl)))) (pda_cons (pd_xfV M.e_Xv (by decide) (pd_mkV (n := "NoText") (fl := ["row"]) h_x_NoText (by decide) (pda_cons (pd_var (i := 0) rfl (by first | exact .inl rfl | exact .inr (.inl rfl) | exact .inr (.inr rfl))) pda_nil))) (pda_cons (pd_xfV M.e_Xv (by decide) (pd_mkV (n := "NoWalk") (fl := ["number"]) h_x_NoWalk (by decide) (pda_cons (pd_var (i := 0) rfl (by first | exact .inl rfl | exact .inr (.inl rfl) | exact .inr (.inr rfl))) pda_nil))) (pda_cons (pd_xfV M.e_Xv (by decide) (pd_mkV (n := "NoPaper") (fl := ["row"]) h_x_NoPaper (by decide) (pda_cons (pd_var (i := 0) rfl (by first | exact .inl rfl | exact .inr (.inl rfl) | exact .inr (.inr rfl))) pda_nil))) (pda_cons (pd_xfV M.e_Xv (by decide) (pd_mkV (n := "NoName") (fl := ["who"]) h_x_NoName (by decide) (pda_cons (pd_var (i := 0) rfl (by first | exact .inl rfl | exact .inr (.inl rfl) | exact .inr (.inr rfl))) pda_nil))) pda_nil))))))))
    (pdss_cons (pds_if (pdt_cmp od_ne (pd_callB cd_repr boot_repr M.z_repr (pda_cons (pd_var (i := 4) rfl (by first | exact .inl rfl | exact .inr (.inl rfl) | exact .inr (.inr rfl))) pda_nil)) (pd_callB cd_repr boot_repr M.z_repr (pda_cons (pd_bin od_add (pd_lst (pda_cons (pd_var (i := 0) rfl (by first | exact .inl rfl | exact .inr (.inl rfl) | exact .inr (.inr rfl))) (pda_cons (pd_var (i := 1) rfl (by first | exact .inl rfl | exact .inr (.inl rfl) | exact .inr (.inr rfl))) pda_nil))) (pd_bin od_rep (pd_lst (pda_cons (pd_var (i := 0) rfl (by first | exact .inl rfl | exact .inr (.inl rfl) | exact .inr (.inr rfl))) pda_nil)) pd_int)) pda_nil))) (pdss_one (pds_ret pd_bl)) pdss_nil)
    (pdss_cons (pds_set (i := 5) S.nd rfl (by first | exact .inl rfl | exact .inr rfl) (pd_lst (pda_cons (pd_var (i := 3) rfl (by first | exact .inl rfl | exact .inr (.inl rfl) | exact .inr (.inr rfl))) (pda_cons (pd_mkV (n := "NoText") (fl := ["row"]) h_x_NoText (by decide) (pda_cons (pd_var (i := 0) rfl (by first | exact .inl rfl | exact .inr (.inl rfl) | exact .inr (.inr rfl))) pda_nil)) (pda_cons (pd_mkV (n := "NoWalk") (fl := ["number"]) h_x_NoWalk (by decide) (pda_cons (pd_var (i := 0) rfl (by first | exact .inl rfl | exact .inr (.inl rfl) | exact .inr (.inr rfl))) pda_nil)) (pda_cons (pd_mkV (n := "NoPaper") (fl := ["row"]) h_x_NoPaper (by decide) (pda_cons (pd_var (i := 0) rfl (by first | exact .inl rfl | exact .inr (.inl rfl) | exact .inr (.inr rfl))) pda_nil)) (pda_cons (pd_mkV (n := "NoName") (fl := ["who"]) h_x_NoName (by decide) (pda_cons (pd_var (i := 0) rfl (by first | exact .inl rfl | exact .inr (.inl rfl) | exact .inr (.inr rfl))) pda_nil)) pda_nil)))))))
    (pdss_cons (pds_if (pdt_not (pdt_val (pd_callB cd_all boot_all M.z_all (pda_cons (pd_lcG (own := [("_law_e", 6), ("_law_number", 7)]) S.nd (pdi_zip M.z_zip (pda_cons (pd_var (i := 5) rfl (by first | exact .inl rfl | exact .inr (.inl rfl) | exact .inr (.inr rfl))) (pda_cons (pd_lst (pda_cons pd_int (pda_cons pd_int (pda_cons pd_int (pda_cons pd_int (pda_cons pd_int pda_nil)))))) pda_nil))) (show BlkOk N__law_webs_right (defScope (top 31)) _ [("_law_e", 6), ("_law_number", 7)] from ⟨rfl, by decide +kernel, by decide +kernel, by decide +kernel, by decide +kernel⟩) (lct_tup (lcts_cons (lct_name (i := 6) S.nd rfl (by decide) (fun _ _ => (by first | exact .inl rfl | exact .inr rfl)) (fun _ _ => (by first | exact .inl rfl | exact .inr rfl))) (lcts_cons (lct_name (i := 7) S.nd rfl (by decide) (fun _ _ => (by first | exact .inl rfl | exact .inr rfl)) (fun _ _ => (by first | exact .inl rfl | exact .inr rfl))) lcts_nil gdName_same) gdName_same)) (fun _ _ _ _ _ => pdts_nil) (fun _ _ _ _ _ => (pd_call h__law_is (by decide) (pda_cons (pd_var (i := 6) rfl (by first | exact .inl rfl | exact .inr (.inl rfl) | exact .inr (.inr rfl))) (pda_cons (pd_var (i := 7) rfl (by first | exact .inl rfl | exact .inr (.inl rfl) | exact .inr (.inr rfl))) (pda_cons (pd_lst (pda_cons pd_int (pda_cons pd_int pda_nil))) pda_nil))))) finF) pda_nil)))) (pdss_one (pds_ret pd_bl)) pdss_nil)
    (pdss_cons (pds_set (i := 8) S.nd rfl (by first | exact .inl rfl | exact .inr rfl) (pd_lst (pda_cons (pd_mkV0 M.x0_NoCount (pd_var (i := 2) rfl (by first | exact .inl rfl | exact .inr (.inl rfl) | exact .inr (.inr rfl)))) (pda_cons (pd_mkV0 M.x0_NoPlace (pd_var (i := 2) rfl (by first | exact .inl rfl | exact .inr (.inl rfl) | exact .inr (.inr rfl)))) (pda_cons (pd_mkV0 M.x0_NoState (pd_var (i := 2) rfl (by first | exact .inl rfl | exact .inr (.inl rfl) | exact .inr (.inr rfl)))) (pda_cons (pd_mkV0 M.x0_NoLength (pd_var (i := 2) rfl (by first | exact .inl rfl | exact .inr (.inl rfl) | exact .inr (.inr rfl)))) (pda_cons (pd_mkV0 M.x0_NoCries (pd_var (i := 2) rfl (by first | exact .inl rfl | exact .inr (.inl rfl) | exact .inr (.inr rfl)))) (pda_cons (pd_mkV0 M.x0_NoBack (pd_var (i := 2) rfl (by first | exact .inl rfl | exact .inr (.inl rfl) | exact .inr (.inr rfl)))) (pda_cons (pd_mkV0 M.x0_NoRow (pd_var (i := 2) rfl (by first | exact .inl rfl | exact .inr (.inl rfl) | exact .inr (.inr rfl)))) pda_nil)))))))))
    (pdss_one (pds_ret (pd_callB cd_all boot_all M.z_all (pda_cons (pd_lcG (own := [("_law_e", 6), ("_law_number", 7)]) S.nd (pdi_zip M.z_zip (pda_cons (pd_var (i := 8) rfl (by first | exact .inl rfl | exact .inr (.inl rfl) | exact .inr (.inr rfl))) (pda_cons (pd_lst (pda_cons pd_int (pda_cons pd_int (pda_cons pd_int (pda_cons pd_int (pda_cons pd_int (pda_cons pd_int (pda_cons pd_int pda_nil)))))))) pda_nil))) (show BlkOk N__law_webs_right (defScope (top 31)) _ [("_law_e", 6), ("_law_number", 7)] from ⟨rfl, by decide +kernel, by decide +kernel, by decide +kernel, by decide +kernel⟩) (lct_tup (lcts_cons (lct_name (i := 6) S.nd rfl (by decide) (fun _ _ => (by first | exact .inl rfl | exact .inr rfl)) (fun _ _ => (by first | exact .inl rfl | exact .inr rfl))) (lcts_cons (lct_name (i := 7) S.nd rfl (by decide) (fun _ _ => (by first | exact .inl rfl | exact .inr rfl)) (fun _ _ => (by first | exact .inl rfl | exact .inr rfl))) lcts_nil gdName_same) gdName_same)) (fun _ _ _ _ _ => pdts_nil) (fun _ _ _ _ _ => (pd_call h__law_is (by decide) (pda_cons (pd_var (i := 6) rfl (by first | exact .inl rfl | exact .inr (.inl rfl) | exact .inr (.inr rfl))) (pda_cons (pd_var (i := 7) rfl (by first | exact .inl rfl | exact .inr (.inl rfl) | exact .inr (.inr rfl))) (pda_cons (pd_lst (pda_cons pd_int (pda_cons pd_int pda_nil))) pda_nil))))) finF) pda_nil))))))))))
abbrev N__law_others_right : List Str := ["_law_one", "_law_word_here", "_law_told", "_law_made", "_law_k", "_law_e"]
abbrev ps__law_others_right : List Str := ["_law_one", "_law_word_here"]
theorem sc__law_others_right : FnScope N__law_others_right ps__law_others_right (defScope (top 32)) := ⟨rfl, rfl, rfl, by decide +kernel, rfl, by decide +kernel, by decide +kernel⟩
theorem sl__law_others_right {a0 a1 : D} : slots N__law_others_right [a0, a1] = [some a0, some a1, none, none, none, none] := rfl
def rd__law_others_right (sp__law_is sp__law_which sp__law_bases : DSp) : DS :=
  (dSeq (dAsg ((dLst ((dCons ((dUn (rXfV cat_Xv "who") ((dMkV ⟨"NoSuch", ["who"]⟩ ((dCons (dVar 0) (dNil))))))) ((dCons ((dUn (rXfV cat_Xv "who") ((dMkV ⟨"Taken", ["who"]⟩ ((dCons (dVar 0) (dNil))))))) ((dCons ((dUn (rXfV cat_Xv "who") ((dMkV ⟨"Same", ["who"]⟩ ((dCons (dVar 0) (dNil))))))) ((dCons ((dUn (rXfV cat_Xv "who") ((dMkV ⟨"Crying", ["who"]⟩ ((dCons (dVar 0) (dNil))))))) ((dCons ((dUn (rXfV cat_Xv "who") ((dMkV ⟨"Alone", ["who"]⟩ ((dCons (dVar 0) (dNil))))))) ((dCons ((dUn (rXfV cat_Xv "who") ((dMkV ⟨"Endless", ["who"]⟩ ((dCons (dVar 0) (dNil))))))) (dNil))))))))))))))) (gdName 2))
    ((dSeq (dIfS (dTest (dBin rNe ((dCB rRepr ((dCons ((dBin rAdd (dVar 2) ((dLst ((dCons ((dUn (rXfV cat_Xv "most") ((dMkV ⟨"Crowded", ["most"]⟩ ((dCons (dVar 0) (dNil))))))) ((dCons ((dUn (rXfV cat_Xv "limit") ((dMkV ⟨"TooMany", ["limit"]⟩ ((dCons (dVar 0) (dNil))))))) (dNil))))))))) (dNil))))) ((dCB rRepr ((dCons ((dBin rRepD ((dLst ((dCons (dVar 0) (dNil))))) (dC (.int 8)))) (dNil))))))) (dRet (dC (.bl false))) (dNext))
    ((dSeq (dAsg ((dLst ((dCons ((dMkV ⟨"Taken", ["who"]⟩ ((dCons (dVar 0) (dNil))))) ((dCons ((dMkV ⟨"Same", ["who"]⟩ ((dCons (dVar 0) (dNil))))) ((dCons ((dMkV ⟨"Crying", ["who"]⟩ ((dCons (dVar 0) (dNil))))) ((dCons ((dMkV ⟨"Alone", ["who"]⟩ ((dCons (dVar 0) (dNil))))) ((dCons ((dMkV ⟨"Endless", ["who"]⟩ ((dCons (dVar 0) (dNil))))) (dNil))))))))))))) (gdName 3))
    ((dSeq (dIfS ((dOr ((dNot (dTest ((dCall sp__law_is ((dCons ((dMkV ⟨"NoSuch", ["who"]⟩ ((dCons (dVar 0) (dNil))))) ((dCons (dC (.int 12)) ((dCons ((dLst ((dCons (dC (.int 2)) (dNil))))) (dNil)))))))))))) ((dNot (dTest ((dCB rAll ((dCons ((dLc (diEnum2 ((dCons (dVar 3) (dNil)))) (gdTup 2 ((gdCons (gdName 4) ((gdCons (gdName 5) (gdNil)))))) (dYes) ((dCall sp__law_is ((dCons (dVar 5) ((dCons ((dBin rAdd (dC (.int 13)) (dVar 4))) ((dCons ((dLst ((dCons (dC (.int 3)) (dNil))))) (dNil))))))))) [4, 5])) (dNil)))))))))) (dRet (dC (.bl false))) (dNext))
    ((dSeq (dIfS ((dOr ((dNot (dTest ((dCall sp__law_is ((dCons ((dMkV ⟨"Crowded", ["most"]⟩ ((dCons (dVar 0) (dNil))))) ((dCons (dC (.int 18)) ((dCons ((dLst ((dCons (dC (.int 4)) (dNil))))) (dNil)))))))))))) ((dNot (dTest ((dCall sp__law_is ((dCons ((dMkV ⟨"TooMany", ["limit"]⟩ ((dCons (dVar 0) (dNil))))) ((dCons (dC (.int 19)) ((dCons ((dLst ((dCons (dC (.int 4)) (dNil))))) (dNil)))))))))))))) (dRet (dC (.bl false))) (dNext))
    (dRet ((dAndV ((dBin rEq ((dCall sp__law_which ((dCons ((dMkV0 "WebError" (dVar 1))) (dNil))))) ((dLst (dNil))))) ((dBin rEq ((dCall sp__law_bases ((dCons ((dMkV0 "WebError" (dVar 1))) (dNil))))) ((dLst ((dCons (dC (.int 0)) ((dCons (dC (.int 1)) (dNil)))))))))))))))))))))
theorem bd__law_others_right {P : Program} {w : World} {K : PySem.W.Frag} {mg : Str → Option Value} {base : Heap} {sp__law_is sp__law_which sp__law_bases : DSp} (M : Tx K mg) (h_x_Endless : HasX P w K mg base "Endless" 1 ["who"]) (h_x_Alone : HasX P w K mg base "Alone" 1 ["who"]) (h_x_Crying : HasX P w K mg base "Crying" 1 ["who"]) (h_x_Same : HasX P w K mg base "Same" 1 ["who"]) (h_x_Taken : HasX P w K mg base "Taken" 1 ["who"]) (h_x_NoSuch : HasX P w K mg base "NoSuch" 1 ["who"]) (h_x_TooMany : HasX P w K mg base "TooMany" 1 ["limit"]) (h_x_Crowded : HasX P w K mg base "Crowded" 1 ["most"]) (h__law_is : HasF P w K mg base "_law_is" 2 ps__law_is sp__law_is) (h__law_which : HasF P w K mg base "_law_which" 1 ps__law_which sp__law_which) (h__law_bases : HasF P w K mg base "_law_bases" 1 ps__law_bases sp__law_bases) (f : Addr) (cdv : Value) (A : Around) (outer : List Env) (s : Shared) (H : Hp) (E : XK) :
    PDSs (cxOf (L2.CX P w) P w K mg base N__law_others_right "_law_others_right" (defScope (top 32)) f cdv A outer s H E) 3 true (defBody (top 32)) (rd__law_others_right sp__law_is sp__law_which sp__law_bases) := by
  have S := sc__law_others_right
  exact (pdss_cons (pds_set (i := 2) S.nd rfl (by first | exact .inl rfl | exact .inr rfl) (pd_lst (pda_cons (pd_xfV M.e_Xv (by decide) (pd_mkV (n := "NoSuch") (fl := ["who"]) h_x_NoSuch (by decide) (pda_cons (pd_var (i := 0) rfl (by first | exact .inl rfl | exact .inr (.inl rfl) | exact .inr (.inr rfl))) pda_nil))) (pda_cons (pd_xfV M.e_Xv (by decide) (pd_mkV (n := "Taken") (fl := ["who"]) h_x_Taken (by decide) (pda_cons (pd_var (i := 0) rfl (by first | exact .inl rfl | exact .inr (.inl rfl) | exact .inr (.inr rfl))) pda_nil))) (pda_cons (pd_xfV M.e_Xv (by decide) (pd_mkV (n := "Same") (fl := ["who"]) h_x_Same (by decide) (pda_cons (pd_var (i := 0) rfl (by first | exact .inl rfl | exact .inr (.inl rfl) | exact .inr (.inr rfl))) pda_nil))) (pda_cons (pd_xfV M.e_Xv (by decide) (pd_mkV (n := "Crying") (fl := ["who"]) h_x_Crying (by decide) (pda_cons (pd_var (i := 0) rfl (by first | exact .inl rfl | exact .inr (.inl rfl) | exact .inr (.inr rfl))) pda_nil))) (pda_cons (pd_xfV M.e_Xv (by decide) (pd_mkV (n := "Alone") (fl := ["who"]) h_x_Alone (by decide) (pda_cons (pd_var (i := 0) rfl (by first | exact .inl rfl | exact .inr (.inl rfl) | exact .inr (.inr rfl))) pda_nil))) (pda_cons (pd_xfV M.e_Xv (by decide) (pd_mkV (n := "Endless") (fl := ["who"]) h_x_Endless (by decide) (pda_cons (pd_var (i := 0) rfl (by first | exact .inl rfl | exact .inr (.inl rfl) | exact .inr (.inr rfl))) pda_nil))) pda_nil))))))))
    (pdss_cons (pds_if (pdt_cmp od_ne (pd_callB cd_repr boot_repr M.z_repr (pda_cons (pd_bin od_add (pd_var (i := 2) rfl (by first | exact .inl rfl | exact .inr (.inl rfl) | exact .inr (.inr rfl))) (pd_lst (pda_cons (pd_xfV M.e_Xv (by decide) (pd_mkV (n := "Crowded") (fl := ["most"]) h_x_Crowded (by decide) (pda_cons (pd_var (i := 0) rfl (by first | exact .inl rfl | exact .inr (.inl rfl) | exact .inr (.inr rfl))) pda_nil))) (pda_cons (pd_xfV M.e_Xv (by decide) (pd_mkV (n := "TooMany") (fl := ["limit"]) h_x_TooMany (by decide) (pda_cons (pd_var (i := 0) rfl (by first | exact .inl rfl | exact .inr (.inl rfl) | exact .inr (.inr rfl))) pda_nil))) pda_nil)))) pda_nil)) (pd_callB cd_repr boot_repr M.z_repr (pda_cons (pd_bin od_rep (pd_lst (pda_cons (pd_var (i := 0) rfl (by first | exact .inl rfl | exact .inr (.inl rfl) | exact .inr (.inr rfl))) pda_nil)) pd_int) pda_nil))) (pdss_one (pds_ret pd_bl)) pdss_nil)
    (pdss_cons (pds_set (i := 3) S.nd rfl (by first | exact .inl rfl | exact .inr rfl) (pd_lst (pda_cons (pd_mkV (n := "Taken") (fl := ["who"]) h_x_Taken (by decide) (pda_cons (pd_var (i := 0) rfl (by first | exact .inl rfl | exact .inr (.inl rfl) | exact .inr (.inr rfl))) pda_nil)) (pda_cons (pd_mkV (n := "Same") (fl := ["who"]) h_x_Same (by decide) (pda_cons (pd_var (i := 0) rfl (by first | exact .inl rfl | exact .inr (.inl rfl) | exact .inr (.inr rfl))) pda_nil)) (pda_cons (pd_mkV (n := "Crying") (fl := ["who"]) h_x_Crying (by decide) (pda_cons (pd_var (i := 0) rfl (by first | exact .inl rfl | exact .inr (.inl rfl) | exact .inr (.inr rfl))) pda_nil)) (pda_cons (pd_mkV (n := "Alone") (fl := ["who"]) h_x_Alone (by decide) (pda_cons (pd_var (i := 0) rfl (by first | exact .inl rfl | exact .inr (.inl rfl) | exact .inr (.inr rfl))) pda_nil)) (pda_cons (pd_mkV (n := "Endless") (fl := ["who"]) h_x_Endless (by decide) (pda_cons (pd_var (i := 0) rfl (by first | exact .inl rfl | exact .inr (.inl rfl) | exact .inr (.inr rfl))) pda_nil)) pda_nil)))))))
    (pdss_cons (pds_if (pdw_or (pdt_not (pdt_val (pd_call h__law_is (by decide) (pda_cons (pd_mkV (n := "NoSuch") (fl := ["who"]) h_x_NoSuch (by decide) (pda_cons (pd_var (i := 0) rfl (by first | exact .inl rfl | exact .inr (.inl rfl) | exact .inr (.inr rfl))) pda_nil)) (pda_cons pd_int (pda_cons (pd_lst (pda_cons pd_int pda_nil)) pda_nil)))))) (pdw_or1 (pdt_not (pdt_val (pd_callB cd_all boot_all M.z_all (pda_cons (pd_lcG (own := [("_law_k", 4), ("_law_e", 5)]) S.nd (pdi_enum2 M.z_enumerate (pda_cons (pd_var (i := 3) rfl (by first | exact .inl rfl | exact .inr (.inl rfl) | exact .inr (.inr rfl))) pda_nil)) (show BlkOk N__law_others_right (defScope (top 32)) _ [("_law_k", 4), ("_law_e", 5)] from ⟨rfl, by decide +kernel, by decide +kernel, by decide +kernel, by decide +kernel⟩) (lct_tup (lcts_cons (lct_name (i := 4) S.nd rfl (by decide) (fun _ _ => (by first | exact .inl rfl | exact .inr rfl)) (fun _ _ => (by first | exact .inl rfl | exact .inr rfl))) (lcts_cons (lct_name (i := 5) S.nd rfl (by decide) (fun _ _ => (by first | exact .inl rfl | exact .inr rfl)) (fun _ _ => (by first | exact .inl rfl | exact .inr rfl))) lcts_nil gdName_same) gdName_same)) (fun _ _ _ _ _ => pdts_nil) (fun _ _ _ _ _ => (pd_call h__law_is (by decide) (pda_cons (pd_var (i := 5) rfl (by first | exact .inl rfl | exact .inr (.inl rfl) | exact .inr (.inr rfl))) (pda_cons (pd_bin od_add pd_int (pd_var (i := 4) rfl (by first | exact .inl rfl | exact .inr (.inl rfl) | exact .inr (.inr rfl)))) (pda_cons (pd_lst (pda_cons pd_int pda_nil)) pda_nil))))) finF) pda_nil)))))).pt (pdss_one (pds_ret pd_bl)) pdss_nil)
    (pdss_cons (pds_if (pdw_or (pdt_not (pdt_val (pd_call h__law_is (by decide) (pda_cons (pd_mkV (n := "Crowded") (fl := ["most"]) h_x_Crowded (by decide) (pda_cons (pd_var (i := 0) rfl (by first | exact .inl rfl | exact .inr (.inl rfl) | exact .inr (.inr rfl))) pda_nil)) (pda_cons pd_int (pda_cons (pd_lst (pda_cons pd_int pda_nil)) pda_nil)))))) (pdw_or1 (pdt_not (pdt_val (pd_call h__law_is (by decide) (pda_cons (pd_mkV (n := "TooMany") (fl := ["limit"]) h_x_TooMany (by decide) (pda_cons (pd_var (i := 0) rfl (by first | exact .inl rfl | exact .inr (.inl rfl) | exact .inr (.inr rfl))) pda_nil)) (pda_cons pd_int (pda_cons (pd_lst (pda_cons pd_int pda_nil)) pda_nil)))))))).pt (pdss_one (pds_ret pd_bl)) pdss_nil)
    (pdss_one (pds_ret (pd_and (pd_cmp od_eq (pd_call h__law_which (by decide) (pda_cons (pd_mkV0 M.x0_WebError (pd_var (i := 1) rfl (by first | exact .inl rfl | exact .inr (.inl rfl) | exact .inr (.inr rfl)))) pda_nil)) (pd_lst pda_nil)) (pd_one (pd_cmp od_eq (pd_call h__law_bases (by decide) (pda_cons (pd_mkV0 M.x0_WebError (pd_var (i := 1) rfl (by first | exact .inl rfl | exact .inr (.inl rfl) | exact .inr (.inr rfl)))) pda_nil)) (pd_lst (pda_cons pd_int (pda_cons pd_int pda_nil)))))))))))))
abbrev N_law : List Str := ["_law_script", "_law_k", "_law_pot_here", "_law_one", "_law_other", "_law_word_here"]
abbrev ps_law : List Str := ["_law_script"]
theorem sc_law : FnScope N_law ps_law (defScope (top 33)) := ⟨rfl, rfl, rfl, by decide +kernel, rfl, by decide +kernel, by decide +kernel⟩
theorem sl_law {a0 : D} : slots N_law [a0] = [some a0, none, none, none, none, none] := rfl
def rd_law (sp__law_pot sp__law_thing sp__law_word sp__law_webs_right sp__law_others_right : DSp) : DS :=
  (dSeq (dFor (diRng1 ((dCons ((dCB rMax2 ((dCons (dC (.int 1)) ((dCons ((dCB rMin2 ((dCons ((dCB rLen ((dCons (dVar 0) (dNil))))) ((dCons (dC (.int 4)) (dNil))))))) (dNil))))))) (dNil)))) (gdName 1)
    ((dSeq (dAsg ((dCall sp__law_pot ((dCons (dVar 0) ((dCons (dVar 1) (dNil))))))) (gdName 2))
    ((dSeq (dPar 3 4 ((dCons ((dCall sp__law_thing ((dCons (dVar 2) (dNil))))) ((dCons ((dCall sp__law_thing ((dCons (dVar 2) (dNil))))) (dNil))))))
    ((dSeq (dAsg ((dCall sp__law_word ((dCons (dVar 2) (dNil))))) (gdName 5))
    (dIfS ((dOr ((dNot (dTest ((dCall sp__law_webs_right ((dCons (dVar 3) ((dCons (dVar 4) ((dCons (dVar 5) (dNil)))))))))))) ((dNot (dTest ((dCall sp__law_others_right ((dCons (dVar 3) ((dCons (dVar 5) (dNil)))))))))))) (dRet (dC (.bl false))) (dNext)))))))))
    (dRet (dC (.bl true))))
theorem bd_law {P : Program} {w : World} {K : PySem.W.Frag} {mg : Str → Option Value} {base : Heap} {sp__law_pot sp__law_thing sp__law_word sp__law_webs_right sp__law_others_right : DSp} (M : Tx K mg) (h__law_pot : HasF P w K mg base "_law_pot" 1 ps__law_pot sp__law_pot) (h__law_thing : HasF P w K mg base "_law_thing" 3 ps__law_thing sp__law_thing) (h__law_word : HasF P w K mg base "_law_word" 2 ps__law_word sp__law_word) (h__law_webs_right : HasF P w K mg base "_law_webs_right" 4 ps__law_webs_right sp__law_webs_right) (h__law_others_right : HasF P w K mg base "_law_others_right" 4 ps__law_others_right sp__law_others_right) (f : Addr) (cdv : Value) (A : Around) (outer : List Env) (s : Shared) (H : Hp) (E : XK) :
    PDSs (cxOf (L2.CX P w) P w K mg base N_law "law" (defScope (top 33)) f cdv A outer s H E) 4 true (defBody (top 33)) (rd_law sp__law_pot sp__law_thing sp__law_word sp__law_webs_right sp__law_others_right) := by
  have S := sc_law
  exact (pdss_cons (pds_for (pdi_range1 M.z_range (pda_cons (pd_callB cd_max2 boot_max M.z_max (pda_cons pd_int (pda_cons (pd_callB cd_min2 boot_min M.z_min (pda_cons (pd_callB cd_len boot_len M.z_len (pda_cons (pd_var (i := 0) rfl (by first | exact .inl rfl | exact .inr (.inl rfl) | exact .inr (.inr rfl))) pda_nil)) (pda_cons pd_int pda_nil))) pda_nil))) pda_nil)) (pdg_name (i := 1) S.nd rfl (by first | exact .inl rfl | exact .inr rfl))
    (pdss_cons (pds_set (i := 2) S.nd rfl (by first | exact .inl rfl | exact .inr rfl) (pd_call h__law_pot (by decide) (pda_cons (pd_var (i := 0) rfl (by first | exact .inl rfl | exact .inr (.inl rfl) | exact .inr (.inr rfl))) (pda_cons (pd_var (i := 1) rfl (by first | exact .inl rfl | exact .inr (.inl rfl) | exact .inr (.inr rfl))) pda_nil))))
    (pdss_cons (pds_par (i := 3) (j := 4) S.nd rfl rfl (by decide) rfl rfl (pda_cons (pd_call h__law_thing (by decide) (pda_cons (pd_var (i := 2) rfl (by first | exact .inl rfl | exact .inr (.inl rfl) | exact .inr (.inr rfl))) pda_nil)) (pda_cons (pd_call h__law_thing (by decide) (pda_cons (pd_var (i := 2) rfl (by first | exact .inl rfl | exact .inr (.inl rfl) | exact .inr (.inr rfl))) pda_nil)) pda_nil)))
    (pdss_cons (pds_set (i := 5) S.nd rfl (by first | exact .inl rfl | exact .inr rfl) (pd_call h__law_word (by decide) (pda_cons (pd_var (i := 2) rfl (by first | exact .inl rfl | exact .inr (.inl rfl) | exact .inr (.inr rfl))) pda_nil)))
    (pdss_one (pds_if (pdw_or (pdt_not (pdt_val (pd_call h__law_webs_right (by decide) (pda_cons (pd_var (i := 3) rfl (by first | exact .inl rfl | exact .inr (.inl rfl) | exact .inr (.inr rfl))) (pda_cons (pd_var (i := 4) rfl (by first | exact .inl rfl | exact .inr (.inl rfl) | exact .inr (.inr rfl))) (pda_cons (pd_var (i := 5) rfl (by first | exact .inl rfl | exact .inr (.inl rfl) | exact .inr (.inr rfl))) pda_nil)))))) (pdw_or1 (pdt_not (pdt_val (pd_call h__law_others_right (by decide) (pda_cons (pd_var (i := 3) rfl (by first | exact .inl rfl | exact .inr (.inl rfl) | exact .inr (.inr rfl))) (pda_cons (pd_var (i := 5) rfl (by first | exact .inl rfl | exact .inr (.inl rfl) | exact .inr (.inr rfl))) pda_nil))))))).pt (pdss_one (pds_ret pd_bl)) pdss_nil))))))
    (pdss_one (pds_ret pd_bl)))
end K18

-- dR
namespace K18
open DL L2 PyProof.Rows PySem PySem.Spec

/-! ### the law's draws -/
def sp__law_pot : DSp := fun ds G Q _ => ∃ (ns : List Int) (k : Int), ds = [.lsk (ns.map D.int), .int k] ∧ 0 ≤ k ∧ k ≤ 1000 ∧ ∀ p G', G p = none → PotS p G G' → Q (.ref p) G'
theorem mod_in {x m : Int} (h : 0 < m) : 0 ≤ x % m ∧ x % m < m := ⟨Int.emod_nonneg _ (by omega), Int.emod_lt_of_pos _ h⟩
theorem ok__law_pot : ∀ ds G Q E, sp__law_pot ds G Q E → rd__law_pot (bodyEnds Q E) (slots N__law_pot ds) G := by
  rintro ds G Q E ⟨ns, k, rfl, h0, hk, h⟩
  rw [sl__law_pot]
  simp -dsimp only [↓DL.dR, DL.slots, DL.dWipe, DL.okQ, DL.isS, DL.tyD, DL.kyD, DL.atD, DL.webD, DL.dF, DL.dS, decide_true, decide_false, Nat.reduceAdd, Nat.reduceSub, rd__law_pot]
  have fin : ∀ c : Int, MulOk 101 k ∧ ((c % 2147483543 + 101 * k + 5).natAbs < 2 ^ 64) ∧ ∀ x z p, G p = none → (bodyEnds Q E).rt (.ref p) (upG G p (.lst [.int x, .int (z % 2147483497 + 1)])) := fun c => by
    have := mod_in (x := c) (m := 2147483543) (by decide)
    refine ⟨Bd.mulOk (n := 10) (m := 10) .lit (.range h0 (by omega)) (by decide), by omega, fun x z p hp => be_rt (h p _ hp ⟨x, _, rfl, ?_⟩)⟩
    have := mod_in (x := z) (m := 2147483497) (by decide)
    omega
  by_cases hk2 : k < (ns.map D.int).length
  · (refine br_pos hk2 ?_; try try simp -dsimp only [↓DL.dR, DL.slots, DL.dWipe, DL.okQ, DL.isS, DL.tyD, DL.kyD, DL.atD, DL.webD, DL.dF, DL.dS, decide_true, decide_false, Nat.reduceAdd, Nat.reduceSub])
    obtain ⟨z, _, ez⟩ := at_ints (ns := ns) h0 (by simpa using hk2)
    rw [ez]
    try simp -dsimp only [↓DL.dR, DL.slots, DL.dWipe, DL.okQ, DL.isS, DL.tyD, DL.kyD, DL.atD, DL.webD, DL.dF, DL.dS, decide_true, decide_false, Nat.reduceAdd, Nat.reduceSub]
    obtain ⟨f1, f2, f3⟩ := fin (if z < 0 then -z else z)
    exact ⟨by decide, by decide, f1, ⟨by decide, by decide, f2⟩, by decide, by decide, fun p hp => f3 _ _ p hp⟩
  · (refine br_neg hk2 ?_; try try simp -dsimp only [↓DL.dR, DL.slots, DL.dWipe, DL.okQ, DL.isS, DL.tyD, DL.kyD, DL.atD, DL.webD, DL.dF, DL.dS, decide_true, decide_false, Nat.reduceAdd, Nat.reduceSub])
    obtain ⟨f1, f2, f3⟩ := fin 0
    exact ⟨by decide, by decide, f1, ⟨by decide, by decide, f2⟩, by decide, by decide, fun p hp => f3 _ _ p hp⟩
def sp__law_take : DSp := fun ds G Q _ => ∃ (a : Addr) (m : Int), ds = [.ref a, .int m] ∧ Pot G a ∧ 0 < m ∧ Bd 250 m ∧ ∀ r G', 0 ≤ r → r < m → PotS a G G' → Q (.int r) G'
theorem ok__law_take : ∀ ds G Q E, sp__law_take ds G Q E → rd__law_take (bodyEnds Q E) (slots N__law_take ds) G := by
  rintro ds G Q E ⟨a, m, rfl, ⟨x, y, e, h0, h1⟩, hm, bm, h⟩
  rw [sl__law_take]
  simp -dsimp only [↓DL.dR, DL.slots, DL.dWipe, DL.okQ, DL.isS, DL.tyD, DL.kyD, DL.atD, DL.webD, DL.dF, DL.dS, decide_true, decide_false, Nat.reduceAdd, Nat.reduceSub, rd__law_take, rs_rl e, e]
  have lm := bm.log2 (by decide)
  by_cases hx : 0 < x
  · (refine br_pos hx ?_; try simp -dsimp only [↓DL.dR, DL.slots, DL.dWipe, DL.okQ, DL.isS, DL.tyD, DL.kyD, DL.atD, DL.webD, DL.dF, DL.dS, decide_true, decide_false, Nat.reduceAdd, Nat.reduceSub, rs_rl e, e])
    have hr := mod_in (x := x) hm
    exact ⟨⟨hm, by omega⟩, be_rt (h _ _ hr.1 hr.2 ⟨_, _, rfl, h0, h1⟩)⟩
  · (refine br_neg hx ?_; try simp -dsimp only [↓DL.dR, DL.slots, DL.dWipe, DL.okQ, DL.isS, DL.tyD, DL.kyD, DL.atD, DL.webD, DL.dF, DL.dS, decide_true, decide_false, Nat.reduceAdd, Nat.reduceSub, rs_rl e, e])
    have hy := mod_in (x := y * 44029 + 10133) (m := 2147483587) (by decide)
    generalize (y * 44029 + 10133) % 2147483587 = z at *
    have hr := mod_in (x := (z * z % 2147483549).fdiv 11) hm
    have bz : Bd 40 z := .range hy.1 (by omega)
    refine ⟨Bd.mulOk (n := 40) (m := 40) (.range h0 (by omega)) .lit (by decide), by decide, bz.mulOk bz (by decide), by decide, by decide, hm, be_rt (h _ _ hr.1 hr.2 ⟨_, _, rfl, hy.1, by omega⟩)⟩
theorem bd_le {n : Nat} {i : Int} (h : 0 ≤ i) (k : i < 2 ^ n := by omega) : Bd n i := .range h k
/-! ### things -/
def wdOk (s : Str) : Prop := s.length ≤ 8 ∧ ∀ c ∈ s.cps.toList, c < 128
theorem wd_sm {n : Nat} {s : Str} (h : wdOk s) : Sm n 8 (.str s) := by
  refine ⟨by simp [okS], ?_, ?_⟩
  · simp only [py, PyData.leavesShort, List.all_eq_true, decide_eq_true_eq]
    exact fun c hc => Nat.lt_trans (h.2 c hc) (by decide)
  · simp only [py, PyData.bulk]
    exact h.1
def pln (d : D) : Bool := match d with
  | .non | .bl _ | .int _ | .str _ | .tup _ | .tpk _ | .lst _ | .dct _ => true
  | _ => false
theorem rs_pln {d : D} (h : pln d = true) {G : DH} : rs G d = d := by
  cases d <;> first | rfl | cases h
def Th (d : D) : Prop := Sm 59 18 d ∧ pln d = true
theorem join_wd {ys : List Str} (h8 : ys.length ≤ 8) (h : ∀ y ∈ ys, ∃ c ∈ LET.cps.toList, y = ⟨#[c]⟩) : wdOk (Txt.join ("" : Str) ys) := by
  have e := join_cps ys
  have l : ∀ zs : List Str, (∀ y ∈ zs, ∃ c ∈ LET.cps.toList, y = ⟨#[c]⟩) → ((zs.map fun y => y.cps.toList).flatten).length = zs.length := by
    intro zs hz
    induction zs with
    | nil => rfl
    | cons z zs ih =>
      obtain ⟨c, _, rfl⟩ := hz z (List.mem_cons_self ..)
      rw [List.map_cons, List.flatten_cons, List.length_append, ih fun y hy => hz y (List.mem_cons_of_mem _ hy), List.length_cons]
      simp
      omega
  have el : (Txt.join ("" : Str) ys).length = ys.length := by
    rw [← l ys h, ← e]
    exact (Array.length_toList ..).symm
  refine ⟨by omega, fun c hc => ?_⟩
  rw [e, List.mem_flatten] at hc
  obtain ⟨l, hl, hc⟩ := hc
  obtain ⟨y, hy, rfl⟩ := List.mem_map.mp hl
  obtain ⟨c', hc', rfl⟩ := h y hy
  simp at hc
  rw [hc]; exact lt_let hc'
def sp__law_word : DSp := fun ds G Q _ => ∃ (a : Addr), ds = [.ref a] ∧ Pot G a ∧ ∀ s G', wdOk s → PotS a G G' → Q (.str s) G'
theorem ok__law_word : ∀ ds G Q E, sp__law_word ds G Q E → rd__law_word sp__law_take (bodyEnds Q E) (slots N__law_word ds) G := by
  rintro ds G Q E ⟨a, rfl, hp, h⟩
  rw [sl__law_word]
  simp -dsimp only [↓DL.dR, DL.slots, DL.dWipe, DL.okQ, DL.isS, DL.tyD, DL.kyD, DL.atD, DL.webD, DL.dF, DL.dS, decide_true, decide_false, Nat.reduceAdd, Nat.reduceSub, rd__law_word]
  refine ⟨a, 9, rfl, hp, by decide, .lit, fun n G1 n0 n9 s1 => ?_⟩
  try simp -dsimp only [↓DL.dR, DL.slots, DL.dWipe, DL.okQ, DL.isS, DL.tyD, DL.kyD, DL.atD, DL.webD, DL.dF, DL.dS, decide_true, decide_false, Nat.reduceAdd, Nat.reduceSub]
  refine ⟨by omega, ?_⟩
  have lr : (rng 0 n.toNat).length = n.toNat := by simp [rng]
  refine lcK_pot (a := a) (fun i x y => ∃ c ∈ LET.cps.toList, y = .str ⟨#[c]⟩) (by rw [lr]; exact Nat.lt_of_le_of_lt (show n.toNat ≤ 9 by omega) (by decide)) s1.pot (fun _ _ => trivial) (fun i x hx G2 R p2 fr hr => ?_) (fun ys G2 el hy s2 => ?_)
  · try simp -dsimp only [↓DL.dR, DL.slots, DL.dWipe, DL.okQ, DL.isS, DL.tyD, DL.kyD, DL.atD, DL.webD, DL.dF, DL.dS, decide_true, decide_false, Nat.reduceAdd, Nat.reduceSub]
    refine ⟨a, 26, rfl, p2, by decide, .lit, fun k G3 k0 k26 s3 => ?_⟩
    obtain ⟨c, hc, ek⟩ := atI_of (xs := LET.cps.toList) k0 (by rw [let_len]; exact k26)
    simp -dsimp only [↓DL.dR, DL.slots, DL.dWipe, DL.okQ, DL.isS, DL.tyD, DL.kyD, DL.atD, DL.webD, DL.dF, DL.dS, decide_true, decide_false, Nat.reduceAdd, Nat.reduceSub, ek]
    exact ⟨show LET.length ≤ sizeLine by decide, hr _ _ ⟨c, hc, rfl⟩ s3⟩
  · have s12 := s1.trans s2
    obtain ⟨yss, rfl, hyc⟩ : ∃ yss : List Str, ys = yss.map D.str ∧ ∀ y ∈ yss, ∃ c ∈ LET.cps.toList, y = ⟨#[c]⟩ := by
      have hall : ∀ y ∈ ys, ∃ c ∈ LET.cps.toList, y = .str ⟨#[c]⟩ := fun y hm => by
        obtain ⟨i, hi⟩ := List.mem_iff_getElem?.mp hm
        have hlt := (List.getElem?_eq_some_iff.mp hi).1
        exact hy i _ y (List.getElem?_eq_getElem (by rw [← el]; exact hlt)) hi
      clear hy el
      induction ys with
      | nil => exact ⟨[], rfl, fun y hy => nomatch hy⟩
      | cons y ys ih =>
        obtain ⟨yss, e1, e2⟩ := ih fun z hz => hall z (List.mem_cons_of_mem _ hz)
        obtain ⟨c, hc, e3⟩ := hall y (List.mem_cons_self ..)
        refine ⟨⟨#[c]⟩ :: yss, by rw [e1, e3]; rfl, fun z hz => ?_⟩
        rcases List.mem_cons.mp hz with rfl | hz
        · exact ⟨c, hc, rfl⟩
        · exact e2 z hz
    rw [List.length_map, lr] at el
    have hj := join_wd (ys := yss) (by omega) hyc
    have hsum : (yss.map (·.length)).sum = yss.length := by
      clear hj el hy
      induction yss with
      | nil => rfl
      | cons y ys ih =>
        obtain ⟨c, hc, rfl⟩ := hyc _ (List.mem_cons_self ..)
        rw [List.map_cons, List.sum_cons, ih fun z hz => hyc z (List.mem_cons_of_mem _ hz), List.length_cons]
        show 1 + ys.length = _
        omega
    try simp -dsimp only [↓DL.dR, DL.slots, DL.dWipe, DL.okQ, DL.isS, DL.tyD, DL.kyD, DL.atD, DL.webD, DL.dF, DL.dS, decide_true, decide_false, Nat.reduceAdd, Nat.reduceSub]
    refine ⟨yss, rfl, ?_, ?_⟩
    · rw [hsum]
      have : (PySem.Str.ofString "").length = 0 := by decide
      rw [this]; omega
    exact be_rt (h _ G2 hj s12)
def sp__law_among : DSp := fun ds G Q _ => ∃ (a : Addr) (d : D) (xs : List D), ds = [.ref a, d] ∧ Pot G a ∧ d ≠ .ref a ∧ Lst G d xs ∧ (xs ≠ [] ∧ xs.length ≤ 1000) ∧ ∀ x G', x ∈ xs → PotS a G G' → Q x G'
theorem ok__law_among : ∀ ds G Q E, sp__law_among ds G Q E → rd__law_among sp__law_take (bodyEnds Q E) (slots N__law_among ds) G := by
  rintro ds G Q E ⟨a, d, xs, rfl, hp, ne, hl, ⟨h0, h1⟩, h⟩
  rw [sl__law_among]
  have pos : 0 < xs.length := List.length_pos_iff.mpr h0
  simp -dsimp only [↓DL.dR, DL.slots, DL.dWipe, DL.okQ, DL.isS, DL.tyD, DL.kyD, DL.atD, DL.webD, DL.dF, DL.dS, decide_true, decide_false, Nat.reduceAdd, Nat.reduceSub, rd__law_among, hl.rs]
  refine ⟨a, _, rfl, hp, by omega, bd_le (by omega) (by omega), fun i G1 i0 i1 s1 => ?_⟩
  obtain ⟨x, hx, ex⟩ := atI_of (xs := xs) i0 i1
  simp -dsimp only [↓DL.dR, DL.slots, DL.dWipe, DL.okQ, DL.isS, DL.tyD, DL.kyD, DL.atD, DL.webD, DL.dF, DL.dS, decide_true, decide_false, Nat.reduceAdd, Nat.reduceSub, (hl.pot s1 ne).rs, ex]
  exact be_rt (h x G1 hx s1)
theorem sm_non {n : Nat} : Sm n 0 .non := ⟨by simp [okS], by simp [py, PyData.leavesShort], by simp [py, PyData.bulk]⟩
theorem sm_d0 : Sm 59 18 (.dct []) := ⟨rfl, by simp [py, pyK, PyData.leavesShort, PyData.leavesShortKv], by simp [py, pyK, PyData.bulk, PyData.bulkKv]⟩
theorem wd_a : wdOk ("a" : Str) := ⟨by decide, by decide⟩
def sp__law_thing : DSp := fun ds G Q _ => ∃ (a : Addr), ds = [.ref a] ∧ Pot G a ∧ ∀ d G', Th d → PotS a G G' → Q d G'
theorem ok__law_thing : ∀ ds G Q E, sp__law_thing ds G Q E → rd__law_thing sp__law_word sp__law_take sp__law_among (bodyEnds Q E) (slots N__law_thing ds) G := by
  rintro ds G Q E ⟨a, rfl, hp, h⟩
  rw [sl__law_thing]
  simp -dsimp only [↓DL.dR, DL.slots, DL.dWipe, DL.okQ, DL.isS, DL.tyD, DL.kyD, DL.atD, DL.webD, DL.dF, DL.dS, decide_true, decide_false, Nat.reduceAdd, Nat.reduceSub, rd__law_thing]
  refine ⟨by decide, a, _, rfl, hp, by decide, bd_le (by decide) (by decide), fun n G1 n0 n9 s1 => ?_⟩
  try simp -dsimp only [↓DL.dR, DL.slots, DL.dWipe, DL.okQ, DL.isS, DL.tyD, DL.kyD, DL.atD, DL.webD, DL.dF, DL.dS, decide_true, decide_false, Nat.reduceAdd, Nat.reduceSub]
  refine ⟨a, rfl, s1.pot, fun s G2 hs s2 => ?_⟩
  simp -dsimp only [↓DL.dR, DL.slots, DL.dWipe, DL.okQ, DL.isS, DL.tyD, DL.kyD, DL.atD, DL.webD, DL.dF, DL.dS, decide_true, decide_false, Nat.reduceAdd, Nat.reduceSub, dTupK]
  refine ⟨by decide, by decide, by decide, by decide, by decide, a, _, _, rfl, s2.pot, (fun z => nomatch z), .inl rfl, ⟨by simp, by simp⟩, fun x G3 hx s3 => be_rt (h x G3 ?_ ((s1.trans s2).trans s3))⟩
  simp only [List.mem_cons, List.not_mem_nil, or_false] at hx
  rcases hx with rfl | rfl | rfl | rfl | rfl | rfl | rfl | rfl | rfl | rfl | rfl | rfl
  · exact ⟨sm_non.mono (n' := 0) (by decide), rfl⟩
  · exact ⟨sm_bl.mono (n' := 0) (by decide), rfl⟩
  · exact ⟨sm_bl.mono (n' := 0) (by decide), rfl⟩
  · exact ⟨(sm_intB .lit).mono (n' := 0) (by decide), rfl⟩
  · exact ⟨(sm_intB (bd_le n0 (Int.lt_trans n9 (by decide)))).mono (n' := 0) (by decide), rfl⟩
  · exact ⟨(wd_sm ⟨by decide, by decide⟩).mono (n' := 0) (by decide), rfl⟩
  · exact ⟨(wd_sm hs).mono (n' := 0) (by decide), rfl⟩
  · exact ⟨⟨by simp [okS, okSL], by simp [py, pyL, PyData.leavesShort, PyData.leavesShortAll], by simp [py, pyL, PyData.bulk, PyData.bulkAll]⟩, rfl⟩
  · refine ⟨sm_tup (n := 58) (b := 8) (fun y hy => ?_) (by simp), rfl⟩
    simp only [List.mem_cons, List.not_mem_nil, or_false] at hy
    rcases hy with rfl | rfl
    · exact wd_sm wd_a
    · exact (sm_intB .lit).mono (n' := 0) (by decide)
  · exact ⟨sm_lst (n := 58) (b := 8) (fun y hy => nomatch hy) (by simp), rfl⟩
  · refine ⟨sm_lst (n := 58) (b := 8) (fun y hy => ?_) (by simp), rfl⟩
    simp only [List.mem_cons, List.not_mem_nil, or_false] at hy
    rw [hy]; exact wd_sm wd_a
  · exact ⟨sm_d0, rfl⟩
end K18

-- dR
namespace K18
open DL L2 PyProof.Rows PySem PySem.Spec

/-! ### what refusals are -/
def CL : List Str := ["NoWeb", "NoText", "NoWalk", "NoPaper", "NoName", "NoSuch", "Taken", "Same", "Crying", "Alone", "Endless", "Crowded", "TooMany", "NoCount", "NoPlace", "NoState", "NoLength", "NoCries", "NoBack", "NoRow", "WebError"]
def T20 : List Str := ["NoWeb", "NoText", "NoWalk", "NoPaper", "NoCount", "NoPlace", "NoState", "NoLength", "NoName", "NoCries", "NoBack", "NoRow", "NoSuch", "Taken", "Same", "Crying", "Alone", "Endless", "Crowded", "TooMany"]
def T4 : List String := ["ValueError", "LookupError", "RuntimeError", "ArithmeticError"]
def tcO (n k : Str) : Bool := (isc_Xv n k).getD false
def ttO (n : Str) (k : String) : Bool := (ist_Xv n k).getD false
theorem cat_all : ∀ n ∈ CL, cat_Xv n = some true := by decide +kernel
theorem tc_all : ∀ n ∈ CL, ∀ k ∈ CL, isc_Xv n k = some (tcO n k) := by decide +kernel
theorem tt_all : ∀ n ∈ CL, ∀ k ∈ T4, ist_Xv n k = some (ttO n k) := by decide +kernel
theorem is_c {c : CI} {fs : List D} {k : Str} {G : DH} {Q : DQ} (hn : c.nm ∈ CL) (hk : k ∈ CL) : rIsV cat_Xv isc_Xv ist_Xv [.exv c fs, .cls ⟨k, []⟩] G Q = Q (.bl (tcO c.nm k)) G := by
  have e1 := cat_all _ hn
  have e2 := tc_all _ hn _ hk
  show (cat_Xv c.nm = some true ∧ match isc_Xv c.nm k with | some b => Q (.bl b) G | none => False) = _
  rw [e2]
  exact propext ⟨fun h => h.2, fun h => ⟨e1, h⟩⟩
theorem is_t {c : CI} {fs : List D} {k : String} {G : DH} {Q : DQ} (hn : c.nm ∈ CL) (hk : k ∈ T4) : rIsV cat_Xv isc_Xv ist_Xv [.exv c fs, .ty k] G Q = Q (.bl (ttO c.nm k)) G := by
  have e1 := cat_all _ hn
  have e2 := tt_all _ hn _ hk
  show (cat_Xv c.nm = some true ∧ match ist_Xv c.nm k with | some b => Q (.bl b) G | none => False) = _
  rw [e2]
  exact propext ⟨fun h => h.2, fun h => ⟨e1, h⟩⟩
/-- the numbers of what is true -/
def trueAt (bs : List Bool) : List D := ((enumD (bs.map D.bl)).filter fun x => match x with | .tup [_, .bl b] => b | _ => false).map fun x => match x with | .tup [i, _] => i | _ => .non
def whichN (n : Str) : List D := trueAt (T20.map (tcO n))
def basesN (n : Str) : List D := trueAt (tcO n "WebError" :: T4.map (ttO n))
theorem enum_bl {x : D} : ∀ {bs : List Bool}, x ∈ enumD (bs.map D.bl) → ∃ (i : Int) (b : Bool), x = .tup [.int i, .bl b] := by
  intro bs h
  unfold enumD at h
  obtain ⟨i, hi, e⟩ := List.mem_iff_getElem.mp h
  rw [List.getElem_zipWith, List.getElem_map] at e
  exact ⟨_, _, e.symm⟩
theorem nums_of {x0 : D} {bs : List Bool} {G : DH} {Q : DQ} (hb : bs.length ≤ 100) (h : Q (.lst (trueAt bs)) G) : lcK (gdTup 2 (gdCons (gdName 2) (gdCons (gdName 3) gdNil))) (dTest (dVar 3)) (dVar 2) [2, 3] (fun p ys G Q => Q (D.lst ys) (delG G p)) [some x0, some (.lst (bs.map D.bl)), none, none] Q (enumD (bs.map D.bl)) (fun _ => True) G Shut.mk := by
  refine lcK_fm (fun x => match x with | .tup [_, .bl b] => b | _ => false) (fun x => match x with | .tup [i, _] => i | _ => .non) ?_ (fun _ _ => trivial) (fun x hx G2 R R0 sub r1 r0 => ?_) h
  · unfold enumD
    rw [List.length_zipWith, List.length_range, List.length_map, Nat.min_self]
    exact Nat.lt_of_le_of_lt hb (by decide)
  · obtain ⟨i, b, rfl⟩ := enum_bl hx
    try simp -dsimp only [↓DL.dR, DL.slots, DL.dWipe, DL.okQ, DL.isS, DL.tyD, DL.kyD, DL.atD, DL.webD, DL.dF, DL.dS, decide_true, decide_false, Nat.reduceAdd, Nat.reduceSub]
    cases b with
    | true => exact r1 rfl
    | false => exact r0 rfl
def sp__law_which : DSp := fun ds G Q _ => ∃ (c : CI) (fs : List D), ds = [.exv c fs] ∧ c.nm ∈ CL ∧ Q (.lst (whichN c.nm)) G
theorem ok__law_which : ∀ ds G Q E, sp__law_which ds G Q E → rd__law_which (bodyEnds Q E) (slots N__law_which ds) G := by
  rintro ds G Q E ⟨c, fs, rfl, hn, h⟩
  rw [sl__law_which]
  have e0 := fun (G : DH) (Q : DQ) => is_c (fs := fs) (G := G) (Q := Q) hn (show ("NoWeb" : Str) ∈ CL by decide +kernel)
  have e1 := fun (G : DH) (Q : DQ) => is_c (fs := fs) (G := G) (Q := Q) hn (show ("NoText" : Str) ∈ CL by decide +kernel)
  have e2 := fun (G : DH) (Q : DQ) => is_c (fs := fs) (G := G) (Q := Q) hn (show ("NoWalk" : Str) ∈ CL by decide +kernel)
  have e3 := fun (G : DH) (Q : DQ) => is_c (fs := fs) (G := G) (Q := Q) hn (show ("NoPaper" : Str) ∈ CL by decide +kernel)
  have e4 := fun (G : DH) (Q : DQ) => is_c (fs := fs) (G := G) (Q := Q) hn (show ("NoCount" : Str) ∈ CL by decide +kernel)
  have e5 := fun (G : DH) (Q : DQ) => is_c (fs := fs) (G := G) (Q := Q) hn (show ("NoPlace" : Str) ∈ CL by decide +kernel)
  have e6 := fun (G : DH) (Q : DQ) => is_c (fs := fs) (G := G) (Q := Q) hn (show ("NoState" : Str) ∈ CL by decide +kernel)
  have e7 := fun (G : DH) (Q : DQ) => is_c (fs := fs) (G := G) (Q := Q) hn (show ("NoLength" : Str) ∈ CL by decide +kernel)
  have e8 := fun (G : DH) (Q : DQ) => is_c (fs := fs) (G := G) (Q := Q) hn (show ("NoName" : Str) ∈ CL by decide +kernel)
  have e9 := fun (G : DH) (Q : DQ) => is_c (fs := fs) (G := G) (Q := Q) hn (show ("NoCries" : Str) ∈ CL by decide +kernel)
  have e10 := fun (G : DH) (Q : DQ) => is_c (fs := fs) (G := G) (Q := Q) hn (show ("NoBack" : Str) ∈ CL by decide +kernel)
  have e11 := fun (G : DH) (Q : DQ) => is_c (fs := fs) (G := G) (Q := Q) hn (show ("NoRow" : Str) ∈ CL by decide +kernel)
  have e12 := fun (G : DH) (Q : DQ) => is_c (fs := fs) (G := G) (Q := Q) hn (show ("NoSuch" : Str) ∈ CL by decide +kernel)
  have e13 := fun (G : DH) (Q : DQ) => is_c (fs := fs) (G := G) (Q := Q) hn (show ("Taken" : Str) ∈ CL by decide +kernel)
  have e14 := fun (G : DH) (Q : DQ) => is_c (fs := fs) (G := G) (Q := Q) hn (show ("Same" : Str) ∈ CL by decide +kernel)
  have e15 := fun (G : DH) (Q : DQ) => is_c (fs := fs) (G := G) (Q := Q) hn (show ("Crying" : Str) ∈ CL by decide +kernel)
  have e16 := fun (G : DH) (Q : DQ) => is_c (fs := fs) (G := G) (Q := Q) hn (show ("Alone" : Str) ∈ CL by decide +kernel)
  have e17 := fun (G : DH) (Q : DQ) => is_c (fs := fs) (G := G) (Q := Q) hn (show ("Endless" : Str) ∈ CL by decide +kernel)
  have e18 := fun (G : DH) (Q : DQ) => is_c (fs := fs) (G := G) (Q := Q) hn (show ("Crowded" : Str) ∈ CL by decide +kernel)
  have e19 := fun (G : DH) (Q : DQ) => is_c (fs := fs) (G := G) (Q := Q) hn (show ("TooMany" : Str) ∈ CL by decide +kernel)
  simp -dsimp only [↓DL.dR, DL.slots, DL.dWipe, DL.okQ, DL.isS, DL.tyD, DL.kyD, DL.atD, DL.webD, DL.dF, DL.dS, decide_true, decide_false, Nat.reduceAdd, Nat.reduceSub, rd__law_which, ↓e0, ↓e1, ↓e2, ↓e3, ↓e4, ↓e5, ↓e6, ↓e7, ↓e8, ↓e9, ↓e10, ↓e11, ↓e12, ↓e13, ↓e14, ↓e15, ↓e16, ↓e17, ↓e18, ↓e19]
  exact ⟨by decide, by decide, by decide, by decide, by decide, by decide, by decide, by decide, by decide, trivial, nums_of (bs := T20.map (tcO c.nm)) (by rw [List.length_map]; decide) (be_rt h)⟩
def sp__law_bases : DSp := fun ds G Q _ => ∃ (c : CI) (fs : List D), ds = [.exv c fs] ∧ c.nm ∈ CL ∧ Q (.lst (basesN c.nm)) G
theorem ok__law_bases : ∀ ds G Q E, sp__law_bases ds G Q E → rd__law_bases (bodyEnds Q E) (slots N__law_bases ds) G := by
  rintro ds G Q E ⟨c, fs, rfl, hn, h⟩
  rw [sl__law_bases]
  have e0 := fun (G : DH) (Q : DQ) => is_c (fs := fs) (G := G) (Q := Q) hn (show ("WebError" : Str) ∈ CL by decide +kernel)
  have e1 := fun (G : DH) (Q : DQ) => is_t (fs := fs) (G := G) (Q := Q) hn (show ("ValueError" : String) ∈ T4 by decide +kernel)
  have e2 := fun (G : DH) (Q : DQ) => is_t (fs := fs) (G := G) (Q := Q) hn (show ("LookupError" : String) ∈ T4 by decide +kernel)
  have e3 := fun (G : DH) (Q : DQ) => is_t (fs := fs) (G := G) (Q := Q) hn (show ("RuntimeError" : String) ∈ T4 by decide +kernel)
  have e4 := fun (G : DH) (Q : DQ) => is_t (fs := fs) (G := G) (Q := Q) hn (show ("ArithmeticError" : String) ∈ T4 by decide +kernel)
  simp -dsimp only [↓DL.dR, DL.slots, DL.dWipe, DL.okQ, DL.isS, DL.tyD, DL.kyD, DL.atD, DL.webD, DL.dF, DL.dS, decide_true, decide_false, Nat.reduceAdd, Nat.reduceSub, rd__law_bases, ↓e0, ↓e1, ↓e2, ↓e3, ↓e4]
  exact ⟨by decide, by decide, by decide, trivial, nums_of (bs := tcO c.nm "WebError" :: T4.map (ttO c.nm)) (by rw [List.length_cons, List.length_map]; decide) (be_rt h)⟩
theorem nums_ok : ∀ n ∈ CL, okN 59 (.lst (whichN n)) = true ∧ okN 59 (.lst (basesN n)) = true := by decide +kernel
/-- what one is: the numbers, all right -/
def sp__law_is : DSp := fun ds G Q _ => ∃ (c : CI) (fs : List D) (k : Int) (bs : List Int), ds = [.exv c fs, .int k, .lst (bs.map D.int)] ∧ c.nm ∈ CL ∧ whichN c.nm = [.int k] ∧ basesN c.nm = bs.map D.int ∧ Q (.bl true) G
theorem ok__law_is : ∀ ds G Q E, sp__law_is ds G Q E → rd__law_is sp__law_which sp__law_bases (bodyEnds Q E) (slots N__law_is ds) G := by
  rintro ds G Q E ⟨c, fs, k, bs, rfl, hn, h1, h2, h⟩
  rw [sl__law_is]
  have oks : ∀ zs : List Int, okN 60 (.lst (zs.map D.int)) = true := fun zs => okN_lst (n := 59) fun x hx => by
    obtain ⟨z, _, rfl⟩ := List.mem_map.mp hx
    exact okN_int
  have rfls : ∀ zs : List Int, deq (.lst (zs.map D.int)) (.lst (zs.map D.int)) = true := fun zs => deq_refl (oks zs)
  simp -dsimp only [↓DL.dR, DL.slots, DL.dWipe, DL.okQ, DL.isS, DL.tyD, DL.kyD, DL.atD, DL.webD, DL.dF, DL.dS, decide_true, decide_false, Nat.reduceAdd, Nat.reduceSub, rd__law_is]
  refine ⟨c, fs, rfl, hn, ?_⟩
  rw [h1]
  try simp -dsimp only [↓DL.dR, DL.slots, DL.dWipe, DL.okQ, DL.isS, DL.tyD, DL.kyD, DL.atD, DL.webD, DL.dF, DL.dS, decide_true, decide_false, Nat.reduceAdd, Nat.reduceSub]
  refine ⟨by decide, ?_⟩
  have e1 : deq (.lst [.int k]) (.lst [.int k]) = true := rfls [k]
  simp -dsimp only [↓DL.dR, DL.slots, DL.dWipe, DL.okQ, DL.isS, DL.tyD, DL.kyD, DL.atD, DL.webD, DL.dF, DL.dS, decide_true, decide_false, Nat.reduceAdd, Nat.reduceSub, e1]
  refine ⟨by have := oks [k]; exact this, c, fs, rfl, hn, ?_⟩
  rw [h2]
  have e2 := rfls bs
  have e3 := oks bs
  simp -dsimp only [↓DL.dR, DL.slots, DL.dWipe, DL.okQ, DL.isS, DL.tyD, DL.kyD, DL.atD, DL.webD, DL.dF, DL.dS, decide_true, decide_false, Nat.reduceAdd, Nat.reduceSub, e2, e3]
  exact be_rt h
end K18

-- dR
namespace K18
open DL L2 PyProof.Rows PySem PySem.Spec

/-! ### the fields, what each is -/
theorem xf1 {n k : Str} {d : D} {G : DH} {Q : DQ} (h : k ∈ CL) : rXfV cat_Xv n (.exv ⟨k, [n]⟩ [d]) G Q = Q d G := by
  have e := cat_all _ h
  show ((cat_Xv k = some true ∧ 1 = 1) ∧ match ([n].zip [d]).lookup n with | some v => Q v G | none => False) = _
  have : ([n].zip [d]).lookup n = some d := by simp [List.lookup]
  rw [this]
  exact propext ⟨fun h => h.2, fun h => ⟨⟨e, rfl⟩, h⟩⟩
theorem xf_what {a b : D} {G : DH} {Q : DQ} : rXfV cat_Xv "what" (.exv ⟨"NoWeb", ["who", "what"]⟩ [b, a]) G Q = Q a G := by
  have e := cat_all "NoWeb" (by decide +kernel)
  exact propext ⟨fun h => h.2, fun h => ⟨⟨e, rfl⟩, h⟩⟩
theorem xf_who {a b : D} {G : DH} {Q : DQ} : rXfV cat_Xv "who" (.exv ⟨"NoWeb", ["who", "what"]⟩ [b, a]) G Q = Q b G := by
  have e := cat_all "NoWeb" (by decide +kernel)
  exact propext ⟨fun h => h.2, fun h => ⟨⟨e, rfl⟩, h⟩⟩
theorem rep_ok {xs : List D} {G : DH} {Q : DQ} (h : ∀ x ∈ xs, Th x) (hl : xs.length ≤ 10) (q : Q (.str (py (.lst xs)).shown) G) : DL.rRepr [.lst xs] G Q := by
  have hs : Sm 60 190 (.lst xs) := sm_lst (n := 59) (b := 18) (fun x hx => (h x hx).1) (by omega)
  show (okS 60 (rs G (.lst xs)) = true ∧ (py (rs G (.lst xs))).shown.length ≤ sizeLine) ∧ Q (.str (py (rs G (.lst xs))).shown) G
  rw [show rs G (D.lst xs) = .lst xs from rfl]
  exact ⟨⟨hs.ok, hs.fit (by decide)⟩, q⟩
theorem r4 {a : D} {G : DH} {Q : DQ} : rRepD (.lst [a]) (.int 4) G Q = Q (.lst [a, a, a, a]) G := propext ⟨fun h => h.2, fun h => ⟨⟨by decide, by decide, show 4 ≤ sizeLine by decide⟩, h⟩⟩
theorem r8 {a : D} {G : DH} {Q : DQ} : rRepD (.lst [a]) (.int 8) G Q = Q (.lst [a, a, a, a, a, a, a, a]) G := propext ⟨fun h => h.2, fun h => ⟨⟨by decide, by decide, show 8 ≤ sizeLine by decide⟩, h⟩⟩
theorem pyOk {xs : List D} (h : ∀ x ∈ xs, Th x) (hl : xs.length ≤ 10) : okS 60 (.lst xs) = true ∧ (py (.lst xs)).shown.length ≤ sizeLine := by
  have hs : Sm 60 190 (.lst xs) := sm_lst (n := 59) (b := 18) (fun x hx => (h x hx).1) (by omega)
  exact ⟨hs.ok, hs.fit (by decide)⟩
def sameI : List D → List Int → Bool
  | [], [] => true
  | .int i :: xs, j :: js => decide (i = j) && sameI xs js
  | _, _ => false
theorem sameI_eq : ∀ {xs : List D} {js : List Int}, sameI xs js = true → xs = js.map D.int
  | [], [], _ => rfl
  | [], _ :: _, h => by simp [sameI] at h
  | x :: xs, [], h => by cases x <;> simp [sameI] at h
  | x :: xs, j :: js, h => by
    cases x <;> simp [sameI] at h
    rw [List.map_cons, h.1, sameI_eq h.2]
theorem al5 : ([true, true, true, true, true].all id) = true := rfl
theorem al7 : ([true, true, true, true, true, true, true].all id) = true := rfl
theorem is_ok {c : CI} {fs : List D} {k : Int} {bs : List Int} {G : DH} {Q : DQ} {E : Exn → DH → Prop} (h : (c.nm ∈ CL ∧ sameI (whichN c.nm) [k] = true) ∧ sameI (basesN c.nm) bs = true) (q : Q (.bl true) G) {t : Shut Q E} : Ap sp__law_is [.exv c fs, .int k, .lst (bs.map D.int)] G Q E t := ⟨c, fs, k, bs, rfl, h.1.1, sameI_eq h.1.2, sameI_eq h.2, q⟩
theorem nW : ∀ p ∈ ([("NoWeb", 0), ("NoText", 1), ("NoWalk", 2), ("NoPaper", 3), ("NoName", 8), ("NoCount", 4), ("NoPlace", 5), ("NoState", 6), ("NoLength", 7), ("NoCries", 9), ("NoBack", 10), ("NoRow", 11)] : List (Str × Int)), (p.1 ∈ CL ∧ sameI (whichN p.1) [p.2] = true) ∧ sameI (basesN p.1) [0, 1] = true := by decide +kernel
def sp__law_webs_right : DSp := fun ds G Q _ => ∃ (a b : D) (s : Str), ds = [a, b, .str s] ∧ Th a ∧ Th b ∧ Q (.bl true) G
theorem ok__law_webs_right : ∀ ds G Q E, sp__law_webs_right ds G Q E → rd__law_webs_right sp__law_is (bodyEnds Q E) (slots N__law_webs_right ds) G := by
  rintro ds G Q E ⟨a, b, s, rfl, ha, hb, h⟩
  rw [sl__law_webs_right]
  have x0 := fun (d : D) (G : DH) (Q : DQ) => xf1 (n := "row") (d := d) (G := G) (Q := Q) (show ("NoText" : Str) ∈ CL by decide +kernel)
  have x1 := fun (d : D) (G : DH) (Q : DQ) => xf1 (n := "number") (d := d) (G := G) (Q := Q) (show ("NoWalk" : Str) ∈ CL by decide +kernel)
  have x2 := fun (d : D) (G : DH) (Q : DQ) => xf1 (n := "row") (d := d) (G := G) (Q := Q) (show ("NoPaper" : Str) ∈ CL by decide +kernel)
  have x3 := fun (d : D) (G : DH) (Q : DQ) => xf1 (n := "who") (d := d) (G := G) (Q := Q) (show ("NoName" : Str) ∈ CL by decide +kernel)
  simp -dsimp only [↓DL.dR, DL.slots, DL.dWipe, DL.okQ, DL.isS, DL.tyD, DL.kyD, DL.atD, DL.webD, DL.dF, DL.dS, decide_true, decide_false, Nat.reduceAdd, Nat.reduceSub, rd__law_webs_right, ↓dMkV, ↓dMkV0, ↓xf_what, ↓xf_who, ↓x0, ↓x1, ↓x2, ↓x3, ↓r4, List.reverse_cons, List.reverse_nil]
  have ts : ∀ x ∈ [a, b, a, a, a, a], Th x := fun x hx => by
    simp only [List.mem_cons, List.not_mem_nil, or_false] at hx
    rcases hx with rfl | rfl | rfl | rfl | rfl | rfl <;> assumption
  have po := pyOk ts (show 6 ≤ 10 by decide)
  refine ⟨by decide, by decide, by decide, by decide, by decide, by decide, po, by decide, by decide, by decide, po, by decide, by decide, by decide, by decide, by decide, by decide, trivial, trivial, ?_⟩
  refine lcK_map (fun _ => .bl true) (show 5 < sizeLine by decide) (fun _ _ => trivial) (fun x hx G2 R sub hr => ?_) ?_
  · simp only [zipD, List.zipWith_cons_cons, List.zipWith_nil_left, List.mem_cons, List.not_mem_nil, or_false] at hx
    rcases hx with rfl | rfl | rfl | rfl | rfl
    · try simp -dsimp only [↓DL.dR, DL.slots, DL.dWipe, DL.okQ, DL.isS, DL.tyD, DL.kyD, DL.atD, DL.webD, DL.dF, DL.dS, decide_true, decide_false, Nat.reduceAdd, Nat.reduceSub]
      exact ⟨by decide, is_ok (bs := [0, 1]) (nW ("NoWeb", 0) (by decide +kernel)) hr⟩
    · try simp -dsimp only [↓DL.dR, DL.slots, DL.dWipe, DL.okQ, DL.isS, DL.tyD, DL.kyD, DL.atD, DL.webD, DL.dF, DL.dS, decide_true, decide_false, Nat.reduceAdd, Nat.reduceSub]
      exact ⟨by decide, is_ok (bs := [0, 1]) (nW ("NoText", 1) (by decide +kernel)) hr⟩
    · try simp -dsimp only [↓DL.dR, DL.slots, DL.dWipe, DL.okQ, DL.isS, DL.tyD, DL.kyD, DL.atD, DL.webD, DL.dF, DL.dS, decide_true, decide_false, Nat.reduceAdd, Nat.reduceSub]
      exact ⟨by decide, is_ok (bs := [0, 1]) (nW ("NoWalk", 2) (by decide +kernel)) hr⟩
    · try simp -dsimp only [↓DL.dR, DL.slots, DL.dWipe, DL.okQ, DL.isS, DL.tyD, DL.kyD, DL.atD, DL.webD, DL.dF, DL.dS, decide_true, decide_false, Nat.reduceAdd, Nat.reduceSub]
      exact ⟨by decide, is_ok (bs := [0, 1]) (nW ("NoPaper", 3) (by decide +kernel)) hr⟩
    · try simp -dsimp only [↓DL.dR, DL.slots, DL.dWipe, DL.okQ, DL.isS, DL.tyD, DL.kyD, DL.atD, DL.webD, DL.dF, DL.dS, decide_true, decide_false, Nat.reduceAdd, Nat.reduceSub]
      exact ⟨by decide, is_ok (bs := [0, 1]) (nW ("NoName", 8) (by decide +kernel)) hr⟩
  · try simp -dsimp only [↓DL.dR, DL.slots, DL.dWipe, DL.okQ, DL.isS, DL.tyD, DL.kyD, DL.atD, DL.webD, DL.dF, DL.dS, decide_true, decide_false, Nat.reduceAdd, Nat.reduceSub]
    refine ⟨[true, true, true, true, true], rfl, ?_⟩
    simp -dsimp only [↓DL.dR, DL.slots, DL.dWipe, DL.okQ, DL.isS, DL.tyD, DL.kyD, DL.atD, DL.webD, DL.dF, DL.dS, decide_true, decide_false, Nat.reduceAdd, Nat.reduceSub, al5, ↓dMkV0]
    refine ⟨by decide, by decide, trivial, trivial, ?_⟩
    refine lcK_map (fun _ => .bl true) (show 7 < sizeLine by decide) (fun _ _ => trivial) (fun x hx G2 R sub hr => ?_) ?_
    · simp only [zipD, List.zipWith_cons_cons, List.zipWith_nil_left, List.mem_cons, List.not_mem_nil, or_false] at hx
      rcases hx with rfl | rfl | rfl | rfl | rfl | rfl | rfl
      · try simp -dsimp only [↓DL.dR, DL.slots, DL.dWipe, DL.okQ, DL.isS, DL.tyD, DL.kyD, DL.atD, DL.webD, DL.dF, DL.dS, decide_true, decide_false, Nat.reduceAdd, Nat.reduceSub]
        exact ⟨by decide, is_ok (bs := [0, 1]) (nW ("NoCount", 4) (by decide +kernel)) hr⟩
      · try simp -dsimp only [↓DL.dR, DL.slots, DL.dWipe, DL.okQ, DL.isS, DL.tyD, DL.kyD, DL.atD, DL.webD, DL.dF, DL.dS, decide_true, decide_false, Nat.reduceAdd, Nat.reduceSub]
        exact ⟨by decide, is_ok (bs := [0, 1]) (nW ("NoPlace", 5) (by decide +kernel)) hr⟩
      · try simp -dsimp only [↓DL.dR, DL.slots, DL.dWipe, DL.okQ, DL.isS, DL.tyD, DL.kyD, DL.atD, DL.webD, DL.dF, DL.dS, decide_true, decide_false, Nat.reduceAdd, Nat.reduceSub]
        exact ⟨by decide, is_ok (bs := [0, 1]) (nW ("NoState", 6) (by decide +kernel)) hr⟩
      · try simp -dsimp only [↓DL.dR, DL.slots, DL.dWipe, DL.okQ, DL.isS, DL.tyD, DL.kyD, DL.atD, DL.webD, DL.dF, DL.dS, decide_true, decide_false, Nat.reduceAdd, Nat.reduceSub]
        exact ⟨by decide, is_ok (bs := [0, 1]) (nW ("NoLength", 7) (by decide +kernel)) hr⟩
      · try simp -dsimp only [↓DL.dR, DL.slots, DL.dWipe, DL.okQ, DL.isS, DL.tyD, DL.kyD, DL.atD, DL.webD, DL.dF, DL.dS, decide_true, decide_false, Nat.reduceAdd, Nat.reduceSub]
        exact ⟨by decide, is_ok (bs := [0, 1]) (nW ("NoCries", 9) (by decide +kernel)) hr⟩
      · try simp -dsimp only [↓DL.dR, DL.slots, DL.dWipe, DL.okQ, DL.isS, DL.tyD, DL.kyD, DL.atD, DL.webD, DL.dF, DL.dS, decide_true, decide_false, Nat.reduceAdd, Nat.reduceSub]
        exact ⟨by decide, is_ok (bs := [0, 1]) (nW ("NoBack", 10) (by decide +kernel)) hr⟩
      · try simp -dsimp only [↓DL.dR, DL.slots, DL.dWipe, DL.okQ, DL.isS, DL.tyD, DL.kyD, DL.atD, DL.webD, DL.dF, DL.dS, decide_true, decide_false, Nat.reduceAdd, Nat.reduceSub]
        exact ⟨by decide, is_ok (bs := [0, 1]) (nW ("NoRow", 11) (by decide +kernel)) hr⟩
    · try simp -dsimp only [↓DL.dR, DL.slots, DL.dWipe, DL.okQ, DL.isS, DL.tyD, DL.kyD, DL.atD, DL.webD, DL.dF, DL.dS, decide_true, decide_false, Nat.reduceAdd, Nat.reduceSub]
      refine ⟨[true, true, true, true, true, true, true], rfl, ?_⟩
      simp -dsimp only [↓DL.dR, DL.slots, DL.dWipe, DL.okQ, DL.isS, DL.tyD, DL.kyD, DL.atD, DL.webD, DL.dF, DL.dS, decide_true, decide_false, Nat.reduceAdd, Nat.reduceSub, al7]
      exact be_rt h
theorem nO : ∀ p ∈ ([("Taken", 13), ("Same", 14), ("Crying", 15), ("Alone", 16), ("Endless", 17)] : List (Str × Int)), (p.1 ∈ CL ∧ sameI (whichN p.1) [p.2] = true) ∧ sameI (basesN p.1) [3] = true := by decide +kernel
theorem n2 : (("NoSuch" : Str) ∈ CL ∧ sameI (whichN "NoSuch") [12] = true) ∧ sameI (basesN "NoSuch") [2] = true := by decide +kernel
theorem n18 : (("Crowded" : Str) ∈ CL ∧ sameI (whichN "Crowded") [18] = true) ∧ sameI (basesN "Crowded") [4] = true := by decide +kernel
theorem n19 : (("TooMany" : Str) ∈ CL ∧ sameI (whichN "TooMany") [19] = true) ∧ sameI (basesN "TooMany") [4] = true := by decide +kernel
theorem nE : (("WebError" : Str) ∈ CL ∧ sameI (whichN "WebError") [] = true) ∧ sameI (basesN "WebError") [0, 1] = true := by decide +kernel
def sp__law_others_right : DSp := fun ds G Q _ => ∃ (a : D) (s : Str), ds = [a, .str s] ∧ Th a ∧ Q (.bl true) G
theorem ok__law_others_right : ∀ ds G Q E, sp__law_others_right ds G Q E → rd__law_others_right sp__law_is sp__law_which sp__law_bases (bodyEnds Q E) (slots N__law_others_right ds) G := by
  rintro ds G Q E ⟨a, s, rfl, ha, h⟩
  rw [sl__law_others_right]
  have x4 := fun (d : D) (G : DH) (Q : DQ) => xf1 (n := "who") (d := d) (G := G) (Q := Q) (show ("NoSuch" : Str) ∈ CL by decide +kernel)
  have x5 := fun (d : D) (G : DH) (Q : DQ) => xf1 (n := "who") (d := d) (G := G) (Q := Q) (show ("Taken" : Str) ∈ CL by decide +kernel)
  have x6 := fun (d : D) (G : DH) (Q : DQ) => xf1 (n := "who") (d := d) (G := G) (Q := Q) (show ("Same" : Str) ∈ CL by decide +kernel)
  have x7 := fun (d : D) (G : DH) (Q : DQ) => xf1 (n := "who") (d := d) (G := G) (Q := Q) (show ("Crying" : Str) ∈ CL by decide +kernel)
  have x8 := fun (d : D) (G : DH) (Q : DQ) => xf1 (n := "who") (d := d) (G := G) (Q := Q) (show ("Alone" : Str) ∈ CL by decide +kernel)
  have x9 := fun (d : D) (G : DH) (Q : DQ) => xf1 (n := "who") (d := d) (G := G) (Q := Q) (show ("Endless" : Str) ∈ CL by decide +kernel)
  have x10 := fun (d : D) (G : DH) (Q : DQ) => xf1 (n := "most") (d := d) (G := G) (Q := Q) (show ("Crowded" : Str) ∈ CL by decide +kernel)
  have x11 := fun (d : D) (G : DH) (Q : DQ) => xf1 (n := "limit") (d := d) (G := G) (Q := Q) (show ("TooMany" : Str) ∈ CL by decide +kernel)
  simp -dsimp only [↓DL.dR, DL.slots, DL.dWipe, DL.okQ, DL.isS, DL.tyD, DL.kyD, DL.atD, DL.webD, DL.dF, DL.dS, decide_true, decide_false, Nat.reduceAdd, Nat.reduceSub, rd__law_others_right, ↓dMkV, ↓dMkV0, ↓x4, ↓x5, ↓x6, ↓x7, ↓x8, ↓x9, ↓x10, ↓x11, ↓r8, List.reverse_cons, List.reverse_nil]
  have ts : ∀ x ∈ [a, a, a, a, a, a, a, a], Th x := fun x hx => by
    simp only [List.mem_cons, List.not_mem_nil, or_false, or_self] at hx
    rw [hx]; exact ha
  have po := pyOk ts (show 8 ≤ 10 by decide)
  refine ⟨by decide, by decide, by decide, by decide, by decide, by decide, by decide, by decide, by decide, by decide, by decide, po, by decide, po, by decide, by decide, by decide, by decide, by decide, by decide, by decide, by decide, is_ok (bs := [2]) n2 ?_⟩
  try simp -dsimp only [↓DL.dR, DL.slots, DL.dWipe, DL.okQ, DL.isS, DL.tyD, DL.kyD, DL.atD, DL.webD, DL.dF, DL.dS, decide_true, decide_false, Nat.reduceAdd, Nat.reduceSub]
  refine ⟨trivial, ?_⟩
  refine lcK_map (fun _ => .bl true) (show 5 < sizeLine by decide) (fun _ _ => trivial) (fun x hx G2 R sub hr => ?_) ?_
  · have hx2 : x ∈ [D.tup [.int 0, .exv ⟨"Taken", ["who"]⟩ [a]], D.tup [.int 1, .exv ⟨"Same", ["who"]⟩ [a]], D.tup [.int 2, .exv ⟨"Crying", ["who"]⟩ [a]], D.tup [.int 3, .exv ⟨"Alone", ["who"]⟩ [a]], D.tup [.int 4, .exv ⟨"Endless", ["who"]⟩ [a]]] := hx
    simp only [List.mem_cons, List.not_mem_nil, or_false] at hx2
    rcases hx2 with rfl | rfl | rfl | rfl | rfl
    · try simp -dsimp only [↓DL.dR, DL.slots, DL.dWipe, DL.okQ, DL.isS, DL.tyD, DL.kyD, DL.atD, DL.webD, DL.dF, DL.dS, decide_true, decide_false, Nat.reduceAdd, Nat.reduceSub]
      refine ⟨by decide, ?_⟩
      exact is_ok (c := ⟨"Taken", ["who"]⟩) (k := 13) (bs := [3]) (nO ("Taken", 13) (by decide +kernel)) hr
    · try simp -dsimp only [↓DL.dR, DL.slots, DL.dWipe, DL.okQ, DL.isS, DL.tyD, DL.kyD, DL.atD, DL.webD, DL.dF, DL.dS, decide_true, decide_false, Nat.reduceAdd, Nat.reduceSub]
      refine ⟨by decide, ?_⟩
      exact is_ok (c := ⟨"Same", ["who"]⟩) (k := 14) (bs := [3]) (nO ("Same", 14) (by decide +kernel)) hr
    · try simp -dsimp only [↓DL.dR, DL.slots, DL.dWipe, DL.okQ, DL.isS, DL.tyD, DL.kyD, DL.atD, DL.webD, DL.dF, DL.dS, decide_true, decide_false, Nat.reduceAdd, Nat.reduceSub]
      refine ⟨by decide, ?_⟩
      exact is_ok (c := ⟨"Crying", ["who"]⟩) (k := 15) (bs := [3]) (nO ("Crying", 15) (by decide +kernel)) hr
    · try simp -dsimp only [↓DL.dR, DL.slots, DL.dWipe, DL.okQ, DL.isS, DL.tyD, DL.kyD, DL.atD, DL.webD, DL.dF, DL.dS, decide_true, decide_false, Nat.reduceAdd, Nat.reduceSub]
      refine ⟨by decide, ?_⟩
      exact is_ok (c := ⟨"Alone", ["who"]⟩) (k := 16) (bs := [3]) (nO ("Alone", 16) (by decide +kernel)) hr
    · try simp -dsimp only [↓DL.dR, DL.slots, DL.dWipe, DL.okQ, DL.isS, DL.tyD, DL.kyD, DL.atD, DL.webD, DL.dF, DL.dS, decide_true, decide_false, Nat.reduceAdd, Nat.reduceSub]
      refine ⟨by decide, ?_⟩
      exact is_ok (c := ⟨"Endless", ["who"]⟩) (k := 17) (bs := [3]) (nO ("Endless", 17) (by decide +kernel)) hr
  · try simp -dsimp only [↓DL.dR, DL.slots, DL.dWipe, DL.okQ, DL.isS, DL.tyD, DL.kyD, DL.atD, DL.webD, DL.dF, DL.dS, decide_true, decide_false, Nat.reduceAdd, Nat.reduceSub]
    refine ⟨[true, true, true, true, true], rfl, ?_⟩
    simp -dsimp only [↓DL.dR, DL.slots, DL.dWipe, DL.okQ, DL.isS, DL.tyD, DL.kyD, DL.atD, DL.webD, DL.dF, DL.dS, decide_true, decide_false, Nat.reduceAdd, Nat.reduceSub, al5, ↓dMkV]
    refine ⟨by decide, by decide, is_ok (bs := [4]) n18 ?_⟩
    simp -dsimp only [↓DL.dR, DL.slots, DL.dWipe, DL.okQ, DL.isS, DL.tyD, DL.kyD, DL.atD, DL.webD, DL.dF, DL.dS, decide_true, decide_false, Nat.reduceAdd, Nat.reduceSub, ↓dMkV]
    refine ⟨by decide, by decide, is_ok (bs := [4]) n19 ?_⟩
    simp -dsimp only [↓DL.dR, DL.slots, DL.dWipe, DL.okQ, DL.isS, DL.tyD, DL.kyD, DL.atD, DL.webD, DL.dF, DL.dS, decide_true, decide_false, Nat.reduceAdd, Nat.reduceSub, ↓dMkV0]
    refine ⟨_, _, rfl, nE.1.1, ?_⟩
    rw [show whichN (CI.nm ⟨"WebError", []⟩) = [] from sameI_eq nE.1.2]
    have z1 : okN 60 (.lst []) = true := by decide
    have z2 : deq (.lst []) (.lst []) = true := deq_refl z1
    have z3 : okN 60 (.lst [.int 0, .int 1]) = true := by decide
    have z4 : deq (.lst [.int 0, .int 1]) (.lst [.int 0, .int 1]) = true := deq_refl z3
    simp -dsimp only [↓DL.dR, DL.slots, DL.dWipe, DL.okQ, DL.isS, DL.tyD, DL.kyD, DL.atD, DL.webD, DL.dF, DL.dS, decide_true, decide_false, Nat.reduceAdd, Nat.reduceSub, z1, z2, ↓dMkV0]
    refine ⟨by decide, _, _, rfl, nE.1.1, ?_⟩
    rw [show basesN (CI.nm ⟨"WebError", []⟩) = [.int 0, .int 1] from sameI_eq nE.2]
    simp -dsimp only [↓DL.dR, DL.slots, DL.dWipe, DL.okQ, DL.isS, DL.tyD, DL.kyD, DL.atD, DL.webD, DL.dF, DL.dS, decide_true, decide_false, Nat.reduceAdd, Nat.reduceSub, z3, z4]
    exact ⟨by decide, be_rt h⟩
end K18

-- dR
namespace K18
open DL L2 PyProof.Rows PySem PySem.Spec

/-! ### the law -/
theorem rng_mem {lo : Int} {n i : Nat} {x : D} (h : (rng lo n)[i]? = some x) : x = .int (lo + (i : Nat)) ∧ i < n := by
  have hi := (List.getElem?_eq_some_iff.mp h).1
  rw [rng, List.length_map, List.length_range] at hi
  rw [rng, List.getElem?_map, List.getElem?_range hi] at h
  cases h
  exact ⟨rfl, hi⟩
theorem ok_law : ∀ ds G Q E, lawSp 63 ds G Q E → rd_law sp__law_pot sp__law_thing sp__law_word sp__law_webs_right sp__law_others_right (bodyEnds Q E) (slots N_law ds) G := by
  rintro ds G Q E ⟨ns, rfl, hn, hb, h⟩
  rw [sl_law]
  simp -dsimp only [↓DL.dR, DL.slots, DL.dWipe, DL.okQ, DL.isS, DL.tyD, DL.kyD, DL.atD, DL.webD, DL.dF, DL.dS, decide_true, decide_false, Nat.reduceAdd, Nat.reduceSub, rd_law]
  refine ⟨by simp only [List.length_map]; split <;> split <;> omega, fun i δ G => ∃ o1 o2 o3 o4 o5, δ = [some (.lsk (ns.map D.int)), o1, o2, o3, o4, o5], ⟨_, _, _, _, _, rfl⟩, ?_, ?_⟩
  · rintro i x δ G hx ⟨o1, o2, o3, o4, o5, rfl⟩
    obtain ⟨rfl, hi⟩ := rng_mem hx
    refine ⟨trivial, ?_⟩
    try simp -dsimp only [↓DL.dR, DL.slots, DL.dWipe, DL.okQ, DL.isS, DL.tyD, DL.kyD, DL.atD, DL.webD, DL.dF, DL.dS, decide_true, decide_false, Nat.reduceAdd, Nat.reduceSub]
    refine ⟨ns, _, rfl, by omega, ?_, fun p G1 hp s1 => ?_⟩
    · rw [List.length_map] at hi
      have : (((if (if (4 : Int) < ↑ns.length then 4 else (ns.length : Int)) > 1 then (if (4 : Int) < ↑ns.length then 4 else (ns.length : Int)) else 1)).toNat) ≤ 4 := by split <;> split <;> omega
      omega
    try simp -dsimp only [↓DL.dR, DL.slots, DL.dWipe, DL.okQ, DL.isS, DL.tyD, DL.kyD, DL.atD, DL.webD, DL.dF, DL.dS, decide_true, decide_false, Nat.reduceAdd, Nat.reduceSub]
    refine ⟨p, rfl, s1.pot, fun a G2 ha s2 => ?_⟩
    try simp -dsimp only [↓DL.dR, DL.slots, DL.dWipe, DL.okQ, DL.isS, DL.tyD, DL.kyD, DL.atD, DL.webD, DL.dF, DL.dS, decide_true, decide_false, Nat.reduceAdd, Nat.reduceSub]
    refine ⟨p, rfl, s2.pot, fun b G3 hb2 s3 => ?_⟩
    try simp -dsimp only [↓DL.dR, DL.slots, DL.dWipe, DL.okQ, DL.isS, DL.tyD, DL.kyD, DL.atD, DL.webD, DL.dF, DL.dS, decide_true, decide_false, Nat.reduceAdd, Nat.reduceSub]
    refine ⟨p, rfl, s3.pot, fun w G4 hw s4 => ?_⟩
    try simp -dsimp only [↓DL.dR, DL.slots, DL.dWipe, DL.okQ, DL.isS, DL.tyD, DL.kyD, DL.atD, DL.webD, DL.dF, DL.dS, decide_true, decide_false, Nat.reduceAdd, Nat.reduceSub]
    refine ⟨a, b, w, rfl, ha, hb2, ?_⟩
    try simp -dsimp only [↓DL.dR, DL.slots, DL.dWipe, DL.okQ, DL.isS, DL.tyD, DL.kyD, DL.atD, DL.webD, DL.dF, DL.dS, decide_true, decide_false, Nat.reduceAdd, Nat.reduceSub]
    refine ⟨a, w, rfl, ha, ?_⟩
    try simp -dsimp only [↓DL.dR, DL.slots, DL.dWipe, DL.okQ, DL.isS, DL.tyD, DL.kyD, DL.atD, DL.webD, DL.dF, DL.dS, decide_true, decide_false, Nat.reduceAdd, Nat.reduceSub]
    exact ⟨_, _, _, _, _, rfl⟩
  · rintro δ G ⟨o1, o2, o3, o4, o5, rfl⟩
    refine ⟨trivial, ?_⟩
    try simp -dsimp only [↓DL.dR, DL.slots, DL.dWipe, DL.okQ, DL.isS, DL.tyD, DL.kyD, DL.atD, DL.webD, DL.dF, DL.dS, decide_true, decide_false, Nat.reduceAdd, Nat.reduceSub]
    exact be_rt (h G)
end K18

namespace K18
open DL L2 PyProof.Rows PySem PySem.Spec
theorem hf__law_pot {P : Program} {w : World} {K : PySem.W.Frag} {mg : Str → Option Value} {base : Heap} (M : Tx K mg) {f : Addr} {fd : FuncData} (hm : mg "_law_pot" = some (.ref f)) (F : FunD K "_law_pot" "_law_pot" (defArgs (top 23)) (defBody (top 23)) (defScope (top 23)) [] [] f fd) :
    HasF P w K mg base "_law_pot" 1 ps__law_pot sp__law_pot :=
  hasF_of hm F sc__law_pot (fun _ _ _ _ _ _ us hl => match us, hl with | [_, _], _ => rfl) (by
    rintro ds G Q E ⟨_, _, rfl, _⟩
    rfl) (fun cdv A outer s H E => bd__law_pot M _ cdv A outer s H E) ok__law_pot
theorem hf__law_take {P : Program} {w : World} {K : PySem.W.Frag} {mg : Str → Option Value} {base : Heap} (M : Tx K mg) {f : Addr} {fd : FuncData} (hm : mg "_law_take" = some (.ref f)) (F : FunD K "_law_take" "_law_take" (defArgs (top 24)) (defBody (top 24)) (defScope (top 24)) [] [] f fd) :
    HasF P w K mg base "_law_take" 1 ps__law_take sp__law_take :=
  hasF_of hm F sc__law_take (fun _ _ _ _ _ _ us hl => match us, hl with | [_, _], _ => rfl) (by
    rintro ds G Q E ⟨_, _, rfl, _⟩
    rfl) (fun cdv A outer s H E => bd__law_take M _ cdv A outer s H E) ok__law_take
theorem hf__law_among {P : Program} {w : World} {K : PySem.W.Frag} {mg : Str → Option Value} {base : Heap} (M : Tx K mg) (h__law_take : HasF P w K mg base "_law_take" 1 ps__law_take sp__law_take) {f : Addr} {fd : FuncData} (hm : mg "_law_among" = some (.ref f)) (F : FunD K "_law_among" "_law_among" (defArgs (top 25)) (defBody (top 25)) (defScope (top 25)) [] [] f fd) :
    HasF P w K mg base "_law_among" 2 ps__law_among sp__law_among :=
  hasF_of hm F sc__law_among (fun _ _ _ _ _ _ us hl => match us, hl with | [_, _], _ => rfl) (by
    rintro ds G Q E ⟨_, _, _, rfl, _⟩
    rfl) (fun cdv A outer s H E => bd__law_among M h__law_take _ cdv A outer s H E) ok__law_among
theorem hf__law_word {P : Program} {w : World} {K : PySem.W.Frag} {mg : Str → Option Value} {base : Heap} (M : Tx K mg) (h__law_take : HasF P w K mg base "_law_take" 1 ps__law_take sp__law_take) {f : Addr} {fd : FuncData} (hm : mg "_law_word" = some (.ref f)) (F : FunD K "_law_word" "_law_word" (defArgs (top 26)) (defBody (top 26)) (defScope (top 26)) [] [] f fd) :
    HasF P w K mg base "_law_word" 2 ps__law_word sp__law_word :=
  hasF_of hm F sc__law_word (fun _ _ _ _ _ _ us hl => match us, hl with | [_], _ => rfl) (by
    rintro ds G Q E ⟨_, rfl, _⟩
    rfl) (fun cdv A outer s H E => bd__law_word M h__law_take _ cdv A outer s H E) ok__law_word
theorem hf__law_thing {P : Program} {w : World} {K : PySem.W.Frag} {mg : Str → Option Value} {base : Heap} (M : Tx K mg) (h__law_word : HasF P w K mg base "_law_word" 2 ps__law_word sp__law_word) (h__law_take : HasF P w K mg base "_law_take" 1 ps__law_take sp__law_take) (h__law_among : HasF P w K mg base "_law_among" 2 ps__law_among sp__law_among) {f : Addr} {fd : FuncData} (hm : mg "_law_thing" = some (.ref f)) (F : FunD K "_law_thing" "_law_thing" (defArgs (top 27)) (defBody (top 27)) (defScope (top 27)) [] [] f fd) :
    HasF P w K mg base "_law_thing" 3 ps__law_thing sp__law_thing :=
  hasF_of hm F sc__law_thing (fun _ _ _ _ _ _ us hl => match us, hl with | [_], _ => rfl) (by
    rintro ds G Q E ⟨_, rfl, _⟩
    rfl) (fun cdv A outer s H E => bd__law_thing M h__law_word h__law_take h__law_among _ cdv A outer s H E) ok__law_thing
theorem hf__law_which {P : Program} {w : World} {K : PySem.W.Frag} {mg : Str → Option Value} {base : Heap} (M : Tx K mg) {f : Addr} {fd : FuncData} (hm : mg "_law_which" = some (.ref f)) (F : FunD K "_law_which" "_law_which" (defArgs (top 28)) (defBody (top 28)) (defScope (top 28)) [] [] f fd) :
    HasF P w K mg base "_law_which" 1 ps__law_which sp__law_which :=
  hasF_of hm F sc__law_which (fun _ _ _ _ _ _ us hl => match us, hl with | [_], _ => rfl) (by
    rintro ds G Q E ⟨_, _, rfl, _⟩
    rfl) (fun cdv A outer s H E => bd__law_which M _ cdv A outer s H E) ok__law_which
theorem hf__law_bases {P : Program} {w : World} {K : PySem.W.Frag} {mg : Str → Option Value} {base : Heap} (M : Tx K mg) {f : Addr} {fd : FuncData} (hm : mg "_law_bases" = some (.ref f)) (F : FunD K "_law_bases" "_law_bases" (defArgs (top 29)) (defBody (top 29)) (defScope (top 29)) [] [] f fd) :
    HasF P w K mg base "_law_bases" 1 ps__law_bases sp__law_bases :=
  hasF_of hm F sc__law_bases (fun _ _ _ _ _ _ us hl => match us, hl with | [_], _ => rfl) (by
    rintro ds G Q E ⟨_, _, rfl, _⟩
    rfl) (fun cdv A outer s H E => bd__law_bases M _ cdv A outer s H E) ok__law_bases
theorem hf__law_is {P : Program} {w : World} {K : PySem.W.Frag} {mg : Str → Option Value} {base : Heap} (M : Tx K mg) (h__law_which : HasF P w K mg base "_law_which" 1 ps__law_which sp__law_which) (h__law_bases : HasF P w K mg base "_law_bases" 1 ps__law_bases sp__law_bases) {f : Addr} {fd : FuncData} (hm : mg "_law_is" = some (.ref f)) (F : FunD K "_law_is" "_law_is" (defArgs (top 30)) (defBody (top 30)) (defScope (top 30)) [] [] f fd) :
    HasF P w K mg base "_law_is" 2 ps__law_is sp__law_is :=
  hasF_of hm F sc__law_is (fun _ _ _ _ _ _ us hl => match us, hl with | [_, _, _], _ => rfl) (by
    rintro ds G Q E ⟨_, _, _, _, rfl, _⟩
    rfl) (fun cdv A outer s H E => bd__law_is M h__law_which h__law_bases _ cdv A outer s H E) ok__law_is
theorem hf__law_webs_right {P : Program} {w : World} {K : PySem.W.Frag} {mg : Str → Option Value} {base : Heap} (M : Tx K mg) (h_x_NoWeb : HasX P w K mg base "NoWeb" 1 ["what", "who"]) (h_x_NoName : HasX P w K mg base "NoName" 1 ["who"]) (h_x_NoPaper : HasX P w K mg base "NoPaper" 1 ["row"]) (h_x_NoWalk : HasX P w K mg base "NoWalk" 1 ["number"]) (h_x_NoText : HasX P w K mg base "NoText" 1 ["row"]) (h__law_is : HasF P w K mg base "_law_is" 2 ps__law_is sp__law_is) {f : Addr} {fd : FuncData} (hm : mg "_law_webs_right" = some (.ref f)) (F : FunD K "_law_webs_right" "_law_webs_right" (defArgs (top 31)) (defBody (top 31)) (defScope (top 31)) [] [] f fd) :
    HasF P w K mg base "_law_webs_right" 4 ps__law_webs_right sp__law_webs_right :=
  hasF_of hm F sc__law_webs_right (fun _ _ _ _ _ _ us hl => match us, hl with | [_, _, _], _ => rfl) (by
    rintro ds G Q E ⟨_, _, _, rfl, _⟩
    rfl) (fun cdv A outer s H E => bd__law_webs_right M h_x_NoWeb h_x_NoName h_x_NoPaper h_x_NoWalk h_x_NoText h__law_is _ cdv A outer s H E) ok__law_webs_right
theorem hf__law_others_right {P : Program} {w : World} {K : PySem.W.Frag} {mg : Str → Option Value} {base : Heap} (M : Tx K mg) (h_x_Endless : HasX P w K mg base "Endless" 1 ["who"]) (h_x_Alone : HasX P w K mg base "Alone" 1 ["who"]) (h_x_Crying : HasX P w K mg base "Crying" 1 ["who"]) (h_x_Same : HasX P w K mg base "Same" 1 ["who"]) (h_x_Taken : HasX P w K mg base "Taken" 1 ["who"]) (h_x_NoSuch : HasX P w K mg base "NoSuch" 1 ["who"]) (h_x_TooMany : HasX P w K mg base "TooMany" 1 ["limit"]) (h_x_Crowded : HasX P w K mg base "Crowded" 1 ["most"]) (h__law_is : HasF P w K mg base "_law_is" 2 ps__law_is sp__law_is) (h__law_which : HasF P w K mg base "_law_which" 1 ps__law_which sp__law_which) (h__law_bases : HasF P w K mg base "_law_bases" 1 ps__law_bases sp__law_bases) {f : Addr} {fd : FuncData} (hm : mg "_law_others_right" = some (.ref f)) (F : FunD K "_law_others_right" "_law_others_right" (defArgs (top 32)) (defBody (top 32)) (defScope (top 32)) [] [] f fd) :
    HasF P w K mg base "_law_others_right" 4 ps__law_others_right sp__law_others_right :=
  hasF_of hm F sc__law_others_right (fun _ _ _ _ _ _ us hl => match us, hl with | [_, _], _ => rfl) (by
    rintro ds G Q E ⟨_, _, rfl, _⟩
    rfl) (fun cdv A outer s H E => bd__law_others_right M h_x_Endless h_x_Alone h_x_Crying h_x_Same h_x_Taken h_x_NoSuch h_x_TooMany h_x_Crowded h__law_is h__law_which h__law_bases _ cdv A outer s H E) ok__law_others_right
theorem all_mk {P : Program} {w : World} {K : PySem.W.Frag} {h : Heap} {mg : Str → Option Value} {fa : Addr} (X : K.In h) (G : h.Ns mainGlobals mg) (hfa : mg "law" = some (.ref fa))
    {f0 f1 f2 f3 f4 f5 f6 f7 f8 f9 f10 : Addr} {od0 an0 od1 an1 od2 an2 od3 an3 od4 an4 od5 an5 od6 an6 od7 an7 od8 an8 od9 an9 od10 an10 : Option Addr} {sl0 sl1 sl2 sl3 sl4 sl5 sl6 sl7 sl8 sl9 sl10 : Array (Option Value)} {oc0 kV0 dc0 pm0 cd0 ct0 oc1 kV1 dc1 pm1 cd1 ct1 oc2 kV2 dc2 pm2 cd2 ct2 oc3 kV3 dc3 pm3 cd3 ct3 oc4 kV4 dc4 pm4 cd4 ct4 oc5 kV5 dc5 pm5 cd5 ct5 oc6 kV6 dc6 pm6 cd6 ct6 oc7 kV7 dc7 pm7 cd7 ct7 oc8 kV8 dc8 pm8 cd8 ct8 oc9 kV9 dc9 pm9 cd9 ct9 oc10 kV10 dc10 pm10 cd10 ct10 : Value}
    {C_NoWeb : Addr} {C_NoName : Addr} {C_NoPaper : Addr} {C_NoWalk : Addr} {C_NoText : Addr} {C_Endless : Addr} {C_Alone : Addr} {C_Crying : Addr} {C_Same : Addr} {C_Taken : Addr} {C_NoSuch : Addr} {C_TooMany : Addr} {C_Crowded : Addr} {C_NoBack : Addr} {C_NoCount : Addr} {C_NoCries : Addr} {C_NoLength : Addr} {C_NoPlace : Addr} {C_NoRow : Addr} {C_NoState : Addr} {C_WebError : Addr}
    (xa_NoWeb : PySem.W.nsIn K mainGlobals "NoWeb" = some (some (.ref C_NoWeb)))
    (xb_NoWeb : PySem.W.subIn K (.ref C_NoWeb) (.type "BaseException") = some true) (xt_NoWeb : PySem.W.typeIn K (.ref C_NoWeb) = some (.type "type")) (xh_NoWeb : PySem.W.hasDictIn K C_NoWeb = true)
    (xa_NoName : PySem.W.nsIn K mainGlobals "NoName" = some (some (.ref C_NoName)))
    (xb_NoName : PySem.W.subIn K (.ref C_NoName) (.type "BaseException") = some true) (xt_NoName : PySem.W.typeIn K (.ref C_NoName) = some (.type "type")) (xh_NoName : PySem.W.hasDictIn K C_NoName = true)
    (xa_NoPaper : PySem.W.nsIn K mainGlobals "NoPaper" = some (some (.ref C_NoPaper)))
    (xb_NoPaper : PySem.W.subIn K (.ref C_NoPaper) (.type "BaseException") = some true) (xt_NoPaper : PySem.W.typeIn K (.ref C_NoPaper) = some (.type "type")) (xh_NoPaper : PySem.W.hasDictIn K C_NoPaper = true)
    (xa_NoWalk : PySem.W.nsIn K mainGlobals "NoWalk" = some (some (.ref C_NoWalk)))
    (xb_NoWalk : PySem.W.subIn K (.ref C_NoWalk) (.type "BaseException") = some true) (xt_NoWalk : PySem.W.typeIn K (.ref C_NoWalk) = some (.type "type")) (xh_NoWalk : PySem.W.hasDictIn K C_NoWalk = true)
    (xa_NoText : PySem.W.nsIn K mainGlobals "NoText" = some (some (.ref C_NoText)))
    (xb_NoText : PySem.W.subIn K (.ref C_NoText) (.type "BaseException") = some true) (xt_NoText : PySem.W.typeIn K (.ref C_NoText) = some (.type "type")) (xh_NoText : PySem.W.hasDictIn K C_NoText = true)
    (xa_Endless : PySem.W.nsIn K mainGlobals "Endless" = some (some (.ref C_Endless)))
    (xb_Endless : PySem.W.subIn K (.ref C_Endless) (.type "BaseException") = some true) (xt_Endless : PySem.W.typeIn K (.ref C_Endless) = some (.type "type")) (xh_Endless : PySem.W.hasDictIn K C_Endless = true)
    (xa_Alone : PySem.W.nsIn K mainGlobals "Alone" = some (some (.ref C_Alone)))
    (xb_Alone : PySem.W.subIn K (.ref C_Alone) (.type "BaseException") = some true) (xt_Alone : PySem.W.typeIn K (.ref C_Alone) = some (.type "type")) (xh_Alone : PySem.W.hasDictIn K C_Alone = true)
    (xa_Crying : PySem.W.nsIn K mainGlobals "Crying" = some (some (.ref C_Crying)))
    (xb_Crying : PySem.W.subIn K (.ref C_Crying) (.type "BaseException") = some true) (xt_Crying : PySem.W.typeIn K (.ref C_Crying) = some (.type "type")) (xh_Crying : PySem.W.hasDictIn K C_Crying = true)
    (xa_Same : PySem.W.nsIn K mainGlobals "Same" = some (some (.ref C_Same)))
    (xb_Same : PySem.W.subIn K (.ref C_Same) (.type "BaseException") = some true) (xt_Same : PySem.W.typeIn K (.ref C_Same) = some (.type "type")) (xh_Same : PySem.W.hasDictIn K C_Same = true)
    (xa_Taken : PySem.W.nsIn K mainGlobals "Taken" = some (some (.ref C_Taken)))
    (xb_Taken : PySem.W.subIn K (.ref C_Taken) (.type "BaseException") = some true) (xt_Taken : PySem.W.typeIn K (.ref C_Taken) = some (.type "type")) (xh_Taken : PySem.W.hasDictIn K C_Taken = true)
    (xa_NoSuch : PySem.W.nsIn K mainGlobals "NoSuch" = some (some (.ref C_NoSuch)))
    (xb_NoSuch : PySem.W.subIn K (.ref C_NoSuch) (.type "BaseException") = some true) (xt_NoSuch : PySem.W.typeIn K (.ref C_NoSuch) = some (.type "type")) (xh_NoSuch : PySem.W.hasDictIn K C_NoSuch = true)
    (xa_TooMany : PySem.W.nsIn K mainGlobals "TooMany" = some (some (.ref C_TooMany)))
    (xb_TooMany : PySem.W.subIn K (.ref C_TooMany) (.type "BaseException") = some true) (xt_TooMany : PySem.W.typeIn K (.ref C_TooMany) = some (.type "type")) (xh_TooMany : PySem.W.hasDictIn K C_TooMany = true)
    (xa_Crowded : PySem.W.nsIn K mainGlobals "Crowded" = some (some (.ref C_Crowded)))
    (xb_Crowded : PySem.W.subIn K (.ref C_Crowded) (.type "BaseException") = some true) (xt_Crowded : PySem.W.typeIn K (.ref C_Crowded) = some (.type "type")) (xh_Crowded : PySem.W.hasDictIn K C_Crowded = true)
    (xa_NoBack : PySem.W.nsIn K mainGlobals "NoBack" = some (some (.ref C_NoBack)))
    (xb_NoBack : PySem.W.subIn K (.ref C_NoBack) (.type "BaseException") = some true) (xt_NoBack : PySem.W.typeIn K (.ref C_NoBack) = some (.type "type")) (xh_NoBack : PySem.W.hasDictIn K C_NoBack = true)
    (xa_NoCount : PySem.W.nsIn K mainGlobals "NoCount" = some (some (.ref C_NoCount)))
    (xb_NoCount : PySem.W.subIn K (.ref C_NoCount) (.type "BaseException") = some true) (xt_NoCount : PySem.W.typeIn K (.ref C_NoCount) = some (.type "type")) (xh_NoCount : PySem.W.hasDictIn K C_NoCount = true)
    (xa_NoCries : PySem.W.nsIn K mainGlobals "NoCries" = some (some (.ref C_NoCries)))
    (xb_NoCries : PySem.W.subIn K (.ref C_NoCries) (.type "BaseException") = some true) (xt_NoCries : PySem.W.typeIn K (.ref C_NoCries) = some (.type "type")) (xh_NoCries : PySem.W.hasDictIn K C_NoCries = true)
    (xa_NoLength : PySem.W.nsIn K mainGlobals "NoLength" = some (some (.ref C_NoLength)))
    (xb_NoLength : PySem.W.subIn K (.ref C_NoLength) (.type "BaseException") = some true) (xt_NoLength : PySem.W.typeIn K (.ref C_NoLength) = some (.type "type")) (xh_NoLength : PySem.W.hasDictIn K C_NoLength = true)
    (xa_NoPlace : PySem.W.nsIn K mainGlobals "NoPlace" = some (some (.ref C_NoPlace)))
    (xb_NoPlace : PySem.W.subIn K (.ref C_NoPlace) (.type "BaseException") = some true) (xt_NoPlace : PySem.W.typeIn K (.ref C_NoPlace) = some (.type "type")) (xh_NoPlace : PySem.W.hasDictIn K C_NoPlace = true)
    (xa_NoRow : PySem.W.nsIn K mainGlobals "NoRow" = some (some (.ref C_NoRow)))
    (xb_NoRow : PySem.W.subIn K (.ref C_NoRow) (.type "BaseException") = some true) (xt_NoRow : PySem.W.typeIn K (.ref C_NoRow) = some (.type "type")) (xh_NoRow : PySem.W.hasDictIn K C_NoRow = true)
    (xa_NoState : PySem.W.nsIn K mainGlobals "NoState" = some (some (.ref C_NoState)))
    (xb_NoState : PySem.W.subIn K (.ref C_NoState) (.type "BaseException") = some true) (xt_NoState : PySem.W.typeIn K (.ref C_NoState) = some (.type "type")) (xh_NoState : PySem.W.hasDictIn K C_NoState = true)
    (xa_WebError : PySem.W.nsIn K mainGlobals "WebError" = some (some (.ref C_WebError)))
    (xb_WebError : PySem.W.subIn K (.ref C_WebError) (.type "BaseException") = some true) (xt_WebError : PySem.W.typeIn K (.ref C_WebError) = some (.type "type")) (xh_WebError : PySem.W.hasDictIn K C_WebError = true)
    (xi_NoWeb : PySem.W.excInitIn K C_NoWeb [.type "ValueError", .type "Exception", .type "BaseException", .type "object"] "ValueError.__new__" = true) (xo_NoWeb : PySem.W.excOver K C_NoWeb [.type "ValueError", .type "Exception", .type "BaseException", .type "object"] = true) (xs_NoWeb : PySem.W.findIn K (.ref C_NoWeb) "__setattr__" = some (some (.builtin "object.__setattr__"))) (xk_NoWeb : PySem.W.keepIn K (.ref C_NoWeb) = true)
    (xn0_NoWeb : PySem.W.takerIn K C_NoWeb "what" = some none)
    (xn1_NoWeb : PySem.W.takerIn K C_NoWeb "who" = some none)
    {xf_NoWeb : Addr} {xod_NoWeb xan_NoWeb : Option Addr} {xsl_NoWeb : Array (Option Value)} {xoc_NoWeb xkV_NoWeb xdc_NoWeb xpm_NoWeb xcd_NoWeb xct_NoWeb : Value}
    (xF_NoWeb : PySem.W.findIn K (.ref C_NoWeb) "__init__" = some (some (.ref xf_NoWeb))) (xy_NoWeb : PySem.W.typeIn K (.ref xf_NoWeb) = some (.type "function")) (xl_NoWeb : K.lookup xf_NoWeb = some ⟨xoc_NoWeb, xod_NoWeb, .func (PySem.W.fnOf "__init__" "NoWeb.__init__" (defArgs (inClass (top 2) 0)) (defBody (inClass (top 2) 0)) (defScope (inClass (top 2) 0)) .none xkV_NoWeb xdc_NoWeb xpm_NoWeb xan_NoWeb xcd_NoWeb xct_NoWeb), xsl_NoWeb⟩) (xc_NoWeb : PySem.W.codeIn K xcd_NoWeb "NoWeb.__init__" = true) (xq_NoWeb : PySem.W.keepIn K (.ref xf_NoWeb) = true)
    (xi_NoName : PySem.W.excInitIn K C_NoName [.type "ValueError", .type "Exception", .type "BaseException", .type "object"] "ValueError.__new__" = true) (xo_NoName : PySem.W.excOver K C_NoName [.type "ValueError", .type "Exception", .type "BaseException", .type "object"] = true) (xs_NoName : PySem.W.findIn K (.ref C_NoName) "__setattr__" = some (some (.builtin "object.__setattr__"))) (xk_NoName : PySem.W.keepIn K (.ref C_NoName) = true)
    (xn0_NoName : PySem.W.takerIn K C_NoName "who" = some none)
    {xf_NoName : Addr} {xod_NoName xan_NoName : Option Addr} {xsl_NoName : Array (Option Value)} {xoc_NoName xkV_NoName xdc_NoName xpm_NoName xcd_NoName xct_NoName : Value}
    (xF_NoName : PySem.W.findIn K (.ref C_NoName) "__init__" = some (some (.ref xf_NoName))) (xy_NoName : PySem.W.typeIn K (.ref xf_NoName) = some (.type "function")) (xl_NoName : K.lookup xf_NoName = some ⟨xoc_NoName, xod_NoName, .func (PySem.W.fnOf "__init__" "NoName.__init__" (defArgs (inClass (top 10) 0)) (defBody (inClass (top 10) 0)) (defScope (inClass (top 10) 0)) .none xkV_NoName xdc_NoName xpm_NoName xan_NoName xcd_NoName xct_NoName), xsl_NoName⟩) (xc_NoName : PySem.W.codeIn K xcd_NoName "NoName.__init__" = true) (xq_NoName : PySem.W.keepIn K (.ref xf_NoName) = true)
    (xi_NoPaper : PySem.W.excInitIn K C_NoPaper [.type "ValueError", .type "Exception", .type "BaseException", .type "object"] "ValueError.__new__" = true) (xo_NoPaper : PySem.W.excOver K C_NoPaper [.type "ValueError", .type "Exception", .type "BaseException", .type "object"] = true) (xs_NoPaper : PySem.W.findIn K (.ref C_NoPaper) "__setattr__" = some (some (.builtin "object.__setattr__"))) (xk_NoPaper : PySem.W.keepIn K (.ref C_NoPaper) = true)
    (xn0_NoPaper : PySem.W.takerIn K C_NoPaper "row" = some none)
    {xf_NoPaper : Addr} {xod_NoPaper xan_NoPaper : Option Addr} {xsl_NoPaper : Array (Option Value)} {xoc_NoPaper xkV_NoPaper xdc_NoPaper xpm_NoPaper xcd_NoPaper xct_NoPaper : Value}
    (xF_NoPaper : PySem.W.findIn K (.ref C_NoPaper) "__init__" = some (some (.ref xf_NoPaper))) (xy_NoPaper : PySem.W.typeIn K (.ref xf_NoPaper) = some (.type "function")) (xl_NoPaper : K.lookup xf_NoPaper = some ⟨xoc_NoPaper, xod_NoPaper, .func (PySem.W.fnOf "__init__" "NoPaper.__init__" (defArgs (inClass (top 5) 0)) (defBody (inClass (top 5) 0)) (defScope (inClass (top 5) 0)) .none xkV_NoPaper xdc_NoPaper xpm_NoPaper xan_NoPaper xcd_NoPaper xct_NoPaper), xsl_NoPaper⟩) (xc_NoPaper : PySem.W.codeIn K xcd_NoPaper "NoPaper.__init__" = true) (xq_NoPaper : PySem.W.keepIn K (.ref xf_NoPaper) = true)
    (xi_NoWalk : PySem.W.excInitIn K C_NoWalk [.type "ValueError", .type "Exception", .type "BaseException", .type "object"] "ValueError.__new__" = true) (xo_NoWalk : PySem.W.excOver K C_NoWalk [.type "ValueError", .type "Exception", .type "BaseException", .type "object"] = true) (xs_NoWalk : PySem.W.findIn K (.ref C_NoWalk) "__setattr__" = some (some (.builtin "object.__setattr__"))) (xk_NoWalk : PySem.W.keepIn K (.ref C_NoWalk) = true)
    (xn0_NoWalk : PySem.W.takerIn K C_NoWalk "number" = some none)
    {xf_NoWalk : Addr} {xod_NoWalk xan_NoWalk : Option Addr} {xsl_NoWalk : Array (Option Value)} {xoc_NoWalk xkV_NoWalk xdc_NoWalk xpm_NoWalk xcd_NoWalk xct_NoWalk : Value}
    (xF_NoWalk : PySem.W.findIn K (.ref C_NoWalk) "__init__" = some (some (.ref xf_NoWalk))) (xy_NoWalk : PySem.W.typeIn K (.ref xf_NoWalk) = some (.type "function")) (xl_NoWalk : K.lookup xf_NoWalk = some ⟨xoc_NoWalk, xod_NoWalk, .func (PySem.W.fnOf "__init__" "NoWalk.__init__" (defArgs (inClass (top 4) 0)) (defBody (inClass (top 4) 0)) (defScope (inClass (top 4) 0)) .none xkV_NoWalk xdc_NoWalk xpm_NoWalk xan_NoWalk xcd_NoWalk xct_NoWalk), xsl_NoWalk⟩) (xc_NoWalk : PySem.W.codeIn K xcd_NoWalk "NoWalk.__init__" = true) (xq_NoWalk : PySem.W.keepIn K (.ref xf_NoWalk) = true)
    (xi_NoText : PySem.W.excInitIn K C_NoText [.type "ValueError", .type "Exception", .type "BaseException", .type "object"] "ValueError.__new__" = true) (xo_NoText : PySem.W.excOver K C_NoText [.type "ValueError", .type "Exception", .type "BaseException", .type "object"] = true) (xs_NoText : PySem.W.findIn K (.ref C_NoText) "__setattr__" = some (some (.builtin "object.__setattr__"))) (xk_NoText : PySem.W.keepIn K (.ref C_NoText) = true)
    (xn0_NoText : PySem.W.takerIn K C_NoText "row" = some none)
    {xf_NoText : Addr} {xod_NoText xan_NoText : Option Addr} {xsl_NoText : Array (Option Value)} {xoc_NoText xkV_NoText xdc_NoText xpm_NoText xcd_NoText xct_NoText : Value}
    (xF_NoText : PySem.W.findIn K (.ref C_NoText) "__init__" = some (some (.ref xf_NoText))) (xy_NoText : PySem.W.typeIn K (.ref xf_NoText) = some (.type "function")) (xl_NoText : K.lookup xf_NoText = some ⟨xoc_NoText, xod_NoText, .func (PySem.W.fnOf "__init__" "NoText.__init__" (defArgs (inClass (top 3) 0)) (defBody (inClass (top 3) 0)) (defScope (inClass (top 3) 0)) .none xkV_NoText xdc_NoText xpm_NoText xan_NoText xcd_NoText xct_NoText), xsl_NoText⟩) (xc_NoText : PySem.W.codeIn K xcd_NoText "NoText.__init__" = true) (xq_NoText : PySem.W.keepIn K (.ref xf_NoText) = true)
    (xi_Endless : PySem.W.excInitIn K C_Endless [.type "RuntimeError", .type "Exception", .type "BaseException", .type "object"] "RuntimeError.__new__" = true) (xo_Endless : PySem.W.excOver K C_Endless [.type "RuntimeError", .type "Exception", .type "BaseException", .type "object"] = true) (xs_Endless : PySem.W.findIn K (.ref C_Endless) "__setattr__" = some (some (.builtin "object.__setattr__"))) (xk_Endless : PySem.W.keepIn K (.ref C_Endless) = true)
    (xn0_Endless : PySem.W.takerIn K C_Endless "who" = some none)
    {xf_Endless : Addr} {xod_Endless xan_Endless : Option Addr} {xsl_Endless : Array (Option Value)} {xoc_Endless xkV_Endless xdc_Endless xpm_Endless xcd_Endless xct_Endless : Value}
    (xF_Endless : PySem.W.findIn K (.ref C_Endless) "__init__" = some (some (.ref xf_Endless))) (xy_Endless : PySem.W.typeIn K (.ref xf_Endless) = some (.type "function")) (xl_Endless : K.lookup xf_Endless = some ⟨xoc_Endless, xod_Endless, .func (PySem.W.fnOf "__init__" "Endless.__init__" (defArgs (inClass (top 19) 0)) (defBody (inClass (top 19) 0)) (defScope (inClass (top 19) 0)) .none xkV_Endless xdc_Endless xpm_Endless xan_Endless xcd_Endless xct_Endless), xsl_Endless⟩) (xc_Endless : PySem.W.codeIn K xcd_Endless "Endless.__init__" = true) (xq_Endless : PySem.W.keepIn K (.ref xf_Endless) = true)
    (xi_Alone : PySem.W.excInitIn K C_Alone [.type "RuntimeError", .type "Exception", .type "BaseException", .type "object"] "RuntimeError.__new__" = true) (xo_Alone : PySem.W.excOver K C_Alone [.type "RuntimeError", .type "Exception", .type "BaseException", .type "object"] = true) (xs_Alone : PySem.W.findIn K (.ref C_Alone) "__setattr__" = some (some (.builtin "object.__setattr__"))) (xk_Alone : PySem.W.keepIn K (.ref C_Alone) = true)
    (xn0_Alone : PySem.W.takerIn K C_Alone "who" = some none)
    {xf_Alone : Addr} {xod_Alone xan_Alone : Option Addr} {xsl_Alone : Array (Option Value)} {xoc_Alone xkV_Alone xdc_Alone xpm_Alone xcd_Alone xct_Alone : Value}
    (xF_Alone : PySem.W.findIn K (.ref C_Alone) "__init__" = some (some (.ref xf_Alone))) (xy_Alone : PySem.W.typeIn K (.ref xf_Alone) = some (.type "function")) (xl_Alone : K.lookup xf_Alone = some ⟨xoc_Alone, xod_Alone, .func (PySem.W.fnOf "__init__" "Alone.__init__" (defArgs (inClass (top 18) 0)) (defBody (inClass (top 18) 0)) (defScope (inClass (top 18) 0)) .none xkV_Alone xdc_Alone xpm_Alone xan_Alone xcd_Alone xct_Alone), xsl_Alone⟩) (xc_Alone : PySem.W.codeIn K xcd_Alone "Alone.__init__" = true) (xq_Alone : PySem.W.keepIn K (.ref xf_Alone) = true)
    (xi_Crying : PySem.W.excInitIn K C_Crying [.type "RuntimeError", .type "Exception", .type "BaseException", .type "object"] "RuntimeError.__new__" = true) (xo_Crying : PySem.W.excOver K C_Crying [.type "RuntimeError", .type "Exception", .type "BaseException", .type "object"] = true) (xs_Crying : PySem.W.findIn K (.ref C_Crying) "__setattr__" = some (some (.builtin "object.__setattr__"))) (xk_Crying : PySem.W.keepIn K (.ref C_Crying) = true)
    (xn0_Crying : PySem.W.takerIn K C_Crying "who" = some none)
    {xf_Crying : Addr} {xod_Crying xan_Crying : Option Addr} {xsl_Crying : Array (Option Value)} {xoc_Crying xkV_Crying xdc_Crying xpm_Crying xcd_Crying xct_Crying : Value}
    (xF_Crying : PySem.W.findIn K (.ref C_Crying) "__init__" = some (some (.ref xf_Crying))) (xy_Crying : PySem.W.typeIn K (.ref xf_Crying) = some (.type "function")) (xl_Crying : K.lookup xf_Crying = some ⟨xoc_Crying, xod_Crying, .func (PySem.W.fnOf "__init__" "Crying.__init__" (defArgs (inClass (top 17) 0)) (defBody (inClass (top 17) 0)) (defScope (inClass (top 17) 0)) .none xkV_Crying xdc_Crying xpm_Crying xan_Crying xcd_Crying xct_Crying), xsl_Crying⟩) (xc_Crying : PySem.W.codeIn K xcd_Crying "Crying.__init__" = true) (xq_Crying : PySem.W.keepIn K (.ref xf_Crying) = true)
    (xi_Same : PySem.W.excInitIn K C_Same [.type "RuntimeError", .type "Exception", .type "BaseException", .type "object"] "RuntimeError.__new__" = true) (xo_Same : PySem.W.excOver K C_Same [.type "RuntimeError", .type "Exception", .type "BaseException", .type "object"] = true) (xs_Same : PySem.W.findIn K (.ref C_Same) "__setattr__" = some (some (.builtin "object.__setattr__"))) (xk_Same : PySem.W.keepIn K (.ref C_Same) = true)
    (xn0_Same : PySem.W.takerIn K C_Same "who" = some none)
    {xf_Same : Addr} {xod_Same xan_Same : Option Addr} {xsl_Same : Array (Option Value)} {xoc_Same xkV_Same xdc_Same xpm_Same xcd_Same xct_Same : Value}
    (xF_Same : PySem.W.findIn K (.ref C_Same) "__init__" = some (some (.ref xf_Same))) (xy_Same : PySem.W.typeIn K (.ref xf_Same) = some (.type "function")) (xl_Same : K.lookup xf_Same = some ⟨xoc_Same, xod_Same, .func (PySem.W.fnOf "__init__" "Same.__init__" (defArgs (inClass (top 16) 0)) (defBody (inClass (top 16) 0)) (defScope (inClass (top 16) 0)) .none xkV_Same xdc_Same xpm_Same xan_Same xcd_Same xct_Same), xsl_Same⟩) (xc_Same : PySem.W.codeIn K xcd_Same "Same.__init__" = true) (xq_Same : PySem.W.keepIn K (.ref xf_Same) = true)
    (xi_Taken : PySem.W.excInitIn K C_Taken [.type "RuntimeError", .type "Exception", .type "BaseException", .type "object"] "RuntimeError.__new__" = true) (xo_Taken : PySem.W.excOver K C_Taken [.type "RuntimeError", .type "Exception", .type "BaseException", .type "object"] = true) (xs_Taken : PySem.W.findIn K (.ref C_Taken) "__setattr__" = some (some (.builtin "object.__setattr__"))) (xk_Taken : PySem.W.keepIn K (.ref C_Taken) = true)
    (xn0_Taken : PySem.W.takerIn K C_Taken "who" = some none)
    {xf_Taken : Addr} {xod_Taken xan_Taken : Option Addr} {xsl_Taken : Array (Option Value)} {xoc_Taken xkV_Taken xdc_Taken xpm_Taken xcd_Taken xct_Taken : Value}
    (xF_Taken : PySem.W.findIn K (.ref C_Taken) "__init__" = some (some (.ref xf_Taken))) (xy_Taken : PySem.W.typeIn K (.ref xf_Taken) = some (.type "function")) (xl_Taken : K.lookup xf_Taken = some ⟨xoc_Taken, xod_Taken, .func (PySem.W.fnOf "__init__" "Taken.__init__" (defArgs (inClass (top 15) 0)) (defBody (inClass (top 15) 0)) (defScope (inClass (top 15) 0)) .none xkV_Taken xdc_Taken xpm_Taken xan_Taken xcd_Taken xct_Taken), xsl_Taken⟩) (xc_Taken : PySem.W.codeIn K xcd_Taken "Taken.__init__" = true) (xq_Taken : PySem.W.keepIn K (.ref xf_Taken) = true)
    (xi_NoSuch : PySem.W.excInitIn K C_NoSuch [.type "LookupError", .type "Exception", .type "BaseException", .type "object"] "LookupError.__new__" = true) (xo_NoSuch : PySem.W.excOver K C_NoSuch [.type "LookupError", .type "Exception", .type "BaseException", .type "object"] = true) (xs_NoSuch : PySem.W.findIn K (.ref C_NoSuch) "__setattr__" = some (some (.builtin "object.__setattr__"))) (xk_NoSuch : PySem.W.keepIn K (.ref C_NoSuch) = true)
    (xn0_NoSuch : PySem.W.takerIn K C_NoSuch "who" = some none)
    {xf_NoSuch : Addr} {xod_NoSuch xan_NoSuch : Option Addr} {xsl_NoSuch : Array (Option Value)} {xoc_NoSuch xkV_NoSuch xdc_NoSuch xpm_NoSuch xcd_NoSuch xct_NoSuch : Value}
    (xF_NoSuch : PySem.W.findIn K (.ref C_NoSuch) "__init__" = some (some (.ref xf_NoSuch))) (xy_NoSuch : PySem.W.typeIn K (.ref xf_NoSuch) = some (.type "function")) (xl_NoSuch : K.lookup xf_NoSuch = some ⟨xoc_NoSuch, xod_NoSuch, .func (PySem.W.fnOf "__init__" "NoSuch.__init__" (defArgs (inClass (top 14) 0)) (defBody (inClass (top 14) 0)) (defScope (inClass (top 14) 0)) .none xkV_NoSuch xdc_NoSuch xpm_NoSuch xan_NoSuch xcd_NoSuch xct_NoSuch), xsl_NoSuch⟩) (xc_NoSuch : PySem.W.codeIn K xcd_NoSuch "NoSuch.__init__" = true) (xq_NoSuch : PySem.W.keepIn K (.ref xf_NoSuch) = true)
    (xi_TooMany : PySem.W.excInitIn K C_TooMany [.type "ArithmeticError", .type "Exception", .type "BaseException", .type "object"] "ArithmeticError.__new__" = true) (xo_TooMany : PySem.W.excOver K C_TooMany [.type "ArithmeticError", .type "Exception", .type "BaseException", .type "object"] = true) (xs_TooMany : PySem.W.findIn K (.ref C_TooMany) "__setattr__" = some (some (.builtin "object.__setattr__"))) (xk_TooMany : PySem.W.keepIn K (.ref C_TooMany) = true)
    (xn0_TooMany : PySem.W.takerIn K C_TooMany "limit" = some none)
    {xf_TooMany : Addr} {xod_TooMany xan_TooMany : Option Addr} {xsl_TooMany : Array (Option Value)} {xoc_TooMany xkV_TooMany xdc_TooMany xpm_TooMany xcd_TooMany xct_TooMany : Value}
    (xF_TooMany : PySem.W.findIn K (.ref C_TooMany) "__init__" = some (some (.ref xf_TooMany))) (xy_TooMany : PySem.W.typeIn K (.ref xf_TooMany) = some (.type "function")) (xl_TooMany : K.lookup xf_TooMany = some ⟨xoc_TooMany, xod_TooMany, .func (PySem.W.fnOf "__init__" "TooMany.__init__" (defArgs (inClass (top 21) 0)) (defBody (inClass (top 21) 0)) (defScope (inClass (top 21) 0)) .none xkV_TooMany xdc_TooMany xpm_TooMany xan_TooMany xcd_TooMany xct_TooMany), xsl_TooMany⟩) (xc_TooMany : PySem.W.codeIn K xcd_TooMany "TooMany.__init__" = true) (xq_TooMany : PySem.W.keepIn K (.ref xf_TooMany) = true)
    (xi_Crowded : PySem.W.excInitIn K C_Crowded [.type "ArithmeticError", .type "Exception", .type "BaseException", .type "object"] "ArithmeticError.__new__" = true) (xo_Crowded : PySem.W.excOver K C_Crowded [.type "ArithmeticError", .type "Exception", .type "BaseException", .type "object"] = true) (xs_Crowded : PySem.W.findIn K (.ref C_Crowded) "__setattr__" = some (some (.builtin "object.__setattr__"))) (xk_Crowded : PySem.W.keepIn K (.ref C_Crowded) = true)
    (xn0_Crowded : PySem.W.takerIn K C_Crowded "most" = some none)
    {xf_Crowded : Addr} {xod_Crowded xan_Crowded : Option Addr} {xsl_Crowded : Array (Option Value)} {xoc_Crowded xkV_Crowded xdc_Crowded xpm_Crowded xcd_Crowded xct_Crowded : Value}
    (xF_Crowded : PySem.W.findIn K (.ref C_Crowded) "__init__" = some (some (.ref xf_Crowded))) (xy_Crowded : PySem.W.typeIn K (.ref xf_Crowded) = some (.type "function")) (xl_Crowded : K.lookup xf_Crowded = some ⟨xoc_Crowded, xod_Crowded, .func (PySem.W.fnOf "__init__" "Crowded.__init__" (defArgs (inClass (top 20) 0)) (defBody (inClass (top 20) 0)) (defScope (inClass (top 20) 0)) .none xkV_Crowded xdc_Crowded xpm_Crowded xan_Crowded xcd_Crowded xct_Crowded), xsl_Crowded⟩) (xc_Crowded : PySem.W.codeIn K xcd_Crowded "Crowded.__init__" = true) (xq_Crowded : PySem.W.keepIn K (.ref xf_Crowded) = true)
    (x0i_NoBack : PySem.W.excIn K C_NoBack [.type "ValueError", .type "Exception", .type "BaseException", .type "object"] "ValueError.__new__" = true) (x0k_NoBack : PySem.W.keepIn K (.ref C_NoBack) = true)
    (x0i_NoCount : PySem.W.excIn K C_NoCount [.type "ValueError", .type "Exception", .type "BaseException", .type "object"] "ValueError.__new__" = true) (x0k_NoCount : PySem.W.keepIn K (.ref C_NoCount) = true)
    (x0i_NoCries : PySem.W.excIn K C_NoCries [.type "ValueError", .type "Exception", .type "BaseException", .type "object"] "ValueError.__new__" = true) (x0k_NoCries : PySem.W.keepIn K (.ref C_NoCries) = true)
    (x0i_NoLength : PySem.W.excIn K C_NoLength [.type "ValueError", .type "Exception", .type "BaseException", .type "object"] "ValueError.__new__" = true) (x0k_NoLength : PySem.W.keepIn K (.ref C_NoLength) = true)
    (x0i_NoPlace : PySem.W.excIn K C_NoPlace [.type "ValueError", .type "Exception", .type "BaseException", .type "object"] "ValueError.__new__" = true) (x0k_NoPlace : PySem.W.keepIn K (.ref C_NoPlace) = true)
    (x0i_NoRow : PySem.W.excIn K C_NoRow [.type "ValueError", .type "Exception", .type "BaseException", .type "object"] "ValueError.__new__" = true) (x0k_NoRow : PySem.W.keepIn K (.ref C_NoRow) = true)
    (x0i_NoState : PySem.W.excIn K C_NoState [.type "ValueError", .type "Exception", .type "BaseException", .type "object"] "ValueError.__new__" = true) (x0k_NoState : PySem.W.keepIn K (.ref C_NoState) = true)
    (x0i_WebError : PySem.W.excIn K C_WebError [.type "ValueError", .type "Exception", .type "BaseException", .type "object"] "ValueError.__new__" = true) (x0k_WebError : PySem.W.keepIn K (.ref C_WebError) = true)
    {xD_WebError : Addr} {xM_WebError : Value} (xga_WebError : PySem.W.nsIn K mainGlobals "WebError" = some (some (.ref xD_WebError))) (xgs_WebError : PySem.W.specialIn K (.ref xD_WebError) "__getattribute__" = some (some (.builtin "type.__getattribute__"))) (xgt_WebError : PySem.W.typeIn K (.ref xD_WebError) = some xM_WebError) (xgr_WebError : PySem.W.readsIn K xD_WebError xM_WebError = true) (xgf_WebError : PySem.W.findCls K (.ref xD_WebError) xM_WebError "__init__" = some (.val (.builtin "ValueError.__init__")))
    (xga_RuntimeError : PySem.W.nsIn K mainGlobals "RuntimeError" = some none) (xgf_RuntimeError : PySem.W.findCls K (.type "RuntimeError") (.type "type") "__init__" = some (.val (.builtin "RuntimeError.__init__")))
    (xga_LookupError : PySem.W.nsIn K mainGlobals "LookupError" = some none) (xgf_LookupError : PySem.W.findCls K (.type "LookupError") (.type "type") "__init__" = some (.val (.builtin "LookupError.__init__")))
    (xga_ArithmeticError : PySem.W.nsIn K mainGlobals "ArithmeticError" = some none) (xgf_ArithmeticError : PySem.W.findCls K (.type "ArithmeticError") (.type "type") "__init__" = some (.val (.builtin "ArithmeticError.__init__")))
    (qn_ : PySem.W.specialIn K (.builtin "object.__class__") "__get__" = some (some (.builtin "getset_descriptor.__get__"))) (qt_ : PySem.W.takesIn K (.builtin "object.__class__") = some true)
    (qg_NoWeb : PySem.W.findIn K (.ref C_NoWeb) "__getattribute__" = some (some (.builtin "BaseException.__getattribute__"))) (qk_NoWeb : PySem.W.findIn K (.ref C_NoWeb) "__getattr__" = some none) (qa_NoWeb : PySem.W.findIn K (.ref C_NoWeb) "__class__" = some (some (.builtin "object.__class__"))) (qm_NoWeb : PySem.W.mroIn K C_NoWeb (.type "object") = some true)
    (qg_NoText : PySem.W.findIn K (.ref C_NoText) "__getattribute__" = some (some (.builtin "BaseException.__getattribute__"))) (qk_NoText : PySem.W.findIn K (.ref C_NoText) "__getattr__" = some none) (qa_NoText : PySem.W.findIn K (.ref C_NoText) "__class__" = some (some (.builtin "object.__class__"))) (qm_NoText : PySem.W.mroIn K C_NoText (.type "object") = some true)
    (qg_NoWalk : PySem.W.findIn K (.ref C_NoWalk) "__getattribute__" = some (some (.builtin "BaseException.__getattribute__"))) (qk_NoWalk : PySem.W.findIn K (.ref C_NoWalk) "__getattr__" = some none) (qa_NoWalk : PySem.W.findIn K (.ref C_NoWalk) "__class__" = some (some (.builtin "object.__class__"))) (qm_NoWalk : PySem.W.mroIn K C_NoWalk (.type "object") = some true)
    (qg_NoPaper : PySem.W.findIn K (.ref C_NoPaper) "__getattribute__" = some (some (.builtin "BaseException.__getattribute__"))) (qk_NoPaper : PySem.W.findIn K (.ref C_NoPaper) "__getattr__" = some none) (qa_NoPaper : PySem.W.findIn K (.ref C_NoPaper) "__class__" = some (some (.builtin "object.__class__"))) (qm_NoPaper : PySem.W.mroIn K C_NoPaper (.type "object") = some true)
    (qg_NoName : PySem.W.findIn K (.ref C_NoName) "__getattribute__" = some (some (.builtin "BaseException.__getattribute__"))) (qk_NoName : PySem.W.findIn K (.ref C_NoName) "__getattr__" = some none) (qa_NoName : PySem.W.findIn K (.ref C_NoName) "__class__" = some (some (.builtin "object.__class__"))) (qm_NoName : PySem.W.mroIn K C_NoName (.type "object") = some true)
    (qg_NoSuch : PySem.W.findIn K (.ref C_NoSuch) "__getattribute__" = some (some (.builtin "BaseException.__getattribute__"))) (qk_NoSuch : PySem.W.findIn K (.ref C_NoSuch) "__getattr__" = some none) (qa_NoSuch : PySem.W.findIn K (.ref C_NoSuch) "__class__" = some (some (.builtin "object.__class__"))) (qm_NoSuch : PySem.W.mroIn K C_NoSuch (.type "object") = some true)
    (qg_Taken : PySem.W.findIn K (.ref C_Taken) "__getattribute__" = some (some (.builtin "BaseException.__getattribute__"))) (qk_Taken : PySem.W.findIn K (.ref C_Taken) "__getattr__" = some none) (qa_Taken : PySem.W.findIn K (.ref C_Taken) "__class__" = some (some (.builtin "object.__class__"))) (qm_Taken : PySem.W.mroIn K C_Taken (.type "object") = some true)
    (qg_Same : PySem.W.findIn K (.ref C_Same) "__getattribute__" = some (some (.builtin "BaseException.__getattribute__"))) (qk_Same : PySem.W.findIn K (.ref C_Same) "__getattr__" = some none) (qa_Same : PySem.W.findIn K (.ref C_Same) "__class__" = some (some (.builtin "object.__class__"))) (qm_Same : PySem.W.mroIn K C_Same (.type "object") = some true)
    (qg_Crying : PySem.W.findIn K (.ref C_Crying) "__getattribute__" = some (some (.builtin "BaseException.__getattribute__"))) (qk_Crying : PySem.W.findIn K (.ref C_Crying) "__getattr__" = some none) (qa_Crying : PySem.W.findIn K (.ref C_Crying) "__class__" = some (some (.builtin "object.__class__"))) (qm_Crying : PySem.W.mroIn K C_Crying (.type "object") = some true)
    (qg_Alone : PySem.W.findIn K (.ref C_Alone) "__getattribute__" = some (some (.builtin "BaseException.__getattribute__"))) (qk_Alone : PySem.W.findIn K (.ref C_Alone) "__getattr__" = some none) (qa_Alone : PySem.W.findIn K (.ref C_Alone) "__class__" = some (some (.builtin "object.__class__"))) (qm_Alone : PySem.W.mroIn K C_Alone (.type "object") = some true)
    (qg_Endless : PySem.W.findIn K (.ref C_Endless) "__getattribute__" = some (some (.builtin "BaseException.__getattribute__"))) (qk_Endless : PySem.W.findIn K (.ref C_Endless) "__getattr__" = some none) (qa_Endless : PySem.W.findIn K (.ref C_Endless) "__class__" = some (some (.builtin "object.__class__"))) (qm_Endless : PySem.W.mroIn K C_Endless (.type "object") = some true)
    (qg_Crowded : PySem.W.findIn K (.ref C_Crowded) "__getattribute__" = some (some (.builtin "BaseException.__getattribute__"))) (qk_Crowded : PySem.W.findIn K (.ref C_Crowded) "__getattr__" = some none) (qa_Crowded : PySem.W.findIn K (.ref C_Crowded) "__class__" = some (some (.builtin "object.__class__"))) (qm_Crowded : PySem.W.mroIn K C_Crowded (.type "object") = some true)
    (qg_TooMany : PySem.W.findIn K (.ref C_TooMany) "__getattribute__" = some (some (.builtin "BaseException.__getattribute__"))) (qk_TooMany : PySem.W.findIn K (.ref C_TooMany) "__getattr__" = some none) (qa_TooMany : PySem.W.findIn K (.ref C_TooMany) "__class__" = some (some (.builtin "object.__class__"))) (qm_TooMany : PySem.W.mroIn K C_TooMany (.type "object") = some true)
    (qg_NoCount : PySem.W.findIn K (.ref C_NoCount) "__getattribute__" = some (some (.builtin "BaseException.__getattribute__"))) (qk_NoCount : PySem.W.findIn K (.ref C_NoCount) "__getattr__" = some none) (qa_NoCount : PySem.W.findIn K (.ref C_NoCount) "__class__" = some (some (.builtin "object.__class__"))) (qm_NoCount : PySem.W.mroIn K C_NoCount (.type "object") = some true)
    (qg_NoPlace : PySem.W.findIn K (.ref C_NoPlace) "__getattribute__" = some (some (.builtin "BaseException.__getattribute__"))) (qk_NoPlace : PySem.W.findIn K (.ref C_NoPlace) "__getattr__" = some none) (qa_NoPlace : PySem.W.findIn K (.ref C_NoPlace) "__class__" = some (some (.builtin "object.__class__"))) (qm_NoPlace : PySem.W.mroIn K C_NoPlace (.type "object") = some true)
    (qg_NoState : PySem.W.findIn K (.ref C_NoState) "__getattribute__" = some (some (.builtin "BaseException.__getattribute__"))) (qk_NoState : PySem.W.findIn K (.ref C_NoState) "__getattr__" = some none) (qa_NoState : PySem.W.findIn K (.ref C_NoState) "__class__" = some (some (.builtin "object.__class__"))) (qm_NoState : PySem.W.mroIn K C_NoState (.type "object") = some true)
    (qg_NoLength : PySem.W.findIn K (.ref C_NoLength) "__getattribute__" = some (some (.builtin "BaseException.__getattribute__"))) (qk_NoLength : PySem.W.findIn K (.ref C_NoLength) "__getattr__" = some none) (qa_NoLength : PySem.W.findIn K (.ref C_NoLength) "__class__" = some (some (.builtin "object.__class__"))) (qm_NoLength : PySem.W.mroIn K C_NoLength (.type "object") = some true)
    (qg_NoCries : PySem.W.findIn K (.ref C_NoCries) "__getattribute__" = some (some (.builtin "BaseException.__getattribute__"))) (qk_NoCries : PySem.W.findIn K (.ref C_NoCries) "__getattr__" = some none) (qa_NoCries : PySem.W.findIn K (.ref C_NoCries) "__class__" = some (some (.builtin "object.__class__"))) (qm_NoCries : PySem.W.mroIn K C_NoCries (.type "object") = some true)
    (qg_NoBack : PySem.W.findIn K (.ref C_NoBack) "__getattribute__" = some (some (.builtin "BaseException.__getattribute__"))) (qk_NoBack : PySem.W.findIn K (.ref C_NoBack) "__getattr__" = some none) (qa_NoBack : PySem.W.findIn K (.ref C_NoBack) "__class__" = some (some (.builtin "object.__class__"))) (qm_NoBack : PySem.W.mroIn K C_NoBack (.type "object") = some true)
    (qg_NoRow : PySem.W.findIn K (.ref C_NoRow) "__getattribute__" = some (some (.builtin "BaseException.__getattribute__"))) (qk_NoRow : PySem.W.findIn K (.ref C_NoRow) "__getattr__" = some none) (qa_NoRow : PySem.W.findIn K (.ref C_NoRow) "__class__" = some (some (.builtin "object.__class__"))) (qm_NoRow : PySem.W.mroIn K C_NoRow (.type "object") = some true)
    (qg_WebError : PySem.W.findIn K (.ref C_WebError) "__getattribute__" = some (some (.builtin "BaseException.__getattribute__"))) (qk_WebError : PySem.W.findIn K (.ref C_WebError) "__getattr__" = some none) (qa_WebError : PySem.W.findIn K (.ref C_WebError) "__class__" = some (some (.builtin "object.__class__"))) (qm_WebError : PySem.W.mroIn K C_WebError (.type "object") = some true)
    (qa1_ : isoTab K [("NoWeb", C_NoWeb), ("NoText", C_NoText), ("NoWalk", C_NoWalk), ("NoPaper", C_NoPaper), ("NoName", C_NoName), ("NoSuch", C_NoSuch), ("Taken", C_Taken), ("Same", C_Same), ("Crying", C_Crying), ("Alone", C_Alone), ("Endless", C_Endless), ("Crowded", C_Crowded), ("TooMany", C_TooMany), ("NoCount", C_NoCount), ("NoPlace", C_NoPlace), ("NoState", C_NoState), ("NoLength", C_NoLength), ("NoCries", C_NoCries), ("NoBack", C_NoBack), ("NoRow", C_NoRow), ("WebError", C_WebError)] tab_Xv = true) (qa2_ : istTab K [("NoWeb", C_NoWeb), ("NoText", C_NoText), ("NoWalk", C_NoWalk), ("NoPaper", C_NoPaper), ("NoName", C_NoName), ("NoSuch", C_NoSuch), ("Taken", C_Taken), ("Same", C_Same), ("Crying", C_Crying), ("Alone", C_Alone), ("Endless", C_Endless), ("Crowded", C_Crowded), ("TooMany", C_TooMany), ("NoCount", C_NoCount), ("NoPlace", C_NoPlace), ("NoState", C_NoState), ("NoLength", C_NoLength), ("NoCries", C_NoCries), ("NoBack", C_NoBack), ("NoRow", C_NoRow), ("WebError", C_WebError)] tbt_Xv = true) (qa3_ : noTab K [("NoWeb", C_NoWeb), ("NoText", C_NoText), ("NoWalk", C_NoWalk), ("NoPaper", C_NoPaper), ("NoName", C_NoName), ("NoSuch", C_NoSuch), ("Taken", C_Taken), ("Same", C_Same), ("Crying", C_Crying), ("Alone", C_Alone), ("Endless", C_Endless), ("Crowded", C_Crowded), ("TooMany", C_TooMany), ("NoCount", C_NoCount), ("NoPlace", C_NoPlace), ("NoState", C_NoState), ("NoLength", C_NoLength), ("NoCries", C_NoCries), ("NoBack", C_NoBack), ("NoRow", C_NoRow), ("WebError", C_WebError)] ["what", "who", "row", "number", "most", "limit"] = true)
    (a0 : PySem.W.nsIn K mainGlobals "_law_pot" = some (some (.ref f0))) (l0 : K.lookup f0 = some ⟨oc0, od0, .func (PySem.W.fnOf "_law_pot" "_law_pot" (defArgs (top 23)) (defBody (top 23)) (defScope (top 23)) .none kV0 dc0 pm0 an0 cd0 ct0), sl0⟩) (c0 : PySem.W.codeIn K cd0 "_law_pot" = true) (k0 : PySem.W.keepIn K (.ref f0) = true)
    (a1 : PySem.W.nsIn K mainGlobals "_law_take" = some (some (.ref f1))) (l1 : K.lookup f1 = some ⟨oc1, od1, .func (PySem.W.fnOf "_law_take" "_law_take" (defArgs (top 24)) (defBody (top 24)) (defScope (top 24)) .none kV1 dc1 pm1 an1 cd1 ct1), sl1⟩) (c1 : PySem.W.codeIn K cd1 "_law_take" = true) (k1 : PySem.W.keepIn K (.ref f1) = true)
    (a2 : PySem.W.nsIn K mainGlobals "_law_among" = some (some (.ref f2))) (l2 : K.lookup f2 = some ⟨oc2, od2, .func (PySem.W.fnOf "_law_among" "_law_among" (defArgs (top 25)) (defBody (top 25)) (defScope (top 25)) .none kV2 dc2 pm2 an2 cd2 ct2), sl2⟩) (c2 : PySem.W.codeIn K cd2 "_law_among" = true) (k2 : PySem.W.keepIn K (.ref f2) = true)
    (a3 : PySem.W.nsIn K mainGlobals "_law_word" = some (some (.ref f3))) (l3 : K.lookup f3 = some ⟨oc3, od3, .func (PySem.W.fnOf "_law_word" "_law_word" (defArgs (top 26)) (defBody (top 26)) (defScope (top 26)) .none kV3 dc3 pm3 an3 cd3 ct3), sl3⟩) (c3 : PySem.W.codeIn K cd3 "_law_word" = true) (k3 : PySem.W.keepIn K (.ref f3) = true)
    (a4 : PySem.W.nsIn K mainGlobals "_law_thing" = some (some (.ref f4))) (l4 : K.lookup f4 = some ⟨oc4, od4, .func (PySem.W.fnOf "_law_thing" "_law_thing" (defArgs (top 27)) (defBody (top 27)) (defScope (top 27)) .none kV4 dc4 pm4 an4 cd4 ct4), sl4⟩) (c4 : PySem.W.codeIn K cd4 "_law_thing" = true) (k4 : PySem.W.keepIn K (.ref f4) = true)
    (a5 : PySem.W.nsIn K mainGlobals "_law_which" = some (some (.ref f5))) (l5 : K.lookup f5 = some ⟨oc5, od5, .func (PySem.W.fnOf "_law_which" "_law_which" (defArgs (top 28)) (defBody (top 28)) (defScope (top 28)) .none kV5 dc5 pm5 an5 cd5 ct5), sl5⟩) (c5 : PySem.W.codeIn K cd5 "_law_which" = true) (k5 : PySem.W.keepIn K (.ref f5) = true)
    (a6 : PySem.W.nsIn K mainGlobals "_law_bases" = some (some (.ref f6))) (l6 : K.lookup f6 = some ⟨oc6, od6, .func (PySem.W.fnOf "_law_bases" "_law_bases" (defArgs (top 29)) (defBody (top 29)) (defScope (top 29)) .none kV6 dc6 pm6 an6 cd6 ct6), sl6⟩) (c6 : PySem.W.codeIn K cd6 "_law_bases" = true) (k6 : PySem.W.keepIn K (.ref f6) = true)
    (a7 : PySem.W.nsIn K mainGlobals "_law_is" = some (some (.ref f7))) (l7 : K.lookup f7 = some ⟨oc7, od7, .func (PySem.W.fnOf "_law_is" "_law_is" (defArgs (top 30)) (defBody (top 30)) (defScope (top 30)) .none kV7 dc7 pm7 an7 cd7 ct7), sl7⟩) (c7 : PySem.W.codeIn K cd7 "_law_is" = true) (k7 : PySem.W.keepIn K (.ref f7) = true)
    (a8 : PySem.W.nsIn K mainGlobals "_law_webs_right" = some (some (.ref f8))) (l8 : K.lookup f8 = some ⟨oc8, od8, .func (PySem.W.fnOf "_law_webs_right" "_law_webs_right" (defArgs (top 31)) (defBody (top 31)) (defScope (top 31)) .none kV8 dc8 pm8 an8 cd8 ct8), sl8⟩) (c8 : PySem.W.codeIn K cd8 "_law_webs_right" = true) (k8 : PySem.W.keepIn K (.ref f8) = true)
    (a9 : PySem.W.nsIn K mainGlobals "_law_others_right" = some (some (.ref f9))) (l9 : K.lookup f9 = some ⟨oc9, od9, .func (PySem.W.fnOf "_law_others_right" "_law_others_right" (defArgs (top 32)) (defBody (top 32)) (defScope (top 32)) .none kV9 dc9 pm9 an9 cd9 ct9), sl9⟩) (c9 : PySem.W.codeIn K cd9 "_law_others_right" = true) (k9 : PySem.W.keepIn K (.ref f9) = true)
    (a10 : PySem.W.nsIn K mainGlobals "law" = some (some (.ref f10))) (l10 : K.lookup f10 = some ⟨oc10, od10, .func (PySem.W.fnOf "law" "law" (defArgs (top 33)) (defBody (top 33)) (defScope (top 33)) .none kV10 dc10 pm10 an10 cd10 ct10), sl10⟩) (c10 : PySem.W.codeIn K cd10 "law" = true) (k10 : PySem.W.keepIn K (.ref f10) = true)
    (z_ArithmeticError : PySem.W.nsIn K mainGlobals "ArithmeticError" = some none) (z_LookupError : PySem.W.nsIn K mainGlobals "LookupError" = some none) (z_RuntimeError : PySem.W.nsIn K mainGlobals "RuntimeError" = some none) (z_ValueError : PySem.W.nsIn K mainGlobals "ValueError" = some none) (z_abs : PySem.W.nsIn K mainGlobals "abs" = some none) (z_all : PySem.W.nsIn K mainGlobals "all" = some none) (z_divmod : PySem.W.nsIn K mainGlobals "divmod" = some none) (z_enumerate : PySem.W.nsIn K mainGlobals "enumerate" = some none) (z_isinstance : PySem.W.nsIn K mainGlobals "isinstance" = some none) (z_len : PySem.W.nsIn K mainGlobals "len" = some none) (z_max : PySem.W.nsIn K mainGlobals "max" = some none) (z_min : PySem.W.nsIn K mainGlobals "min" = some none) (z_range : PySem.W.nsIn K mainGlobals "range" = some none) (z_repr : PySem.W.nsIn K mainGlobals "repr" = some none) (z_zip : PySem.W.nsIn K mainGlobals "zip" = some none) :
    ∃ fd : FuncData, (∀ (s : Shared) (u : Value), BindsTo s fd ⟨[u], []⟩ [("_law_script", u)]) ∧ ∀ base : Heap, K.In base → base.Ns mainGlobals mg → FnG P w K mg base 5 fa fd ["_law_script"] (upSp K (mhOf P w mg) (lawSp 63)) := by
  have e := hfa.symm.trans (PySem.W.mg_of X G a10)
  cases e
  have tx0_NoBack : HasX0 K mg "NoBack" := ⟨C_NoBack, "ValueError", "ValueError.__new__", "ValueError.__init__", [.type "ValueError", .type "Exception", .type "BaseException", .type "object"], PySem.W.mg_of X G xa_NoBack, PySem.F.excBase_ValueError, x0i_NoBack, x0k_NoBack, xb_NoBack, xt_NoBack⟩
  have tx0_NoCount : HasX0 K mg "NoCount" := ⟨C_NoCount, "ValueError", "ValueError.__new__", "ValueError.__init__", [.type "ValueError", .type "Exception", .type "BaseException", .type "object"], PySem.W.mg_of X G xa_NoCount, PySem.F.excBase_ValueError, x0i_NoCount, x0k_NoCount, xb_NoCount, xt_NoCount⟩
  have tx0_NoCries : HasX0 K mg "NoCries" := ⟨C_NoCries, "ValueError", "ValueError.__new__", "ValueError.__init__", [.type "ValueError", .type "Exception", .type "BaseException", .type "object"], PySem.W.mg_of X G xa_NoCries, PySem.F.excBase_ValueError, x0i_NoCries, x0k_NoCries, xb_NoCries, xt_NoCries⟩
  have tx0_NoLength : HasX0 K mg "NoLength" := ⟨C_NoLength, "ValueError", "ValueError.__new__", "ValueError.__init__", [.type "ValueError", .type "Exception", .type "BaseException", .type "object"], PySem.W.mg_of X G xa_NoLength, PySem.F.excBase_ValueError, x0i_NoLength, x0k_NoLength, xb_NoLength, xt_NoLength⟩
  have tx0_NoPlace : HasX0 K mg "NoPlace" := ⟨C_NoPlace, "ValueError", "ValueError.__new__", "ValueError.__init__", [.type "ValueError", .type "Exception", .type "BaseException", .type "object"], PySem.W.mg_of X G xa_NoPlace, PySem.F.excBase_ValueError, x0i_NoPlace, x0k_NoPlace, xb_NoPlace, xt_NoPlace⟩
  have tx0_NoRow : HasX0 K mg "NoRow" := ⟨C_NoRow, "ValueError", "ValueError.__new__", "ValueError.__init__", [.type "ValueError", .type "Exception", .type "BaseException", .type "object"], PySem.W.mg_of X G xa_NoRow, PySem.F.excBase_ValueError, x0i_NoRow, x0k_NoRow, xb_NoRow, xt_NoRow⟩
  have tx0_NoState : HasX0 K mg "NoState" := ⟨C_NoState, "ValueError", "ValueError.__new__", "ValueError.__init__", [.type "ValueError", .type "Exception", .type "BaseException", .type "object"], PySem.W.mg_of X G xa_NoState, PySem.F.excBase_ValueError, x0i_NoState, x0k_NoState, xb_NoState, xt_NoState⟩
  have tx0_WebError : HasX0 K mg "WebError" := ⟨C_WebError, "ValueError", "ValueError.__new__", "ValueError.__init__", [.type "ValueError", .type "Exception", .type "BaseException", .type "object"], PySem.W.mg_of X G xa_WebError, PySem.F.excBase_ValueError, x0i_WebError, x0k_WebError, xb_WebError, xt_WebError⟩
  have tc_Xv : ∀ p ∈ ([("NoWeb", C_NoWeb), ("NoText", C_NoText), ("NoWalk", C_NoWalk), ("NoPaper", C_NoPaper), ("NoName", C_NoName), ("NoSuch", C_NoSuch), ("Taken", C_Taken), ("Same", C_Same), ("Crying", C_Crying), ("Alone", C_Alone), ("Endless", C_Endless), ("Crowded", C_Crowded), ("TooMany", C_TooMany), ("NoCount", C_NoCount), ("NoPlace", C_NoPlace), ("NoState", C_NoState), ("NoLength", C_NoLength), ("NoCries", C_NoCries), ("NoBack", C_NoBack), ("NoRow", C_NoRow), ("WebError", C_WebError)] : List (Str × Addr)), mg p.1 = some (.ref p.2) := List.forall_mem_cons.mpr ⟨PySem.W.mg_of X G xa_NoWeb, List.forall_mem_cons.mpr ⟨PySem.W.mg_of X G xa_NoText, List.forall_mem_cons.mpr ⟨PySem.W.mg_of X G xa_NoWalk, List.forall_mem_cons.mpr ⟨PySem.W.mg_of X G xa_NoPaper, List.forall_mem_cons.mpr ⟨PySem.W.mg_of X G xa_NoName, List.forall_mem_cons.mpr ⟨PySem.W.mg_of X G xa_NoSuch, List.forall_mem_cons.mpr ⟨PySem.W.mg_of X G xa_Taken, List.forall_mem_cons.mpr ⟨PySem.W.mg_of X G xa_Same, List.forall_mem_cons.mpr ⟨PySem.W.mg_of X G xa_Crying, List.forall_mem_cons.mpr ⟨PySem.W.mg_of X G xa_Alone, List.forall_mem_cons.mpr ⟨PySem.W.mg_of X G xa_Endless, List.forall_mem_cons.mpr ⟨PySem.W.mg_of X G xa_Crowded, List.forall_mem_cons.mpr ⟨PySem.W.mg_of X G xa_TooMany, List.forall_mem_cons.mpr ⟨PySem.W.mg_of X G xa_NoCount, List.forall_mem_cons.mpr ⟨PySem.W.mg_of X G xa_NoPlace, List.forall_mem_cons.mpr ⟨PySem.W.mg_of X G xa_NoState, List.forall_mem_cons.mpr ⟨PySem.W.mg_of X G xa_NoLength, List.forall_mem_cons.mpr ⟨PySem.W.mg_of X G xa_NoCries, List.forall_mem_cons.mpr ⟨PySem.W.mg_of X G xa_NoBack, List.forall_mem_cons.mpr ⟨PySem.W.mg_of X G xa_NoRow, List.forall_mem_cons.mpr ⟨PySem.W.mg_of X G xa_WebError, fun _ h => nomatch h⟩⟩⟩⟩⟩⟩⟩⟩⟩⟩⟩⟩⟩⟩⟩⟩⟩⟩⟩⟩⟩
  have td_Xv : ∀ p ∈ ([("NoWeb", C_NoWeb), ("NoText", C_NoText), ("NoWalk", C_NoWalk), ("NoPaper", C_NoPaper), ("NoName", C_NoName), ("NoSuch", C_NoSuch), ("Taken", C_Taken), ("Same", C_Same), ("Crying", C_Crying), ("Alone", C_Alone), ("Endless", C_Endless), ("Crowded", C_Crowded), ("TooMany", C_TooMany), ("NoCount", C_NoCount), ("NoPlace", C_NoPlace), ("NoState", C_NoState), ("NoLength", C_NoLength), ("NoCries", C_NoCries), ("NoBack", C_NoBack), ("NoRow", C_NoRow), ("WebError", C_WebError)] : List (Str × Addr)), ExcC K p.2 := List.forall_mem_cons.mpr ⟨⟨qg_NoWeb, qk_NoWeb, xb_NoWeb, xh_NoWeb, qa_NoWeb, qn_, qt_, qm_NoWeb⟩, List.forall_mem_cons.mpr ⟨⟨qg_NoText, qk_NoText, xb_NoText, xh_NoText, qa_NoText, qn_, qt_, qm_NoText⟩, List.forall_mem_cons.mpr ⟨⟨qg_NoWalk, qk_NoWalk, xb_NoWalk, xh_NoWalk, qa_NoWalk, qn_, qt_, qm_NoWalk⟩, List.forall_mem_cons.mpr ⟨⟨qg_NoPaper, qk_NoPaper, xb_NoPaper, xh_NoPaper, qa_NoPaper, qn_, qt_, qm_NoPaper⟩, List.forall_mem_cons.mpr ⟨⟨qg_NoName, qk_NoName, xb_NoName, xh_NoName, qa_NoName, qn_, qt_, qm_NoName⟩, List.forall_mem_cons.mpr ⟨⟨qg_NoSuch, qk_NoSuch, xb_NoSuch, xh_NoSuch, qa_NoSuch, qn_, qt_, qm_NoSuch⟩, List.forall_mem_cons.mpr ⟨⟨qg_Taken, qk_Taken, xb_Taken, xh_Taken, qa_Taken, qn_, qt_, qm_Taken⟩, List.forall_mem_cons.mpr ⟨⟨qg_Same, qk_Same, xb_Same, xh_Same, qa_Same, qn_, qt_, qm_Same⟩, List.forall_mem_cons.mpr ⟨⟨qg_Crying, qk_Crying, xb_Crying, xh_Crying, qa_Crying, qn_, qt_, qm_Crying⟩, List.forall_mem_cons.mpr ⟨⟨qg_Alone, qk_Alone, xb_Alone, xh_Alone, qa_Alone, qn_, qt_, qm_Alone⟩, List.forall_mem_cons.mpr ⟨⟨qg_Endless, qk_Endless, xb_Endless, xh_Endless, qa_Endless, qn_, qt_, qm_Endless⟩, List.forall_mem_cons.mpr ⟨⟨qg_Crowded, qk_Crowded, xb_Crowded, xh_Crowded, qa_Crowded, qn_, qt_, qm_Crowded⟩, List.forall_mem_cons.mpr ⟨⟨qg_TooMany, qk_TooMany, xb_TooMany, xh_TooMany, qa_TooMany, qn_, qt_, qm_TooMany⟩, List.forall_mem_cons.mpr ⟨⟨qg_NoCount, qk_NoCount, xb_NoCount, xh_NoCount, qa_NoCount, qn_, qt_, qm_NoCount⟩, List.forall_mem_cons.mpr ⟨⟨qg_NoPlace, qk_NoPlace, xb_NoPlace, xh_NoPlace, qa_NoPlace, qn_, qt_, qm_NoPlace⟩, List.forall_mem_cons.mpr ⟨⟨qg_NoState, qk_NoState, xb_NoState, xh_NoState, qa_NoState, qn_, qt_, qm_NoState⟩, List.forall_mem_cons.mpr ⟨⟨qg_NoLength, qk_NoLength, xb_NoLength, xh_NoLength, qa_NoLength, qn_, qt_, qm_NoLength⟩, List.forall_mem_cons.mpr ⟨⟨qg_NoCries, qk_NoCries, xb_NoCries, xh_NoCries, qa_NoCries, qn_, qt_, qm_NoCries⟩, List.forall_mem_cons.mpr ⟨⟨qg_NoBack, qk_NoBack, xb_NoBack, xh_NoBack, qa_NoBack, qn_, qt_, qm_NoBack⟩, List.forall_mem_cons.mpr ⟨⟨qg_NoRow, qk_NoRow, xb_NoRow, xh_NoRow, qa_NoRow, qn_, qt_, qm_NoRow⟩, List.forall_mem_cons.mpr ⟨⟨qg_WebError, qk_WebError, xb_WebError, xh_WebError, qa_WebError, qn_, qt_, qm_WebError⟩, fun _ h => nomatch h⟩⟩⟩⟩⟩⟩⟩⟩⟩⟩⟩⟩⟩⟩⟩⟩⟩⟩⟩⟩⟩
  have te_Xv : ∀ c : CI, cat_Xv c.nm = some true → HasE K mg c ["what", "who", "row", "number", "most", "limit"] := fun c h => hasE_tab tc_Xv td_Xv qa3_ (by
    unfold cat_Xv at h
    split at h
    · rename_i hm
      exact hm
    · cases h)
  have ti_Xv : ∀ c : CI, cat_Xv c.nm = some true → HasI K mg c (isc_Xv c.nm) (ist_Xv c.nm) := fun c _ => hasI_tab tc_Xv qa1_ qa2_
  have M : Tx K mg := ⟨PySem.W.mg_none_of X G z_ArithmeticError, PySem.W.mg_none_of X G z_LookupError, PySem.W.mg_none_of X G z_RuntimeError, PySem.W.mg_none_of X G z_ValueError, PySem.W.mg_none_of X G z_abs, PySem.W.mg_none_of X G z_all, PySem.W.mg_none_of X G z_divmod, PySem.W.mg_none_of X G z_enumerate, PySem.W.mg_none_of X G z_isinstance, PySem.W.mg_none_of X G z_len, PySem.W.mg_none_of X G z_max, PySem.W.mg_none_of X G z_min, PySem.W.mg_none_of X G z_range, PySem.W.mg_none_of X G z_repr, PySem.W.mg_none_of X G z_zip, tx0_NoBack, tx0_NoCount, tx0_NoCries, tx0_NoLength, tx0_NoPlace, tx0_NoRow, tx0_NoState, tx0_WebError, ⟨C_Alone, PySem.W.mg_of X G xa_Alone⟩, ⟨C_Crowded, PySem.W.mg_of X G xa_Crowded⟩, ⟨C_Crying, PySem.W.mg_of X G xa_Crying⟩, ⟨C_Endless, PySem.W.mg_of X G xa_Endless⟩, ⟨C_NoBack, PySem.W.mg_of X G xa_NoBack⟩, ⟨C_NoCount, PySem.W.mg_of X G xa_NoCount⟩, ⟨C_NoCries, PySem.W.mg_of X G xa_NoCries⟩, ⟨C_NoLength, PySem.W.mg_of X G xa_NoLength⟩, ⟨C_NoName, PySem.W.mg_of X G xa_NoName⟩, ⟨C_NoPaper, PySem.W.mg_of X G xa_NoPaper⟩, ⟨C_NoPlace, PySem.W.mg_of X G xa_NoPlace⟩, ⟨C_NoRow, PySem.W.mg_of X G xa_NoRow⟩, ⟨C_NoState, PySem.W.mg_of X G xa_NoState⟩, ⟨C_NoSuch, PySem.W.mg_of X G xa_NoSuch⟩, ⟨C_NoText, PySem.W.mg_of X G xa_NoText⟩, ⟨C_NoWalk, PySem.W.mg_of X G xa_NoWalk⟩, ⟨C_NoWeb, PySem.W.mg_of X G xa_NoWeb⟩, ⟨C_Same, PySem.W.mg_of X G xa_Same⟩, ⟨C_Taken, PySem.W.mg_of X G xa_Taken⟩, ⟨C_TooMany, PySem.W.mg_of X G xa_TooMany⟩, ⟨C_WebError, PySem.W.mg_of X G xa_WebError⟩, te_Xv, ti_Xv⟩
  have F0 := funD_mk l0 c0 k0
  have F1 := funD_mk l1 c1 k1
  have F2 := funD_mk l2 c2 k2
  have F3 := funD_mk l3 c3 k3
  have F4 := funD_mk l4 c4 k4
  have F5 := funD_mk l5 c5 k5
  have F6 := funD_mk l6 c6 k6
  have F7 := funD_mk l7 c7 k7
  have F8 := funD_mk l8 c8 k8
  have F9 := funD_mk l9 c9 k9
  have F10 := funD_mk l10 c10 k10
  have xD_NoWeb := funD_mk xl_NoWeb xc_NoWeb xq_NoWeb
  have xD_NoName := funD_mk xl_NoName xc_NoName xq_NoName
  have xD_NoPaper := funD_mk xl_NoPaper xc_NoPaper xq_NoPaper
  have xD_NoWalk := funD_mk xl_NoWalk xc_NoWalk xq_NoWalk
  have xD_NoText := funD_mk xl_NoText xc_NoText xq_NoText
  have xD_Endless := funD_mk xl_Endless xc_Endless xq_Endless
  have xD_Alone := funD_mk xl_Alone xc_Alone xq_Alone
  have xD_Crying := funD_mk xl_Crying xc_Crying xq_Crying
  have xD_Same := funD_mk xl_Same xc_Same xq_Same
  have xD_Taken := funD_mk xl_Taken xc_Taken xq_Taken
  have xD_NoSuch := funD_mk xl_NoSuch xc_NoSuch xq_NoSuch
  have xD_TooMany := funD_mk xl_TooMany xc_TooMany xq_TooMany
  have xD_Crowded := funD_mk xl_Crowded xc_Crowded xq_Crowded
  refine ⟨_, fun s v => F10.bindsA (ps := ["_law_script"]) (fun _ _ _ _ _ _ us hl => match us, hl with | [_], _ => rfl) s [v] rfl, fun base _ _ => ?_⟩
  have T_NoWeb : ExcG K C_NoWeb "ValueError" "ValueError.__new__" "ValueError.__init__" [.type "ValueError", .type "Exception", .type "BaseException", .type "object"] ["what", "who"] := ⟨xi_NoWeb, xo_NoWeb, xh_NoWeb, xs_NoWeb, xb_NoWeb, xt_NoWeb, xk_NoWeb, by
    intro f hf
    simp only [List.mem_cons, List.not_mem_nil, or_false] at hf
    rcases hf with rfl | rfl
    · exact xn0_NoWeb
    · exact xn1_NoWeb, PySem.F.excBase_ValueError, PySem.F.store_ValueError⟩
  have h_x_NoWeb : HasX P w K mg base "NoWeb" 1 ["what", "who"] := ⟨C_NoWeb, xf_NoWeb, _, N_NoWeb___init__, _, _, _, _, PySem.W.mg_of X G xa_NoWeb, T_NoWeb, xF_NoWeb, xy_NoWeb, xD_NoWeb.bindsN (fun _ _ _ _ _ _ us hl => match us, hl with | [_, _, _], _ => rfl), fnV_of xl_NoWeb xc_NoWeb sc_NoWeb___init__ (by
    rintro vs H Q E ⟨a, ws, rfl, hl, _⟩
    rw [List.length_cons, hl]; rfl) (fun A outer s H E => bx_NoWeb (.inl ⟨_, _, PySem.W.mg_of X G xga_WebError, xgs_WebError, xgt_WebError, xgr_WebError, xgf_WebError⟩) _ _ A outer s H E) (ini2 T_NoWeb rfl)⟩
  have T_NoName : ExcG K C_NoName "ValueError" "ValueError.__new__" "ValueError.__init__" [.type "ValueError", .type "Exception", .type "BaseException", .type "object"] ["who"] := ⟨xi_NoName, xo_NoName, xh_NoName, xs_NoName, xb_NoName, xt_NoName, xk_NoName, by
    intro f hf
    simp only [List.mem_cons, List.not_mem_nil, or_false] at hf
    rcases hf with rfl
    · exact xn0_NoName, PySem.F.excBase_ValueError, PySem.F.store_ValueError⟩
  have h_x_NoName : HasX P w K mg base "NoName" 1 ["who"] := ⟨C_NoName, xf_NoName, _, N_NoName___init__, _, _, _, _, PySem.W.mg_of X G xa_NoName, T_NoName, xF_NoName, xy_NoName, xD_NoName.bindsN (fun _ _ _ _ _ _ us hl => match us, hl with | [_, _], _ => rfl), fnV_of xl_NoName xc_NoName sc_NoName___init__ (by
    rintro vs H Q E ⟨a, ws, rfl, hl, _⟩
    rw [List.length_cons, hl]; rfl) (fun A outer s H E => bx_NoName (.inl ⟨_, _, PySem.W.mg_of X G xga_WebError, xgs_WebError, xgt_WebError, xgr_WebError, xgf_WebError⟩) _ _ A outer s H E) (ini1 T_NoName rfl)⟩
  have T_NoPaper : ExcG K C_NoPaper "ValueError" "ValueError.__new__" "ValueError.__init__" [.type "ValueError", .type "Exception", .type "BaseException", .type "object"] ["row"] := ⟨xi_NoPaper, xo_NoPaper, xh_NoPaper, xs_NoPaper, xb_NoPaper, xt_NoPaper, xk_NoPaper, by
    intro f hf
    simp only [List.mem_cons, List.not_mem_nil, or_false] at hf
    rcases hf with rfl
    · exact xn0_NoPaper, PySem.F.excBase_ValueError, PySem.F.store_ValueError⟩
  have h_x_NoPaper : HasX P w K mg base "NoPaper" 1 ["row"] := ⟨C_NoPaper, xf_NoPaper, _, N_NoPaper___init__, _, _, _, _, PySem.W.mg_of X G xa_NoPaper, T_NoPaper, xF_NoPaper, xy_NoPaper, xD_NoPaper.bindsN (fun _ _ _ _ _ _ us hl => match us, hl with | [_, _], _ => rfl), fnV_of xl_NoPaper xc_NoPaper sc_NoPaper___init__ (by
    rintro vs H Q E ⟨a, ws, rfl, hl, _⟩
    rw [List.length_cons, hl]; rfl) (fun A outer s H E => bx_NoPaper (.inl ⟨_, _, PySem.W.mg_of X G xga_WebError, xgs_WebError, xgt_WebError, xgr_WebError, xgf_WebError⟩) _ _ A outer s H E) (ini1 T_NoPaper rfl)⟩
  have T_NoWalk : ExcG K C_NoWalk "ValueError" "ValueError.__new__" "ValueError.__init__" [.type "ValueError", .type "Exception", .type "BaseException", .type "object"] ["number"] := ⟨xi_NoWalk, xo_NoWalk, xh_NoWalk, xs_NoWalk, xb_NoWalk, xt_NoWalk, xk_NoWalk, by
    intro f hf
    simp only [List.mem_cons, List.not_mem_nil, or_false] at hf
    rcases hf with rfl
    · exact xn0_NoWalk, PySem.F.excBase_ValueError, PySem.F.store_ValueError⟩
  have h_x_NoWalk : HasX P w K mg base "NoWalk" 1 ["number"] := ⟨C_NoWalk, xf_NoWalk, _, N_NoWalk___init__, _, _, _, _, PySem.W.mg_of X G xa_NoWalk, T_NoWalk, xF_NoWalk, xy_NoWalk, xD_NoWalk.bindsN (fun _ _ _ _ _ _ us hl => match us, hl with | [_, _], _ => rfl), fnV_of xl_NoWalk xc_NoWalk sc_NoWalk___init__ (by
    rintro vs H Q E ⟨a, ws, rfl, hl, _⟩
    rw [List.length_cons, hl]; rfl) (fun A outer s H E => bx_NoWalk (.inl ⟨_, _, PySem.W.mg_of X G xga_WebError, xgs_WebError, xgt_WebError, xgr_WebError, xgf_WebError⟩) _ _ A outer s H E) (ini1 T_NoWalk rfl)⟩
  have T_NoText : ExcG K C_NoText "ValueError" "ValueError.__new__" "ValueError.__init__" [.type "ValueError", .type "Exception", .type "BaseException", .type "object"] ["row"] := ⟨xi_NoText, xo_NoText, xh_NoText, xs_NoText, xb_NoText, xt_NoText, xk_NoText, by
    intro f hf
    simp only [List.mem_cons, List.not_mem_nil, or_false] at hf
    rcases hf with rfl
    · exact xn0_NoText, PySem.F.excBase_ValueError, PySem.F.store_ValueError⟩
  have h_x_NoText : HasX P w K mg base "NoText" 1 ["row"] := ⟨C_NoText, xf_NoText, _, N_NoText___init__, _, _, _, _, PySem.W.mg_of X G xa_NoText, T_NoText, xF_NoText, xy_NoText, xD_NoText.bindsN (fun _ _ _ _ _ _ us hl => match us, hl with | [_, _], _ => rfl), fnV_of xl_NoText xc_NoText sc_NoText___init__ (by
    rintro vs H Q E ⟨a, ws, rfl, hl, _⟩
    rw [List.length_cons, hl]; rfl) (fun A outer s H E => bx_NoText (.inl ⟨_, _, PySem.W.mg_of X G xga_WebError, xgs_WebError, xgt_WebError, xgr_WebError, xgf_WebError⟩) _ _ A outer s H E) (ini1 T_NoText rfl)⟩
  have T_Endless : ExcG K C_Endless "RuntimeError" "RuntimeError.__new__" "RuntimeError.__init__" [.type "RuntimeError", .type "Exception", .type "BaseException", .type "object"] ["who"] := ⟨xi_Endless, xo_Endless, xh_Endless, xs_Endless, xb_Endless, xt_Endless, xk_Endless, by
    intro f hf
    simp only [List.mem_cons, List.not_mem_nil, or_false] at hf
    rcases hf with rfl
    · exact xn0_Endless, PySem.F.excBase_RuntimeError, PySem.F.store_RuntimeError⟩
  have h_x_Endless : HasX P w K mg base "Endless" 1 ["who"] := ⟨C_Endless, xf_Endless, _, N_Endless___init__, _, _, _, _, PySem.W.mg_of X G xa_Endless, T_Endless, xF_Endless, xy_Endless, xD_Endless.bindsN (fun _ _ _ _ _ _ us hl => match us, hl with | [_, _], _ => rfl), fnV_of xl_Endless xc_Endless sc_Endless___init__ (by
    rintro vs H Q E ⟨a, ws, rfl, hl, _⟩
    rw [List.length_cons, hl]; rfl) (fun A outer s H E => bx_Endless (.inr ⟨"RuntimeError", PySem.W.mg_none_of X G xga_RuntimeError, by decide, rfl, by kernel_rfl, by kernel_rfl, xgf_RuntimeError⟩) _ _ A outer s H E) (ini1 T_Endless rfl)⟩
  have T_Alone : ExcG K C_Alone "RuntimeError" "RuntimeError.__new__" "RuntimeError.__init__" [.type "RuntimeError", .type "Exception", .type "BaseException", .type "object"] ["who"] := ⟨xi_Alone, xo_Alone, xh_Alone, xs_Alone, xb_Alone, xt_Alone, xk_Alone, by
    intro f hf
    simp only [List.mem_cons, List.not_mem_nil, or_false] at hf
    rcases hf with rfl
    · exact xn0_Alone, PySem.F.excBase_RuntimeError, PySem.F.store_RuntimeError⟩
  have h_x_Alone : HasX P w K mg base "Alone" 1 ["who"] := ⟨C_Alone, xf_Alone, _, N_Alone___init__, _, _, _, _, PySem.W.mg_of X G xa_Alone, T_Alone, xF_Alone, xy_Alone, xD_Alone.bindsN (fun _ _ _ _ _ _ us hl => match us, hl with | [_, _], _ => rfl), fnV_of xl_Alone xc_Alone sc_Alone___init__ (by
    rintro vs H Q E ⟨a, ws, rfl, hl, _⟩
    rw [List.length_cons, hl]; rfl) (fun A outer s H E => bx_Alone (.inr ⟨"RuntimeError", PySem.W.mg_none_of X G xga_RuntimeError, by decide, rfl, by kernel_rfl, by kernel_rfl, xgf_RuntimeError⟩) _ _ A outer s H E) (ini1 T_Alone rfl)⟩
  have T_Crying : ExcG K C_Crying "RuntimeError" "RuntimeError.__new__" "RuntimeError.__init__" [.type "RuntimeError", .type "Exception", .type "BaseException", .type "object"] ["who"] := ⟨xi_Crying, xo_Crying, xh_Crying, xs_Crying, xb_Crying, xt_Crying, xk_Crying, by
    intro f hf
    simp only [List.mem_cons, List.not_mem_nil, or_false] at hf
    rcases hf with rfl
    · exact xn0_Crying, PySem.F.excBase_RuntimeError, PySem.F.store_RuntimeError⟩
  have h_x_Crying : HasX P w K mg base "Crying" 1 ["who"] := ⟨C_Crying, xf_Crying, _, N_Crying___init__, _, _, _, _, PySem.W.mg_of X G xa_Crying, T_Crying, xF_Crying, xy_Crying, xD_Crying.bindsN (fun _ _ _ _ _ _ us hl => match us, hl with | [_, _], _ => rfl), fnV_of xl_Crying xc_Crying sc_Crying___init__ (by
    rintro vs H Q E ⟨a, ws, rfl, hl, _⟩
    rw [List.length_cons, hl]; rfl) (fun A outer s H E => bx_Crying (.inr ⟨"RuntimeError", PySem.W.mg_none_of X G xga_RuntimeError, by decide, rfl, by kernel_rfl, by kernel_rfl, xgf_RuntimeError⟩) _ _ A outer s H E) (ini1 T_Crying rfl)⟩
  have T_Same : ExcG K C_Same "RuntimeError" "RuntimeError.__new__" "RuntimeError.__init__" [.type "RuntimeError", .type "Exception", .type "BaseException", .type "object"] ["who"] := ⟨xi_Same, xo_Same, xh_Same, xs_Same, xb_Same, xt_Same, xk_Same, by
    intro f hf
    simp only [List.mem_cons, List.not_mem_nil, or_false] at hf
    rcases hf with rfl
    · exact xn0_Same, PySem.F.excBase_RuntimeError, PySem.F.store_RuntimeError⟩
  have h_x_Same : HasX P w K mg base "Same" 1 ["who"] := ⟨C_Same, xf_Same, _, N_Same___init__, _, _, _, _, PySem.W.mg_of X G xa_Same, T_Same, xF_Same, xy_Same, xD_Same.bindsN (fun _ _ _ _ _ _ us hl => match us, hl with | [_, _], _ => rfl), fnV_of xl_Same xc_Same sc_Same___init__ (by
    rintro vs H Q E ⟨a, ws, rfl, hl, _⟩
    rw [List.length_cons, hl]; rfl) (fun A outer s H E => bx_Same (.inr ⟨"RuntimeError", PySem.W.mg_none_of X G xga_RuntimeError, by decide, rfl, by kernel_rfl, by kernel_rfl, xgf_RuntimeError⟩) _ _ A outer s H E) (ini1 T_Same rfl)⟩
  have T_Taken : ExcG K C_Taken "RuntimeError" "RuntimeError.__new__" "RuntimeError.__init__" [.type "RuntimeError", .type "Exception", .type "BaseException", .type "object"] ["who"] := ⟨xi_Taken, xo_Taken, xh_Taken, xs_Taken, xb_Taken, xt_Taken, xk_Taken, by
    intro f hf
    simp only [List.mem_cons, List.not_mem_nil, or_false] at hf
    rcases hf with rfl
    · exact xn0_Taken, PySem.F.excBase_RuntimeError, PySem.F.store_RuntimeError⟩
  have h_x_Taken : HasX P w K mg base "Taken" 1 ["who"] := ⟨C_Taken, xf_Taken, _, N_Taken___init__, _, _, _, _, PySem.W.mg_of X G xa_Taken, T_Taken, xF_Taken, xy_Taken, xD_Taken.bindsN (fun _ _ _ _ _ _ us hl => match us, hl with | [_, _], _ => rfl), fnV_of xl_Taken xc_Taken sc_Taken___init__ (by
    rintro vs H Q E ⟨a, ws, rfl, hl, _⟩
    rw [List.length_cons, hl]; rfl) (fun A outer s H E => bx_Taken (.inr ⟨"RuntimeError", PySem.W.mg_none_of X G xga_RuntimeError, by decide, rfl, by kernel_rfl, by kernel_rfl, xgf_RuntimeError⟩) _ _ A outer s H E) (ini1 T_Taken rfl)⟩
  have T_NoSuch : ExcG K C_NoSuch "LookupError" "LookupError.__new__" "LookupError.__init__" [.type "LookupError", .type "Exception", .type "BaseException", .type "object"] ["who"] := ⟨xi_NoSuch, xo_NoSuch, xh_NoSuch, xs_NoSuch, xb_NoSuch, xt_NoSuch, xk_NoSuch, by
    intro f hf
    simp only [List.mem_cons, List.not_mem_nil, or_false] at hf
    rcases hf with rfl
    · exact xn0_NoSuch, PySem.F.excBase_LookupError, PySem.F.store_LookupError⟩
  have h_x_NoSuch : HasX P w K mg base "NoSuch" 1 ["who"] := ⟨C_NoSuch, xf_NoSuch, _, N_NoSuch___init__, _, _, _, _, PySem.W.mg_of X G xa_NoSuch, T_NoSuch, xF_NoSuch, xy_NoSuch, xD_NoSuch.bindsN (fun _ _ _ _ _ _ us hl => match us, hl with | [_, _], _ => rfl), fnV_of xl_NoSuch xc_NoSuch sc_NoSuch___init__ (by
    rintro vs H Q E ⟨a, ws, rfl, hl, _⟩
    rw [List.length_cons, hl]; rfl) (fun A outer s H E => bx_NoSuch (.inr ⟨"LookupError", PySem.W.mg_none_of X G xga_LookupError, by decide, rfl, by kernel_rfl, by kernel_rfl, xgf_LookupError⟩) _ _ A outer s H E) (ini1 T_NoSuch rfl)⟩
  have T_TooMany : ExcG K C_TooMany "ArithmeticError" "ArithmeticError.__new__" "ArithmeticError.__init__" [.type "ArithmeticError", .type "Exception", .type "BaseException", .type "object"] ["limit"] := ⟨xi_TooMany, xo_TooMany, xh_TooMany, xs_TooMany, xb_TooMany, xt_TooMany, xk_TooMany, by
    intro f hf
    simp only [List.mem_cons, List.not_mem_nil, or_false] at hf
    rcases hf with rfl
    · exact xn0_TooMany, PySem.F.excBase_ArithmeticError, PySem.F.store_ArithmeticError⟩
  have h_x_TooMany : HasX P w K mg base "TooMany" 1 ["limit"] := ⟨C_TooMany, xf_TooMany, _, N_TooMany___init__, _, _, _, _, PySem.W.mg_of X G xa_TooMany, T_TooMany, xF_TooMany, xy_TooMany, xD_TooMany.bindsN (fun _ _ _ _ _ _ us hl => match us, hl with | [_, _], _ => rfl), fnV_of xl_TooMany xc_TooMany sc_TooMany___init__ (by
    rintro vs H Q E ⟨a, ws, rfl, hl, _⟩
    rw [List.length_cons, hl]; rfl) (fun A outer s H E => bx_TooMany (.inr ⟨"ArithmeticError", PySem.W.mg_none_of X G xga_ArithmeticError, by decide, rfl, by kernel_rfl, by kernel_rfl, xgf_ArithmeticError⟩) _ _ A outer s H E) (ini1 T_TooMany rfl)⟩
  have T_Crowded : ExcG K C_Crowded "ArithmeticError" "ArithmeticError.__new__" "ArithmeticError.__init__" [.type "ArithmeticError", .type "Exception", .type "BaseException", .type "object"] ["most"] := ⟨xi_Crowded, xo_Crowded, xh_Crowded, xs_Crowded, xb_Crowded, xt_Crowded, xk_Crowded, by
    intro f hf
    simp only [List.mem_cons, List.not_mem_nil, or_false] at hf
    rcases hf with rfl
    · exact xn0_Crowded, PySem.F.excBase_ArithmeticError, PySem.F.store_ArithmeticError⟩
  have h_x_Crowded : HasX P w K mg base "Crowded" 1 ["most"] := ⟨C_Crowded, xf_Crowded, _, N_Crowded___init__, _, _, _, _, PySem.W.mg_of X G xa_Crowded, T_Crowded, xF_Crowded, xy_Crowded, xD_Crowded.bindsN (fun _ _ _ _ _ _ us hl => match us, hl with | [_, _], _ => rfl), fnV_of xl_Crowded xc_Crowded sc_Crowded___init__ (by
    rintro vs H Q E ⟨a, ws, rfl, hl, _⟩
    rw [List.length_cons, hl]; rfl) (fun A outer s H E => bx_Crowded (.inr ⟨"ArithmeticError", PySem.W.mg_none_of X G xga_ArithmeticError, by decide, rfl, by kernel_rfl, by kernel_rfl, xgf_ArithmeticError⟩) _ _ A outer s H E) (ini1 T_Crowded rfl)⟩
  have h__law_pot : HasF P w K mg base "_law_pot" 1 ps__law_pot sp__law_pot := hf__law_pot M (PySem.W.mg_of X G a0) F0
  have h__law_take : HasF P w K mg base "_law_take" 1 ps__law_take sp__law_take := hf__law_take M (PySem.W.mg_of X G a1) F1
  have h__law_among : HasF P w K mg base "_law_among" 2 ps__law_among sp__law_among := hf__law_among M h__law_take (PySem.W.mg_of X G a2) F2
  have h__law_word : HasF P w K mg base "_law_word" 2 ps__law_word sp__law_word := hf__law_word M h__law_take (PySem.W.mg_of X G a3) F3
  have h__law_thing : HasF P w K mg base "_law_thing" 3 ps__law_thing sp__law_thing := hf__law_thing M h__law_word h__law_take h__law_among (PySem.W.mg_of X G a4) F4
  have h__law_which : HasF P w K mg base "_law_which" 1 ps__law_which sp__law_which := hf__law_which M (PySem.W.mg_of X G a5) F5
  have h__law_bases : HasF P w K mg base "_law_bases" 1 ps__law_bases sp__law_bases := hf__law_bases M (PySem.W.mg_of X G a6) F6
  have h__law_is : HasF P w K mg base "_law_is" 2 ps__law_is sp__law_is := hf__law_is M h__law_which h__law_bases (PySem.W.mg_of X G a7) F7
  have h__law_webs_right : HasF P w K mg base "_law_webs_right" 4 ps__law_webs_right sp__law_webs_right := hf__law_webs_right M h_x_NoWeb h_x_NoName h_x_NoPaper h_x_NoWalk h_x_NoText h__law_is (PySem.W.mg_of X G a8) F8
  have h__law_others_right : HasF P w K mg base "_law_others_right" 4 ps__law_others_right sp__law_others_right := hf__law_others_right M h_x_Endless h_x_Alone h_x_Crying h_x_Same h_x_Taken h_x_NoSuch h_x_TooMany h_x_Crowded h__law_is h__law_which h__law_bases (PySem.W.mg_of X G a9) F9
  exact fnG_FunD F10 sc_law (by
    rintro ds G Q E ⟨_, rfl, _⟩
    rfl) (fun cdv A outer s H E => bd_law M h__law_pot h__law_thing h__law_word h__law_webs_right h__law_others_right _ cdv A outer s H E) ok_law
end K18
open PySem PySem.W PyProof.Rows
set_option maxRecDepth 100000 in
set_option maxHeartbeats 0 in
theorem PySem.Challenge.cw_crywalks_k18_refusals_made_holds : PySem.Challenge.rw_crywalks_k18_refusals_made.Holds := by
  w_on; o_law; k_head; (case hw => w_witness2)
  k_fill
  refine DL.walk_ofG (l := PySem.Challenge.rw_crywalks_k18_refusals_made) (n := 63) (k := 5) (x := "_law_script") rfl (by decide) rfl ⟨rfl, by decide, by decide⟩ (fun w h Y => PySem.W.kIn_of Y) ?F
  case F =>
    intro w mg fa h KX G hmg
    refine' K18.all_mk KX G hmg ?xa_NoWeb ?xb_NoWeb ?xt_NoWeb ?xh_NoWeb ?xa_NoName ?xb_NoName ?xt_NoName ?xh_NoName ?xa_NoPaper ?xb_NoPaper ?xt_NoPaper ?xh_NoPaper ?xa_NoWalk ?xb_NoWalk ?xt_NoWalk ?xh_NoWalk ?xa_NoText ?xb_NoText ?xt_NoText ?xh_NoText ?xa_Endless ?xb_Endless ?xt_Endless ?xh_Endless ?xa_Alone ?xb_Alone ?xt_Alone ?xh_Alone ?xa_Crying ?xb_Crying ?xt_Crying ?xh_Crying ?xa_Same ?xb_Same ?xt_Same ?xh_Same ?xa_Taken ?xb_Taken ?xt_Taken ?xh_Taken ?xa_NoSuch ?xb_NoSuch ?xt_NoSuch ?xh_NoSuch ?xa_TooMany ?xb_TooMany ?xt_TooMany ?xh_TooMany ?xa_Crowded ?xb_Crowded ?xt_Crowded ?xh_Crowded ?xa_NoBack ?xb_NoBack ?xt_NoBack ?xh_NoBack ?xa_NoCount ?xb_NoCount ?xt_NoCount ?xh_NoCount ?xa_NoCries ?xb_NoCries ?xt_NoCries ?xh_NoCries ?xa_NoLength ?xb_NoLength ?xt_NoLength ?xh_NoLength ?xa_NoPlace ?xb_NoPlace ?xt_NoPlace ?xh_NoPlace ?xa_NoRow ?xb_NoRow ?xt_NoRow ?xh_NoRow ?xa_NoState ?xb_NoState ?xt_NoState ?xh_NoState ?xa_WebError ?xb_WebError ?xt_WebError ?xh_WebError ?xi_NoWeb ?xo_NoWeb ?xs_NoWeb ?xk_NoWeb ?xn0_NoWeb ?xn1_NoWeb ?xF_NoWeb ?xy_NoWeb ?xl_NoWeb ?xc_NoWeb ?xq_NoWeb ?xi_NoName ?xo_NoName ?xs_NoName ?xk_NoName ?xn0_NoName ?xF_NoName ?xy_NoName ?xl_NoName ?xc_NoName ?xq_NoName ?xi_NoPaper ?xo_NoPaper ?xs_NoPaper ?xk_NoPaper ?xn0_NoPaper ?xF_NoPaper ?xy_NoPaper ?xl_NoPaper ?xc_NoPaper ?xq_NoPaper ?xi_NoWalk ?xo_NoWalk ?xs_NoWalk ?xk_NoWalk ?xn0_NoWalk ?xF_NoWalk ?xy_NoWalk ?xl_NoWalk ?xc_NoWalk ?xq_NoWalk ?xi_NoText ?xo_NoText ?xs_NoText ?xk_NoText ?xn0_NoText ?xF_NoText ?xy_NoText ?xl_NoText ?xc_NoText ?xq_NoText ?xi_Endless ?xo_Endless ?xs_Endless ?xk_Endless ?xn0_Endless ?xF_Endless ?xy_Endless ?xl_Endless ?xc_Endless ?xq_Endless ?xi_Alone ?xo_Alone ?xs_Alone ?xk_Alone ?xn0_Alone ?xF_Alone ?xy_Alone ?xl_Alone ?xc_Alone ?xq_Alone ?xi_Crying ?xo_Crying ?xs_Crying ?xk_Crying ?xn0_Crying ?xF_Crying ?xy_Crying ?xl_Crying ?xc_Crying ?xq_Crying ?xi_Same ?xo_Same ?xs_Same ?xk_Same ?xn0_Same ?xF_Same ?xy_Same ?xl_Same ?xc_Same ?xq_Same ?xi_Taken ?xo_Taken ?xs_Taken ?xk_Taken ?xn0_Taken ?xF_Taken ?xy_Taken ?xl_Taken ?xc_Taken ?xq_Taken ?xi_NoSuch ?xo_NoSuch ?xs_NoSuch ?xk_NoSuch ?xn0_NoSuch ?xF_NoSuch ?xy_NoSuch ?xl_NoSuch ?xc_NoSuch ?xq_NoSuch ?xi_TooMany ?xo_TooMany ?xs_TooMany ?xk_TooMany ?xn0_TooMany ?xF_TooMany ?xy_TooMany ?xl_TooMany ?xc_TooMany ?xq_TooMany ?xi_Crowded ?xo_Crowded ?xs_Crowded ?xk_Crowded ?xn0_Crowded ?xF_Crowded ?xy_Crowded ?xl_Crowded ?xc_Crowded ?xq_Crowded ?x0i_NoBack ?x0k_NoBack ?x0i_NoCount ?x0k_NoCount ?x0i_NoCries ?x0k_NoCries ?x0i_NoLength ?x0k_NoLength ?x0i_NoPlace ?x0k_NoPlace ?x0i_NoRow ?x0k_NoRow ?x0i_NoState ?x0k_NoState ?x0i_WebError ?x0k_WebError ?xga_WebError ?xgs_WebError ?xgt_WebError ?xgr_WebError ?xgf_WebError ?xga_RuntimeError ?xgf_RuntimeError ?xga_LookupError ?xgf_LookupError ?xga_ArithmeticError ?xgf_ArithmeticError ?qn_ ?qt_ ?qg_NoWeb ?qk_NoWeb ?qa_NoWeb ?qm_NoWeb ?qg_NoText ?qk_NoText ?qa_NoText ?qm_NoText ?qg_NoWalk ?qk_NoWalk ?qa_NoWalk ?qm_NoWalk ?qg_NoPaper ?qk_NoPaper ?qa_NoPaper ?qm_NoPaper ?qg_NoName ?qk_NoName ?qa_NoName ?qm_NoName ?qg_NoSuch ?qk_NoSuch ?qa_NoSuch ?qm_NoSuch ?qg_Taken ?qk_Taken ?qa_Taken ?qm_Taken ?qg_Same ?qk_Same ?qa_Same ?qm_Same ?qg_Crying ?qk_Crying ?qa_Crying ?qm_Crying ?qg_Alone ?qk_Alone ?qa_Alone ?qm_Alone ?qg_Endless ?qk_Endless ?qa_Endless ?qm_Endless ?qg_Crowded ?qk_Crowded ?qa_Crowded ?qm_Crowded ?qg_TooMany ?qk_TooMany ?qa_TooMany ?qm_TooMany ?qg_NoCount ?qk_NoCount ?qa_NoCount ?qm_NoCount ?qg_NoPlace ?qk_NoPlace ?qa_NoPlace ?qm_NoPlace ?qg_NoState ?qk_NoState ?qa_NoState ?qm_NoState ?qg_NoLength ?qk_NoLength ?qa_NoLength ?qm_NoLength ?qg_NoCries ?qk_NoCries ?qa_NoCries ?qm_NoCries ?qg_NoBack ?qk_NoBack ?qa_NoBack ?qm_NoBack ?qg_NoRow ?qk_NoRow ?qa_NoRow ?qm_NoRow ?qg_WebError ?qk_WebError ?qa_WebError ?qm_WebError ?qa1_ ?qa2_ ?qa3_ ?a0 ?l0 ?c0 ?k0 ?a1 ?l1 ?c1 ?k1 ?a2 ?l2 ?c2 ?k2 ?a3 ?l3 ?c3 ?k3 ?a4 ?l4 ?c4 ?k4 ?a5 ?l5 ?c5 ?k5 ?a6 ?l6 ?c6 ?k6 ?a7 ?l7 ?c7 ?k7 ?a8 ?l8 ?c8 ?k8 ?a9 ?l9 ?c9 ?k9 ?a10 ?l10 ?c10 ?k10 ?z_ArithmeticError ?z_LookupError ?z_RuntimeError ?z_ValueError ?z_abs ?z_all ?z_divmod ?z_enumerate ?z_isinstance ?z_len ?z_max ?z_min ?z_range ?z_repr ?z_zip
    (case xa_NoWeb => k_is); (case xb_NoWeb => k_is); (case xt_NoWeb => k_is); (case xh_NoWeb => k_is); (case xa_NoName => k_is); (case xb_NoName => k_is)
    (case xt_NoName => k_is); (case xh_NoName => k_is); (case xa_NoPaper => k_is); (case xb_NoPaper => k_is); (case xt_NoPaper => k_is); (case xh_NoPaper => k_is)
    (case xa_NoWalk => k_is); (case xb_NoWalk => k_is); (case xt_NoWalk => k_is); (case xh_NoWalk => k_is); (case xa_NoText => k_is); (case xb_NoText => k_is)
    (case xt_NoText => k_is); (case xh_NoText => k_is); (case xa_Endless => k_is); (case xb_Endless => k_is); (case xt_Endless => k_is); (case xh_Endless => k_is)
    (case xa_Alone => k_is); (case xb_Alone => k_is); (case xt_Alone => k_is); (case xh_Alone => k_is); (case xa_Crying => k_is); (case xb_Crying => k_is)
    (case xt_Crying => k_is); (case xh_Crying => k_is); (case xa_Same => k_is); (case xb_Same => k_is); (case xt_Same => k_is); (case xh_Same => k_is)
    (case xa_Taken => k_is); (case xb_Taken => k_is); (case xt_Taken => k_is); (case xh_Taken => k_is); (case xa_NoSuch => k_is); (case xb_NoSuch => k_is)
    (case xt_NoSuch => k_is); (case xh_NoSuch => k_is); (case xa_TooMany => k_is); (case xb_TooMany => k_is); (case xt_TooMany => k_is); (case xh_TooMany => k_is)
    (case xa_Crowded => k_is); (case xb_Crowded => k_is); (case xt_Crowded => k_is); (case xh_Crowded => k_is); (case xa_NoBack => k_is); (case xb_NoBack => k_is)
    (case xt_NoBack => k_is); (case xh_NoBack => k_is); (case xa_NoCount => k_is); (case xb_NoCount => k_is); (case xt_NoCount => k_is); (case xh_NoCount => k_is)
    (case xa_NoCries => k_is); (case xb_NoCries => k_is); (case xt_NoCries => k_is); (case xh_NoCries => k_is); (case xa_NoLength => k_is); (case xb_NoLength => k_is)
    (case xt_NoLength => k_is); (case xh_NoLength => k_is); (case xa_NoPlace => k_is); (case xb_NoPlace => k_is); (case xt_NoPlace => k_is); (case xh_NoPlace => k_is)
    (case xa_NoRow => k_is); (case xb_NoRow => k_is); (case xt_NoRow => k_is); (case xh_NoRow => k_is); (case xa_NoState => k_is); (case xb_NoState => k_is)
    (case xt_NoState => k_is); (case xh_NoState => k_is); (case xa_WebError => k_is); (case xb_WebError => k_is); (case xt_WebError => k_is); (case xh_WebError => k_is)
    (case xi_NoWeb => kx_is); (case xo_NoWeb => kx_is); (case xs_NoWeb => k_is); (case xk_NoWeb => k_is); (case xn0_NoWeb => k_is); (case xn1_NoWeb => k_is)
    (case xF_NoWeb => k_is); (case xy_NoWeb => k_is); (case xl_NoWeb => k_is); (case xc_NoWeb => k_is); (case xq_NoWeb => k_is); (case xi_NoName => kx_is)
    (case xo_NoName => kx_is); (case xs_NoName => k_is); (case xk_NoName => k_is); (case xn0_NoName => k_is); (case xF_NoName => k_is); (case xy_NoName => k_is)
    (case xl_NoName => k_is); (case xc_NoName => k_is); (case xq_NoName => k_is); (case xi_NoPaper => kx_is); (case xo_NoPaper => kx_is); (case xs_NoPaper => k_is)
    (case xk_NoPaper => k_is); (case xn0_NoPaper => k_is); (case xF_NoPaper => k_is); (case xy_NoPaper => k_is); (case xl_NoPaper => k_is); (case xc_NoPaper => k_is)
    (case xq_NoPaper => k_is); (case xi_NoWalk => kx_is); (case xo_NoWalk => kx_is); (case xs_NoWalk => k_is); (case xk_NoWalk => k_is); (case xn0_NoWalk => k_is)
    (case xF_NoWalk => k_is); (case xy_NoWalk => k_is); (case xl_NoWalk => k_is); (case xc_NoWalk => k_is); (case xq_NoWalk => k_is); (case xi_NoText => kx_is)
    (case xo_NoText => kx_is); (case xs_NoText => k_is); (case xk_NoText => k_is); (case xn0_NoText => k_is); (case xF_NoText => k_is); (case xy_NoText => k_is)
    (case xl_NoText => k_is); (case xc_NoText => k_is); (case xq_NoText => k_is); (case xi_Endless => kx_is); (case xo_Endless => kx_is); (case xs_Endless => k_is)
    (case xk_Endless => k_is); (case xn0_Endless => k_is); (case xF_Endless => k_is); (case xy_Endless => k_is); (case xl_Endless => k_is); (case xc_Endless => k_is)
    (case xq_Endless => k_is); (case xi_Alone => kx_is); (case xo_Alone => kx_is); (case xs_Alone => k_is); (case xk_Alone => k_is); (case xn0_Alone => k_is)
    (case xF_Alone => k_is); (case xy_Alone => k_is); (case xl_Alone => k_is); (case xc_Alone => k_is); (case xq_Alone => k_is); (case xi_Crying => kx_is)
    (case xo_Crying => kx_is); (case xs_Crying => k_is); (case xk_Crying => k_is); (case xn0_Crying => k_is); (case xF_Crying => k_is); (case xy_Crying => k_is)
    (case xl_Crying => k_is); (case xc_Crying => k_is); (case xq_Crying => k_is); (case xi_Same => kx_is); (case xo_Same => kx_is); (case xs_Same => k_is)
    (case xk_Same => k_is); (case xn0_Same => k_is); (case xF_Same => k_is); (case xy_Same => k_is); (case xl_Same => k_is); (case xc_Same => k_is)
    (case xq_Same => k_is); (case xi_Taken => kx_is); (case xo_Taken => kx_is); (case xs_Taken => k_is); (case xk_Taken => k_is); (case xn0_Taken => k_is)
    (case xF_Taken => k_is); (case xy_Taken => k_is); (case xl_Taken => k_is); (case xc_Taken => k_is); (case xq_Taken => k_is); (case xi_NoSuch => kx_is)
    (case xo_NoSuch => kx_is); (case xs_NoSuch => k_is); (case xk_NoSuch => k_is); (case xn0_NoSuch => k_is); (case xF_NoSuch => k_is); (case xy_NoSuch => k_is)
    (case xl_NoSuch => k_is); (case xc_NoSuch => k_is); (case xq_NoSuch => k_is); (case xi_TooMany => kx_is); (case xo_TooMany => kx_is); (case xs_TooMany => k_is)
    (case xk_TooMany => k_is); (case xn0_TooMany => k_is); (case xF_TooMany => k_is); (case xy_TooMany => k_is); (case xl_TooMany => k_is); (case xc_TooMany => k_is)
    (case xq_TooMany => k_is); (case xi_Crowded => kx_is); (case xo_Crowded => kx_is); (case xs_Crowded => k_is); (case xk_Crowded => k_is); (case xn0_Crowded => k_is)
    (case xF_Crowded => k_is); (case xy_Crowded => k_is); (case xl_Crowded => k_is); (case xc_Crowded => k_is); (case xq_Crowded => k_is); (case x0i_NoBack => k_exc)
    (case x0k_NoBack => k_is); (case x0i_NoCount => k_exc); (case x0k_NoCount => k_is); (case x0i_NoCries => k_exc); (case x0k_NoCries => k_is); (case x0i_NoLength => k_exc)
    (case x0k_NoLength => k_is); (case x0i_NoPlace => k_exc); (case x0k_NoPlace => k_is); (case x0i_NoRow => k_exc); (case x0k_NoRow => k_is); (case x0i_NoState => k_exc)
    (case x0k_NoState => k_is); (case x0i_WebError => k_exc); (case x0k_WebError => k_is); (case xga_WebError => k_is); (case xgs_WebError => k_is); (case xgt_WebError => k_is)
    (case xgr_WebError => k_is); (case xgf_WebError => k_is); (case xga_RuntimeError => k_is); (case xgf_RuntimeError => k_is); (case xga_LookupError => k_is); (case xgf_LookupError => k_is)
    (case xga_ArithmeticError => k_is); (case xgf_ArithmeticError => k_is); (case qn_ => k_is); (case qt_ => k_is); (case qg_NoWeb => k_is); (case qk_NoWeb => k_is)
    (case qa_NoWeb => k_is); (case qm_NoWeb => k_is); (case qg_NoText => k_is); (case qk_NoText => k_is); (case qa_NoText => k_is); (case qm_NoText => k_is)
    (case qg_NoWalk => k_is); (case qk_NoWalk => k_is); (case qa_NoWalk => k_is); (case qm_NoWalk => k_is); (case qg_NoPaper => k_is); (case qk_NoPaper => k_is)
    (case qa_NoPaper => k_is); (case qm_NoPaper => k_is); (case qg_NoName => k_is); (case qk_NoName => k_is); (case qa_NoName => k_is); (case qm_NoName => k_is)
    (case qg_NoSuch => k_is); (case qk_NoSuch => k_is); (case qa_NoSuch => k_is); (case qm_NoSuch => k_is); (case qg_Taken => k_is); (case qk_Taken => k_is)
    (case qa_Taken => k_is); (case qm_Taken => k_is); (case qg_Same => k_is); (case qk_Same => k_is); (case qa_Same => k_is); (case qm_Same => k_is)
    (case qg_Crying => k_is); (case qk_Crying => k_is); (case qa_Crying => k_is); (case qm_Crying => k_is); (case qg_Alone => k_is); (case qk_Alone => k_is)
    (case qa_Alone => k_is); (case qm_Alone => k_is); (case qg_Endless => k_is); (case qk_Endless => k_is); (case qa_Endless => k_is); (case qm_Endless => k_is)
    (case qg_Crowded => k_is); (case qk_Crowded => k_is); (case qa_Crowded => k_is); (case qm_Crowded => k_is); (case qg_TooMany => k_is); (case qk_TooMany => k_is)
    (case qa_TooMany => k_is); (case qm_TooMany => k_is); (case qg_NoCount => k_is); (case qk_NoCount => k_is); (case qa_NoCount => k_is); (case qm_NoCount => k_is)
    (case qg_NoPlace => k_is); (case qk_NoPlace => k_is); (case qa_NoPlace => k_is); (case qm_NoPlace => k_is); (case qg_NoState => k_is); (case qk_NoState => k_is)
    (case qa_NoState => k_is); (case qm_NoState => k_is); (case qg_NoLength => k_is); (case qk_NoLength => k_is); (case qa_NoLength => k_is); (case qm_NoLength => k_is)
    (case qg_NoCries => k_is); (case qk_NoCries => k_is); (case qa_NoCries => k_is); (case qm_NoCries => k_is); (case qg_NoBack => k_is); (case qk_NoBack => k_is)
    (case qa_NoBack => k_is); (case qm_NoBack => k_is); (case qg_NoRow => k_is); (case qk_NoRow => k_is); (case qa_NoRow => k_is); (case qm_NoRow => k_is)
    (case qg_WebError => k_is); (case qk_WebError => k_is); (case qa_WebError => k_is); (case qm_WebError => k_is); (case qa1_ => kernel_rfl); (case qa2_ => kernel_rfl)
    (case qa3_ => kernel_rfl); (case a0 => k_is); (case l0 => k_is); (case c0 => k_is); (case k0 => k_is); (case a1 => k_is)
    (case l1 => k_is); (case c1 => k_is); (case k1 => k_is); (case a2 => k_is); (case l2 => k_is); (case c2 => k_is)
    (case k2 => k_is); (case a3 => k_is); (case l3 => k_is); (case c3 => k_is); (case k3 => k_is); (case a4 => k_is)
    (case l4 => k_is); (case c4 => k_is); (case k4 => k_is); (case a5 => k_is); (case l5 => k_is); (case c5 => k_is)
    (case k5 => k_is); (case a6 => k_is); (case l6 => k_is); (case c6 => k_is); (case k6 => k_is); (case a7 => k_is)
    (case l7 => k_is); (case c7 => k_is); (case k7 => k_is); (case a8 => k_is); (case l8 => k_is); (case c8 => k_is)
    (case k8 => k_is); (case a9 => k_is); (case l9 => k_is); (case c9 => k_is); (case k9 => k_is); (case a10 => k_is)
    (case l10 => k_is); (case c10 => k_is); (case k10 => k_is); (case z_ArithmeticError => k_is); (case z_LookupError => k_is); (case z_RuntimeError => k_is)
    (case z_ValueError => k_is); (case z_abs => k_is); (case z_all => k_is); (case z_divmod => k_is); (case z_enumerate => k_is); (case z_isinstance => k_is)
    (case z_len => k_is); (case z_max => k_is); (case z_min => k_is); (case z_range => k_is); (case z_repr => k_is); (case z_zip => k_is)
