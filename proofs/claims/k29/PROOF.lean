import PyProof.Rows.All
import Wide.All
import OpenK.AllK
import Wide.FinOn
import HandS.ForMost
import HandS.TupMul
import HandS.TupAny
import HandS.IsInst
import HandS.Wide
import HandS.Conv
import HandS.Flow
import HandS.EndBits
import HandS.EndTab
import HandS.DictComp
import HandS.SortInts
import HandS.Deep
import HandS.TupLe
import HandS.Style
import HandS.More
import HandS.WideBits
import KE.SortData
import KE.OsSort
import HandS.TupSets
import KE.KDictPairs
import KE.KDictCopyH
import HandS.DictTup
import HandS.SetFor
import HandS.Strs
import PyProof.Rows.SetFrom
import KE.SortKeyHeap
import HandS.SortKw
import HandS.Nested
import KE.KNestM
import KE.KEqNest
import KE.DataCmp
import HandS.SetKeys
import HandS.Finally
import KE.OsRunLaw
import PySem.Challenge.RW_commonage_k29_disks
set_option Elab.async false
set_option linter.all false
set_option maxRecDepth 100000
set_option maxHeartbeats 4000000
/-! dicts whose keys are ints, texts and tuples of these, mixed -/
namespace L2
open PySem PySem.Spec PyProof.Rows
open PySem.Sem (wp)
abbrev MK := Key ⊕ List Key
section
variable {P : Program} {w : World}
def mIs (P : Program) (w : World) (h : Heap) : MK → Value → Prop
  | .inl x, v => (mixKind P w).is x v = true
  | .inr ks, v => ∃ a, v = .ref a ∧ IsTupleKey (mixKind P w) h ks a
def mHash (P : Program) (w : World) : MK → Int
  | .inl x => (mixKind P w).hash x
  | .inr ks => tupleKeyHash (mixKind P w) ks
def mDraws : MK → Nat
  | .inl _ => 1
  | .inr ks => ks.length + 1
theorem mIs.inj {h : Heap} {x y : MK} {v : Value} (hx : mIs P w h x v) (hy : mIs P w h y v) : x = y := by
  cases x with
  | inl x =>
    cases y with
    | inl y => rw [(mixKind P w).inj v x y hx hy]
    | inr ks =>
      obtain ⟨a, rfl, _⟩ := hy
      exact nomatch (mixKind P w).byValue _ _ hx
  | inr ks =>
    obtain ⟨a, rfl, h1⟩ := hx
    cases y with
    | inl y => exact nomatch (mixKind P w).byValue _ _ hy
    | inr ls =>
      obtain ⟨b, e, h2⟩ := hy
      cases e
      rw [h1.inj h2]
theorem mIs.keeps {h h' : Heap} {k : MK} {v : Value} {d : Addr} {o : Obj} {es ep} (x : mIs P w h k v) (ho : h.get? d = some o) (hd : o.data = .dict es ep) (hs : Heap.SameBut d h h') : mIs P w h' k v := by
  cases k with
  | inl k => exact x
  | inr ks =>
    obtain ⟨a, rfl, h1⟩ := x
    exact ⟨a, rfl, h1.keeps ho hd hs⟩
variable {A : Around} {E : Value → Shared → Prop} {s : Shared}
theorem m_pyHash {k : MK} {v : Value} {Q : Int → Shared → Prop} (hu : A.units < cLine) (hk : mIs P w s.heap k v) (h : Q (mHash P w k) { s with toks := s.toks + mDraws k }) : wpAny (model P w) A (PySem.pyHash v) Q E s := by
  cases k with
  | inl k => exact (mixKind P w).pyHash hk h
  | inr ks =>
    obtain ⟨a, rfl, h1⟩ := hk
    exact wpAny_pyHash_tuple hu h1 h
theorem tupKey_at {ks : List Key} {a : Addr} (h : IsTupleKey (mixKind P w) s.heap ks a) : ∃ its, s.heap.IsTuple a its := by
  obtain ⟨o, items, n, h1, h2, h3, _⟩ := h
  exact ⟨items, o, h1, h2, n, h3⟩
theorem m_eqBool {x y : MK} {u v : Value} {Q : Bool → Shared → Prop} (hu : A.units < cLine) (hx : mIs P w s.heap x u) (hy : mIs P w s.heap y v) (h : Q (decide (x = y)) s) : wpAny (model P w) A (eqBool u v) Q E s := by
  cases x with
  | inl x =>
    cases y with
    | inl y =>
      refine (mixKind P w).eqBool hx hy ?_
      by_cases e : x = y
      · subst e; simpa using h
      · rw [decide_eq_false e]
        rwa [decide_eq_false (fun z => e (Sum.inl.inj z))] at h
    | inr ks =>
      rw [decide_eq_false (fun z => nomatch z)] at h
      obtain ⟨a, rfl, h1⟩ := hy
      obtain ⟨its, t⟩ := tupKey_at h1
      rcases keyIs_shape (show keyIs x u = true from hx) with ⟨i, t', rfl, rfl⟩ | ⟨z, t', rfl, rfl⟩
      · exact SeqAt.EqAt.int_tuple i t' t hu _ _ _ _ h
      · exact SeqAt.EqAt.str_tuple z t' t hu _ _ _ _ h
  | inr ks =>
    obtain ⟨a, rfl, h1⟩ := hx
    cases y with
    | inl y =>
      rw [decide_eq_false (fun z => nomatch z)] at h
      obtain ⟨its, t⟩ := tupKey_at h1
      rcases keyIs_shape (show keyIs y v = true from hy) with ⟨i, t', rfl, rfl⟩ | ⟨z, t', rfl, rfl⟩
      · exact SeqAt.EqAt.tuple_int i t' t hu _ _ _ _ h
      · exact SeqAt.EqAt.tuple_str z t' t hu _ _ _ _ h
    | inr ls =>
      obtain ⟨b, rfl, h2⟩ := hy
      refine wpAny_eqBool_tuple hu h1 h2 ?_
      by_cases e : ks = ls
      · subst e; simpa using h
      · rw [decide_eq_false e]
        rwa [decide_eq_false (fun z => e (Sum.inr.inj z))] at h
theorem m_quiet {k : MK} {v : Value} {Q : Bool → Shared → Prop} (hk : mIs P w s.heap k v) (h : Q true s) : wpAny (model P w) A (eqIsQuiet 8 v) Q E s := by
  cases k with
  | inl k =>
    rw [eqIsQuiet_byValue _ ((mixKind P w).byValue _ _ hk)]
    exact wpAny_pure h
  | inr ks =>
    obtain ⟨a, rfl, h1⟩ := hk
    exact wpAny_eqIsQuiet_tuple h1 h
theorem m_mayTell {k : MK} {key : Value} {stored : List Value} {Q : Bool → Shared → Prop} (hkey : mIs P w s.heap k key)
    (hst : ∀ v ∈ stored, ∃ k', mIs P w s.heap k' v) (h : Q false s) : wpAny (model P w) A (tableMayTell key stored) Q E s := by
  unfold tableMayTell
  split
  · exact wpAny_pure h
  · refine wpAny_bind (m_quiet hkey ?_)
    simp only [Bool.not_true, Bool.false_eq_true, if_false]
    refine wpAny_bind ?_
    refine wpAny_forIn_list _ (fun rest r s' => s' = s ∧ r = (none, ()) ∧ ∀ v ∈ rest, ∃ k', mIs P w s.heap k' v) _ ?_ ?_ _ _ ⟨rfl, rfl, hst⟩
    · rintro x rest r s' ⟨rfl, rfl, hr⟩
      obtain ⟨k', hb⟩ := hr x List.mem_cons_self
      refine wpAny_bind (m_quiet hb ?_)
      simp only [Bool.not_true, Bool.false_eq_true, if_false]
      exact wpAny_pure ⟨rfl, rfl, fun v hv => hr v (List.mem_cons_of_mem _ hv)⟩
    · rintro r s' ⟨rfl, rfl, _⟩
      exact wpAny_pure h
/-- the entry of a key -/
def mEnt (P : Program) (w : World) (x : MK × Value × Value) : DictEntry := ⟨mHash P w x.1, x.2.1, x.2.2⟩
/-- what is stored: es, the pairs xs -/
structure MTab (P : Program) (w : World) (h : Heap) (es : Array DictEntry) (xs : List (MK × Value × Value)) : Prop where
  ents : es.toList = xs.map (mEnt P w)
  is : ∀ x ∈ xs, mIs P w h x.1 x.2.1
  nd : (xs.map (·.1)).Nodup
theorem MTab.at {h : Heap} {es : Array DictEntry} {xs : List (MK × Value × Value)} (t : MTab P w h es xs) (j : Nat) : es[j]? = (xs[j]?).map (mEnt P w) := by
  rw [← Array.getElem?_toList, t.ents, List.getElem?_map]
theorem MTab.size {h : Heap} {es : Array DictEntry} {xs : List (MK × Value × Value)} (t : MTab P w h es xs) : es.size = xs.length := by
  rw [← Array.length_toList, t.ents, List.length_map]
theorem MTab.uniq {h : Heap} {es : Array DictEntry} {xs : List (MK × Value × Value)} (t : MTab P w h es xs) {i j : Nat} {p q : MK × Value × Value} (hi : xs[i]? = some p) (hj : xs[j]? = some q) (e : p.1 = q.1) : i = j := by
  have hi' : (xs.map (·.1))[i]? = some p.1 := by rw [List.getElem?_map, hi]; rfl
  have hj' : (xs.map (·.1))[j]? = some p.1 := by rw [List.getElem?_map, hj, e]; rfl
  exact (List.getElem?_inj (List.getElem?_eq_some_iff.mp hi').1 t.nd).mp (hi'.trans hj'.symm)
theorem MTab.mem {h : Heap} {es : Array DictEntry} {xs : List (MK × Value × Value)} (t : MTab P w h es xs) {e : DictEntry} (hin : e ∈ es) : ∃ x ∈ xs, e = mEnt P w x := by
  have : e ∈ xs.map (mEnt P w) := t.ents ▸ Array.mem_toList_iff.mpr hin
  obtain ⟨x, hx, rfl⟩ := List.mem_map.mp this
  exact ⟨x, hx, rfl⟩
theorem MTab.has {h : Heap} {es : Array DictEntry} {xs : List (MK × Value × Value)} (t : MTab P w h es xs) {j : Nat} {p : MK × Value × Value} (hj : xs[j]? = some p) : ((es[j]?.map (·.hash)) == some (mHash P w p.1)) = true := by
  rw [t.at j, hj]
  simp [mEnt]
theorem MTab.stored {h : Heap} {es : Array DictEntry} {xs : List (MK × Value × Value)} (t : MTab P w h es xs) (z : Int) : ∀ v ∈ (placesWithHash es.size (fun i => es[i]?.map (·.hash)) z).filterMap (fun i => es[i]?.map (·.key)), ∃ k', mIs P w h k' v := by
  intro v hv
  obtain ⟨i, _, hi⟩ := List.mem_filterMap.mp hv
  cases hei : es[i]? with
  | none => rw [hei] at hi; cases hi
  | some e =>
    rw [hei] at hi
    obtain rfl : e.key = v := by simpa using hi
    obtain ⟨x, hx, rfl⟩ := t.mem (Array.mem_of_getElem? hei)
    exact ⟨x.1, t.is x hx⟩
end
end L2

set_option maxHeartbeats 4000000
namespace L2
open PySem PySem.Spec PyProof.Rows
open PySem.Sem (wp)
section
variable {P : Program} {w : World} {A : Around} {E : Value → Shared → Prop} {s : Shared}
theorem m_walk {d : Addr} {o : Obj} {es : Array DictEntry} {ep} {xs : List (MK × Value × Value)} {k : MK} {key : Value} {Q : Option Nat → Shared → Prop} (hu : A.units < cLine) (hkey : mIs P w s.heap k key) (ho : s.heap.get? d = some o) (hd : o.data = .dict es ep) (t : MTab P w s.heap es xs)
    (hnone : (∀ x ∈ xs, x.1 ≠ k) → Q none s) (hsome : ∀ j x, xs[j]? = some x → x.1 = k → Q (some j) s) :
    wpAny (model P w) A (dictWalkPlain d key (mHash P w k) es (placesWithHash es.size (fun i => es[i]?.map (·.hash)) (mHash P w k))) Q E s := by
  refine wpAny_bind ?_
  refine wpAny_forIn_list _
    (fun rest b s' => s' = s ∧ b = (none, ()) ∧ ∃ i, rest = (List.range' i (es.size - i)).filter (fun i => (es[i]?.map (·.hash)) == some (mHash P w k)) ∧ i ≤ es.size ∧
      ∀ j p, j < i → xs[j]? = some p → p.1 ≠ k) _ ?_ ?_ _ _
    ⟨rfl, rfl, 0, by rw [placesWithHash, List.range_eq_range', Nat.sub_zero], Nat.zero_le _, fun _ _ h => absurd h (Nat.not_lt_zero _)⟩
  · rintro x rest b s' ⟨rfl, rfl, i, hr, hi, hno⟩
    obtain ⟨hix, hxn, hpx, hskip, hrest⟩ := filter_range'_cons _ _ _ _ _ hr.symm
    have hlt : x < es.size := by omega
    obtain ⟨p, hp⟩ : ∃ p, xs[x]? = some p := ⟨xs[x]'(by rw [← t.size]; exact hlt), List.getElem?_eq_getElem _⟩
    have hb := t.is p (List.mem_of_getElem? hp)
    have hbefore : ∀ j q, j < x → xs[j]? = some q → q.1 ≠ k := by
      intro j q hj hq e
      rcases Nat.lt_or_ge j i with h | h
      · exact hno j q h hq e
      · have h1 := hskip j h hj
        have h2 := t.has hq
        rw [e, h1] at h2
        cases h2
    have hnext : ¬ p.1 = k → ∃ i, rest = (List.range' i (es.size - i)).filter (fun i => (es[i]?.map (·.hash)) == some (mHash P w k)) ∧ i ≤ es.size ∧
        ∀ j q, j < i → xs[j]? = some q → q.1 ≠ k := fun hne =>
      ⟨x + 1, by rw [hrest]; congr 2; omega, hlt, fun j q hj hq => by
        rcases Nat.lt_or_ge j x with h | h
        · exact hbefore j q h hq
        · have : j = x := by omega
          subst this; rw [hp] at hq; cases hq; exact hne⟩
    have hex : es[x]? = some (mEnt P w p) := by rw [t.at x, hp]; rfl
    rw [hex]
    dsimp only
    by_cases hh : ((mEnt P w p).hash == mHash P w k) = true
    · rw [if_pos hh]
      refine wpAny_bind (wpAny_dictEpoch ho hd (wpAny_bind (m_eqBool (x := p.1) (y := k) hu hb hkey (wpAny_bind (wpAny_dictEpoch ho hd ?_)))))
      show wpAny _ _ (if (ep != ep) = true then _ else _) _ E _
      rw [if_neg (by simp)]
      by_cases hkk : p.1 = k
      · rw [decide_eq_true hkk]
        exact wpAny_bind (wpAny_rule (wpAny_pure (wpAny_pure (hsome x p hp hkk))))
      · rw [decide_eq_false hkk]
        exact wpAny_bind (wpAny_rule (wpAny_pure ⟨rfl, rfl, hnext hkk⟩))
    · rw [if_neg hh]
      refine wpAny_pure ⟨rfl, rfl, hnext ?_⟩
      intro hkk
      exact hh (by simp [mEnt, hkk])
  · rintro b s' ⟨rfl, rfl, i, hr, hi, hno⟩
    refine wpAny_pure (hnone fun x hx e => ?_)
    obtain ⟨j, hj⟩ := List.mem_iff_getElem?.mp hx
    rcases Nat.lt_or_ge j i with h | h
    · exact hno j x h hj e
    · have hjl : j < es.size := by rw [t.size]; exact (List.getElem?_eq_some_iff.mp hj).1
      have h1 := List.filter_eq_nil_iff.mp hr.symm j (List.mem_range'_1.mpr ⟨h, by omega⟩)
      have h2 := t.has hj
      rw [e] at h2
      exact h1 h2
/-- the loop of the careful lookup -/
theorem m_find {d : Addr} {o : Obj} {es : Array DictEntry} {ep} {xs : List (MK × Value × Value)} {k : MK} {key : Value} {Q : Option Nat → Shared → Prop} (hu : A.units < cLine) (hkey : mIs P w s.heap k key) (ho : s.heap.get? d = some o) (hd : o.data = .dict es ep) (t : MTab P w s.heap es xs)
    (hnone : (∀ x ∈ xs, x.1 ≠ k) → Q none s) (hsome : ∀ j x, xs[j]? = some x → x.1 = k → Q (some j) s) :
    wpAny (model P w) A (dictFind d key (mHash P w k)) Q E s := by
  have hst := t.stored (mHash P w k)
  unfold dictFind
  try with_reducible refine wpAny_holding ?_
  refine wpAny_bind (wpAny_dictEntries ho hd ?_)
  dsimp only
  have hany : ∀ a, key = .ref a → ¬ (es.any fun e => e.key == Value.ref a && e.hash != mHash P w k) = true := by
    rintro a rfl
    rw [← Array.any_toList, List.any_eq_true]
    rintro ⟨e, hin, hc⟩
    obtain ⟨x, hx, rfl⟩ := t.mem (Array.mem_toList_iff.mp hin)
    simp only [mEnt, Bool.and_eq_true, beq_iff_eq, bne_iff_ne, ne_eq] at hc
    obtain ⟨hxa, hne⟩ := hc
    have h1 := t.is x hx
    rw [hxa] at h1
    exact hne (by rw [h1.inj hkey])
  have fin : ∀ (tells : Bool), tells = false → wpAny (model P w) A (do
      if tells && (((placesWithHash es.size (fun i => es[i]?.map (·.hash)) (mHash P w k)).filterMap (fun i => es[i]?.map (·.key))).length ≥ 2) then unsupported "dict.find:order-among-keys-of-one-hash"
      let mut hit : Option Nat := none
      for i in (placesWithHash es.size (fun i => es[i]?.map (·.hash)) (mHash P w k)) do
        if let some e := es[i]? then
          if e.hash == mHash P w k then
            let before ← dictEpoch d (keyPart key)
            let same ← eqBool e.key key
            if (← dictEpoch d (keyPart key)) != before then unsupported "dict.changed-during-lookup"
            if same then
              if hit.isSome then unsupported "dict.find:order-among-keys-of-one-hash"
              rule "dict.find.hit"
              if ((placesWithHash es.size (fun i => es[i]?.map (·.hash)) (mHash P w k)).filterMap (fun i => es[i]?.map (·.key))).length < 2 then return some i
              hit := some i
            else
              rule "dict.find.same-hash-other-key"
              if tells && !(0 ≤ mHash P w k && mHash P w k < 32) then unsupported "dict.find:asked-again-or-not-hangs-on-the-table"
      return hit : Sem (Option Nat)) Q E s := by
    rintro tells rfl
    simp only [Bool.false_and, Bool.false_eq_true, if_false]
    first | refine wpAny_bind (wpAny_pure ?_) | skip
    refine wpAny_bind ?_
    refine wpAny_forIn_list _
      (fun rest b s' => s' = s ∧ ∃ i hit, b = (none, hit) ∧ rest = (List.range' i (es.size - i)).filter (fun i => (es[i]?.map (·.hash)) == some (mHash P w k)) ∧ i ≤ es.size ∧
        ((hit = none ∧ ∀ j p, j < i → xs[j]? = some p → p.1 ≠ k) ∨ ∃ j p, hit = some j ∧ j < i ∧ xs[j]? = some p ∧ p.1 = k)) _ ?_ ?_ _ _
      ⟨rfl, 0, none, rfl, by rw [placesWithHash, List.range_eq_range', Nat.sub_zero], Nat.zero_le _, .inl ⟨rfl, fun _ _ h => absurd h (Nat.not_lt_zero _)⟩⟩
    · rintro x rest b s' ⟨rfl, i, hit, rfl, hr, hi, hH⟩
      obtain ⟨hix, hxn, hpx, hskip, hrest⟩ := filter_range'_cons _ _ _ _ _ hr.symm
      have hlt : x < es.size := by omega
      have hrest' : rest = (List.range' (x + 1) (es.size - (x + 1))).filter (fun i => (es[i]?.map (·.hash)) == some (mHash P w k)) := by rw [hrest]; congr 2; omega
      obtain ⟨p, hp⟩ : ∃ p, xs[x]? = some p := ⟨xs[x]'(by rw [← t.size]; exact hlt), List.getElem?_eq_getElem _⟩
      have hb := t.is p (List.mem_of_getElem? hp)
      have hex : es[x]? = some (mEnt P w p) := by rw [t.at x, hp]; rfl
      have hHx : (hit = none ∧ ∀ j p, j < x → xs[j]? = some p → p.1 ≠ k) ∨ ∃ j p, hit = some j ∧ j < x ∧ xs[j]? = some p ∧ p.1 = k := by
        rcases hH with ⟨h0, hno⟩ | ⟨j, q, h1, hji, hj⟩
        · refine .inl ⟨h0, fun j q hjx hj e => ?_⟩
          rcases Nat.lt_or_ge j i with h | h
          · exact hno j q h hj e
          · have h1 := hskip j h hjx
            have h2 := t.has hj
            rw [e, h1] at h2
            cases h2
        · exact .inr ⟨j, q, h1, by omega, hj⟩
      have hstay : ¬ p.1 = k → ((hit = none ∧ ∀ j p, j < x + 1 → xs[j]? = some p → p.1 ≠ k) ∨ ∃ j p, hit = some j ∧ j < x + 1 ∧ xs[j]? = some p ∧ p.1 = k) := by
        intro hne
        rcases hHx with ⟨h0, hno⟩ | ⟨j, q, h1, hjx, hj⟩
        · refine .inl ⟨h0, fun j q hjx hj => ?_⟩
          rcases Nat.lt_or_ge j x with h | h
          · exact hno j q h hj
          · have hjx' : j = x := by omega
            subst hjx'
            rw [hp] at hj
            cases hj
            exact hne
        · exact .inr ⟨j, q, h1, by omega, hj⟩
      rw [hex]
      dsimp only
      by_cases hh : ((mEnt P w p).hash == mHash P w k) = true
      · rw [if_pos hh]
        refine wpAny_bind (wpAny_dictEpoch ho hd (wpAny_bind (m_eqBool (x := p.1) (y := k) hu hb hkey (wpAny_bind (wpAny_dictEpoch ho hd ?_)))))
        show wpAny _ _ (if (ep != ep) = true then _ else _) _ E _
        rw [if_neg (by simp)]
        by_cases hkk : p.1 = k
        · rw [decide_eq_true hkk]
          rcases hHx with ⟨rfl, _⟩ | ⟨j, q, _, hjx, hj, hq⟩
          · first | rw [if_pos rfl] | skip
            simp only [Option.isSome_none, Bool.false_eq_true, if_false]
            first | refine wpAny_bind (wpAny_pure ?_) | skip
            refine wpAny_bind (wpAny_rule ?_)
            split
            · exact wpAny_pure (wpAny_pure (hsome x p hp hkk))
            · exact wpAny_pure ⟨rfl, x + 1, some x, rfl, hrest', hlt, .inr ⟨x, p, rfl, Nat.lt_succ_self x, hp, hkk⟩⟩
          · exact absurd (t.uniq hj hp (hq.trans hkk.symm)) (by omega)
        · rw [decide_eq_false hkk]
          simp only [Bool.false_eq_true, if_false]
          refine wpAny_bind (wpAny_rule ?_)
          first | rw [if_neg (by simp)] | skip
          first
            | exact wpAny_pure ⟨rfl, x + 1, hit, rfl, hrest', hlt, hstay hkk⟩
            | exact wpAny_bind (wpAny_pure (wpAny_pure ⟨rfl, x + 1, hit, rfl, hrest', hlt, hstay hkk⟩))
      · rw [if_neg hh]
        refine wpAny_pure ⟨rfl, x + 1, hit, rfl, hrest', hlt, hstay ?_⟩
        intro hkk
        exact hh (by simp [mEnt, hkk])
    · rintro b s' ⟨rfl, i, hit, rfl, hr, hi, hH⟩
      rcases hH with ⟨rfl, hno⟩ | ⟨j, q, rfl, _, hj, hq⟩
      · refine wpAny_pure (hnone fun x hx e => ?_)
        obtain ⟨j, hj⟩ := List.mem_iff_getElem?.mp hx
        rcases Nat.lt_or_ge j i with h | h
        · exact hno j x h hj e
        · have hjl : j < es.size := by rw [t.size]; exact (List.getElem?_eq_some_iff.mp hj).1
          have h1 := List.filter_eq_nil_iff.mp hr.symm j (List.mem_range'_1.mpr ⟨h, by omega⟩)
          have h2 := t.has hj
          rw [e] at h2
          exact h1 h2
      · exact wpAny_pure (hsome j q hj hq)
  have careful : wpAny (model P w) A (do
      let tells ← if ((placesWithHash es.size (fun i => es[i]?.map (·.hash)) (mHash P w k)).filterMap (fun i => es[i]?.map (·.key))) == [key] then pure false else tableMayTell key ((placesWithHash es.size (fun i => es[i]?.map (·.hash)) (mHash P w k)).filterMap (fun i => es[i]?.map (·.key)))
      if tells && (((placesWithHash es.size (fun i => es[i]?.map (·.hash)) (mHash P w k)).filterMap (fun i => es[i]?.map (·.key))).length ≥ 2) then unsupported "dict.find:order-among-keys-of-one-hash"
      let mut hit : Option Nat := none
      for i in (placesWithHash es.size (fun i => es[i]?.map (·.hash)) (mHash P w k)) do
        if let some e := es[i]? then
          if e.hash == mHash P w k then
            let before ← dictEpoch d (keyPart key)
            let same ← eqBool e.key key
            if (← dictEpoch d (keyPart key)) != before then unsupported "dict.changed-during-lookup"
            if same then
              if hit.isSome then unsupported "dict.find:order-among-keys-of-one-hash"
              rule "dict.find.hit"
              if ((placesWithHash es.size (fun i => es[i]?.map (·.hash)) (mHash P w k)).filterMap (fun i => es[i]?.map (·.key))).length < 2 then return some i
              hit := some i
            else
              rule "dict.find.same-hash-other-key"
              if tells && !(0 ≤ mHash P w k && mHash P w k < 32) then unsupported "dict.find:asked-again-or-not-hangs-on-the-table"
      return hit : Sem (Option Nat)) Q E s := by
    by_cases hone : (((placesWithHash es.size (fun i => es[i]?.map (·.hash)) (mHash P w k)).filterMap (fun i => es[i]?.map (·.key))) == [key]) = true
    · rw [if_pos hone]
      exact wpAny_bind (wpAny_pure (fin false rfl))
    · rw [if_neg hone]
      exact wpAny_bind (m_mayTell hkey hst (fin false rfl))
  cases k with
  | inl x =>
    rcases keyIs_shape (show keyIs x key = true from hkey) with ⟨i, t', rfl, rfl⟩ | ⟨z, t', rfl, rfl⟩
    · dsimp only
      by_cases hc : ((Value.int i t' :: (placesWithHash es.size (fun i => es[i]?.map (·.hash)) (mHash P w (.inl (.inl i)))).filterMap (fun i => es[i]?.map (·.key))).all carriedByValue) = true
      · rw [if_pos hc]
        exact m_walk hu hkey ho hd t hnone hsome
      · rw [if_neg hc]
        exact careful
    · dsimp only
      by_cases hstrs : (es.all fun e => isExactStrKey e.key) = true
      · rw [if_pos hstrs]
        unfold foundByValue
        have hfun : ∀ p ∈ xs, (mEnt P w p).key.isStr z = decide (p.1 = (.inl (.inr z) : MK)) := by
          intro p hp
          have h1 := t.is p hp
          have h2 : isExactStrKey (mEnt P w p).key = true := by
            have hin : mEnt P w p ∈ es := by
              have : mEnt P w p ∈ es.toList := by rw [t.ents]; exact List.mem_map_of_mem hp
              exact Array.mem_toList_iff.mp this
            exact Array.all_eq_true_iff_forall_mem.mp hstrs _ hin
          have h3 : (mEnt P w p).key = p.2.1 := rfl
          rw [h3] at h2 ⊢
          cases hv : p.2.1 with
          | str y u =>
            rw [hv] at h1
            have e1 : p.1 = (.inl (.inr y) : MK) := h1.inj (show mIs P w s.heap (.inl (.inr y)) (.str y u) from mixKind_str P w y u)
            rw [e1]
            by_cases e : y = z
            · subst e; simp [Value.isStr]
            · rw [decide_eq_false (fun q => e (Sum.inr.inj (Sum.inl.inj q)))]
              simp only [Value.isStr]
              first | exact decide_eq_false e | exact beq_eq_false_iff_ne.mpr e | simp [e]
          | _ => rw [hv] at h2; cases h2
        cases hf : es.findIdx? (fun e => e.key.isStr z) with
        | none =>
          refine wpAny_pure (hnone fun p hp e => ?_)
          have hin : mEnt P w p ∈ es := by
            have : mEnt P w p ∈ es.toList := by rw [t.ents]; exact List.mem_map_of_mem hp
            exact Array.mem_toList_iff.mp this
          have h1 := Array.findIdx?_eq_none_iff.mp hf _ hin
          rw [hfun p hp, e] at h1
          simp at h1
        | some i =>
          obtain ⟨hlt, hi, _⟩ := Array.findIdx?_eq_some_iff_getElem.mp hf
          obtain ⟨p, hp⟩ : ∃ p, xs[i]? = some p := ⟨xs[i]'(by rw [← t.size]; exact hlt), List.getElem?_eq_getElem _⟩
          have hex : es[i]? = some (mEnt P w p) := by rw [t.at i, hp]; rfl
          have hei : es[i] = mEnt P w p := by rw [Array.getElem?_eq_getElem hlt] at hex; exact Option.some.inj hex
          have hm := List.mem_of_getElem? hp
          rw [hei, hfun p hm] at hi
          have hkk := of_decide_eq_true hi
          simp only [hex]
          refine wpAny_bind (wpAny_dictEpoch ho hd (wpAny_bind (m_eqBool (x := p.1) (y := .inl (.inr z)) hu (t.is p hm) hkey (wpAny_bind (wpAny_dictEpoch ho hd ?_)))))
          show wpAny _ _ (if (ep != ep) = true then _ else _) _ E _
          rw [if_neg (by simp), decide_eq_true hkk]
          exact wpAny_bind (wpAny_rule (wpAny_pure (hsome i p hp hkk)))
      · rw [if_neg hstrs]
        by_cases hc : ((Value.str z t' :: (placesWithHash es.size (fun i => es[i]?.map (·.hash)) (mHash P w (.inl (.inr z)))).filterMap (fun i => es[i]?.map (·.key))).all carriedByValue) = true
        · rw [if_pos hc]
          exact m_walk hu hkey ho hd t hnone hsome
        · rw [if_neg hc]
          exact careful
  | inr ks =>
    obtain ⟨a, rfl, h1⟩ := hkey
    dsimp only
    rw [if_neg (show ¬ ((Value.ref a :: (placesWithHash es.size (fun i => es[i]?.map (·.hash)) (mHash P w (.inr ks))).filterMap (fun i => es[i]?.map (·.key))).all carriedByValue) = true by simp [carriedByValue])]
    rw [if_neg (hany a rfl)]
    exact careful
end
end L2

set_option maxHeartbeats 4000000
namespace L2
open PySem PySem.Spec PyProof.Rows
open PySem.Sem (wp)
/-! ### the hash, the entry, without the program -/
def mHW (w : World) : MK → Int
  | .inl x => keyH w x
  | .inr ks => reduceHash (Builtin.Tuple.tupleHashOf (ks.map (keyH w)))
theorem mHW_eq (P : Program) (w : World) (k : MK) : mHash P w k = mHW w k := by cases k <;> rfl
def mEW (w : World) (x : MK × Value × Value) : DictEntry := ⟨mHW w x.1, x.2.1, x.2.2⟩
theorem mEW_eq (P : Program) (w : World) : mEnt P w = mEW w := funext fun x => by unfold mEnt mEW; rw [mHW_eq]
section
variable {α β : Type}
def mAny (xs : List (MK × α × β)) (k : MK) : Bool := xs.any fun x => decide (x.1 = k)
def mVal (xs : List (MK × α × β)) (k : MK) : Option β := (xs.find? fun x => decide (x.1 = k)).map (·.2.2)
def mRep (k : MK) (v : β) (x : MK × α × β) : MK × α × β := if x.1 = k then (x.1, x.2.1, v) else x
def mPut (xs : List (MK × α × β)) (k : MK) (y : α) (v : β) : List (MK × α × β) := if mAny xs k then xs.map (mRep k v) else xs ++ [(k, y, v)]
theorem mRep_fst (k : MK) (v : β) (x : MK × α × β) : (mRep k v x).1 = x.1 := by unfold mRep; split <;> rfl
theorem mRep_key (k : MK) (v : β) (x : MK × α × β) : (mRep k v x).2.1 = x.2.1 := by unfold mRep; split <;> rfl
theorem mPut_len (xs : List (MK × α × β)) (k : MK) (y : α) (v : β) : (mPut xs k y v).length ≤ xs.length + 1 := by
  unfold mPut; split <;> simp
theorem mPut_nd {xs : List (MK × α × β)} (h : (xs.map (·.1)).Nodup) (k : MK) (y : α) (v : β) : ((mPut xs k y v).map (·.1)).Nodup := by
  unfold mPut
  split
  · rw [List.map_map]
    have : ((fun x : MK × α × β => x.1) ∘ mRep k v) = (·.1) := funext fun x => mRep_fst k v x
    rw [this]; exact h
  · rename_i hn
    rw [List.map_append, List.nodup_append]
    refine ⟨h, by simp, fun x hx y' hy e => ?_⟩
    simp only [List.map_cons, List.map_nil, List.mem_singleton] at hy
    subst hy e
    obtain ⟨z, hz, e⟩ := List.mem_map.mp hx
    exact hn (List.any_eq_true.mpr ⟨z, hz, decide_eq_true e⟩)
theorem mVal_at : ∀ {xs : List (MK × α × β)} {j : Nat} {p : MK × α × β}, (xs.map (·.1)).Nodup → xs[j]? = some p → mVal xs p.1 = some p.2.2
  | [], j, p, _, e => by simp at e
  | x :: xs, 0, p, _, e => by
    simp at e; subst e
    simp [mVal]
  | x :: xs, j + 1, p, h, e => by
    rw [List.map_cons, List.nodup_cons] at h
    have e' : xs[j]? = some p := by simpa using e
    have hne : ¬ x.1 = p.1 := fun q => h.1 (q ▸ List.mem_map.mpr ⟨p, List.mem_of_getElem? e', rfl⟩)
    have := mVal_at h.2 e'
    unfold mVal at this ⊢
    rw [List.find?_cons, decide_eq_false hne]
    exact this
theorem mVal_none {xs : List (MK × α × β)} {k : MK} (h : ∀ x ∈ xs, x.1 ≠ k) : mVal xs k = none := by
  unfold mVal
  rw [List.find?_eq_none.mpr fun x hx => by simpa using h x hx]
  rfl
end
section
variable {P : Program} {w : World} {A : Around} {E : Value → Shared → Prop} {s : Shared}
theorem m_dictGet {d : Addr} {o : Obj} {es : Array DictEntry} {ep} {xs : List (MK × Value × Value)} {k : MK} {key : Value} {Q : Option Value → Shared → Prop} (hu : A.units < cLine) (hkey : mIs P w s.heap k key) (ho : s.heap.get? d = some o) (hd : o.data = .dict es ep) (t : MTab P w s.heap es xs)
    (h : Q (mVal xs k) { s with toks := s.toks + mDraws k }) : wpAny (model P w) A (dictGet d key) Q E s := by
  unfold dictGet
  try with_reducible refine wpAny_holding ?_
  refine wpAny_bind (m_pyHash hu hkey (wpAny_bind (m_find (s := { s with toks := s.toks + mDraws k }) hu hkey ho hd t ?_ ?_)))
  · intro hno
    rw [mVal_none hno] at h
    exact wpAny_pure h
  · intro j p hj e
    have hv := mVal_at t.nd hj
    rw [e] at hv
    rw [hv] at h
    refine wpAny_bind (wpAny_dictEntries (s := { s with toks := s.toks + mDraws k }) ho hd ?_)
    rw [t.at j, hj]
    exact wpAny_pure h
theorem m_repl : ∀ {xs : List (MK × Value × Value)} {j : Nat} {p : MK × Value × Value} (v : Value), (xs.map (·.1)).Nodup → xs[j]? = some p → (xs.map (mEnt P w)).modify j (fun e : DictEntry => { e with val := v }) = (xs.map (mRep p.1 v)).map (mEnt P w)
  | [], j, p, v, _, e => by simp at e
  | x :: xs, 0, p, v, h, e => by
    simp at e; subst e
    rw [List.map_cons, List.nodup_cons] at h
    have hx : xs.map (mRep x.1 v) = xs := by
      conv => rhs; rw [← List.map_id xs]
      refine List.map_congr_left fun y hy => ?_
      have : ¬ y.1 = x.1 := fun q => h.1 (List.mem_map.mpr ⟨y, hy, q⟩)
      unfold mRep; rw [if_neg this]; rfl
    rw [List.map_cons, List.map_cons, List.map_cons, hx]
    show ({ mEnt P w x with val := v } : DictEntry) :: _ = _
    unfold mRep
    rw [if_pos rfl]
    rfl
  | x :: xs, j + 1, p, v, h, e => by
    rw [List.map_cons, List.nodup_cons] at h
    have e' : xs[j]? = some p := by simpa using e
    have hne : ¬ x.1 = p.1 := fun q => h.1 (q ▸ List.mem_map.mpr ⟨p, List.mem_of_getElem? e', rfl⟩)
    rw [List.map_cons, List.map_cons, List.map_cons]
    show mEnt P w x :: (xs.map (mEnt P w)).modify j _ = _
    rw [m_repl v h.2 e']
    have e1 : mRep p.1 v x = x := by unfold mRep; rw [if_neg hne]
    rw [e1]
theorem m_dictSet {d : Addr} {o : Obj} {es : Array DictEntry} {ep} {xs : List (MK × Value × Value)} {k : MK} {key v : Value} {Q : Unit → Shared → Prop} (hu : A.units < cLine) (hkey : mIs P w s.heap k key) (ho : s.heap.get? d = some o) (hc : o.ExactDict) (hd : o.data = .dict es ep) (t : MTab P w s.heap es xs)
    (hQ : ∀ h' o' es' ep', h'.get? d = some o' → o'.ExactDict → o'.data = .dict es' ep' → es'.toList = (mPut xs k key v).map (mEnt P w) → Heap.SameBut d s.heap h' → Q () { s with heap := h', toks := s.toks + mDraws k })
    (hsz : xs.length ≤ sizeLine) : wpAny (model P w) A (dictSet d key v) Q E s := by
  unfold dictSet
  try with_reducible refine wpAny_holding ?_
  refine wpAny_bind (m_pyHash hu hkey ?_)
  unfold dictSetHashed
  try with_reducible refine wpAny_holding ?_
  refine wpAny_bind (m_find (s := { s with toks := s.toks + mDraws k }) hu hkey ho hd t ?_ ?_)
  · intro hno
    have hany : mAny xs k = false := by
      unfold mAny
      rw [List.any_eq_false]
      intro x hx
      simpa using hno x hx
    refine wpAny_bind (wpAny_rule (wpAny_updateDictKeys (hz := by have e := t.size; omega) (s := { s with toks := s.toks + mDraws k }) ho hd (hQ _ _ _ (ep + 1) (Heap.get?_update_self _ ho (Obj.isFreed_of_dict (Obj.data_mapDictKeys hd _)))
      (hc.mapDictKeys _) (Obj.data_mapDictKeys hd _) ?_ (Heap.SameBut.update ..))))
    unfold mPut
    rw [hany]
    simp [t.ents, mEnt]
  · intro j p hj e
    have hany : mAny xs k = true := by
      unfold mAny
      exact List.any_eq_true.mpr ⟨p, List.mem_of_getElem? hj, decide_eq_true e⟩
    refine wpAny_bind (wpAny_rule (wpAny_bind (wpAny_updateDict (s := { s with toks := s.toks + mDraws k }) ho hd (wpAny_point (hQ _ _ _ ep (Heap.get?_update_self _ ho (Obj.isFreed_of_dict (Obj.data_mapDict hd _)))
      (hc.mapDict _) (Obj.data_mapDict hd _) ?_ (Heap.SameBut.update ..))))))
    unfold mPut
    rw [hany, if_pos rfl]
    have := m_repl (P := P) (w := w) v t.nd hj
    rw [e, ← t.ents] at this
    obtain ⟨l⟩ := es
    simpa using this
theorem m_getItem {d : Addr} {o : Obj} {es : Array DictEntry} {ep} {xs : List (MK × Value × Value)} {k : MK} {key v : Value} {Q : Value → Shared → Prop} (hu : A.units + 1 < cLine) (hkey : mIs P w s.heap k key) (ho : s.heap.get? d = some o) (hc : o.ExactDict) (hd : o.data = .dict es ep) (t : MTab P w s.heap es xs)
    (hv : mVal xs k = some v) (h : Q v { s with toks := s.toks + mDraws k }) : wpAny (model P w) A (getItem (.ref d) key) Q E s := by
  have hT : s.TypeIs (.ref d) "dict" := ⟨o, ho, hc.1⟩
  unfold getItem
  try with_reducible refine wpAny_holding ?_
  refine wpAny_bind (wpAny_sequenceKey hT (by decide) ?_)
  refine wpAny_bind (wpAny_callSpecial?_slot (name := Str.ofString "__getitem__") hT slot_dict_getitem
    (wpAny_call_entry slot_dict_getitem hT entry_dict_getitem ?_ (args_dict_getitem _ _)))
  show wpAny _ _ (dictGet d key >>= _) _ _ s
  refine wpAny_bind (m_dictGet (A := A.in1) hu hkey ho hd t ?_)
  rw [hv]
  exact wpAny_pure ⟨v, rfl, wpAny_pure h⟩
theorem m_setItem {d : Addr} {o : Obj} {es : Array DictEntry} {ep} {xs : List (MK × Value × Value)} {k : MK} {key v : Value} {Q : Unit → Shared → Prop} (hu : A.units + 1 < cLine) (hkey : mIs P w s.heap k key) (ho : s.heap.get? d = some o) (hc : o.ExactDict) (hd : o.data = .dict es ep) (t : MTab P w s.heap es xs)
    (hQ : ∀ h' o' es' ep', h'.get? d = some o' → o'.ExactDict → o'.data = .dict es' ep' → es'.toList = (mPut xs k key v).map (mEnt P w) → Heap.SameBut d s.heap h' → Q () { s with heap := h', toks := s.toks + mDraws k })
    (hsz : xs.length ≤ sizeLine) : wpAny (model P w) A (setItem (.ref d) key v) Q E s := by
  have hT : s.TypeIs (.ref d) "dict" := ⟨o, ho, hc.1⟩
  unfold setItem
  try with_reducible refine wpAny_holding ?_
  refine wpAny_bind (wpAny_sequenceKey hT (by decide) ?_)
  refine wpAny_bind (wpAny_callSpecial?_slot (name := Str.ofString "__setitem__") hT slot_dict_setitem
    (wpAny_call_entry slot_dict_setitem hT entry_dict_setitem ?_ (args_dict_setitem _ _ _)))
  show wpAny _ _ (Builtin.Dict.notOrdered "__setitem__" ⟨[.ref d, key, v], []⟩ >>= _) _ _ s
  refine wpAny_bind (wpAny_notOrdered_dict hT ?_)
  show wpAny _ _ (dictSet d key v >>= _) _ _ s
  exact wpAny_bind (m_dictSet (A := A.in1) hu hkey ho hc hd t (fun h' o' es' ep' a1 a2 a3 a4 a5 => wpAny_pure ⟨.none, rfl, wpAny_pure (hQ h' o' es' ep' a1 a2 a3 a4 a5)⟩) hsz)
end
/-! ### a tracked dict with mixed keys -/
abbrev XVs := List (MK × V × V)
abbrev RelX (q : MK × V × V) (x : MK × Value × Value) : Prop := q.1 = x.1 ∧ RelV q.2.1 x.2.1 ∧ RelV q.2.2 x.2.2
def MixP (w : World) (a : Addr) (qs : XVs) : Heap → Prop := fun h => qs.length ≤ sizeLine ∧ (a == sysModules) = false ∧ ∃ xs : List (MK × Value × Value), Paired RelX qs xs ∧
  ∃ o es ep, h.get? a = some o ∧ o.ExactDict ∧ o.data = .dict es ep ∧ es.toList = xs.map (mEW w) ∧ (xs.map (·.1)).Nodup
abbrev MixO (w : World) (a : Addr) (qs : XVs) : HO := .ext (MixP w a qs)
/-- the value y is the key k -/
def KeyAt (K : PySem.W.Frag) (H : Hp) : MK → V → Prop
  | .inl x, y => y = kV x
  | .inr ks, y => ∃ b, y = .ref b ∧ SqT K H b (ks.map kV)
def KeysAt (K : PySem.W.Frag) (H : Hp) (qs : XVs) : Prop := ∀ q ∈ qs, KeyAt K H q.1 q.2.1
theorem mixP_at {w : World} {a : Addr} {qs : XVs} {h h' : Heap} (p : MixP w a qs h) (k : ∀ o, h.get? a = some o → h'.get? a = some o) : MixP w a qs h' := by
  obtain ⟨z, y, xs, r, o, es, ep, ho, c⟩ := p
  exact ⟨z, y, xs, r, o, es, ep, k o ho, c⟩
theorem mix_new {P : Program} {w : World} {H : Hp} {h : Heap} {a : Addr} {qs : XVs} (p : MixP w a qs h) : ObjOk P w H h a (MixO w a qs) := by
  have ⟨_, _, _, _, o, _, _, ho, _⟩ := p
  exact ⟨p, ⟨o, ho⟩, fun h1 h2 p k => mixP_at p k⟩
theorem mix_empty {P : Program} {w : World} {H : Hp} (h : Heap) (hb : sysModules < h.objs.size) : ObjOk P w H (h.push { cls := .type "dict", data := .dict #[] }) h.objs.size (MixO w h.objs.size []) :=
  mix_new ⟨Nat.zero_le _, beq_eq_false_iff_ne.mpr (Ne.symm (Nat.ne_of_lt hb)), [], .nil, _, #[], 0, Heap.get?_push_size _ rfl, ⟨rfl, rfl, rfl⟩, rfl, rfl, List.nodup_nil⟩
section
variable {X : Cx} {pins : List (Addr × Obj)} {σ : St} {H : Hp} {s : Shared} {a : Addr} {qs : XVs} {y v : V} {u r : Value} {k : MK} {A : Around} {E : Value → Shared → Prop}
theorem KeyAt.is (I : Inv X pins σ H s) (h : KeyAt X.K H k y) (ry : RelV y u) : mIs X.prog X.w s.heap k u := by
  cases k with
  | inl x => subst h; exact kV_is ry
  | inr ks =>
    obtain ⟨b, rfl, h⟩ := h
    cases (show u = Value.ref b from ry)
    obtain ⟨its, r, ⟨o, h1, h2, n, h3⟩, _⟩ := I.tuple h
    exact ⟨b, rfl, o, its.toArray, n, h1, h2, h3, by simpa using items_are r⟩
theorem mix_at (I : Inv X pins σ H s) (e : Rd H a (MixO X.w a qs)) (hk : KeysAt X.K H qs) : qs.length ≤ sizeLine ∧ (a == sysModules) = false ∧ ∃ xs : List (MK × Value × Value), Paired RelX qs xs ∧
    ∃ o es ep, s.heap.get? a = some o ∧ o.ExactDict ∧ o.data = .dict es ep ∧ MTab X.prog X.w s.heap es xs := by
  obtain ⟨⟨z, hd, xs, r, o, es, ep, h1, h2, h3, h4, h5⟩, _⟩ := (show ObjOk X.prog X.w H s.heap a (MixO X.w a qs) from e.ok I.hok)
  refine ⟨z, hd, xs, r, o, es, ep, h1, h2, h3, by rw [mEW_eq]; exact h4, fun x hx => ?_, h5⟩
  have all : ∀ {l : XVs} {m : List (MK × Value × Value)}, Paired RelX l m → KeysAt X.K H l → ∀ x ∈ m, mIs X.prog X.w s.heap x.1 x.2.1 := by
    intro l m q
    induction q with
    | nil => intro _ x hx; exact nomatch hx
    | @cons p q ps qs hq t ih =>
      intro hk x hx
      rcases List.mem_cons.mp hx with e | hx
      · subst e
        have := hk p List.mem_cons_self
        rw [hq.1] at this
        exact this.is I hq.2.1
      · exact ih (fun z hz => hk z (List.mem_cons_of_mem _ hz)) x hx
  exact all r hk x hx
theorem relX_val {xs : List (MK × Value × Value)} (r : Paired RelX qs xs) (k : MK) : RelO (mVal qs k) (mVal xs k) := by
  induction r with
  | nil => exact True.intro
  | @cons p q ps qs h t ih =>
    obtain ⟨h1, _, h2⟩ := h
    unfold mVal at ih ⊢
    rw [List.find?_cons, List.find?_cons, ← h1]
    by_cases e : p.1 = k
    · rw [decide_eq_true e]; exact h2
    · rw [decide_eq_false e]; exact ih
theorem relX_any {xs : List (MK × Value × Value)} (r : Paired RelX qs xs) (k : MK) : mAny qs k = mAny xs k := by
  induction r with
  | nil => rfl
  | @cons p q ps qs h t ih =>
    unfold mAny at ih ⊢
    rw [List.any_cons, List.any_cons, ih, h.1]
theorem relX_rep : ∀ {qs : XVs} {xs : List (MK × Value × Value)}, Paired RelX qs xs → RelV v r → Paired RelX (qs.map (mRep k v)) (xs.map (mRep k r))
  | _, _, .nil, _ => .nil
  | p :: ps, q :: qs, .cons h t, rv => by
    rw [List.map_cons, List.map_cons]
    refine .cons ?_ (relX_rep t rv)
    obtain ⟨h1, h2, h3⟩ := h
    unfold mRep
    by_cases e : p.1 = k
    · rw [if_pos e, if_pos (h1.symm.trans e)]; exact ⟨h1, h2, rv⟩
    · rw [if_neg e, if_neg (fun z => e (h1.trans z))]; exact ⟨h1, h2, h3⟩
theorem relX_keys : ∀ {qs : XVs} {xs : List (MK × Value × Value)}, Paired RelX qs xs → Vals (qs.map fun q => q.2.1) (xs.map fun x => x.2.1)
  | _, _, .nil => .nil
  | _, _, .cons h t => .cons h.2.1 (relX_keys t)
theorem relX_put {xs : List (MK × Value × Value)} (t : Paired RelX qs xs) (ry : RelV y u) (rv : RelV v r) : Paired RelX (mPut qs k y v) (mPut xs k u r) := by
  unfold mPut
  rw [relX_any t]
  split
  · exact relX_rep t rv
  · exact Paired.snoc t ⟨rfl, ry, rv⟩
theorem mx_get {Q : Value → Shared → Prop} (hu : A.units + 1 < cLine) (I : Inv X pins σ H s) (e : Rd H a (MixO X.w a qs)) (hk : KeysAt X.K H qs) (ky : KeyAt X.K H k y) (hv : mVal qs k = some v) (ry : RelV y u) (h : ∀ w' s', Inv X pins σ H s' → RelV v w' → Q w' s') :
    wpAny (model X.prog X.w) A (getItem (.ref a) u) Q E s := by
  obtain ⟨z, hd, xs, r, o, es, ep, h1, h2, h3, t⟩ := mix_at I e hk
  obtain ⟨w', hw, rw'⟩ := RelO.some_of (v := v) (o := mVal xs k) (by rw [← hv]; exact relX_val r k)
  exact m_getItem hu (ky.is I ry) h1 h2 h3 t hw (h w' _ (I.tok _) rw')
theorem mx_new {xs : List (MK × Value × Value)} {h' : Heap} {o' : Obj} {es' : Array DictEntry} {ep' : Nat} (z : qs.length < sizeLine) (hd : (a == sysModules) = false) (t : Paired RelX qs xs) (nd : (xs.map (·.1)).Nodup) (ry : RelV y u) (rv : RelV v r)
    (a1 : h'.get? a = some o') (a2 : o'.ExactDict) (a3 : o'.data = .dict es' ep') (a4 : es'.toList = (mPut xs k u r).map (mEnt X.prog X.w)) : MixP X.w a (mPut qs k y v) h' := by
  refine ⟨by have := mPut_len qs k y v; omega, hd, _, relX_put t ry rv, o', es', ep', a1, a2, a3, by rw [← mEW_eq X.prog]; exact a4, mPut_nd nd k u r⟩
theorem mx_set {Q : Unit → Shared → Prop} (hu : A.units + 1 < cLine) (I : Inv X pins σ H s) (e : H a = some (MixO X.w a qs)) (hk : KeysAt X.K H qs) (ky : KeyAt X.K H k y) (hz : qs.length < sizeLine) (ry : RelV y u) (rv : RelV v r)
    (h : ∀ s', Inv X pins σ (upd H a (MixO X.w a (mPut qs k y v))) s' → Q () s') : wpAny (model X.prog X.w) A (setItem (.ref a) u r) Q E s := by
  obtain ⟨z, hd, xs, t, o, es, ep, h1, h2, h3, tb⟩ := mix_at I (.of e) hk
  refine m_setItem hu (ky.is I ry) h1 h2 h3 tb (fun h' o' es' ep' a1 a2 a3 a4 hs => h _ ?_) (by rw [← Paired.length t]; exact z)
  exact d_write I (by rw [e]; exact True.intro) hs ⟨o', a1⟩ (mix_new (mx_new (X := X) hz hd t tb.nd ry rv a1 a2 a3 a4))
theorem mx_dictSet {Q : Unit → Shared → Prop} (hu : A.units < cLine) (I : Inv X pins σ H s) (e : H a = some (MixO X.w a qs)) (hk : KeysAt X.K H qs) (ky : KeyAt X.K H k y) (hz : qs.length < sizeLine) (ry : RelV y u) (rv : RelV v r)
    (h : ∀ s', Inv X pins σ (upd H a (MixO X.w a (mPut qs k y v))) s' → Q () s') : wpAny (model X.prog X.w) A (dictSet a u r) Q E s := by
  obtain ⟨z, hd, xs, t, o, es, ep, h1, h2, h3, tb⟩ := mix_at I (.of e) hk
  refine m_dictSet hu (ky.is I ry) h1 h2 h3 tb (fun h' o' es' ep' a1 a2 a3 a4 hs => h _ ?_) (by rw [← Paired.length t]; exact z)
  exact d_write I (by rw [e]; exact True.intro) hs ⟨o', a1⟩ (mix_new (mx_new (X := X) hz hd t tb.nd ry rv a1 a2 a3 a4))
theorem mix_type (I : Inv X pins σ H s) (e : Rd H a (MixO X.w a qs)) : s.TypeIs (.ref a) "dict" := by
  obtain ⟨⟨z, hd, xs, r, o, es, ep, h1, h2, _⟩, _⟩ := (show ObjOk X.prog X.w H s.heap a (MixO X.w a qs) from e.ok I.hok)
  exact ⟨o, h1, h2.1⟩
end
/-! ### rules -/
def tGetX (K : PySem.W.Frag) (w : World) (td ty : TE) : TE := fun σ H Q => td σ H fun x H1 => ty σ H1 fun y H2 => ∃ a qs k v, x = .ref a ∧ Rd H2 a (MixO w a qs) ∧ KeysAt K H2 qs ∧ KeyAt K H2 k y ∧ mVal qs k = some v ∧ Q v H2
def sPutX (K : PySem.W.Frag) (w : World) (td ty tv : TE) : TS := fun D σ H => tv σ H fun v H1 => td σ H1 fun x H2 => ty σ H2 fun y H3 => ∃ a qs k, x = .ref a ∧ H3 a = some (MixO w a qs) ∧ KeysAt K H3 qs ∧ KeyAt K H3 k y ∧ qs.length < sizeLine ∧ D.nx σ (upd H3 a (MixO w a (mPut qs k y v)))
def tDNewX (w : World) : TE := fun _ H Q => ∀ p, H p = none → Q (.ref p) (upd H p (MixO w p []))
section
variable {X : Cx} {o i e value tg : Expr} {pos pos' tpos : Pos} {td ty tv : TE}
theorem pe_dgetX (hu : X.A.units + 1 < cLine) (ho : PE X o td) (hi : PE X i ty) (hs : NoSl i) : PE X (.Subscript o i pos) (tGetX X.K X.w td ty) := by
  refine ⟨fun pins s σ H Q I h => ?_⟩
  refine subD_of PySem.F.slot_dict_getitem.lookup hs (thn (ho.run pins s σ H _ I h) fun u s1 ⟨x, H1, I1, rx, q1⟩ => thn (hi.run pins s1 σ H1 _ I1 q1) fun iv s2 ⟨y, H2, I2, ry, a, qs, k, v, ex, g, hk, ky, hv, q2⟩ => ?_)
  subst ex
  obtain rfl : u = Value.ref a := rx
  exact ⟨mix_type I2 g, mx_get hu I2 g hk ky hv ry fun w' s3 I3 rw' => ⟨v, H2, I3, rw', q2⟩⟩
theorem ps_dputX (hu : X.A.units + 1 < cLine) (ho : PE X o td) (hi : PE X i ty) (hv : PE X value tv) (hs : swapsWith value (some (.Subscript o i pos')) pos.line X.env = pure false) :
    PS X (.Assign [.Subscript o i pos'] value pos) (sPutX X.K X.w td ty tv) := by
  refine ⟨fun pins s σ H D I h => ?_⟩
  refine wpAny_Assign_Subscript (thn (hv.run pins s σ H _ I h) fun r s1 ⟨v, H1, I1, rv, q1⟩ => thn (ho.run pins s1 σ H1 _ I1 q1) fun u s2 ⟨x, H2, I2, rx, q2⟩ => thn (hi.run pins s2 σ H2 _ I2 q2) fun iv s3 ⟨y, H3, I3, ry, a, qs, k, ex, g, hk, ky, hz, q3⟩ => ?_) hs
  subst ex
  obtain rfl : u = Value.ref a := rx
  exact mx_set hu I3 g hk ky hz ry rv fun s4 I4 => ⟨σ, _, I4, q3⟩
theorem pe_dnewX : PE X (.Dict [] [] pos) (tDNewX X.w) := ⟨fun pins s σ H Q I h =>
  wpAny_Dict_empty ⟨.ref s.heap.objs.size, _, I.laid (a := s.heap.objs.size) (o := MixO X.w s.heap.objs.size []) (t' := s.toks) (fun _ _ q => Heap.get?_push_of_some _ q) (Nat.le_refl _) (mix_empty s.heap I.big), rfl, h _ (I.hok.fresh (Nat.le_refl _))⟩⟩
end
/-! ### the keys, in order -/
def ItX (w : World) (d : Addr) (o : Obj) (qs : XVs) : It :=
  ⟨fun i H => H d = some (.frz o (MixO w d qs)) ∧ i < qs.length, fun i H x H' => H' = H ∧ ∃ k v, qs[i]? = some (k, x, v), fun i H => H d = some (.frz o (MixO w d qs)) ∧ qs.length ≤ i⟩
theorem Inv.frzX {X : Cx} {pins : List (Addr × Obj)} {σ : St} {H : Hp} {s : Shared} {d : Addr} {o : Obj} {qs : XVs} (I : Inv X pins σ H s) (h : H d = some (.frz o (MixO X.w d qs))) :
    (d == sysModules) = false ∧ s.heap.get? d = some o ∧ o.ExactDict ∧ ∃ (es : Array DictEntry) (ep : Nat), o.data = .dict es ep ∧ es.size = qs.length ∧ qs.length ≤ sizeLine ∧
      ∀ (i : Nat) (q : MK × V × V), qs[i]? = some q → ∃ en : DictEntry, es[i]? = some en ∧ RelV q.2.1 en.key := by
  obtain ⟨hd, ⟨z, hs, xs, pr, o', es, ep, ho, hx, hdt, he, _⟩, _⟩ := I.hok d _ h
  rw [hd] at ho
  cases ho
  have l1 : es.size = xs.length := by rw [← Array.length_toList, he, List.length_map]
  have l2 : qs.length = xs.length := Paired.length pr
  refine ⟨hs, hd, hx, es, ep, hdt, by omega, z, fun i q e => ?_⟩
  obtain ⟨b, hb, e1, e2, _⟩ := paired_get pr e
  refine ⟨mEW X.w b, ?_, e2⟩
  rw [← Array.getElem?_toList, he, List.getElem?_map, hb]
  rfl
section
variable {P : Program} {w : World} {K : PySem.W.Frag} {tg : Expr} {d : Addr} {o : Obj} {es : Array DictEntry} {ep : Nat}
theorem turn_keysX {qs : XVs} (it : Addr) (hod : o.data = .dict es ep) : Turn P w K tg (ItX w d o qs) [it] it (fun i h => h.IsKeyIter it d i qs.length ep) where
  mem := by simp
  obj := fun i h st b hb => by
    have e : b = it := by simpa using hb
    subst e
    obtain ⟨oi, e, c, dd⟩ := st
    exact ⟨oi, e, fun v z => by rw [dd] at z; cases z⟩
  keep := fun i h h' st k => st.at fun oi e => k it (by simp) oi e
  item := by
    intro X hP hw hK hc i pins s σ H E I hf st hg
    subst hP hw hK
    obtain ⟨hd, hi⟩ := hg
    obtain ⟨f0, f1, f2, f3, f4, f5⟩ := hf it (by simp)
    obtain ⟨hs, hgd, hx, es', ep', hdt, hsz, _, ent⟩ := I.frzX hd
    obtain ⟨rfl, rfl⟩ := dict_ep hod hdt
    obtain ⟨⟨k, y, v⟩, hkv⟩ : ∃ p, qs[i]? = some p := ⟨qs[i], List.getElem?_eq_getElem hi⟩
    obtain ⟨en, hen, hkey⟩ := ent i _ hkv
    refine next_key_item st hgd hdt hsz hen fun h' st' sb => ?_
    have I1 : Inv X pins σ H { s with heap := h' } := I.turned (t' := s.toks) (fun b ob hb e => (sb.2 b hb).trans e) f0 f1 f3 f4 f5
    obtain ⟨oi, e, c, dd⟩ := id st'
    exact ⟨en.key, rfl, go_of (s := { s with heap := h' }) e c dd (by decide) ⟨y, H, I1, hkey, ⟨rfl, k, v, hkv⟩, st', fun b hb => (hf b hb).1⟩⟩
  done := by
    intro X hP hw hK hc i pins s σ H E I hf st hg
    subst hP hw hK
    obtain ⟨hd, hi⟩ := hg
    obtain ⟨f0, f1, f2, f3, f4, f5⟩ := hf it (by simp)
    obtain ⟨hs, hgd, hx, es', ep', hdt, hsz, _, ent⟩ := I.frzX hd
    obtain ⟨rfl, rfl⟩ := dict_ep hod hdt
    exact next_key_end (I.ok.hd hc) st hgd hdt hsz hi fun h' eb => ⟨rfl, I.turned (t' := s.toks) (fun b ob hb e => eb b ob hb e) f0 f1 f3 f4 f5⟩
  self := fun A i s Q E st h => by
    refine wpAny_pyIter_slot st.typeIs F.slot_dict_keyiterator_iter (wpAny_call_entry F.slot_dict_keyiterator_iter st.typeIs F.entry_dict_keyiterator_iter ?_ (F.args_dict_keyiterator_iter_1 _))
    show wpAny _ _ (ret (.ref it)) _ _ s
    exact wpAny_pure ⟨_, rfl, "dict_keyiterator", _, st.typeIs, F.slot_dict_keyiterator_next.lookup, h⟩
end
def iKeysX (w : World) (td : TE) : TI := fun σ H R => td σ H fun x H1 => ∃ d o qs, x = .ref d ∧ H1 d = some (.frz o (MixO w d qs)) ∧ R (ItX w d o qs) H1
theorem pi_keysX {X : Cx} {tg e : Expr} {td : TE} (he : PE X e td) : PI X tg e (iKeysX X.w td) := by
  refine ⟨fun pins s σ H R I h => ?_⟩
  refine thn (he.run pins s σ H _ I h) fun u s1 ⟨x, H1, I1, rx, d, o, qs, ex, hd, q⟩ => ?_
  subst ex
  obtain rfl : u = Value.ref d := rx
  obtain ⟨hs, hgd, hx, es, ep, hdt, hsz, _, ent⟩ := I1.frzX hd
  refine iter_keys hs hgd hx hdt (pi_one (tk := s1.toks) I1 _ (turn_keysX _ hdt) ⟨_, Heap.get?_push_size _ rfl, rfl, ?_⟩ q)
  rw [hsz] <;> rfl
/-- list(d) -/
theorem call_list_dX {X : Cx} (hc : X.calm = true) : CallR X (.type "list") (fun xs H Q => ∃ d qs, xs = [V.ref d] ∧ Rd H d (MixO X.w d qs) ∧ ∀ p, H p = none → Q (.ref p) (upd H p (.lst (qs.map fun q => q.2.1)))) := by
  intro pins s σ H xs us Q I r h
  obtain ⟨d, qs, rfl, hd, q⟩ := h
  obtain ⟨u, rfl, rx⟩ := r.one
  cases rx
  obtain ⟨⟨z, hs, ks, pr, o, es, ep, ho, hx, hdt, he, hn⟩, _⟩ := (show ObjOk X.prog X.w H s.heap d (MixO X.w d qs) from hd.ok I.hok)
  have l1 : es.size = ks.length := by rw [← Array.length_toList, he, List.length_map]
  have l2 : qs.length = ks.length := Paired.length pr
  refine PySem.W.kdl_call (kdl_raw hs hx hdt) (I.ok.hd hc) ho (by omega) fun h' tk acc' c' kp e it => ?_
  have ea : acc'.toList = ks.map fun x => x.2.1 := by
    have hl : acc'.toList.length = ks.length := by rw [Array.length_toList, it.1]; exact l1
    apply List.ext_getElem?
    intro j
    rw [List.getElem?_map]
    cases hj : acc'.toList[j]? with
    | none =>
      have h1 := List.getElem?_eq_none_iff.mp hj
      rw [List.getElem?_eq_none (by omega)]
      all_goals rfl
    | some v =>
      obtain ⟨en, hen, hv⟩ := it.2 j v (by rw [← Array.getElem?_toList]; exact hj)
      have qe : es[j]? = (ks[j]?).map (mEW X.w) := by rw [← Array.getElem?_toList, he, List.getElem?_map]
      rw [hen] at qe
      cases hb : ks[j]? with
      | none =>
        rw [hb] at qe
        exact nomatch (show some en = none from qe)
      | some b =>
        rw [hb] at qe
        have e2 : en = mEW X.w b := Option.some.inj qe
        rw [hv, e2]
        all_goals rfl
  have rv : Vals (qs.map fun q => q.2.1) acc'.toList := by
    rw [ea]
    exact relX_keys pr
  have hz : (qs.map fun q => q.2.1).length ≤ sizeLine := by rw [List.length_map]; exact z
  refine ⟨.ref s.heap.objs.size, _, I.laid (t' := tk) (o := .lst (qs.map fun q => q.2.1)) kp (Nat.le_refl _) ?_, rfl, q _ (I.hok.fresh (Nat.le_refl _))⟩
  exact ⟨hz, acc'.toList, c', rv, by rw [Array.toArray_toList]; exact e⟩
/-- isinstance(d, T) -/
def rIsiX (K : PySem.W.Frag) (w : World) : List V → Hp → VK → Prop := fun xs H Q => ∃ (a : Addr) (qs : XVs) (n : String) (b : Bool), xs = [.ref a, .ty n] ∧ Rd H a (MixO w a qs) ∧ PySem.W.kitOne K (.type "dict") (.type n) = some b ∧ Q (.bl b) H
theorem call_isiX {X : Cx} : CallR X (.builtin "isinstance") (rIsiX X.K X.w) := by
  intro pins s σ H xs us Q I r h
  obtain ⟨a, qs, n, b, rfl, ha, e, q⟩ := h
  obtain ⟨u1, u2, rfl, r1, r2⟩ := vals2 r
  have e2 := (ClsV.ty n).eq r2
  subst e2
  cases (show u1 = Value.ref a from r1)
  obtain ⟨⟨_, _, _, _, o, _, _, h1, h2, _⟩, _⟩ := (show ObjOk X.prog X.w H s.heap a (MixO X.w a qs) from ha.ok I.hok)
  exact PySem.W.kia_one PySem.W.kitx_dict I.kIn ⟨o, h1, h2.1⟩ e (fun z => nomatch z) fun tk => ⟨.bl b, H, I.tok tk, rfl, q⟩
end L2

set_option maxHeartbeats 4000000
/-! dict comprehensions into any kind of tracked dict (after the pattern of the dict comprehension of ints and texts) -/
namespace L2
open PySem PySem.Spec PyProof.Rows
/-- D[y] = z: what follows -/
abbrev KSt := Addr → V → V → Hp → (Hp → Prop) → Prop
/-- a kind of dict: what the new one is, how a pair is stored -/
structure DKind (P : Program) (w : World) (K : PySem.W.Frag) (A : Around) (o0 : Addr → HO) (Ks : KSt) : Prop where
  new : ∀ (P : Program) (H : Hp) (h : Heap), sysModules < h.objs.size → ObjOk P w H (h.push { cls := .type "dict", data := .dict #[] }) h.objs.size (o0 h.objs.size)
  set : ∀ (X : Cx), X.w = w → X.K = K → X.A = A → ∀ (D : Addr) (y z : V) (pins : List (Addr × Obj)) (σ : L2.St) (H : Hp) (s : Shared) (E : Value → Shared → Prop) (Nx : Hp → Prop), Inv X pins σ H s → Ks D y z H Nx →
    ∀ {u r : Value} {Q : Unit → Shared → Prop}, RelV y u → RelV z r → (∀ s' H', Inv X pins σ H' s' → Nx H' → Q () s') → wpAny (model X.prog X.w) X.A (dictSet D u r) Q E s
def stX (K : PySem.W.Frag) (w : World) : KSt := fun D y z H Nx => ∃ qs k, H D = some (MixO w D qs) ∧ KeysAt K H qs ∧ KeyAt K H k y ∧ qs.length < sizeLine ∧ Nx (upd H D (MixO w D (mPut qs k y z)))
theorem dkindX {P : Program} {w : World} {K : PySem.W.Frag} {A : Around} (hu : A.units < cLine) : DKind P w K A (fun D => MixO w D []) (stX K w) where
  new := fun P H h hb => mix_empty h hb
  set := fun X hw hK hA D y z pins σ H s E Nx I ⟨qs, k, h1, h2, h3, h4, h5⟩ {u r Q} ry rz q => by
    subst hw hK hA
    exact mx_dictSet hu I h1 h2 h3 h4 ry rz fun s' I' => q s' _ I' h5
section
variable {X : Cx}
def tDcX (o0 : Addr → HO) (Ks : KSt) (wi : TI) (g : TG) (tt : TT) (tk tv : TE) (vs : List Nat) : TE := fun σ H Q => wi σ H fun J H1 => ∀ D, H1 D = none → ∃ W : Nat → Nat → Hp → Prop, (∃ m, W 0 m (upd H1 D (o0 D))) ∧ ∀ i m H, W i m H →
  (J.stop i H ∧ Q (.ref D) H) ∨ (J.go i H ∧ ∃ Nx : Hp → Prop, (∀ H', Nx H' → ∃ m', m' < m ∧ W (i + 1) m' H') ∧ ∀ x H', J.yld i H x H' → g x (wipe σ vs) H' fun σ2 H2 => wipe σ2 vs = wipe σ vs ∧ tt σ2 H2 fun b H3 =>
    if b = true then tk σ2 H3 fun y H4 => tv σ2 H4 fun z H5 => Ks D y z H5 Nx else Nx H3)
theorem dcX_core {o0 : Addr → HO} {Ks : KSt} (dk : DKind X.prog X.w X.K X.A o0 Ks) {pins : List (Addr × Obj)} {s : Shared} {σ : St} {H : Hp} {Q : VK} {kx vx tg iter : Expr} {ifs : List Expr} {scope : Scope} {own : List (Str × Nat)} {pos pos' : Pos} {wi : TI} {g : TG} {tt : TT} {tk tv : TE} {use : Option (Value → Sem Unit)} {Qf : Value → Shared → Prop}
    (hc : X.calm = true) (hN : X.N.Nodup) (I : Inv X pins σ H s) (hi : PI X tg iter wi) (ok : BlkOk X.N X.env.scope scope own)
    (hg : ∀ (s : Shared) (H : Hp) (C : Addr) (cl : List (Str × Addr)) (fp : List Addr), PG (X.blk s H scope (compEnvC scope cl C X.env) fp) tg g) (ht : ∀ (s : Shared) (H : Hp) (C : Addr) (cl : List (Str × Addr)) (fp : List Addr), PTs (X.blk s H scope (compEnvC scope cl C X.env) fp) ifs tt)
    (hk : ∀ (s : Shared) (H : Hp) (C : Addr) (cl : List (Str × Addr)) (fp : List Addr), PE (X.blk s H scope (compEnvC scope cl C X.env) fp) kx tk)
    (he : ∀ (s : Shared) (H : Hp) (C : Addr) (cl : List (Str × Addr)) (fp : List Addr), PE (X.blk s H scope (compEnvC scope cl C X.env) fp) vx tv) (hs : ∀ x, foldedSetIterable iter X.env x = pure x)
    (h : tDcX o0 Ks wi g tt tk tv (own.map (·.2)) σ H Q)
    (hRR : ∀ D C s' m H', Inv X pins σ H' s' → Q (.ref D) H' → s'.heap.Ns C m → FpOk X pins H' C → compPost (model X.prog X.w) X.A X.xe use Qf (.ref D) C (.ok .next) s') :
    wpAny (model X.prog X.w) X.A (comprehension (.DictComp kx vx [⟨tg, iter, ifs, 0⟩] scope pos) scope X.env pos' newDict false (eval iter X.env) use) Qf X.xe s := by
  have hfree : ∀ y ∈ scope.names, y.2 = .free → ∃ c, X.env.cells.lookup y.1 = some c := fun y hy e => by
    rcases ok.free y hy e with k | k
    · exact I.ok.has _ (.inl k)
    · exact I.ok.has _ (.inr k)
  refine wpAny_comprehension_free (use := use) rfl hs (closure_ok hfree) ok.kind (fun y hy e => by rw [ok.uniq y hy, e])
    (thn (hi.run pins s σ H _ I h) fun xv s1 hx => thn hx fun itv s2 h2 => ?_)
  obtain ⟨it, fp, tn, J, H2, e, I2, T, st2, f2, q⟩ := h2
  subst e
  refine wpAny_newObj_type (newEnv_comp ?_)
  generalize hD : s2.heap.objs.size = D
  have hDn : H2 D = none := I2.hok.fresh (Nat.le_of_eq hD)
  obtain ⟨W, ⟨m0, w0⟩, turn⟩ := q D hDn
  -- the new list
  generalize hs3 : ({ s2 with heap := s2.heap.push { cls := .type "dict", data := .dict #[] } } : Shared) = s3
  have I3 : Inv X pins σ (upd H2 D (o0 D)) s3 := by
    rw [← hs3]
    refine I2.laid (t' := s2.toks) (fun b o e => Heap.get?_push_of_some _ e) (Nat.le_of_eq hD) ?_
    rw [← hD]
    exact dk.new X.prog _ s2.heap I2.big
  have h3 : s3.heap = s2.heap.push { cls := .type "dict", data := .dict #[] } := by rw [← hs3]
  have sz : ∀ b ∈ fp, b < s2.heap.objs.size := fun b hb => by
    obtain ⟨o, e, _⟩ := T.obj _ _ st2 b hb
    exact Heap.lt_size e
  have f3 : ∀ b ∈ fp, FpOk X pins (upd H2 D (o0 D)) b ∧ b < s3.heap.objs.size := fun b hb => by
    have hlt := sz b hb
    refine ⟨⟨?_, (f2 b hb).2⟩, by rw [h3, Heap.size_push]; exact Nat.lt_succ_of_lt hlt⟩
    rw [upd_ne (by rw [← hD]; exact Nat.ne_of_lt hlt)]
    exact (f2 b hb).1
  have st3 : tn 0 s3.heap := T.keep _ _ _ st2 fun b _ o e => by rw [h3]; exact Heap.get?_push_of_some _ e
  have I4 := block_start I3 ok hN f3
  have pg := hg s3 (upd H2 D (o0 D)) s3.heap.objs.size (cellsFrom (s3.heap.objs.size + 1) scope.names (cloFrom X.env.cells scope.names [])) fp
  have pt := ht s3 (upd H2 D (o0 D)) s3.heap.objs.size (cellsFrom (s3.heap.objs.size + 1) scope.names (cloFrom X.env.cells scope.names [])) fp
  have pk := hk s3 (upd H2 D (o0 D)) s3.heap.objs.size (cellsFrom (s3.heap.objs.size + 1) scope.names (cloFrom X.env.cells scope.names [])) fp
  have pe := he s3 (upd H2 D (o0 D)) s3.heap.objs.size (cellsFrom (s3.heap.objs.size + 1) scope.names (cloFrom X.env.cells scope.names [])) fp
  show codeAny _ _ (.compStart (.DictComp kx vx [⟨tg, iter, ifs, 0⟩] scope pos) 0 (.ref it) (.ref D) (compEnvC scope (cellsFrom (s3.heap.objs.size + 1) scope.names (cloFrom X.env.cells scope.names [])) s3.heap.objs.size X.env)) (compPost (model X.prog X.w) X.A X.xe use Qf (.ref D) s3.heap.objs.size) { s3 with heap := pushCells (s3.heap.push { cls := .type "dict", data := .dict #[] }) scope.names }
  have nfp : ∀ b ∈ fp, (upd H2 D (o0 D)) b = none := fun b hb => (f3 b hb).1.1
  generalize hce : compEnvC scope (cellsFrom (s3.heap.objs.size + 1) scope.names (cloFrom X.env.cells scope.names [])) s3.heap.objs.size X.env = ce at I4 pg pt pk pe ⊢
  have cL : ce.locals = s3.heap.objs.size := by subst hce; rfl
  generalize hH3 : upd H2 D (o0 D) = H3 at I3 I4 pg pt pk pe w0 nfp f3
  generalize hs4 : ({ s3 with heap := pushCells (s3.heap.push { cls := .type "dict", data := .dict #[] }) scope.names } : Shared) = s4 at I4 ⊢
  have st4 : tn 0 s4.heap := T.keep _ _ _ st3 fun b _ o e => by rw [← hs4]; exact pushCells_keeps _ _ _ _ (Heap.get?_push_of_some _ e)
  have stat : ∀ {σ' : St} {H' : Hp} {s' : Shared}, Inv (X.blk s3 H3 scope ce fp) [] σ' H' s' → (∀ b ∈ fp, H' b = none) → ∀ b ∈ fp, FpOk (X.blk s3 H3 scope ce fp) [] H' b := fun {σ' H' s'} I' hn b hb =>
    ⟨hn b hb, (I'.ok.exf b hb).1, I'.ok.exfs b hb, .inl hb, fun x c e => (I'.ok.exf b hb).2 x c e, fun p hp => absurd (show p ∈ ([] : List (Addr × Obj)) ++ [] from hp) (by simp)⟩
  have loop : codeAny (model X.prog X.w) X.A (.compLoop (.DictComp kx vx [⟨tg, iter, ifs, 0⟩] scope pos) 0 (.ref it) (.ref D) ce) (compPost (model X.prog X.w) X.A X.xe use Qf (.ref D) s3.heap.objs.size) s4 := by
    refine compLoop_anyD (fun n s' => ∃ i H', Inv (X.blk s3 H3 scope ce fp) [] (wipe σ (own.map (·.2))) H' s' ∧ tn i s'.heap ∧ (∀ b ∈ fp, H' b = none) ∧ W i n H') ?_ m0 ⟨0, H3, I4, st4, nfp, w0⟩
    rintro n s5 ⟨i, H5, I5, st5, n5, w5⟩
    rcases turn i n H5 w5 with ⟨stop, qq⟩ | ⟨go, Nx, hNx, step⟩
    · have td := T.done (X.blk s3 H3 scope ce fp) rfl rfl rfl hc i [] s5 _ H5 (fun _ _ => False) I5 (stat I5 n5) st5 stop
      refine thnF td fun r s6 ⟨hr, I6⟩ => ?_
      subst hr
      -- back in the def's context
      have I7 : Inv X pins σ H5 s6 := I3.call' (ch := fp) I6.os I6.base I6.hok I6.bare fun b hb => ⟨(f3 b hb).1.2.2.2.1, (f3 b hb).1.2.1, (f3 b hb).1.2.2.2.2.1, (f3 b hb).1.2.2.2.2.2⟩
      have nC : H5 s3.heap.objs.size = none := by
        have z : H5 ce.locals = none := I6.free
        rw [cL] at z
        exact z
      obtain ⟨m, hn, _⟩ := I6.loc
      have hn : s6.heap.Ns ce.locals m := hn
      rw [cL] at hn
      exact hRR D s3.heap.objs.size s6 m H5 I7 qq hn (I3.fpOk (Nat.le_refl _) nC)
    · have ti := T.item (X.blk s3 H3 scope ce fp) rfl rfl rfl hc i [] s5 _ H5 (fun _ _ => False) I5 (stat I5 n5) st5 go
      refine thnF ti fun r s6 ⟨u, hr, h6⟩ => ?_
      subst hr
      refine thnF h6 fun _ s7 ⟨x, H7, I7, r7, y7, st7, n7⟩ => ?_
      have I7' := I7.pinned (stat I7 n7) (T.obj _ _ st7)
      refine thnF (pg.run _ s7 _ H7 x u _ I7' r7 (step x H7 y7)) fun _ s8 ⟨σ8, H8, I8, hw8, q8⟩ => ?_
      refine thnF (pt.run _ s8 σ8 H8 _ I8 q8) fun b s9 ⟨H9, I9, q9⟩ => ?_
      -- the turn's end
      have fin : ∀ {s' : Shared} {H' : Hp}, Inv (X.blk s3 H3 scope ce fp) ([] ++ pinsAt fp s7.heap) σ8 H' s' → Nx H' → ∃ m, m < n ∧ ∃ i H', Inv (X.blk s3 H3 scope ce fp) [] (wipe σ (own.map (·.2))) H' s' ∧ tn i s'.heap ∧ (∀ b ∈ fp, H' b = none) ∧ W i m H' := fun {s' H'} I' nx => by
        obtain ⟨m', hm, w'⟩ := hNx H' nx
        have pin' : ∀ b ∈ fp, ∀ o, s7.heap.get? b = some o → s'.heap.get? b = some o ∧ H' b = none := fun b hb o e =>
          let z := I'.pin (b, o) (List.mem_append_right _ (List.mem_append_right _ (mem_pinsAt hb e)))
          ⟨z.1, z.2.1⟩
        have hl : (wipe σ (own.map (·.2))).length = σ8.length := by rw [← hw8, wipe_length]
        refine ⟨m', hm, i + 1, H', (I'.unpinned (pins := [])).weak hl (fun j v e => ?_), T.keep _ _ _ st7 fun b hb o e => (pin' b hb o e).1, fun b hb => ?_, w'⟩
        · rw [← hw8] at e
          exact (wipe_some e).1
        · obtain ⟨o, e, _⟩ := T.obj _ _ st7 b hb
          exact (pin' b hb o e).2
      cases b with
      | false =>
        simp only [Bool.false_eq_true, if_false] at q9 ⊢
        exact fin I9 q9
      | true =>
        simp only [if_true] at q9 ⊢
        refine thnF (pk.run _ s9 σ8 H9 _ I9 q9) fun z s10 ⟨yk, H10, I10, r10, q10⟩ => ?_
        refine thnF (pe.run _ s10 σ8 H10 _ I10 q10) fun z2 s11 ⟨yv, H11, I11, r11, nx⟩ => ?_
        exact dk.set (X.blk s3 H3 scope ce fp) rfl rfl rfl D yk yv _ _ H11 _ _ _ I11 nx r10 r11 fun s12 H12 I12 n12 => fin I12 n12
  exact codeAny_compStart_dict loop (T.self X.A 0 _ _ _ st4 loop)
/-- as a value -/
theorem pe_dcX {o0 : Addr → HO} {Ks : KSt} (dk : DKind X.prog X.w X.K X.A o0 Ks) {kx vx tg iter : Expr} {ifs : List Expr} {scope : Scope} {own : List (Str × Nat)} {pos : Pos} {wi : TI} {g : TG} {tt : TT} {tk tv : TE} (hc : X.calm = true) (hN : X.N.Nodup) (hi : PI X tg iter wi) (ok : BlkOk X.N X.env.scope scope own)
    (hg : ∀ (s : Shared) (H : Hp) (C : Addr) (cl : List (Str × Addr)) (fp : List Addr), PG (X.blk s H scope (compEnvC scope cl C X.env) fp) tg g) (ht : ∀ (s : Shared) (H : Hp) (C : Addr) (cl : List (Str × Addr)) (fp : List Addr), PTs (X.blk s H scope (compEnvC scope cl C X.env) fp) ifs tt)
    (hk : ∀ (s : Shared) (H : Hp) (C : Addr) (cl : List (Str × Addr)) (fp : List Addr), PE (X.blk s H scope (compEnvC scope cl C X.env) fp) kx tk)
    (he : ∀ (s : Shared) (H : Hp) (C : Addr) (cl : List (Str × Addr)) (fp : List Addr), PE (X.blk s H scope (compEnvC scope cl C X.env) fp) vx tv) (hs : ∀ x, foldedSetIterable iter X.env x = pure x := by intro _; rfl) :
    PE X (.DictComp kx vx [⟨tg, iter, ifs, 0⟩] scope pos) (tDcX o0 Ks wi g tt tk tv (own.map (·.2))) := by
  refine ⟨fun pins s σ H Q I h => ?_⟩
  rw [arm_eval_DictComp]
  refine dcX_core dk hc hN I hi ok hg ht hk he hs h fun D C s' m H' I' q hn f => ⟨m, hn, fun h'' sb => ?_⟩
  obtain ⟨f0, f1, f2, f3, f4, f5⟩ := f
  exact ⟨.ref D, H', I'.turned (t' := s'.toks) (fun b o hb e => (sb.2 b hb).trans e) f0 f1 f3 f4 f5, rfl, q⟩
end
end L2

/-! Gx: a deterministic semantics over data and a store, sound over the hand layer. -/
namespace L2
/-- the program's things, and the world -/
structure KW where
  f : PySem.W.Frag
  w : PySem.World
instance : CoeOut KW PySem.W.Frag := ⟨KW.f⟩
@[reducible] def Cx.kw (X : Cx) : KW := ⟨X.K, X.w⟩
end L2
namespace Gx
open PySem L2

/-! ### data -/
inductive D where
  | non | bl (b : Bool) | int (i : Int) | str (x : Str) | ty (n : String)
  | tup (xs : List D) | lst (xs : List D)
  | dct (ks : List Key) (vs : List D)
  | dtt (ks : List (List Key)) (vs : List D)
  | ref (n : Nat)
  | fn (a : Addr)
  deriving Inhabited

mutual
def D.eqb : D → D → Bool
  | .non, .non => true
  | .bl a, .bl b => a == b
  | .int a, .int b => a == b
  | .str a, .str b => decide (a = b)
  | .ty a, .ty b => a == b
  | .tup a, .tup b => D.eqbs a b
  | .lst a, .lst b => D.eqbs a b
  | .dct k a, .dct l b => decide (k = l) && D.eqbs a b
  | .dtt k a, .dtt l b => decide (k = l) && D.eqbs a b
  | .ref a, .ref b => a == b
  | .fn a, .fn b => a == b
  | _, _ => false
def D.eqbs : List D → List D → Bool
  | [], [] => true
  | a :: as, b :: bs => D.eqb a b && D.eqbs as bs
  | _, _ => false
end
mutual
theorem D.eqb_eq : ∀ (a b : D), D.eqb a b = true → a = b
  | .non, b, h => by cases b <;> simp_all [D.eqb]
  | .bl _, b, h => by cases b <;> simp_all [D.eqb]
  | .int _, b, h => by cases b <;> simp_all [D.eqb]
  | .str _, b, h => by cases b <;> simp_all [D.eqb]
  | .ty _, b, h => by cases b <;> simp_all [D.eqb]
  | .tup xs, b, h => by cases b <;> simp only [D.eqb, Bool.false_eq_true] at h; rw [D.eqbs_eq _ _ h]
  | .lst xs, b, h => by cases b <;> simp only [D.eqb, Bool.false_eq_true] at h; rw [D.eqbs_eq _ _ h]
  | .dct k xs, b, h => by cases b <;> simp only [D.eqb, Bool.false_eq_true, Bool.and_eq_true, decide_eq_true_eq] at h; rw [h.1, D.eqbs_eq _ _ h.2]
  | .dtt k xs, b, h => by cases b <;> simp only [D.eqb, Bool.false_eq_true, Bool.and_eq_true, decide_eq_true_eq] at h; rw [h.1, D.eqbs_eq _ _ h.2]
  | .ref _, b, h => by cases b <;> simp_all [D.eqb]
  | .fn _, b, h => by cases b <;> simp_all [D.eqb]
theorem D.eqbs_eq : ∀ (a b : List D), D.eqbs a b = true → a = b
  | [], b, h => by cases b <;> simp_all [D.eqbs]
  | a :: as, b, h => by
    cases b with
    | nil => simp [D.eqbs] at h
    | cons b bs =>
      simp only [D.eqbs, Bool.and_eq_true] at h
      rw [D.eqb_eq _ _ h.1, D.eqbs_eq _ _ h.2]
end
mutual
theorem D.eqb_refl : ∀ (a : D), D.eqb a a = true
  | .non => by simp [D.eqb]
  | .bl _ => by simp [D.eqb]
  | .int _ => by simp [D.eqb]
  | .str _ => by simp [D.eqb]
  | .ty _ => by simp [D.eqb]
  | .tup xs => by simp [D.eqb, D.eqbs_refl xs]
  | .lst xs => by simp [D.eqb, D.eqbs_refl xs]
  | .dct k xs => by simp [D.eqb, D.eqbs_refl xs]
  | .dtt k xs => by simp [D.eqb, D.eqbs_refl xs]
  | .ref _ => by simp [D.eqb]
  | .fn _ => by simp [D.eqb]
theorem D.eqbs_refl : ∀ (a : List D), D.eqbs a a = true
  | [] => by simp [D.eqbs]
  | a :: as => by simp [D.eqbs, D.eqb_refl a, D.eqbs_refl as]
end
instance : DecidableEq D := fun a b => if h : D.eqb a b = true then isTrue (D.eqb_eq a b h) else isFalse (fun e => h (e ▸ D.eqb_refl a))

/-- a mutable object -/
inductive SO where
  | lst (xs : List D)
  | tup (xs : List D)
  | dK (kvs : List (Key × D))
  | dT (kvs : List (List Key × D))
  | ins (C : Str) (fs : List (Str × D))
  | tab (n : Nat) (P : Addr) (q : Str)
  | dF (kvs : List (Key × D))
  /-- a dict with mixed keys (n: its own place); the same, locked -/
  | dX (n : Nat) (kvs : List (D × D))
  | dXF (n : Nat) (kvs : List (D × D))
  deriving Inhabited, DecidableEq
abbrev Store := List SO
/-- a local slot -/
inductive Slot where
  | none
  | val (d : D)
  | own (o : SO)
  deriving Inhabited, DecidableEq
abbrev Env := List Slot
/-- an expression's answer: data, or the object that a local slot owns -/
inductive R where
  | d (d : D)
  | loc (i : Nat)
  deriving Inhabited, DecidableEq

/-! ### what represents what -/
section
variable (K : KW) (F : Hp) (μ : List Addr)
mutual
def Rep : D → V → Prop
  | .non, v => v = .non
  | .bl b, v => v = .bl b
  | .int i, v => v = .int i
  | .str x, v => v = .str x
  | .ty n, v => v = .ty n
  | .tup ds, v => ∃ a vs, v = .ref a ∧ SqT K F a vs ∧ Reps ds vs
  | .lst ds, v => ∃ a vs, v = .ref a ∧ SqL K F a vs ∧ Reps ds vs
  | .dct ks ds, v => ∃ a vs, v = .ref a ∧ Rd F a (.dK (ks.zip vs)) ∧ ks.length = ds.length ∧ Reps ds vs
  | .dtt ks ds, v => ∃ a vs, v = .ref a ∧ Rd F a (.dT (ks.zip vs)) ∧ ks.length = ds.length ∧ Reps ds vs
  | .ref n, v => ∃ a, v = .ref a ∧ μ[n]? = some a
  | .fn a, v => v = .ref a
def Reps : List D → List V → Prop
  | [], [] => True
  | d :: ds, v :: vs => Rep d v ∧ Reps ds vs
  | [], _ :: _ => False
  | _ :: _, [] => False
end
def RepKV {κ : Type} : List (κ × D) → List (κ × V) → Prop
  | [], [] => True
  | p :: ps, q :: qs => p.1 = q.1 ∧ Rep K F μ p.2 q.2 ∧ RepKV ps qs
  | [], _ :: _ => False
  | _ :: _, [] => False
def keyD : D → Option Key
  | .int i => some (.inl i)
  | .str x => some (.inr x)
  | _ => none
def keysD : List D → Option (List Key)
  | [] => some []
  | d :: ds => match keyD d with
    | some k => (keysD ds).map (k :: ·)
    | none => none
/-- the key that a datum is -/
def mkOf : D → Option MK
  | .int i => some (.inl (.inl i))
  | .str x => some (.inl (.inr x))
  | .tup ds => (keysD ds).map .inr
  | _ => none
def RepX : List (D × D) → XVs → Prop
  | [], [] => True
  | p :: ps, q :: qs => mkOf p.1 = some q.1 ∧ Rep K F μ p.1 q.2.1 ∧ Rep K F μ p.2 q.2.2 ∧ RepX ps qs
  | [], _ :: _ => False
  | _ :: _, [] => False
def SORep : SO → HO → Prop
  | .dX n ps, .ext φ => ∃ a qs, μ[n]? = some a ∧ φ = MixP K.w a qs ∧ RepX K F μ ps qs
  | .dXF n ps, .frz _ u => match u with | .ext φ => ∃ a qs, μ[n]? = some a ∧ φ = MixP K.w a qs ∧ RepX K F μ ps qs | _ => False
  | .lst ds, .lst vs => Reps K F μ ds vs
  | .tup ds, .tup vs => Reps K F μ ds vs
  | .dK ps, .dK qs => RepKV K F μ ps qs
  | .dT ps, .dT qs => RepKV K F μ ps qs
  | .ins nm ps, .ins C _ qs => PySem.W.nsIn K mainGlobals nm = some (some (.ref C)) ∧ RepKV K F μ ps qs
  | .tab n P q, .tbl ps => μ[n]? = some P ∧ TriplesOk ps.toList ∧ ∀ (pos : Pos) (cv : Value), codeAmong pos ps.toList = some cv → ∃ c, cv = .ref c ∧ F c = some (LamX.CodeO c q)
  | .dF ps, .frz _ u => match u with | .dK qs => RepKV K F μ ps qs | _ => False
  | _, _ => False
end
section
variable {K : KW} {F F' : Hp} {μ μ' : List Addr}
theorem Rd.mono (h : ∀ a o, F a = some o → F' a = some o) {a : Addr} {u : HO} (r : Rd F a u) : Rd F' a u := by
  rcases r with r | ⟨o, r⟩
  · exact .inl (h _ _ r)
  · exact .inr ⟨o, h _ _ r⟩
theorem SqL.mono (h : ∀ a o, F a = some o → F' a = some o) {a : Addr} {xs : List V} (r : SqL K F a xs) : SqL K F' a xs := by
  rcases r with r | r
  · exact .inl (Rd.mono h r)
  · exact .inr r
theorem SqT.mono (h : ∀ a o, F a = some o → F' a = some o) {a : Addr} {xs : List V} (r : SqT K F a xs) : SqT K F' a xs := by
  rcases r with r | r
  · exact .inl (Rd.mono h r)
  · exact .inr r
mutual
theorem Rep.mono (h : ∀ a o, F a = some o → F' a = some o) (g : ∀ (n : Nat) (a : Addr), μ[n]? = some a → μ'[n]? = some a) : ∀ (d : D) (v : V), Rep K F μ d v → Rep K F' μ' d v
  | .non, v, r => r
  | .bl b, v, r => r
  | .int i, v, r => r
  | .str x, v, r => r
  | .ty n, v, r => r
  | .tup ds, v, r => by
    obtain ⟨a, vs, e, s, q⟩ := r
    exact ⟨a, vs, e, SqT.mono h s, Reps.mono h g ds vs q⟩
  | .lst ds, v, r => by
    obtain ⟨a, vs, e, s, q⟩ := r
    exact ⟨a, vs, e, SqL.mono h s, Reps.mono h g ds vs q⟩
  | .dct ks ds, v, r => by
    obtain ⟨a, vs, e, s, l, q⟩ := r
    exact ⟨a, vs, e, Rd.mono h s, l, Reps.mono h g ds vs q⟩
  | .dtt ks ds, v, r => by
    obtain ⟨a, vs, e, s, l, q⟩ := r
    exact ⟨a, vs, e, Rd.mono h s, l, Reps.mono h g ds vs q⟩
  | .ref n, v, r => by
    obtain ⟨a, e, q⟩ := r
    exact ⟨a, e, g _ _ q⟩
  | .fn a, v, r => r
theorem Reps.mono (h : ∀ a o, F a = some o → F' a = some o) (g : ∀ (n : Nat) (a : Addr), μ[n]? = some a → μ'[n]? = some a) : ∀ (ds : List D) (vs : List V), Reps K F μ ds vs → Reps K F' μ' ds vs
  | [], [], _ => trivial
  | d :: ds, v :: vs, r => ⟨Rep.mono h g d v r.1, Reps.mono h g ds vs r.2⟩
  | [], _ :: _, r => r.elim
  | _ :: _, [], r => r.elim
end
theorem RepKV.mono {κ : Type} (h : ∀ a o, F a = some o → F' a = some o) (g : ∀ (n : Nat) (a : Addr), μ[n]? = some a → μ'[n]? = some a) : ∀ (ps : List (κ × D)) (qs : List (κ × V)), RepKV K F μ ps qs → RepKV K F' μ' ps qs
  | [], [], _ => trivial
  | p :: ps, q :: qs, r => ⟨r.1, Rep.mono h g _ _ r.2.1, RepKV.mono h g ps qs r.2.2⟩
  | [], _ :: _, r => r.elim
  | _ :: _, [], r => r.elim
theorem RepX.mono (h : ∀ a o, F a = some o → F' a = some o) (g : ∀ (n : Nat) (a : Addr), μ[n]? = some a → μ'[n]? = some a) : ∀ (ps : List (D × D)) (qs : XVs), RepX K F μ ps qs → RepX K F' μ' ps qs
  | [], [], _ => trivial
  | p :: ps, q :: qs, r => ⟨r.1, Rep.mono h g _ _ r.2.1, Rep.mono h g _ _ r.2.2.1, RepX.mono h g ps qs r.2.2.2⟩
  | [], _ :: _, r => r.elim
  | _ :: _, [], r => r.elim
theorem SORep.mono (h : ∀ a o, F a = some o → F' a = some o) (g : ∀ (n : Nat) (a : Addr), μ[n]? = some a → μ'[n]? = some a) (so : SO) (o : HO) (r : SORep K F μ so o) : SORep K F' μ' so o := by
  cases so <;> cases o <;> first | exact r.elim | exact Reps.mono h g _ _ r | exact RepKV.mono h g _ _ r | exact ⟨r.1, RepKV.mono h g _ _ r.2⟩ | exact ⟨g _ _ r.1, r.2.1, fun pos cv hc => let ⟨c, e, q⟩ := r.2.2 pos cv hc; ⟨c, e, h _ _ q⟩⟩ | exact (let ⟨a, qs, h1, h2, h3⟩ := r; ⟨a, qs, g _ _ h1, h2, RepX.mono h g _ _ h3⟩) | (rename_i u; cases u <;> first | exact r.elim | exact RepKV.mono h g _ _ r | exact (let ⟨a, qs, h1, h2, h3⟩ := r; ⟨a, qs, g _ _ h1, h2, RepX.mono h g _ _ h3⟩))
theorem Reps.length : ∀ {ds : List D} {vs : List V}, Reps K F μ ds vs → ds.length = vs.length
  | [], [], _ => rfl
  | d :: ds, v :: vs, r => by simp [Reps.length r.2]
  | [], _ :: _, r => r.elim
  | _ :: _, [], r => r.elim
theorem Reps.append : ∀ {ds es : List D} {vs ws : List V}, Reps K F μ ds vs → Reps K F μ es ws → Reps K F μ (ds ++ es) (vs ++ ws)
  | [], _, [], _, _, s => s
  | d :: ds, _, v :: vs, _, r, s => ⟨r.1, Reps.append r.2 s⟩
  | [], _, _ :: _, _, r, _ => r.elim
  | _ :: _, _, [], _, r, _ => r.elim
theorem Reps.get : ∀ {ds : List D} {vs : List V} {i : Nat} {d : D}, Reps K F μ ds vs → ds[i]? = some d → ∃ v, vs[i]? = some v ∧ Rep K F μ d v
  | [], [], _, _, _, e => by simp at e
  | d :: ds, v :: vs, 0, _, r, e => by simp at e; subst e; exact ⟨v, rfl, r.1⟩
  | d :: ds, v :: vs, i + 1, _, r, e => by
    obtain ⟨w, h1, h2⟩ := Reps.get (i := i) r.2 (by simpa using e)
    exact ⟨w, by simpa using h1, h2⟩
  | [], _ :: _, _, _, r, _ => r.elim
  | _ :: _, [], _, _, r, _ => r.elim
theorem Reps.get' : ∀ {ds : List D} {vs : List V} {i : Nat} {v : V}, Reps K F μ ds vs → vs[i]? = some v → ∃ d, ds[i]? = some d ∧ Rep K F μ d v
  | [], [], _, _, _, e => by simp at e
  | d :: ds, v :: vs, 0, _, r, e => by simp at e; subst e; exact ⟨d, rfl, r.1⟩
  | d :: ds, v :: vs, i + 1, _, r, e => by
    obtain ⟨w, h1, h2⟩ := Reps.get' (i := i) r.2 (by simpa using e)
    exact ⟨w, by simpa using h1, h2⟩
  | [], _ :: _, _, _, r, _ => r.elim
  | _ :: _, [], _, _, r, _ => r.elim
theorem Reps.set {d : D} {v : V} (h : Rep K F μ d v) : ∀ {ds : List D} {vs : List V} (i : Nat), Reps K F μ ds vs → Reps K F μ (ds.set i d) (vs.set i v)
  | [], [], _, _ => trivial
  | _ :: _, _ :: _, 0, r => ⟨h, r.2⟩
  | _ :: _, _ :: _, i + 1, r => ⟨r.1, Reps.set h i r.2⟩
  | [], _ :: _, _, r => r.elim
  | _ :: _, [], _, r => r.elim
theorem Reps.take : ∀ {ds : List D} {vs : List V} (n : Nat), Reps K F μ ds vs → Reps K F μ (ds.take n) (vs.take n)
  | [], [], n, _ => by simp [Reps]
  | _ :: _, _ :: _, 0, r => trivial
  | _ :: _, _ :: _, n + 1, r => ⟨r.1, Reps.take n r.2⟩
  | [], _ :: _, _, r => r.elim
  | _ :: _, [], _, r => r.elim
theorem Reps.drop : ∀ {ds : List D} {vs : List V} (n : Nat), Reps K F μ ds vs → Reps K F μ (ds.drop n) (vs.drop n)
  | [], [], n, _ => by simp [Reps]
  | _ :: _, _ :: _, 0, r => r
  | _ :: _, _ :: _, n + 1, r => Reps.drop n r.2
  | [], _ :: _, _, r => r.elim
  | _ :: _, [], _, r => r.elim
theorem Reps.ints : ∀ {ns : List Int} {vs : List V}, Reps K F μ (ns.map D.int) vs → vs = ns.map V.int
  | [], [], _ => rfl
  | n :: ns, v :: vs, r => by
    have e : v = .int n := r.1
    rw [e, Reps.ints (ns := ns) r.2]; rfl
  | [], _ :: _, r => r.elim
  | _ :: _, [], r => r.elim
theorem Reps.of_ints : ∀ (ns : List Int), Reps K F μ (ns.map D.int) (ns.map V.int)
  | [] => trivial
  | n :: ns => ⟨rfl, Reps.of_ints ns⟩
theorem Reps.bls : ∀ {bs : List Bool} {vs : List V}, Reps K F μ (bs.map D.bl) vs → vs = bs.map V.bl
  | [], [], _ => rfl
  | n :: ns, v :: vs, r => by
    have e : v = .bl n := r.1
    rw [e, Reps.bls (bs := ns) r.2]; rfl
  | [], _ :: _, r => r.elim
  | _ :: _, [], r => r.elim
end

/-! ### worlds -/
structure Wd (K : KW) (F : Hp) (μ : List Addr) (H : Hp) (st : Store) : Prop where
  sub : ∀ a o, F a = some o → H a = some o
  len : μ.length = st.length
  nd : μ.Nodup
  nf : ∀ a ∈ μ, F a = none
  obj : ∀ (n : Nat) (so : SO) (a : Addr), st[n]? = some so → μ[n]? = some a → ∃ o, H a = some o ∧ SORep K F μ so o
structure Stp (F : Hp) (μ : List Addr) (H : Hp) (F' : Hp) (μ' : List Addr) (H' : Hp) : Prop where
  fF : ∀ a o, F a = some o → F' a = some o
  fm : ∃ ex, μ' = μ ++ ex ∧ ∀ a ∈ ex, H a = none
  frame : ∀ a o, H a = some o → a ∉ μ → H' a = some o
  live : ∀ a, H a ≠ none → H' a ≠ none
  newF : ∀ a, F' a ≠ none → F a ≠ none ∨ H a = none
  frz : ∀ a od u, H a = some (.frz od u) → H' a = some (.frz od u)
section
variable {K : KW} {F F1 F2 : Hp} {μ μ1 μ2 : List Addr} {H H1 H2 : Hp} {st : Store}
theorem Stp.refl : Stp F μ H F μ H := ⟨fun _ _ h => h, ⟨[], by simp, by simp⟩, fun _ _ h _ => h, fun _ h => h, fun _ h => .inl h, fun _ _ _ h => h⟩
theorem Stp.trans (a : Stp F μ H F1 μ1 H1) (b : Stp F1 μ1 H1 F2 μ2 H2) : Stp F μ H F2 μ2 H2 := by
  obtain ⟨e1, h1, n1⟩ := a.fm
  obtain ⟨e2, h2, n2⟩ := b.fm
  refine ⟨fun x o h => b.fF x o (a.fF x o h), ⟨e1 ++ e2, by rw [h2, h1, List.append_assoc], fun x hx => ?_⟩, fun x o h hn => ?_, fun x h => b.live x (a.live x h), fun x h => ?_, fun x od u h => b.frz x od u (a.frz x od u h)⟩
  · rcases List.mem_append.mp hx with q | q
    · exact n1 x q
    · exact Classical.byContradiction fun c => a.live x c (n2 x q)
  · refine b.frame x o (a.frame x o h hn) fun q => ?_
    rw [h1] at q
    rcases List.mem_append.mp q with q | q
    · exact hn q
    · rw [n1 x q] at h; cases h
  · rcases b.newF x h with q | q
    · exact a.newF x q
    · exact .inr (Classical.byContradiction fun c => a.live x c q)
theorem Stp.pre (a : Stp F μ H F1 μ1 H1) : ∀ (n : Nat) (x : Addr), μ[n]? = some x → μ1[n]? = some x := fun n x h => by
  obtain ⟨e1, h1, _⟩ := a.fm
  rw [h1, List.getElem?_append_left (List.getElem?_eq_some_iff.mp h).1]
  exact h
theorem Stp.rep (a : Stp F μ H F1 μ1 H1) {d : D} {v : V} (r : Rep K F μ d v) : Rep K F1 μ1 d v := Rep.mono a.fF a.pre d v r
theorem Stp.reps (a : Stp F μ H F1 μ1 H1) {d : List D} {v : List V} (r : Reps K F μ d v) : Reps K F1 μ1 d v := Reps.mono a.fF a.pre d v r
end

/-! ### local slots -/
def ownAt (env : Env) (σ : L2.St) (i : Nat) (a : Addr) : Prop := ∃ so, env[i]? = some (.own so) ∧ σ[i]? = some (some (.ref a))
def SlotOk (K : KW) (F : Hp) (μ : List Addr) (H : Hp) : Slot → Option V → Prop
  | .none, _ => True
  | .val d, o => ∃ v, o = some v ∧ Rep K F μ d v
  | .own so, o => ∃ a u, o = some (.ref a) ∧ F a = none ∧ a ∉ μ ∧ H a = some u ∧ SORep K F μ so u
structure EnvOk (K : KW) (F : Hp) (μ : List Addr) (H : Hp) (env : Env) (σ : L2.St) : Prop where
  len : env.length = σ.length
  slot : ∀ (i : Nat) (s : Slot) (o : Option V), env[i]? = some s → σ[i]? = some o → SlotOk K F μ H s o
  sep : ∀ (i j : Nat) (a : Addr), i ≠ j → ownAt env σ i a → ownAt env σ j a → False
def RRep (K : KW) (F : Hp) (μ : List Addr) (env : Env) (σ : L2.St) : R → V → Prop
  | .d d, v => Rep K F μ d v
  | .loc i, v => ∃ a, v = .ref a ∧ ownAt env σ i a
section
variable {K : KW} {F F1 F2 : Hp} {μ μ1 μ2 : List Addr} {H H1 H2 : Hp} {st : Store} {env : Env} {σ : L2.St}
theorem SlotOk.step (a : Stp F μ H F1 μ1 H1) {s : Slot} {o : Option V} (h : SlotOk K F μ H s o) : SlotOk K F1 μ1 H1 s o := by
  cases s with
  | none => trivial
  | val d => obtain ⟨v, e, r⟩ := h; exact ⟨v, e, a.rep r⟩
  | own so =>
    obtain ⟨x, u, e, f, m, h1, r⟩ := h
    refine ⟨x, u, e, ?_, ?_, a.frame _ _ h1 m, SORep.mono a.fF a.pre _ _ r⟩
    · exact Classical.byContradiction fun c => by
        rcases a.newF x c with q | q
        · exact q f
        · rw [h1] at q; cases q
    · obtain ⟨ex, e1, n1⟩ := a.fm
      rw [e1]
      intro q
      rcases List.mem_append.mp q with q | q
      · exact m q
      · rw [n1 x q] at h1; cases h1
theorem EnvOk.step (a : Stp F μ H F1 μ1 H1) (h : EnvOk K F μ H env σ) : EnvOk K F1 μ1 H1 env σ := ⟨h.len, fun i s o e1 e2 => (h.slot i s o e1 e2).step a, h.sep⟩
theorem RRep.step (a : Stp F μ H F1 μ1 H1) {r : R} {v : V} (h : RRep K F μ env σ r v) : RRep K F1 μ1 env σ r v := by
  cases r with
  | d d => exact a.rep h
  | loc i => exact h
end

/-! ### expressions -/
abbrev ME := Env → Store → Option (R × Store)
abbrev MF := Env → Store → Option (SO × Store)
abbrev MT := Env → Store → Option (Bool × Store)
abbrev MA := Env → Store → Option (List D × Store)
def SimE (K : KW) (te : TE) (m : ME) : Prop :=
  ∀ (σ : L2.St) (F : Hp) (μ : List Addr) (H : Hp) (env : Env) (st : Store) (r : R) (st' : Store) (Q : VK), Wd K F μ H st → EnvOk K F μ H env σ → m env st = some (r, st') →
    (∀ v F' μ' H', Wd K F' μ' H' st' → Stp F μ H F' μ' H' → RRep K F' μ' env σ r v → Q v H') → te σ H Q
/-- a fresh object -/
def SimF (K : KW) (te : TE) (m : MF) : Prop :=
  ∀ (σ : L2.St) (F : Hp) (μ : List Addr) (H : Hp) (env : Env) (st : Store) (so : SO) (st' : Store) (Q : VK), Wd K F μ H st → EnvOk K F μ H env σ → m env st = some (so, st') →
    (∀ a u F' μ' H', Wd K F' μ' H' st' → Stp F μ H F' μ' H' → H a = none → F' a = none → a ∉ μ' → H' a = some u → SORep K F' μ' so u → Q (.ref a) H') → te σ H Q
def SimT (K : KW) (te : TT) (m : MT) : Prop :=
  ∀ (σ : L2.St) (F : Hp) (μ : List Addr) (H : Hp) (env : Env) (st : Store) (b : Bool) (st' : Store) (Q : Bool → Hp → Prop), Wd K F μ H st → EnvOk K F μ H env σ → m env st = some (b, st') →
    (∀ F' μ' H', Wd K F' μ' H' st' → Stp F μ H F' μ' H' → Q b H') → te σ H Q
/-- arguments: all of them data -/
def SimA (K : KW) (te : TA) (m : MA) : Prop :=
  ∀ (σ : L2.St) (F : Hp) (μ : List Addr) (H : Hp) (env : Env) (st : Store) (ds : List D) (st' : Store) (Q : List V → Hp → Prop), Wd K F μ H st → EnvOk K F μ H env σ → m env st = some (ds, st') →
    (∀ vs F' μ' H', Wd K F' μ' H' st' → Stp F μ H F' μ' H' → Reps K F' μ' ds vs → Q vs H') → te σ H Q
structure XE (X : Cx) (e : Expr) (m : ME) : Prop where
  h : ∃ te, PE X e te ∧ SimE X.kw te m
structure XF (X : Cx) (e : Expr) (m : MF) : Prop where
  h : ∃ te, PE X e te ∧ SimF X.kw te m
structure XT (X : Cx) (e : Expr) (m : MT) : Prop where
  h : ∃ te, PT X e te ∧ SimT X.kw te m
structure XW (X : Cx) (e : Expr) (m : MT) : Prop where
  h : ∃ te, PW X e te ∧ SimT X.kw te m
structure XA (X : Cx) (e : List Expr) (m : MA) : Prop where
  h : ∃ te, PA X e te ∧ SimA X.kw te m
end Gx

set_option maxHeartbeats 1000000
namespace Gx
open PySem L2

/-! ### helpers -/
theorem PE.or {X : Cx} {e : Expr} {t u : TE} (a : PE X e t) (b : PE X e u) : PE X e (fun σ H Q => t σ H Q ∨ u σ H Q) :=
  ⟨fun pins s σ H Q I h => h.elim (a.run pins s σ H Q I) (b.run pins s σ H Q I)⟩
theorem OpR.or {X : Cx} {f : Value → Value → Sem Value} {r u : R2} (a : OpR X f r) (b : OpR X f u) : OpR X f (fun x y H Q => r x y H Q ∨ u x y H Q) :=
  fun pins s σ H x y v w Q I rx ry h => h.elim (a pins s σ H x y v w Q I rx ry) (b pins s σ H x y v w Q I rx ry)
theorem ne_mem {μ : List Addr} {a p : Addr} (h : a ∈ μ) (n : p ∉ μ) : a ≠ p := fun e => n (e ▸ h)
section
variable {K : KW} {F F1 : Hp} {μ μ1 : List Addr} {H H1 : Hp} {st st1 : Store}
theorem Wd.upd_new (w : Wd K F μ H st) {p : Addr} {o : HO} (hp : H p = none) (hμ : p ∉ μ) : Wd K (upd F p o) μ (upd H p o) st := by
  have hF : F p = none := by
    cases e : F p with
    | none => rfl
    | some u => rw [w.sub _ _ e] at hp; cases hp
  refine ⟨fun a u e => ?_, w.len, w.nd, fun a ha => ?_, fun n so a e1 e2 => ?_⟩
  · by_cases h : a = p
    · subst h; rw [upd_same] at e ⊢; exact e
    · rw [upd_ne h] at e ⊢; exact w.sub _ _ e
  · rw [upd_ne (ne_mem ha hμ)]; exact w.nf a ha
  · obtain ⟨u, h1, h2⟩ := w.obj n so a e1 e2
    refine ⟨u, ?_, SORep.mono (fun b o' e => ?_) (fun _ _ e => e) _ _ h2⟩
    · rw [upd_ne (ne_mem (List.mem_of_getElem? e2) hμ)]; exact h1
    · rw [upd_ne (fun q => by subst q; rw [hF] at e; cases e)]; exact e
theorem Wd.out (w : Wd K F μ H st) {p : Addr} (hp : H p = none) : p ∉ μ := fun h => by
  obtain ⟨n, hn⟩ := List.getElem?_of_mem h
  have hl : n < st.length := by rw [← w.len]; exact (List.getElem?_eq_some_iff.mp hn).1
  obtain ⟨u, h1, _⟩ := w.obj n _ p (List.getElem?_eq_getElem hl) hn
  rw [hp] at h1; cases h1
theorem Wd.Fnone (w : Wd K F μ H st) {p : Addr} (hp : H p = none) : F p = none := by
  cases e : F p with
  | none => rfl
  | some u => rw [w.sub _ _ e] at hp; cases hp
theorem Wd.lay (w : Wd K F μ H st) {p : Addr} {o : HO} (hp : H p = none) : Wd K (upd F p o) μ (upd H p o) st := w.upd_new hp (w.out hp)
theorem Stp.lay {p : Addr} {o : HO} (hp : H p = none) (hF : F p = none) : Stp F μ H (upd F p o) μ (upd H p o) := by
  refine ⟨fun a u e => ?_, ⟨[], by simp, by simp⟩, fun a u e _ => ?_, fun a h => ?_, fun a h => ?_, fun a od u e => ?_⟩
  · rw [upd_ne (fun q => by subst q; rw [hF] at e; cases e)]; exact e
  · rw [upd_ne (fun q => by subst q; rw [hp] at e; cases e)]; exact e
  · by_cases q : a = p
    · subst q; exact absurd hp h
    · rw [upd_ne q]; exact h
  · by_cases q : a = p
    · subst q; exact .inr hp
    · rw [upd_ne q] at h; exact .inl h
  · rw [upd_ne (fun q => by subst q; rw [hp] at e; cases e)]; exact e
/-- a new object, left out of F -/
theorem Wd.lay0 (w : Wd K F μ H st) {p : Addr} {o : HO} (hp : H p = none) : Wd K F μ (upd H p o) st := by
  have hμ := w.out hp
  refine ⟨fun a u e => ?_, w.len, w.nd, w.nf, fun n so a e1 e2 => ?_⟩
  · rw [upd_ne (fun q => by subst q; rw [w.Fnone hp] at e; cases e)]; exact w.sub _ _ e
  · obtain ⟨u, h1, h2⟩ := w.obj n so a e1 e2
    exact ⟨u, by rw [upd_ne (ne_mem (List.mem_of_getElem? e2) hμ)]; exact h1, h2⟩
theorem Stp.lay0 {p : Addr} {o : HO} (hp : H p = none) : Stp F μ H F μ (upd H p o) := by
  refine ⟨fun a u e => e, ⟨[], by simp, by simp⟩, fun a u e _ => ?_, fun a h => ?_, fun a h => .inl h, fun a od u e => ?_⟩
  · rw [upd_ne (fun q => by subst q; rw [hp] at e; cases e)]; exact e
  · by_cases q : a = p
    · subst q; exact absurd hp h
    · rw [upd_ne q]; exact h
  · rw [upd_ne (fun q => by subst q; rw [hp] at e; cases e)]; exact e
/-- a tracked object that nobody owns becomes data -/
theorem Wd.freeze (w : Wd K F μ H st) {p : Addr} {o : HO} (hp : H p = some o) (hF : F p = none) (hμ : p ∉ μ) : Wd K (upd F p o) μ H st := by
  refine ⟨fun a u e => ?_, w.len, w.nd, fun a ha => ?_, fun n so a e1 e2 => ?_⟩
  · by_cases h : a = p
    · subst h; rw [upd_same] at e; cases e; exact hp
    · rw [upd_ne h] at e; exact w.sub _ _ e
  · rw [upd_ne (ne_mem ha hμ)]; exact w.nf a ha
  · obtain ⟨u, h1, h2⟩ := w.obj n so a e1 e2
    refine ⟨u, h1, SORep.mono (fun b o' e => ?_) (fun _ _ e => e) _ _ h2⟩
    rw [upd_ne (fun q => by subst q; rw [hF] at e; cases e)]; exact e
theorem Stp.freeze {F' H' : Hp} {μ' : List Addr} (a : Stp F μ H F' μ' H') {p : Addr} {o : HO} (h0 : H p = none) (hF : F' p = none) : Stp F μ H (upd F' p o) μ' H' := by
  refine ⟨fun b u e => ?_, a.fm, a.frame, a.live, fun b h => ?_, a.frz⟩
  · have q := a.fF b u e
    rw [upd_ne (fun z => by subst z; rw [hF] at q; cases q)]; exact q
  · by_cases q : b = p
    · subst q; exact .inr h0
    · rw [upd_ne q] at h; exact a.newF b h
theorem fresh_of (a : Stp F μ H F1 μ1 H1) {p : Addr} (h : H1 p = none) : H p = none := Classical.byContradiction fun c => a.live p c h
theorem pre_snoc (μ : List Addr) (p : Addr) : ∀ (n : Nat) (a : Addr), μ[n]? = some a → (μ ++ [p])[n]? = some a := fun n a e => by
  rw [List.getElem?_append_left (List.getElem?_eq_some_iff.mp e).1]; exact e
/-- .. becomes an object of the store -/
theorem Wd.alloc (w : Wd K F μ H st) {p : Addr} {o : HO} {so : SO} (hp : H p = some o) (hF : F p = none) (hμ : p ∉ μ) (r : SORep K F μ so o) : Wd K F (μ ++ [p]) H (st ++ [so]) := by
  refine ⟨w.sub, by simp [w.len], ?_, fun a ha => ?_, fun n so' a e1 e2 => ?_⟩
  · rw [List.nodup_append]
    refine ⟨w.nd, by simp, fun a ha b hb => ?_⟩
    simp at hb; subst hb
    exact fun e => hμ (e ▸ ha)
  · rcases List.mem_append.mp ha with h | h
    · exact w.nf a h
    · simp at h; subst h; exact hF
  · by_cases hn : n < st.length
    · rw [List.getElem?_append_left hn] at e1
      rw [List.getElem?_append_left (by rw [w.len]; exact hn)] at e2
      obtain ⟨u, h1, h2⟩ := w.obj n so' a e1 e2
      exact ⟨u, h1, SORep.mono (fun _ _ e => e) (pre_snoc μ p) _ _ h2⟩
    · rw [List.getElem?_append_right (by omega)] at e1
      rw [List.getElem?_append_right (by rw [w.len]; omega), w.len] at e2
      have hz : n - st.length = 0 := by
        have := (List.getElem?_eq_some_iff.mp e1).1
        simp at this; omega
      rw [hz] at e1 e2
      simp at e1 e2; subst e1; subst e2
      exact ⟨o, hp, SORep.mono (fun _ _ e => e) (pre_snoc μ p) _ _ r⟩
theorem Stp.alloc {F' H' : Hp} {μ' : List Addr} (a : Stp F μ H F' μ' H') {p : Addr} (h0 : H p = none) : Stp F μ H F' (μ' ++ [p]) H' := by
  obtain ⟨ex, e, n⟩ := a.fm
  refine ⟨a.fF, ⟨ex ++ [p], by rw [e, List.append_assoc], fun b hb => ?_⟩, a.frame, a.live, a.newF, a.frz⟩
  rcases List.mem_append.mp hb with h | h
  · exact n b h
  · simp at h; subst h; exact h0
end

/-! ### reading data -/
/-- the items of a list -/
def asL (env : Env) (st : Store) : R → Option (List D)
  | .d (.lst xs) => some xs
  | .d (.ref n) => match st[n]? with | some (.lst xs) => some xs | _ => none
  | .loc i => match env[i]? with | some (.own (.lst xs)) => some xs | _ => none
  | _ => none
def asU : R → Option (List D)
  | .d (.tup xs) => some xs
  | _ => none
section
variable {K : KW} {F : Hp} {μ : List Addr} {H : Hp} {st : Store} {env : Env} {σ : L2.St} {r : R} {v : V} {xs : List D}
theorem asL_ok (w : Wd K F μ H st) (en : EnvOk K F μ H env σ) (q : RRep K F μ env σ r v) (h : asL env st r = some xs) : ∃ a vs, v = .ref a ∧ SqL K H a vs ∧ Reps K F μ xs vs := by
  unfold asL at h
  split at h
  · cases h
    obtain ⟨a, vs, e, s, q⟩ := q
    exact ⟨a, vs, e, SqL.mono w.sub s, q⟩
  · rename_i n
    split at h
    · rename_i ys hs
      cases h
      obtain ⟨a, e, hm⟩ := q
      obtain ⟨o, h1, h2⟩ := w.obj n _ a hs hm
      cases o <;> first | exact h2.elim | skip
      exact ⟨a, _, e, .of h1, h2⟩
    · cases h
  · rename_i i
    split at h
    · rename_i ys hs
      cases h
      obtain ⟨a, e, so, h1, h2⟩ := q
      obtain ⟨b, u, h3, h4, h5, h6, h7⟩ := en.slot i _ _ h1 h2
      cases h3
      rw [hs] at h1; cases h1
      cases u <;> first | exact h7.elim | skip
      exact ⟨a, _, e, .of h6, h7⟩
    · cases h
  · cases h
theorem asU_ok (w : Wd K F μ H st) (q : RRep K F μ env σ r v) (h : asU r = some xs) : ∃ a vs, v = .ref a ∧ SqT K H a vs ∧ Reps K F μ xs vs := by
  unfold asU at h
  split at h
  · cases h
    obtain ⟨a, vs, e, s, q⟩ := q
    exact ⟨a, vs, e, SqT.mono w.sub s, q⟩
  · cases h
end

/-! ### names and constants -/
section
variable {X : Cx}
def mVar (i : Nat) : ME := fun env st => match env[i]? with
  | some (.val d) => some (.d d, st)
  | some (.own _) => some (.loc i, st)
  | _ => none
def mC (d : D) : ME := fun _ st => some (.d d, st)
theorem simVar {K : KW} {i : Nat} : SimE K (tVar i) (mVar i) := by
  intro σ F μ H env st r st' Q w en h k
  unfold mVar at h
  have hl : ∀ s, env[i]? = some s → ∃ o, σ[i]? = some o := fun s e => by
    have h1 := (List.getElem?_eq_some_iff.mp e).1
    rw [en.len] at h1
    exact ⟨_, List.getElem?_eq_getElem h1⟩
  split at h
  · rename_i d e
    cases h
    obtain ⟨o, ho⟩ := hl _ e
    obtain ⟨v, e1, r1⟩ := en.slot i _ _ e ho
    subst e1
    exact ⟨v, ho, k v F μ H w Stp.refl r1⟩
  · rename_i so e
    cases h
    obtain ⟨o, ho⟩ := hl _ e
    obtain ⟨a, u, e1, _⟩ := en.slot i _ _ e ho
    subst e1
    exact ⟨.ref a, ho, k (.ref a) F μ H w Stp.refl ⟨a, rfl, so, e, ho⟩⟩
  · cases h
theorem xv (i : Nat) {x : Str} {pos : Pos} (hN : X.N[i]? = some x := by rfl) (hv : Vis X.env.scope x := by first | exact Or.inl rfl | exact Or.inr (Or.inl rfl) | exact Or.inr (Or.inr rfl)) (hd : (x == ("__debug__" : Str)) = false := by decide)
    (hcd : (x == ("__classdict__" : Str)) = false := by decide) : XE X (.Name x pos) (mVar i) := ⟨_, pe_var hN hv hd hcd, simVar⟩
theorem simC {K : KW} {v : V} {d : D} (h : ∀ F μ, Rep K F μ d v) : SimE K (tC v) (mC d) := by
  intro σ F μ H env st r st' Q w en e k
  cases e
  exact k v F μ H w Stp.refl (h F μ)
theorem xint {i : Int} {j pos} : XE X (.Constant (.int i) j pos) (mC (.int i)) := ⟨_, pe_int, simC fun _ _ => rfl⟩
theorem xbl {b : Bool} {j pos} : XE X (.Constant (.bool b) j pos) (mC (.bl b)) := ⟨_, pe_bl, simC fun _ _ => rfl⟩
theorem xnon {j pos} : XE X (.Constant .none j pos) (mC .non) := ⟨_, pe_non, simC fun _ _ => rfl⟩
theorem xstr {x : Str} {j pos} : XE X (.Constant (.str x) j pos) (mC (.str x)) := ⟨_, pe_str, simC fun _ _ => rfl⟩
/-- a builtin type's name as a value -/
theorem xty {x : Str} {n : String} {pos : Pos} (hg : Gl X x) (hm : X.mg x = none) (hv : bootBuiltins x = some (.type n)) (hn : x ≠ "__name__" := by decide) (hd : (x == ("__debug__" : Str)) = false := by decide) : XE X (.Name x pos) (mC (.ty n)) :=
  ⟨_, pe_bltn (v := .ty n) hg hm hv rfl hn hd, simC fun _ _ => rfl⟩
end

/-! ### two operands -/
def m2 (a b : ME) (f : Env → Store → R → R → Option (R × Store)) : ME := fun env st =>
  match a env st with
  | some (x, st1) => match b env st1 with
    | some (y, st2) => f env st2 x y
    | none => none
  | none => none
/-- what a rule on two values needs to answer as f -/
def Sim2 (K : KW) (r : R2) (f : Env → Store → R → R → Option (R × Store)) : Prop :=
  ∀ (σ : L2.St) (F : Hp) (μ : List Addr) (H : Hp) (env : Env) (st : Store) (x y : R) (v u : V) (z : R) (st' : Store) (Q : VK), Wd K F μ H st → EnvOk K F μ H env σ → RRep K F μ env σ x v → RRep K F μ env σ y u → f env st x y = some (z, st') →
    (∀ v F' μ' H', Wd K F' μ' H' st' → Stp F μ H F' μ' H' → RRep K F' μ' env σ z v → Q v H') → r v u H Q
theorem sim2 {K : KW} {ta tb : TE} {a b : ME} {r : R2} {f : Env → Store → R → R → Option (R × Store)} (ha : SimE K ta a) (hb : SimE K tb b) (hr : Sim2 K r f) : SimE K (tOp r ta tb) (m2 a b f) := by
  intro σ F μ H env st z st' Q w en h k
  unfold m2 at h
  split at h
  · rename_i x st1 e1
    split at h
    · rename_i y st2 e2
      refine ha σ F μ H env st x st1 _ w en e1 fun v F1 μ1 H1 w1 s1 r1 => ?_
      refine hb σ F1 μ1 H1 env st1 y st2 _ w1 (en.step s1) e2 fun u F2 μ2 H2 w2 s2 r2 => ?_
      exact hr σ F2 μ2 H2 env st2 x y v u z st' Q w2 ((en.step s1).step s2) (r1.step s2) r2 h fun v' F' μ' H' w' s' r' => k v' F' μ' H' w' ((s1.trans s2).trans s') r'
    · cases h
  · cases h
def fOr (f g : Env → Store → R → R → Option (R × Store)) : Env → Store → R → R → Option (R × Store) := fun env st x y => match f env st x y with | some z => some z | none => g env st x y
theorem Sim2.or {K : KW} {r u : R2} {f g : Env → Store → R → R → Option (R × Store)} (hr : Sim2 K r f) (hu : Sim2 K u g) :
    Sim2 K (fun x y H Q => r x y H Q ∨ u x y H Q) (fOr f g) := by
  intro σ F μ H env st x y v u z st' Q w en rx ry h k
  unfold fOr at h
  split at h
  · rename_i e; cases h
    exact .inl (hr σ F μ H env st x y _ _ z st' Q w en rx ry e k)
  · exact .inr (hu σ F μ H env st x y _ _ z st' Q w en rx ry h k)
/-- ints only -/
def f2I (C : Int → Int → Bool) (g : Int → Int → D) : Env → Store → R → R → Option (R × Store) := fun _ st x y =>
  match x, y with
  | .d (.int i), .d (.int j) => if C i j then some (.d (g i j), st) else none
  | _, _ => none
theorem sim2I {K : KW} {C : Int → Int → Prop} {g : Int → Int → V} {c : Int → Int → Bool} {g' : Int → Int → D} (hc : ∀ i j, c i j = true → C i j) (hg : ∀ F μ i j, Rep K F μ (g' i j) (g i j)) : Sim2 K (rI C g) (f2I c g') := by
  intro σ F μ H env st x y v u z st' Q w en rx ry h k
  unfold f2I at h
  split at h
  · split at h
    · rename_i hcc
      cases h
      exact ⟨_, _, rx, ry, hc _ _ hcc, k _ F μ H w Stp.refl (hg _ _ _ _)⟩
    · cases h
  · cases h
theorem sim2I0 {K : KW} {g : Int → Int → V} {g' : Int → Int → D} (hg : ∀ F μ i j, Rep K F μ (g' i j) (g i j)) : Sim2 K (rI0 g) (f2I (fun _ _ => true) g') := by
  intro σ F μ H env st x y v u z st' Q w en rx ry h k
  unfold f2I at h
  split at h
  · cases h
    exact ⟨_, _, rx, ry, k _ F μ H w Stp.refl (hg _ _ _ _)⟩
  · cases h

def cMul (i j : Int) : Bool := decide (-(2 ^ 64) < i ∧ i < 2 ^ 64) || decide (-(2 ^ 64) < j ∧ j < 2 ^ 64)
theorem cMul_ok (i j : Int) (h : cMul i j = true) : CMul i j := by
  unfold cMul at h; rw [Bool.or_eq_true, decide_eq_true_eq, decide_eq_true_eq] at h; exact h
def cPos (_ j : Int) : Bool := decide (0 < j)
def cDivW (i j : Int) : Bool := decide (0 < j) && decide (j.natAbs.log2 < 9000)
theorem cDivW_ok (i j : Int) (h : cDivW i j = true) : CDivW i j := by
  unfold cDivW at h; rw [Bool.and_eq_true, decide_eq_true_eq, decide_eq_true_eq] at h; exact h
def cPow (i j : Int) : Bool := decide (0 ≤ j) && decide (j ≤ 1000000) && decide (i.natAbs < 2 ^ 64)
theorem cPow_ok (i j : Int) (h : cPow i j = true) : CPow i j := by
  unfold cPow at h; rw [Bool.and_eq_true, Bool.and_eq_true, decide_eq_true_eq, decide_eq_true_eq, decide_eq_true_eq] at h; exact ⟨h.1.1, h.1.2, h.2⟩

/-- tuples: x + y -/
def f2Cat : Env → Store → R → R → Option (R × Store) := fun _ st x y =>
  match x, y with
  | .d (.tup xs), .d (.tup ys) => if xs.length + ys.length ≤ 16000000 then some (.d (.tup (xs ++ ys)), st) else none
  | _, _ => none
theorem small16 {n : Nat} (h : n ≤ 16000000) : n ≤ sizeLine := by rw [sizeLine_eq]; omega
theorem sim2Cat {K : KW} : Sim2 K (rCatA K) f2Cat := by
  intro σ F μ H env st x y v u z st' Q w en rx ry h k
  unfold f2Cat at h
  split at h
  · rename_i xs ys
    split at h
    · rename_i hz
      cases h
      obtain ⟨a, vs, e1, s1, q1⟩ := rx
      obtain ⟨b, us, e2, s2, q2⟩ := ry
      have l1 := q1.length
      have l2 := q2.length
      refine ⟨a, b, vs, us, e1, e2, SqT.mono w.sub s1, SqT.mono w.sub s2, small16 (by omega), fun e => ?_, fun _ e => ?_, fun _ _ p hp => ?_⟩
      · refine k _ F μ H w Stp.refl ⟨b, us, rfl, s2, ?_⟩
        subst e
        have : xs = [] := List.eq_nil_of_length_eq_zero l1
        subst this; exact q2
      · refine k _ F μ H w Stp.refl ⟨a, vs, rfl, s1, ?_⟩
        subst e
        have : ys = [] := List.eq_nil_of_length_eq_zero l2
        subst this; rw [List.append_nil]; exact q1
      · have s := Stp.lay (F := F) (μ := μ) (o := .tup (vs ++ us)) hp (w.Fnone hp)
        exact k _ _ μ _ (w.lay hp) s ⟨p, vs ++ us, rfl, .of upd_same, (s.reps q1).append (s.reps q2)⟩
    · cases h
  · cases h
/-- a + b: ints, tuples -/
def mAdd (a b : ME) : ME := m2 a b (fOr (f2I (fun _ _ => true) fun i j => .int (i + j)) f2Cat)
def mSub (a b : ME) : ME := m2 a b (f2I (fun _ _ => true) fun i j => .int (i - j))
def f2RepT : Env → Store → R → R → Option (R × Store) := fun _ st x y =>
  match x, y with
  | .d (.tup xs), .d (.int k) => if xs.length = 1 ∧ 1 ≤ k ∧ k ≤ 1000 then some (.d (.tup (List.replicate k.toNat xs).flatten), st) else none
  | _, _ => none
def mMul (a b : ME) : ME := m2 a b (f2I cMul fun i j => .int (i * j))
def mMod (a b : ME) : ME := m2 a b (f2I cPos fun i j => .int (i % j))
def mFdiv (a b : ME) : ME := m2 a b (f2I cDivW fun i j => .int (i / j))
def mPow (a b : ME) : ME := m2 a b (f2I cPow fun i j => .int (i ^ j.toNat))
section
variable {X : Cx} {a b c : Expr} {ma mb mc : ME} {pos : Pos}
theorem xop {op : Operator} {r : R2} {f} (ho : OpR X (binaryOp op) r) (hs : Sim2 X.kw r f) (ha : XE X a ma) (hb : XE X b mb) : XE X (.BinOp a op b pos) (m2 ma mb f) := by
  obtain ⟨ta, pa, sa⟩ := ha
  obtain ⟨tb, pb, sb⟩ := hb
  exact ⟨_, pe_op ho pa pb, sim2 sa sb hs⟩
theorem xadd (ha : XE X a ma) (hb : XE X b mb) : XE X (.BinOp a .Add b pos) (mAdd ma mb) := xop (OpR.or op_add op_catA) ((sim2I0 (g := fun i j => .int (i + j)) (g' := fun i j => .int (i + j)) fun _ _ _ _ => rfl).or sim2Cat) ha hb
theorem xsub (ha : XE X a ma) (hb : XE X b mb) : XE X (.BinOp a .Sub b pos) (mSub ma mb) := xop op_sub (sim2I0 fun _ _ _ _ => rfl) ha hb
theorem xmul (ha : XE X a ma) (hb : XE X b mb) : XE X (.BinOp a .Mult b pos) (mMul ma mb) := xop op_mul (sim2I cMul_ok fun _ _ _ _ => rfl) ha hb
theorem xmod (ha : XE X a ma) (hb : XE X b mb) : XE X (.BinOp a .Mod b pos) (mMod ma mb) := xop op_mod (sim2I (fun _ _ h => of_decide_eq_true h) fun _ _ _ _ => rfl) ha hb
theorem xfdiv (ha : XE X a ma) (hb : XE X b mb) : XE X (.BinOp a .FloorDiv b pos) (mFdiv ma mb) := xop op_fdivW (sim2I cDivW_ok fun _ _ _ _ => rfl) ha hb
theorem xpow (ha : XE X a ma) (hb : XE X b mb) : XE X (.BinOp a .Pow b pos) (mPow ma mb) := xop op_pow (sim2I cPow_ok fun _ _ _ _ => rfl) ha hb
/-- comparisons of ints -/
def mLt (a b : ME) : ME := m2 a b (f2I (fun _ _ => true) fun i j => .bl (decide (i < j)))
def mLe (a b : ME) : ME := m2 a b (f2I (fun _ _ => true) fun i j => .bl (decide (i ≤ j)))
def mGt (a b : ME) : ME := m2 a b (f2I (fun _ _ => true) fun i j => .bl (decide (j < i)))
def mGe (a b : ME) : ME := m2 a b (f2I (fun _ _ => true) fun i j => .bl (decide (j ≤ i)))
theorem xcmp {op : CmpOp} {r : R2} {f} (ho : OpR X (compareOp op) r) (hs : Sim2 X.kw r f) (ha : XE X a ma) (hb : XE X b mb) (hm : behindInMarks op b = false) : XE X (.Compare a [op] [b] pos) (m2 ma mb f) := by
  obtain ⟨ta, pa, sa⟩ := ha
  obtain ⟨tb, pb, sb⟩ := hb
  exact ⟨_, pe_cmpR ho pa pb hm, sim2 sa sb hs⟩
end
end Gx

set_option maxHeartbeats 1000000
namespace Gx
open PySem L2
/-! ### == and != over data -/
mutual
/-- data as the model's data; dr tells what a reference is worth -/
def toP (dr : Nat → Option PyData) : D → Option PyData
  | .non => some .none
  | .bl b => some (.bool b)
  | .int i => some (.int i)
  | .str x => some (.str x)
  | .tup xs => (toPs dr xs).map .tuple
  | .lst xs => (toPs dr xs).map .list
  | .ref n => dr n
  | _ => none
def toPs (dr : Nat → Option PyData) : List D → Option (List PyData)
  | [] => some []
  | x :: xs => match toP dr x with
    | some y => (toPs dr xs).map (y :: ·)
    | none => none
end
/-- a list in the store, of data without references; of such lists -/
def dr0 : Nat → Option PyData := fun _ => none
def drS (dr : Nat → Option PyData) (st : Store) : Nat → Option PyData := fun n => match st[n]? with
  | some (.lst xs) => (toPs dr xs).map .list
  | _ => none
def dr2 (st : Store) : Nat → Option PyData := drS (drS dr0 st) st
def toPR (env : Env) (st : Store) (r : R) : Option PyData :=
  match r with
  | .d d => toP (dr2 st) d
  | .loc _ => match asL env st r with | some xs => (toPs (dr2 st) xs).map .list | none => none
section
variable {K : KW} {F : Hp} {μ : List Addr} {H : Hp} {st : Store} {env : Env} {σ : L2.St}
mutual
theorem toP_ok (w : Wd K F μ H st) {dr : Nat → Option PyData} (hd : ∀ (n : Nat) (a : Addr) (p : PyData), μ[n]? = some a → dr n = some p → Dp K H (.ref a) p) : ∀ (d : D) (v : V) (p : PyData), Rep K F μ d v → toP dr d = some p → Dp K H v p
  | .non, v, p, r, h => by simp only [toP] at h; cases h; cases r; exact .non
  | .bl b, v, p, r, h => by simp only [toP] at h; cases h; cases r; exact .bl b
  | .int b, v, p, r, h => by simp only [toP] at h; cases h; cases r; exact .int b
  | .str b, v, p, r, h => by simp only [toP] at h; cases h; cases r; exact .str b
  | .tup ds, v, p, r, h => by
    simp only [toP, Option.map_eq_some_iff] at h
    obtain ⟨ps, h, rfl⟩ := h
    obtain ⟨a, vs, rfl, s, q⟩ := r
    exact .tup (SqT.mono w.sub s) (toPs_ok w hd ds vs ps q h)
  | .lst ds, v, p, r, h => by
    simp only [toP, Option.map_eq_some_iff] at h
    obtain ⟨ps, h, rfl⟩ := h
    obtain ⟨a, vs, rfl, s, q⟩ := r
    exact .lst (SqL.mono w.sub s) (toPs_ok w hd ds vs ps q h)
  | .ref n, v, p, r, h => by
    simp only [toP] at h
    obtain ⟨a, rfl, hm⟩ := r
    exact hd n a p hm h
  | .ty _, v, p, r, h => by simp only [toP] at h; cases h
  | .dct _ _, v, p, r, h => by simp only [toP] at h; cases h
  | .dtt _ _, v, p, r, h => by simp only [toP] at h; cases h
  | .fn _, v, p, r, h => by simp only [toP] at h; cases h
theorem toPs_ok (w : Wd K F μ H st) {dr : Nat → Option PyData} (hd : ∀ (n : Nat) (a : Addr) (p : PyData), μ[n]? = some a → dr n = some p → Dp K H (.ref a) p) : ∀ (ds : List D) (vs : List V) (ps : List PyData), Reps K F μ ds vs → toPs dr ds = some ps → DpAll K H vs ps
  | [], [], ps, r, h => by simp only [toPs] at h; cases h; exact .nil
  | d :: ds, v :: vs, ps, r, h => by
    simp only [toPs] at h
    split at h
    · rename_i y e
      rw [Option.map_eq_some_iff] at h
      obtain ⟨qs, h, rfl⟩ := h
      exact .cons (toP_ok w hd d v y r.1 e) (toPs_ok w hd ds vs qs r.2 h)
    · cases h
  | [], _ :: _, _, r, _ => r.elim
  | _ :: _, [], _, r, _ => r.elim
end
theorem drS_ok (w : Wd K F μ H st) {dr : Nat → Option PyData} (hd : ∀ (n : Nat) (a : Addr) (p : PyData), μ[n]? = some a → dr n = some p → Dp K H (.ref a) p) : ∀ (n : Nat) (a : Addr) (p : PyData), μ[n]? = some a → drS dr st n = some p → Dp K H (.ref a) p := fun n a p hm h => by
  unfold drS at h
  split at h
  · rename_i xs e
    rw [Option.map_eq_some_iff] at h
    obtain ⟨ps, h, rfl⟩ := h
    obtain ⟨o, h1, h2⟩ := w.obj n _ a e hm
    cases o <;> first | exact h2.elim | skip
    exact .lst (.of h1) (toPs_ok w hd _ _ _ h2 h)
  · cases h
theorem dr2_ok (w : Wd K F μ H st) : ∀ (n : Nat) (a : Addr) (p : PyData), μ[n]? = some a → dr2 st n = some p → Dp K H (.ref a) p := drS_ok w (drS_ok w fun _ _ _ _ h => nomatch h)
theorem toPR_ok (w : Wd K F μ H st) (en : EnvOk K F μ H env σ) {r : R} {v : V} {p : PyData} (q : RRep K F μ env σ r v) (h : toPR env st r = some p) : Dp K H v p := by
  unfold toPR at h
  split at h
  · exact toP_ok w (dr2_ok w) _ _ _ q h
  · split at h
    · rename_i xs e
      rw [Option.map_eq_some_iff] at h
      obtain ⟨ps, h, rfl⟩ := h
      obtain ⟨a, vs, rfl, s, q⟩ := asL_ok w en q e
      exact .lst s (toPs_ok w (dr2_ok w) _ _ _ q h)
    · cases h
end
def f2Eq (neg : Bool) : Env → Store → R → R → Option (R × Store) := fun env st x y =>
  match toPR env st x, toPR env st y with
  | some p, some q => if SeqAt.shaped p && SeqAt.shaped q then some (.d (.bl (if neg then !PyData.eqv p q else PyData.eqv p q)), st) else none
  | _, _ => none
theorem sim2EqD {K : KW} : Sim2 K (rEqD K) (f2Eq false) := by
  intro σ F μ H env st x y v u z st' Q w en rx ry h k
  unfold f2Eq at h
  split at h
  · rename_i p q e1 e2
    split at h
    · rename_i hs
      rw [Bool.and_eq_true] at hs
      cases h
      exact ⟨p, q, toPR_ok w en rx e1, toPR_ok w en ry e2, hs.1, hs.2, k _ F μ H w Stp.refl rfl⟩
    · cases h
  · cases h
theorem sim2NeD {K : KW} : Sim2 K (rNeD K) (f2Eq true) := by
  intro σ F μ H env st x y v u z st' Q w en rx ry h k
  unfold f2Eq at h
  split at h
  · rename_i p q e1 e2
    split at h
    · rename_i hs
      rw [Bool.and_eq_true] at hs
      cases h
      exact ⟨p, q, toPR_ok w en rx e1, toPR_ok w en ry e2, hs.1, hs.2, k _ F μ H w Stp.refl rfl⟩
    · cases h
  · cases h
def mEq (a b : ME) : ME := m2 a b (f2Eq false)
def mNe (a b : ME) : ME := m2 a b (f2Eq true)

/-! ### tests from values -/
def mTest (m : ME) : MT := fun env st => match m env st with
  | some (.d (.bl b), st') => some (b, st')
  | _ => none
theorem simTest {K : KW} {te : TE} {m : ME} (h : SimE K te m) : SimT K (tTest te) (mTest m) := by
  intro σ F μ H env st b st' Q w en e k
  unfold mTest at e
  split at e
  · rename_i e1
    cases e
    exact h σ F μ H env st _ _ _ w en e1 fun v F' μ' H' w' s' r' => ⟨b, r', k F' μ' H' w' s'⟩
  · cases e
theorem simB {K : KW} {te : TE} {m : ME} (h : SimE K te m) : SimT K (tB te) (mTest m) := simTest h
section
variable {X : Cx} {a b c e : Expr} {ma mb mc m : ME} {mt mu : MT} {pos : Pos} {rest es : List Expr} {mA : MA}
theorem xcmpT {op : CmpOp} {r : R2} {f} (ho : OpR X (compareOp op) r) (hs : Sim2 X.kw r f) (ha : XE X a ma) (hb : XE X b mb) (hm : behindInMarks op b = false) : XT X (.Compare a [op] [b] pos) (mTest (m2 ma mb f)) := by
  obtain ⟨ta, pa, sa⟩ := ha
  obtain ⟨tb, pb, sb⟩ := hb
  exact ⟨_, pt_cmpR ho pa pb hm, simTest (sim2 sa sb hs)⟩
/-- the operators' facts: o, by the op -/
structure CmpK (X : Cx) (op : CmpOp) (f : Env → Store → R → R → Option (R × Store)) : Prop where
  h : ∃ r, OpR X (compareOp op) r ∧ Sim2 X.kw r f
theorem kLt : CmpK X .Lt (f2I (fun _ _ => true) fun i j => .bl (decide (i < j))) := ⟨_, op_lt, sim2I0 fun _ _ _ _ => rfl⟩
theorem kLe : CmpK X .LtE (f2I (fun _ _ => true) fun i j => .bl (decide (i ≤ j))) := ⟨_, op_le, sim2I0 fun _ _ _ _ => rfl⟩
theorem kGt : CmpK X .Gt (f2I (fun _ _ => true) fun i j => .bl (decide (j < i))) := ⟨_, op_gt, sim2I0 fun _ _ _ _ => rfl⟩
theorem kGe : CmpK X .GtE (f2I (fun _ _ => true) fun i j => .bl (decide (j ≤ i))) := ⟨_, op_ge, sim2I0 fun _ _ _ _ => rfl⟩
theorem kEq (hu : X.A.units + 64 < cLine) : CmpK X .Eq (f2Eq false) := ⟨_, op_eqD hu, sim2EqD⟩
theorem kNe (hu : X.A.units + 64 < cLine) : CmpK X .NotEq (f2Eq true) := ⟨_, op_neD hu, sim2NeD⟩
theorem xc {op : CmpOp} {f} (k : CmpK X op f) (ha : XE X a ma) (hb : XE X b mb) (hm : behindInMarks op b = false := by first | exact nomark _ | rfl) : XE X (.Compare a [op] [b] pos) (m2 ma mb f) := by
  obtain ⟨r, h1, h2⟩ := k
  exact xcmp h1 h2 ha hb hm
theorem xct {op : CmpOp} {f} (k : CmpK X op f) (ha : XE X a ma) (hb : XE X b mb) (hm : behindInMarks op b = false := by first | exact nomark _ | rfl) : XT X (.Compare a [op] [b] pos) (mTest (m2 ma mb f)) := by
  obtain ⟨r, h1, h2⟩ := k
  exact xcmpT h1 h2 ha hb hm
/-- an expression (no comparison, and, or, not) as a test -/
theorem xtv (h : XE X e m) (he : ∀ whole, isTrue e X.env whole = (do let v ← whole; standAt e.pos; holding [v] (truthy v)) := by intro _; rfl) : XT X e (mTest m) := by
  obtain ⟨t, p, s⟩ := h
  exact ⟨_, pt_val p he, simB s⟩

/-! ### and, or, not -/
def mAndT (t u : MT) : MT := fun env st => match t env st with
  | some (true, st1) => u env st1
  | some (false, st1) => some (false, st1)
  | none => none
def mOrT (t u : MT) : MT := fun env st => match t env st with
  | some (true, st1) => some (true, st1)
  | some (false, st1) => u env st1
  | none => none
def mNotT (t : MT) : MT := fun env st => match t env st with
  | some (b, st1) => some (!b, st1)
  | none => none
theorem simAnd {K : KW} {t u : TT} (h : SimT K t mt) (h2 : SimT K u mu) : SimT K (tAnd t u) (mAndT mt mu) := by
  intro σ F μ H env st b st' Q w en e k
  unfold mAndT at e
  split at e
  · rename_i st1 e1
    refine h σ F μ H env st true _ _ w en e1 fun F1 μ1 H1 w1 s1 => ?_
    rw [if_pos rfl]
    exact h2 σ F1 μ1 H1 env st1 b st' Q w1 (en.step s1) e fun F2 μ2 H2 w2 s2 => k F2 μ2 H2 w2 (s1.trans s2)
  · rename_i st1 e1
    cases e
    refine h σ F μ H env st false _ _ w en e1 fun F1 μ1 H1 w1 s1 => ?_
    rw [if_neg Bool.false_ne_true]
    exact k F1 μ1 H1 w1 s1
  · cases e
theorem simOr {K : KW} {t u : TT} (h : SimT K t mt) (h2 : SimT K u mu) : SimT K (tOr t u) (mOrT mt mu) := by
  intro σ F μ H env st b st' Q w en e k
  unfold mOrT at e
  split at e
  · rename_i st1 e1
    cases e
    refine h σ F μ H env st true _ _ w en e1 fun F1 μ1 H1 w1 s1 => ?_
    rw [if_pos rfl]
    exact k F1 μ1 H1 w1 s1
  · rename_i st1 e1
    refine h σ F μ H env st false _ _ w en e1 fun F1 μ1 H1 w1 s1 => ?_
    rw [if_neg Bool.false_ne_true]
    exact h2 σ F1 μ1 H1 env st1 b st' Q w1 (en.step s1) e fun F2 μ2 H2 w2 s2 => k F2 μ2 H2 w2 (s1.trans s2)
  · cases e
theorem simNot {K : KW} {t : TT} (h : SimT K t mt) : SimT K (tNot t) (mNotT mt) := by
  intro σ F μ H env st b st' Q w en e k
  unfold mNotT at e
  split at e
  · rename_i c st1 e1
    cases e
    exact h σ F μ H env st c _ _ w en e1 fun F1 μ1 H1 w1 s1 => k F1 μ1 H1 w1 s1
  · cases e
theorem xw1a (h : XT X a mt) : XW X (.BoolOp .And [a] pos) mt := let ⟨t, p, s⟩ := h; ⟨t, pw_and1 p, s⟩
theorem xw1o (h : XT X a mt) : XW X (.BoolOp .Or [a] pos) mt := let ⟨t, p, s⟩ := h; ⟨t, pw_or1 p, s⟩
theorem xwa (h : XT X a mt) (h2 : XW X (.BoolOp .And (b :: rest) pos) mu) : XW X (.BoolOp .And (a :: b :: rest) pos) (mAndT mt mu) := let ⟨t, p, s⟩ := h; let ⟨u, q, z⟩ := h2; ⟨_, pw_and p q, simAnd s z⟩
theorem xwo (h : XT X a mt) (h2 : XW X (.BoolOp .Or (b :: rest) pos) mu) : XW X (.BoolOp .Or (a :: b :: rest) pos) (mOrT mt mu) := let ⟨t, p, s⟩ := h; let ⟨u, q, z⟩ := h2; ⟨_, pw_or p q, simOr s z⟩
theorem xwt (h : XW X a mt) : XT X a mt := let ⟨t, p, s⟩ := h; ⟨t, p.pt, s⟩
theorem xnott (h : XT X a mt) : XT X (.UnaryOp .Not a pos) (mNotT mt) := let ⟨t, p, s⟩ := h; ⟨_, pt_not p, simNot s⟩
/-- as values, all of them bools -/
def mAndV (a b : ME) : ME := fun env st => match a env st with
  | some (.d (.bl true), st1) => b env st1
  | some (.d (.bl false), st1) => some (.d (.bl false), st1)
  | _ => none
def mOrV (a b : ME) : ME := fun env st => match a env st with
  | some (.d (.bl true), st1) => some (.d (.bl true), st1)
  | some (.d (.bl false), st1) => b env st1
  | _ => none
def mNotV (a : ME) : ME := fun env st => match a env st with
  | some (.d (.bl b), st1) => some (.d (.bl (!b)), st1)
  | _ => none
theorem simAndV {K : KW} {t u : TE} (h : SimE K t ma) (h2 : SimE K u mb) : SimE K (tAndV t u) (mAndV ma mb) := by
  intro σ F μ H env st r st' Q w en e k
  unfold mAndV at e
  split at e
  · rename_i st1 e1
    refine h σ F μ H env st (.d (.bl true)) _ _ w en e1 fun v F1 μ1 H1 w1 s1 r1 => ⟨true, r1, ?_⟩
    rw [if_pos rfl]
    exact h2 σ F1 μ1 H1 env st1 _ st' Q w1 (en.step s1) e fun v F2 μ2 H2 w2 s2 => k v F2 μ2 H2 w2 (s1.trans s2)
  · rename_i st1 e1
    cases e
    refine h σ F μ H env st (.d (.bl false)) _ _ w en e1 fun v F1 μ1 H1 w1 s1 r1 => ⟨false, r1, ?_⟩
    rw [if_neg Bool.false_ne_true]
    exact k _ F1 μ1 H1 w1 s1 rfl
  · cases e
theorem simOrV {K : KW} {t u : TE} (h : SimE K t ma) (h2 : SimE K u mb) : SimE K (tOrV t u) (mOrV ma mb) := by
  intro σ F μ H env st r st' Q w en e k
  unfold mOrV at e
  split at e
  · rename_i st1 e1
    cases e
    refine h σ F μ H env st (.d (.bl true)) _ _ w en e1 fun v F1 μ1 H1 w1 s1 r1 => ⟨true, r1, ?_⟩
    rw [if_pos rfl]
    exact k _ F1 μ1 H1 w1 s1 rfl
  · rename_i st1 e1
    refine h σ F μ H env st (.d (.bl false)) _ _ w en e1 fun v F1 μ1 H1 w1 s1 r1 => ⟨false, r1, ?_⟩
    rw [if_neg Bool.false_ne_true]
    exact h2 σ F1 μ1 H1 env st1 _ st' Q w1 (en.step s1) e fun v F2 μ2 H2 w2 s2 => k v F2 μ2 H2 w2 (s1.trans s2)
  · cases e
theorem simNotV {K : KW} {t : TE} (h : SimE K t ma) : SimE K (tNotV t) (mNotV ma) := by
  intro σ F μ H env st r st' Q w en e k
  unfold mNotV at e
  split at e
  · rename_i b st1 e1
    cases e
    exact h σ F μ H env st (.d (.bl b)) _ _ w en e1 fun v F1 μ1 H1 w1 s1 r1 => ⟨b, r1, k _ F1 μ1 H1 w1 s1 rfl⟩
  · cases e
theorem xone {op : BoolOp} (h : XE X a ma) : XE X (.BoolOp op [a] pos) ma := let ⟨t, p, s⟩ := h; ⟨t, pe_one p, s⟩
theorem xand (h : XE X a ma) (h2 : XE X (.BoolOp .And (b :: rest) pos) mb) : XE X (.BoolOp .And (a :: b :: rest) pos) (mAndV ma mb) := let ⟨t, p, s⟩ := h; let ⟨u, q, z⟩ := h2; ⟨_, pe_and p q, simAndV s z⟩
theorem xor (h : XE X a ma) (h2 : XE X (.BoolOp .Or (b :: rest) pos) mb) : XE X (.BoolOp .Or (a :: b :: rest) pos) (mOrV ma mb) := let ⟨t, p, s⟩ := h; let ⟨u, q, z⟩ := h2; ⟨_, pe_or p q, simOrV s z⟩
theorem xnot (h : XE X a ma) : XE X (.UnaryOp .Not a pos) (mNotV ma) := let ⟨t, p, s⟩ := h; ⟨_, pe_not p, simNotV s⟩
def mIfE (t : MT) (a b : ME) : ME := fun env st => match t env st with
  | some (true, st1) => a env st1
  | some (false, st1) => b env st1
  | none => none
theorem xife {c : Expr} (hc : XT X c mt) (ha : XE X a ma) (hb : XE X b mb) : XE X (.IfExp c a b pos) (mIfE mt ma mb) := by
  obtain ⟨t, p, s⟩ := hc
  obtain ⟨ta, pa, sa⟩ := ha
  obtain ⟨tb, pb, sb⟩ := hb
  refine ⟨_, pe_ifExp p pa pb, ?_⟩
  intro σ F μ H env st r st' Q w en e k
  unfold mIfE at e
  split at e
  · rename_i st1 e1
    refine s σ F μ H env st _ st1 _ w en e1 fun F1 μ1 H1 w1 s1 => ?_
    rw [if_pos rfl]
    exact sa σ F1 μ1 H1 env st1 _ st' Q w1 (en.step s1) e fun v F2 μ2 H2 w2 s2 => k v F2 μ2 H2 w2 (s1.trans s2)
  · rename_i st1 e1
    refine s σ F μ H env st _ st1 _ w en e1 fun F1 μ1 H1 w1 s1 => ?_
    rw [if_neg Bool.false_ne_true]
    exact sb σ F1 μ1 H1 env st1 _ st' Q w1 (en.step s1) e fun v F2 μ2 H2 w2 s2 => k v F2 μ2 H2 w2 (s1.trans s2)
  · cases e

/-! ### arguments, displays -/
def mNil : MA := fun _ st => some ([], st)
def mCons (m : ME) (r : MA) : MA := fun env st => match m env st with
  | some (.d d, st1) => match r env st1 with
    | some (ds, st2) => some (d :: ds, st2)
    | none => none
  | _ => none
theorem simNil {K : KW} : SimA K tNil mNil := by
  intro σ F μ H env st ds st' Q w en e k
  cases e
  exact k [] F μ H w Stp.refl trivial
theorem simCons {K : KW} {t : TE} {u : TA} (h : SimE K t m) (h2 : SimA K u mA) : SimA K (tCons t u) (mCons m mA) := by
  intro σ F μ H env st ds st' Q w en e k
  unfold mCons at e
  split at e
  · rename_i d st1 e1
    split at e
    · rename_i ds st2 e2
      cases e
      refine h σ F μ H env st _ st1 _ w en e1 fun v F1 μ1 H1 w1 s1 r1 => ?_
      refine h2 σ F1 μ1 H1 env st1 _ _ _ w1 (en.step s1) e2 fun vs F2 μ2 H2 w2 s2 r2 => ?_
      exact k _ F2 μ2 H2 w2 (s1.trans s2) ⟨s2.rep r1, r2⟩
    · cases e
  · cases e
theorem xnil : XA X [] mNil := ⟨_, pa_nil, simNil⟩
theorem xcons (h : XE X e m) (h2 : XA X es mA) (hs : starEach (e :: es) X.env = (false, eval e X.env) :: starEach es X.env := by rfl) : XA X (e :: es) (mCons m mA) :=
  let ⟨t, p, s⟩ := h; let ⟨u, q, z⟩ := h2; ⟨_, pa_cons p q hs, simCons s z⟩
def mTup (a : MA) : ME := fun env st => match a env st with
  | some (ds, st1) => if ds.length ≤ 16000000 then some (.d (.tup ds), st1) else none
  | none => none
theorem xtup {x1} (h : XA X es mA) : XE X (.Tuple es x1 pos) (mTup mA) := by
  obtain ⟨t, p, s⟩ := h
  refine ⟨_, pe_tup p, ?_⟩
  intro σ F μ H env st r st' Q w en e k
  unfold mTup at e
  split at e
  · rename_i ds st1 e1
    split at e
    · rename_i hz
      cases e
      refine s σ F μ H env st _ _ _ w en e1 fun vs F1 μ1 H1 w1 s1 r1 => ⟨small16 (by rw [← r1.length]; exact hz), fun p hp => ?_⟩
      have s2 := Stp.lay (F := F1) (μ := μ1) (o := .tup vs) hp (w1.Fnone hp)
      exact k _ _ μ1 _ (w1.lay hp) (s1.trans s2) ⟨p, vs, rfl, .of upd_same, s2.reps r1⟩
    · cases e
  · cases e
/-- fresh objects -/
def mFLst (a : MA) : MF := fun env st => match a env st with
  | some (ds, st1) => if ds.length ≤ 16000000 then some (.lst ds, st1) else none
  | none => none
theorem xflst (h : XA X es mA) : XF X (.List es pos) (mFLst mA) := by
  obtain ⟨t, p, s⟩ := h
  refine ⟨_, pe_lst p, ?_⟩
  intro σ F μ H env st so st' Q w en e k
  unfold mFLst at e
  split at e
  · rename_i ds st1 e1
    split at e
    · rename_i hz
      cases e
      refine s σ F μ H env st _ _ _ w en e1 fun vs F1 μ1 H1 w1 s1 r1 => ⟨small16 (by rw [← r1.length]; exact hz), fun p hp => ?_⟩
      exact k p (.lst vs) F1 μ1 _ (w1.lay0 hp) (s1.trans (Stp.lay0 hp)) (fresh_of s1 hp) (w1.Fnone hp) (w1.out hp) upd_same r1
    · cases e
  · cases e
/-- as data -/
def dOf : SO → Option D
  | .lst xs => some (.lst xs)
  | .tup xs => some (.tup xs)
  | .dK kvs => some (.dct (kvs.map (·.1)) (kvs.map (·.2)))
  | .dT kvs => some (.dtt (kvs.map (·.1)) (kvs.map (·.2)))
  | .ins _ _ => none
  | .tab _ _ _ => none
  | .dF _ => none
  | .dX _ _ => none
  | .dXF _ _ => none
def mFrz (f : MF) : ME := fun env st => match f env st with
  | some (so, st1) => match dOf so with | some d => some (.d d, st1) | none => none
  | none => none
end
section
variable {K : KW} {F : Hp} {μ : List Addr}
theorem RepKV.split {κ : Type} : ∀ {ps : List (κ × D)} {qs : List (κ × V)}, RepKV K F μ ps qs → Reps K F μ (ps.map (·.2)) (qs.map (·.2)) ∧ qs = (ps.map (·.1)).zip (qs.map (·.2))
  | [], [], _ => ⟨trivial, rfl⟩
  | p :: ps, q :: qs, r => by
    obtain ⟨h1, h2⟩ := RepKV.split r.2.2
    refine ⟨⟨r.2.1, h1⟩, ?_⟩
    show q :: qs = (p.1, q.2) :: ((ps.map (·.1)).zip (qs.map (·.2)))
    rw [← h2, r.1]
  | [], _ :: _, r => r.elim
  | _ :: _, [], r => r.elim
theorem dOf_ok {F' : Hp} {so : SO} {u : HO} {d : D} {a : Addr} (h : dOf so = some d) (r : SORep K F μ so u) (e : F a = some u) : Rep K F μ d (.ref a) := by
  cases so <;> cases u <;> first | exact r.elim | skip
  · cases h; exact ⟨a, _, rfl, .of e, r⟩
  · cases h; exact ⟨a, _, rfl, .of e, r⟩
  · cases h
    obtain ⟨h1, h2⟩ := RepKV.split r
    exact ⟨a, _, rfl, .inl (by rw [← h2]; exact e), by simp, h1⟩
  · cases h
    obtain ⟨h1, h2⟩ := RepKV.split r
    exact ⟨a, _, rfl, .inl (by rw [← h2]; exact e), by simp, h1⟩
  all_goals cases h
end
theorem simFrz {K : KW} {t : TE} {f : MF} (h : SimF K t f) : SimE K t (mFrz f) := by
  intro σ F μ H env st r st' Q w en e k
  unfold mFrz at e
  split at e
  · rename_i so st1 e1
    split at e
    · rename_i d hd
      cases e
      refine h σ F μ H env st _ _ _ w en e1 fun a u F1 μ1 H1 w1 s1 h0 f1 m1 h1 r1 => ?_
      have s2 := s1.freeze (o := u) h0 f1
      have ext : ∀ b o, F1 b = some o → upd F1 a u b = some o := fun b o e => by rw [upd_ne (fun q => by subst q; rw [f1] at e; cases e)]; exact e
      exact k _ _ μ1 H1 (w1.freeze h1 f1 m1) s2 (dOf_ok (F' := F1) hd (SORep.mono ext (fun _ _ e => e) _ _ r1) upd_same)
    · cases e
  · cases e
/-- as an object of the store -/
def mAlloc (f : MF) : ME := fun env st => match f env st with
  | some (so, st1) => some (.d (.ref st1.length), st1 ++ [so])
  | none => none
theorem simAlloc {K : KW} {t : TE} {f : MF} (h : SimF K t f) : SimE K t (mAlloc f) := by
  intro σ F μ H env st r st' Q w en e k
  unfold mAlloc at e
  split at e
  · rename_i so st1 e1
    cases e
    refine h σ F μ H env st _ _ _ w en e1 fun a u F1 μ1 H1 w1 s1 h0 f1 m1 h1 r1 => ?_
    refine k _ F1 (μ1 ++ [a]) H1 (w1.alloc h1 f1 m1 r1) (s1.alloc h0) ⟨a, rfl, ?_⟩
    rw [← w1.len]; simp
  · cases e
section
variable {X : Cx} {e : Expr} {f : MF}
theorem xfrz (h : XF X e f) : XE X e (mFrz f) := let ⟨t, p, s⟩ := h; ⟨t, p, simFrz s⟩
theorem xalloc (h : XF X e f) : XE X e (mAlloc f) := let ⟨t, p, s⟩ := h; ⟨t, p, simAlloc s⟩
end
end Gx

set_option maxHeartbeats 1000000
namespace Gx
open PySem L2

/-! ### subscripts -/
def keyOf : D → Option Key
  | .int i => some (.inl i)
  | .str x => some (.inr x)
  | _ => none
def valD {κ : Type} [DecidableEq κ] (kvs : List (κ × D)) (k : κ) : Option D := (kvs.find? fun kv => decide (kv.1 = k)).map (·.2)
/-- the entries of a dict with keys ints and texts -/
def asK (env : Env) (st : Store) : R → Option (List (Key × D))
  | .d (.dct ks vs) => some (ks.zip vs)
  | .d (.ref n) => match st[n]? with | some (.dK xs) => some xs | some (.dF xs) => some xs | _ => none
  | .loc i => match env[i]? with | some (.own (.dK xs)) => some xs | _ => none
  | _ => none
section
variable {K : KW} {F : Hp} {μ : List Addr} {H : Hp} {st : Store} {env : Env} {σ : L2.St} {r : R} {v : V}
theorem RepKV.zip {κ : Type} : ∀ {ks : List κ} {ds : List D} {vs : List V}, Reps K F μ ds vs → RepKV K F μ (ks.zip ds) (ks.zip vs)
  | [], _, _, _ => by simp [RepKV]
  | k :: ks, [], [], _ => by simp [RepKV]
  | k :: ks, d :: ds, v :: vs, r => ⟨rfl, r.1, RepKV.zip r.2⟩
  | _ :: _, [], _ :: _, r => r.elim
  | _ :: _, _ :: _, [], r => r.elim
theorem RepKV.val {κ : Type} [DecidableEq κ] (k : κ) : ∀ {ps : List (κ × D)} {qs : List (κ × V)}, RepKV K F μ ps qs → (∀ d, valD ps k = some d → ∃ v, valV qs k = some v ∧ Rep K F μ d v) ∧ (valD ps k = none → valV qs k = none)
  | [], [], _ => ⟨fun d h => by simp [valD] at h, fun _ => rfl⟩
  | p :: ps, q :: qs, r => by
    obtain ⟨h1, h2⟩ := RepKV.val k r.2.2
    unfold valD valV at *
    by_cases e : p.1 = k
    · have e' : q.1 = k := r.1 ▸ e
      simp only [List.find?_cons, e, e', decide_true, Option.map_some, Option.some.injEq]
      exact ⟨fun d hd => ⟨q.2, rfl, hd ▸ r.2.1⟩, fun h => by cases h⟩
    · have e' : ¬ q.1 = k := r.1 ▸ e
      simp only [List.find?_cons, e, e', decide_false]
      exact ⟨h1, h2⟩
  | [], _ :: _, r => r.elim
  | _ :: _, [], r => r.elim
theorem asK_ok (w : Wd K F μ H st) (en : EnvOk K F μ H env σ) {xs : List (Key × D)} (q : RRep K F μ env σ r v) (h : asK env st r = some xs) : ∃ a vs, v = .ref a ∧ Rd H a (.dK vs) ∧ RepKV K F μ xs vs := by
  unfold asK at h
  split at h
  · cases h
    obtain ⟨a, vs, e, s, l, q⟩ := q
    exact ⟨a, _, e, Rd.mono w.sub s, .zip q⟩
  · rename_i n
    split at h
    · rename_i ys hs
      cases h
      obtain ⟨a, e, hm⟩ := q
      obtain ⟨o, h1, h2⟩ := w.obj n _ a hs hm
      cases o <;> first | exact h2.elim | skip
      exact ⟨a, _, e, .of h1, h2⟩
    · rename_i ys hs
      cases h
      obtain ⟨a, e, hm⟩ := q
      obtain ⟨o, h1, h2⟩ := w.obj n _ a hs hm
      cases o <;> first | exact h2.elim | skip
      rename_i od u
      cases u <;> first | exact h2.elim | skip
      exact ⟨a, _, e, .inr ⟨od, h1⟩, h2⟩
    · cases h
  · rename_i i
    split at h
    · rename_i ys hs
      cases h
      obtain ⟨a, e, so, h1, h2⟩ := q
      obtain ⟨b, u, h3, h4, h5, h6, h7⟩ := en.slot i _ _ h1 h2
      cases h3
      rw [hs] at h1; cases h1
      cases u <;> first | exact h7.elim | skip
      exact ⟨a, _, e, .of h6, h7⟩
    · cases h
  · cases h
theorem keyOf_ok {d : D} {k : Key} {v : V} (h : keyOf d = some k) (r : Rep K F μ d v) : v = kV k := by
  cases d <;> simp only [keyOf] at h <;> cases h
  · exact r
  · exact r
end
def f2IxL : Env → Store → R → R → Option (R × Store) := fun env st x y =>
  match asL env st x, y with
  | some xs, .d (.int i) => match atI xs i with | some d => some (.d d, st) | none => none
  | _, _ => none
def f2IxU : Env → Store → R → R → Option (R × Store) := fun env st x y =>
  match asU x, y with
  | some xs, .d (.int i) => match atI xs i with | some d => some (.d d, st) | none => none
  | _, _ => none
def f2IxK : Env → Store → R → R → Option (R × Store) := fun env st x y =>
  match asK env st x, y with
  | some xs, .d d => match keyOf d with
    | some k => match valD xs k with | some z => some (.d z, st) | none => none
    | none => none
  | _, _ => none
theorem atI_rep {K : KW} {F : Hp} {μ : List Addr} {xs : List D} {vs : List V} {i : Int} {d : D} (r : Reps K F μ xs vs) (h : atI xs i = some d) : ∃ v, atI vs i = some v ∧ Rep K F μ d v := by
  unfold atI at *
  rw [← r.length]
  cases e : ixN xs.length i with
  | none => rw [e] at h; cases h
  | some j =>
    rw [e] at h
    exact r.get h
def rDGet : R2 := fun x y H Q => ∃ a v, x = .ref a ∧ DGet H a y (some v) ∧ Q v H
section
variable {K : KW}
theorem sim2IxL : Sim2 K (rIxL K) f2IxL := by
  intro σ F μ H env st x y v u z st' Q w en rx ry h k
  unfold f2IxL at h
  split at h
  · rename_i xs i e1
    split at h
    · rename_i d e2
      cases h
      obtain ⟨a, vs, e, s, q⟩ := asL_ok w en rx e1
      obtain ⟨v', h1, h2⟩ := atI_rep q e2
      exact ⟨a, vs, i, v', e, ry, s, h1, k v' F μ H w Stp.refl h2⟩
    · cases h
  · cases h
theorem sim2IxU : Sim2 K (rIxT K) f2IxU := by
  intro σ F μ H env st x y v u z st' Q w en rx ry h k
  unfold f2IxU at h
  split at h
  · rename_i xs i e1
    split at h
    · rename_i d e2
      cases h
      obtain ⟨a, vs, e, s, q⟩ := asU_ok w rx e1
      obtain ⟨v', h1, h2⟩ := atI_rep q e2
      exact ⟨a, vs, i, v', e, ry, s, h1, k v' F μ H w Stp.refl h2⟩
    · cases h
  · cases h
theorem sim2IxK : Sim2 K rDGet f2IxK := by
  intro σ F μ H env st x y v u z st' Q w en rx ry h k
  unfold f2IxK at h
  split at h
  · rename_i xs d e1
    split at h
    · rename_i kk e2
      split at h
      · rename_i z' e3
        cases h
        obtain ⟨a, vs, e, s, q⟩ := asK_ok w en rx e1
        obtain ⟨v', h1, h2⟩ := (RepKV.val kk q).1 _ e3
        exact ⟨a, v', e, .inl ⟨vs, kk, s, keyOf_ok e2 ry, h1.symm⟩, k v' F μ H w Stp.refl h2⟩
      · cases h
    · cases h
  · cases h
theorem m2_or {a b : ME} {f g : Env → Store → R → R → Option (R × Store)} {env : Env} {st : Store} {z : R × Store} (h : m2 a b (fOr f g) env st = some z) : m2 a b f env st = some z ∨ m2 a b g env st = some z := by
  unfold m2 at *
  split at h
  · rename_i x st1 e1
    split at h
    · rename_i y st2 e2
      unfold fOr at h
      split at h
      · rename_i e3; cases h; exact .inl e3
      · exact .inr h
    · cases h
  · cases h
theorem simOr2 {ta tb : TE} {a b : ME} {f g} (h1 : SimE K ta (m2 a b f)) (h2 : SimE K tb (m2 a b g)) : SimE K (fun σ H Q => ta σ H Q ∨ tb σ H Q) (m2 a b (fOr f g)) := by
  intro σ F μ H env st r st' Q w en e k
  rcases m2_or e with e | e
  · exact .inl (h1 σ F μ H env st r st' Q w en e k)
  · exact .inr (h2 σ F μ H env st r st' Q w en e k)
end
def fIx := fOr (fOr f2IxL f2IxU) f2IxK
def mIx (a b : ME) : ME := m2 a b fIx
section
variable {X : Cx} {a b c e : Expr} {ma mb mc m : ME} {pos : Pos}
theorem xix (hu : X.A.units + 1 < cLine) (ha : XE X a ma) (hb : XE X b mb) (hs : PlainIx b := by exact fun _ _ => rfl) (hn : NoSl b := by exact fun _ _ => rfl) : XE X (.Subscript a b pos) (mIx ma mb) := by
  obtain ⟨ta, pa, sa⟩ := ha
  obtain ⟨tb, pb, sb⟩ := hb
  exact ⟨_, PE.or (pe_ix (ix_list.or ix_tup) pa pb hs) (pe_dget hu pa pb hn), simOr2 (sim2 sa sb (sim2IxL.or sim2IxU)) (sim2 (r := rDGet) sa sb sim2IxK)⟩

/-! ### slices -/
abbrev MO := Env → Store → Option (Option Int × Store)
def SimO (K : KW) (te : TO) (m : MO) : Prop :=
  ∀ (σ : L2.St) (F : Hp) (μ : List Addr) (H : Hp) (env : Env) (st : Store) (o : Option Int) (st' : Store) (Q : Option Int → Hp → Prop), Wd K F μ H st → EnvOk K F μ H env σ → m env st = some (o, st') →
    (∀ F' μ' H', Wd K F' μ' H' st' → Stp F μ H F' μ' H' → Q o H') → te σ H Q
structure XO (X : Cx) (e : Option Expr) (m : MO) : Prop where
  h : ∃ te, PO X e te ∧ SimO X.kw te m
def mNoPart : MO := fun _ st => some (none, st)
def mPart (m : ME) : MO := fun env st => match m env st with | some (.d (.int i), st1) => some (some i, st1) | _ => none
theorem xno : XO X none mNoPart := by
  refine ⟨_, po_none, ?_⟩
  intro σ F μ H env st o st' Q w en e k
  cases e
  exact k F μ H w Stp.refl
theorem xsome (h : XE X e m) : XO X (some e) (mPart m) := by
  obtain ⟨t, p, s⟩ := h
  refine ⟨_, po_some p, ?_⟩
  intro σ F μ H env st o st' Q w en h k
  unfold mPart at h
  split at h
  · rename_i i st1 e1
    cases h
    exact s σ F μ H env st _ _ _ w en e1 fun v F1 μ1 H1 w1 s1 r1 => ⟨i, r1, k F1 μ1 H1 w1 s1⟩
  · cases h
def cutD (xs : List D) (lo hi : Option Int) : List D := (xs.drop (HT.sIx xs.length 0 lo)).take (HT.sIx xs.length xs.length hi - HT.sIx xs.length 0 lo)
theorem cut_rep {K : KW} {F : Hp} {μ : List Addr} {xs : List D} {vs : List V} {lo hi : Option Int} (r : Reps K F μ xs vs) : Reps K F μ (cutD xs lo hi) (cutV vs lo hi) := by
  unfold cutD cutV
  rw [← r.length]
  exact (r.drop _).take _
theorem cut_whole {xs : List D} {lo hi : Option Int} (h : HT.sIx xs.length 0 lo = 0 ∧ HT.sIx xs.length xs.length hi = xs.length) : cutD xs lo hi = xs := by
  unfold cutD
  rw [h.1, h.2]
  simp
def mSl (a : ME) (lo hi : MO) : ME := fun env st => match a env st with
  | some (x, st1) => match lo env st1 with
    | some (l, st2) => match hi env st2 with
      | some (u, st3) => match x with
        | .d (.tup xs) => some (.d (.tup (cutD xs l u)), st3)
        | r => match asL env st3 r with | some xs => some (.d (.lst (cutD xs l u)), st3) | none => none
      | none => none
    | none => none
  | none => none
theorem xsl {p2 : Pos} {lo hi : Option Expr} {ml mh : MO} (ha : XE X a ma) (hl : XO X lo ml) (hh : XO X hi mh) : XE X (.Subscript a (.Slice lo hi none p2) pos) (mSl ma ml mh) := by
  obtain ⟨ta, pa, sa⟩ := ha
  obtain ⟨tl, pl, sl⟩ := hl
  obtain ⟨th, ph, sh⟩ := hh
  refine ⟨_, pe_slice (SlR.or sl_tupA sl_list) pa pl ph, ?_⟩
  intro σ F μ H env st r st' Q w en h k
  unfold mSl at h
  split at h
  · rename_i x st1 e1
    split at h
    · rename_i l st2 e2
      split at h
      · rename_i u st3 e3
        refine sa σ F μ H env st x st1 _ w en e1 fun v F1 μ1 H1 w1 s1 r1 => ?_
        refine sl σ F1 μ1 H1 env st1 l st2 _ w1 (en.step s1) e2 fun F2 μ2 H2 w2 s2 => ?_
        refine sh σ F2 μ2 H2 env st2 u st3 _ w2 ((en.step s1).step s2) e3 fun F3 μ3 H3 w3 s3 => ?_
        have sA := (s1.trans s2).trans s3
        have r3 := (r1.step s2).step s3
        split at h
        · rename_i xs
          cases h
          obtain ⟨a, vs, e, s, q⟩ := r3
          refine .inl ⟨a, vs, e, SqT.mono w3.sub s, fun hw => ?_, fun hw p hp => ?_⟩
          · refine k _ F3 μ3 H3 w3 sA ⟨a, vs, rfl, s, ?_⟩
            rw [← q.length] at hw
            rw [cut_whole hw]; exact q
          · have sl := Stp.lay (F := F3) (μ := μ3) (o := .tup (cutV vs l u)) hp (w3.Fnone hp)
            exact k _ _ μ3 _ (w3.lay hp) (sA.trans sl) ⟨p, _, rfl, .of upd_same, sl.reps (cut_rep q)⟩
        · split at h
          · rename_i xs e4
            cases h
            obtain ⟨a, vs, e, s, q⟩ := asL_ok w3 (((en.step s1).step s2).step s3) r3 e4
            refine .inr ⟨a, vs, e, s, fun p hp => ?_⟩
            have sl := Stp.lay (F := F3) (μ := μ3) (o := .lst (cutV vs l u)) hp (w3.Fnone hp)
            exact k _ _ μ3 _ (w3.lay hp) (sA.trans sl) ⟨p, _, rfl, .of upd_same, sl.reps (cut_rep q)⟩
          · cases h
      · cases h
    · cases h
  · cases h

/-! ### calls of built-ins with one argument -/
def m1 (a : ME) (f : Env → Store → R → Option (R × Store)) : ME := fun env st => match a env st with | some (x, st1) => f env st1 x | none => none
def Sim1 (K : KW) (r : List V → Hp → VK → Prop) (f : Env → Store → R → Option (R × Store)) : Prop :=
  ∀ (σ : L2.St) (F : Hp) (μ : List Addr) (H : Hp) (env : Env) (st : Store) (x : R) (v : V) (z : R) (st' : Store) (Q : VK), Wd K F μ H st → EnvOk K F μ H env σ → RRep K F μ env σ x v → f env st x = some (z, st') →
    (∀ v F' μ' H', Wd K F' μ' H' st' → Stp F μ H F' μ' H' → RRep K F' μ' env σ z v → Q v H') → r [v] H Q
theorem sim1 {K : KW} {ta : TE} {r : List V → Hp → VK → Prop} {f} (ha : SimE K ta ma) (hr : Sim1 K r f) : SimE K (tCB r (tCons ta tNil)) (m1 ma f) := by
  intro σ F μ H env st z st' Q w en h k
  unfold m1 at h
  split at h
  · rename_i x st1 e1
    refine ha σ F μ H env st x st1 _ w en e1 fun v F1 μ1 H1 w1 s1 r1 => ?_
    exact hr σ F1 μ1 H1 env st1 x v z st' Q w1 (en.step s1) r1 h fun v' F' μ' H' w' s' r' => k v' F' μ' H' w' (s1.trans s') r'
  · cases h
theorem Sim1.or {K : KW} {r u : List V → Hp → VK → Prop} {f g : Env → Store → R → Option (R × Store)} (hr : Sim1 K r f) (hu : Sim1 K u g) :
    Sim1 K (fun x H Q => r x H Q ∨ u x H Q) (fun env st x => match f env st x with | some z => some z | none => g env st x) := by
  intro σ F μ H env st x v z st' Q w en rx h k
  dsimp only at h
  split at h
  · rename_i e; cases h
    exact .inl (hr σ F μ H env st x _ z st' Q w en rx e k)
  · exact .inr (hu σ F μ H env st x _ z st' Q w en rx h k)
theorem xcallB {x : Str} {p : Pos} {id : String} {r : List V → Hp → VK → Prop} {f} (hc : CallR X (.builtin id) r) (hs : Sim1 X.kw r f) (hg : Gl X x) (hm : X.mg x = none) (hv : bootBuiltins x = some (.builtin id)) (ha : XE X e m) (hn : x ≠ "__name__" := by decide)
    (hdb : (x == ("__debug__" : Str)) = false := by decide) (he : starEach (e :: []) X.env = (false, eval e X.env) :: starEach [] X.env := by rfl) (hpl : (backTo pos (starEach [] X.env)).any (·.1) = false := by rfl) : XE X (.Call (.Name x p) [e] [] pos) (m1 m f) := by
  obtain ⟨t, pe, s⟩ := ha
  exact ⟨_, pe_callB hc hg hm hv (pa_cons pe pa_nil he) hn hdb he hpl, sim1 s hs⟩
theorem xcallTy {x : Str} {p : Pos} {T : String} {r : List V → Hp → VK → Prop} {f} (hc : CallR X (.type T) r) (hs : Sim1 X.kw r f) (hg : Gl X x) (hm : X.mg x = none) (hv : bootBuiltins x = some (.type T)) (ha : XE X e m) (hn : x ≠ "__name__" := by decide)
    (hdb : (x == ("__debug__" : Str)) = false := by decide) (he : starEach (e :: []) X.env = (false, eval e X.env) :: starEach [] X.env := by rfl) (hpl : (backTo pos (starEach [] X.env)).any (·.1) = false := by rfl) : XE X (.Call (.Name x p) [e] [] pos) (m1 m f) := by
  obtain ⟨t, pe, s⟩ := ha
  exact ⟨_, pe_callTy hc hg hm hv (pa_cons pe pa_nil he) hn hdb he hpl, sim1 s hs⟩
/-- len -/
def seqOf (env : Env) (st : Store) (r : R) : Option (List D) := match asU r with | some xs => some xs | none => asL env st r
def f1Len : Env → Store → R → Option (R × Store) := fun env st x => match seqOf env st x with
  | some xs => some (.d (.int xs.length), st)
  | none => match asK env st x with | some kvs => some (.d (.int kvs.length), st) | none => none
theorem seqOf_ok {K : KW} {F : Hp} {μ : List Addr} {H : Hp} {st : Store} {env : Env} {σ : L2.St} {r : R} {v : V} {xs : List D} (w : Wd K F μ H st) (en : EnvOk K F μ H env σ) (q : RRep K F μ env σ r v) (h : seqOf env st r = some xs) :
    ∃ a vs, v = .ref a ∧ (SqL K H a vs ∨ SqT K H a vs) ∧ Reps K F μ xs vs := by
  unfold seqOf at h
  split at h
  · rename_i ys e
    cases h
    obtain ⟨a, vs, e, s, q⟩ := asU_ok w q e
    exact ⟨a, vs, e, .inr s, q⟩
  · obtain ⟨a, vs, e, s, q⟩ := asL_ok w en q h
    exact ⟨a, vs, e, .inl s, q⟩
theorem RepKV.length {K : KW} {F : Hp} {μ : List Addr} {κ : Type} : ∀ {ps : List (κ × D)} {qs : List (κ × V)}, RepKV K F μ ps qs → ps.length = qs.length
  | [], [], _ => rfl
  | p :: ps, q :: qs, r => by simp [RepKV.length r.2.2]
  | [], _ :: _, r => r.elim
  | _ :: _, [], r => r.elim
theorem sim1Len {K : KW} : Sim1 K (fun xs H Q => (∃ p ys, xs = [.ref p] ∧ (SqL K H p ys ∨ SqT K H p ys) ∧ Q (.int ys.length) H) ∨ (∃ d kvs, xs = [.ref d] ∧ Rd H d (.dK kvs) ∧ Q (.int kvs.length) H)) f1Len := by
  intro σ F μ H env st x v z st' Q w en rx h k
  unfold f1Len at h
  split at h
  · rename_i xs e
    cases h
    obtain ⟨a, vs, rfl, s, q⟩ := seqOf_ok w en rx e
    exact .inl ⟨a, vs, rfl, s, k _ F μ H w Stp.refl (by show V.int vs.length = V.int xs.length; rw [q.length])⟩
  · split at h
    · rename_i kvs e
      cases h
      obtain ⟨a, vs, rfl, s, q⟩ := asK_ok w en rx e
      exact .inr ⟨a, vs, rfl, s, k _ F μ H w Stp.refl (by show V.int vs.length = V.int kvs.length; rw [q.length])⟩
    · cases h
theorem call_lenRd : CallR X (.builtin "len") (fun xs H Q => ∃ d kvs, xs = [.ref d] ∧ Rd H d (.dK kvs) ∧ Q (.int kvs.length) H) := by
  intro pins s σ H xs us Q I r h
  obtain ⟨d, kvs, rfl, hd, q⟩ := h
  obtain ⟨u, rfl, r1⟩ := vals1 r
  cases r1
  exact d_len I hd fun t s' I' => ⟨.int kvs.length, H, I', ⟨t, rfl⟩, q⟩
theorem xlen {x : Str} {p : Pos} (hg : Gl X x) (hm : X.mg x = none) (hv : bootBuiltins x = some (.builtin "len")) (ha : XE X e m) (hn : x ≠ "__name__" := by decide)
    (hdb : (x == ("__debug__" : Str)) = false := by decide) (he : starEach (e :: []) X.env = (false, eval e X.env) :: starEach [] X.env := by rfl) (hpl : (backTo pos (starEach [] X.env)).any (·.1) = false := by rfl) : XE X (.Call (.Name x p) [e] [] pos) (m1 m f1Len) :=
  xcallB (call_len_seq.or call_lenRd) sim1Len hg hm hv ha hn hdb he hpl
/-- int of an int, a bool -/
def f1Int : Env → Store → R → Option (R × Store) := fun _ st x => match x with
  | .d (.int i) => some (.d (.int i), st)
  | .d (.bl b) => some (.d (.int (if b then 1 else 0)), st)
  | _ => none
theorem sim1Int {K : KW} : Sim1 K (fun xs H Q => (∃ i, xs = [.int i] ∧ Q (.int i) H) ∨ ∃ k, xs = [.bl k] ∧ Q (.int (if k then 1 else 0)) H) f1Int := by
  intro σ F μ H env st x v z st' Q w en rx h k
  unfold f1Int at h
  split at h
  · cases h; cases rx
    exact .inl ⟨_, rfl, k _ F μ H w Stp.refl rfl⟩
  · cases h; cases rx
    exact .inr ⟨_, rfl, k _ F μ H w Stp.refl rfl⟩
  · cases h
theorem xint1 {x : Str} {p : Pos} (hg : Gl X x) (hm : X.mg x = none) (hv : bootBuiltins x = some (.type "int")) (ha : XE X e m) (hn : x ≠ "__name__" := by decide)
    (hdb : (x == ("__debug__" : Str)) = false := by decide) (he : starEach (e :: []) X.env = (false, eval e X.env) :: starEach [] X.env := by rfl) (hpl : (backTo pos (starEach [] X.env)).any (·.1) = false := by rfl) : XE X (.Call (.Name x p) [e] [] pos) (m1 m f1Int) :=
  xcallTy call_int1 sim1Int hg hm hv ha hn hdb he hpl
/-- abs -/
def f1Abs : Env → Store → R → Option (R × Store) := fun _ st x => match x with
  | .d (.int i) => some (.d (.int (if i < 0 then -i else i)), st)
  | _ => none
theorem xabs {x : Str} {p : Pos} (hg : Gl X x) (hm : X.mg x = none) (hv : bootBuiltins x = some (.builtin "abs")) (ha : XE X e m) (hn : x ≠ "__name__" := by decide)
    (hdb : (x == ("__debug__" : Str)) = false := by decide) (he : starEach (e :: []) X.env = (false, eval e X.env) :: starEach [] X.env := by rfl) (hpl : (backTo pos (starEach [] X.env)).any (·.1) = false := by rfl) : XE X (.Call (.Name x p) [e] [] pos) (m1 m f1Abs) := by
  refine xcallB call_abs ?_ hg hm hv ha hn hdb he hpl
  intro σ F μ H env st x v z st' Q w en rx h k
  unfold f1Abs at h
  split at h
  · cases h; cases rx
    exact ⟨_, rfl, k _ F μ H w Stp.refl rfl⟩
  · cases h
/-- tuple(x) -/
def f1Tup : Env → Store → R → Option (R × Store) := fun env st x => match seqOf env st x with
  | some xs => some (.d (.tup xs), st)
  | none => none
theorem xtuple {x : Str} {p : Pos} (hg : Gl X x) (hm : X.mg x = none) (hv : bootBuiltins x = some (.type "tuple")) (ha : XE X e m) (hn : x ≠ "__name__" := by decide)
    (hdb : (x == ("__debug__" : Str)) = false := by decide) (he : starEach (e :: []) X.env = (false, eval e X.env) :: starEach [] X.env := by rfl) (hpl : (backTo pos (starEach [] X.env)).any (·.1) = false := by rfl) : XE X (.Call (.Name x p) [e] [] pos) (m1 m f1Tup) := by
  refine xcallTy call_tuple_of ?_ hg hm hv ha hn hdb he hpl
  intro σ F μ H env st x v z st' Q w en rx h k
  unfold f1Tup at h
  split at h
  · rename_i xs e1
    cases h
    unfold seqOf at e1
    split at e1
    · rename_i ys e2
      cases e1
      cases x with
      | loc i => cases e2
      | d d =>
        cases d <;> cases e2
        obtain ⟨a, vs, e, s, q⟩ := rx
        exact ⟨a, vs, by rw [e], .inr ⟨SqT.mono w.sub s, k _ F μ H w Stp.refl ⟨a, vs, rfl, s, q⟩⟩⟩
    · obtain ⟨a, vs, rfl, s, q⟩ := asL_ok w en rx e1
      refine ⟨a, vs, rfl, .inl ⟨s, fun p hp => ?_⟩⟩
      have sl := Stp.lay (F := F) (μ := μ) (o := .tup vs) hp (w.Fnone hp)
      exact k _ _ μ _ (w.lay hp) sl ⟨p, _, rfl, .of upd_same, sl.reps q⟩
  · cases h
/-- all, any, of bools -/
def bools : List D → Option (List Bool)
  | [] => some []
  | .bl b :: r => (bools r).map (b :: ·)
  | _ => none
theorem bools_ok : ∀ {xs : List D} {bs : List Bool}, bools xs = some bs → xs = bs.map D.bl
  | [], bs, h => by cases h; rfl
  | .bl b :: r, bs, h => by
    simp only [bools, Option.map_eq_some_iff] at h
    obtain ⟨cs, h, rfl⟩ := h
    rw [bools_ok h]; rfl
  | .non :: _, _, h | .int _ :: _, _, h | .str _ :: _, _, h | .ty _ :: _, _, h | .tup _ :: _, _, h | .lst _ :: _, _, h | .dct _ _ :: _, _, h | .dtt _ _ :: _, _, h | .ref _ :: _, _, h | .fn _ :: _, _, h => by simp [bools] at h
def f1All : Env → Store → R → Option (R × Store) := fun env st x => match asL env st x with
  | some xs => match bools xs with | some bs => some (.d (.bl (bs.all id)), st) | none => none
  | none => none
def f1Any : Env → Store → R → Option (R × Store) := fun env st x => match asL env st x with
  | some xs => match bools xs with | some bs => some (.d (.bl (bs.any id)), st) | none => none
  | none => none
theorem xall {x : Str} {p : Pos} (hc : X.calm = true) (hg : Gl X x) (hm : X.mg x = none) (hv : bootBuiltins x = some (.builtin "all")) (ha : XE X e m) (hn : x ≠ "__name__" := by decide)
    (hdb : (x == ("__debug__" : Str)) = false := by decide) (he : starEach (e :: []) X.env = (false, eval e X.env) :: starEach [] X.env := by rfl) (hpl : (backTo pos (starEach [] X.env)).any (·.1) = false := by rfl) : XE X (.Call (.Name x p) [e] [] pos) (m1 m f1All) := by
  refine xcallB (cr_all hc) ?_ hg hm hv ha hn hdb he hpl
  intro σ F μ H env st x v z st' Q w en rx h k
  unfold f1All at h
  split at h
  · rename_i xs e1
    split at h
    · rename_i bs e2
      cases h
      obtain ⟨a, vs, rfl, s, q⟩ := asL_ok w en rx e1
      rw [bools_ok e2] at q
      rw [q.bls] at s
      exact ⟨a, bs, rfl, s, k _ F μ H w Stp.refl rfl⟩
    · cases h
  · cases h
theorem xany {x : Str} {p : Pos} (hc : X.calm = true) (hg : Gl X x) (hm : X.mg x = none) (hv : bootBuiltins x = some (.builtin "any")) (ha : XE X e m) (hn : x ≠ "__name__" := by decide)
    (hdb : (x == ("__debug__" : Str)) = false := by decide) (he : starEach (e :: []) X.env = (false, eval e X.env) :: starEach [] X.env := by rfl) (hpl : (backTo pos (starEach [] X.env)).any (·.1) = false := by rfl) : XE X (.Call (.Name x p) [e] [] pos) (m1 m f1Any) := by
  refine xcallB (cr_any hc) ?_ hg hm hv ha hn hdb he hpl
  intro σ F μ H env st x v z st' Q w en rx h k
  unfold f1Any at h
  split at h
  · rename_i xs e1
    split at h
    · rename_i bs e2
      cases h
      obtain ⟨a, vs, rfl, s, q⟩ := asL_ok w en rx e1
      rw [bools_ok e2] at q
      rw [q.bls] at s
      exact ⟨a, bs, rfl, s, k _ F μ H w Stp.refl rfl⟩
    · cases h
  · cases h
/-- a call of a built-in with two arguments -/
theorem xcallB2 {b' : Expr} {mb' : ME} {x : Str} {p : Pos} {id : String} {r : List V → Hp → VK → Prop} {f} (hc : CallR X (.builtin id) r) (hs : Sim2 X.kw (fun v u H Q => r [v, u] H Q) f) (hg : Gl X x) (hm : X.mg x = none) (hv : bootBuiltins x = some (.builtin id)) (ha : XE X e m) (hb : XE X b' mb') (hn : x ≠ "__name__" := by decide)
    (hdb : (x == ("__debug__" : Str)) = false := by decide) (he : starEach [e, b'] X.env = (false, eval e X.env) :: starEach [b'] X.env := by rfl) (he2 : starEach (b' :: []) X.env = (false, eval b' X.env) :: starEach [] X.env := by rfl) (hpl : (backTo pos (starEach [b'] X.env)).any (·.1) = false := by rfl) :
    XE X (.Call (.Name x p) [e, b'] [] pos) (m2 m mb' f) := by
  obtain ⟨t, pe, s⟩ := ha
  obtain ⟨t', pe', s'⟩ := hb
  exact ⟨_, pe_callB hc hg hm hv (pa_cons pe (pa_cons pe' pa_nil he2) he) hn hdb he hpl, sim2 (r := fun v u H Q => r [v, u] H Q) s s' hs⟩
theorem sim2c {K : KW} {f : Int → Int → Int} : Sim2 K (fun v u H Q => (fun (xs : List V) H (Q : VK) => ∃ i j, xs = [V.int i, V.int j] ∧ Q (.int (f i j)) H) [v, u] H Q) (f2I (fun _ _ => true) fun i j => .int (f i j)) := by
  intro σ F μ H env st x y v u z st' Q w en rx ry h k
  unfold f2I at h
  split at h
  · cases h
    cases rx; cases ry
    exact ⟨_, _, rfl, k _ F μ H w Stp.refl rfl⟩
  · cases h
def fMax := f2I (fun _ _ => true) fun i j => .int (if j > i then j else i)
def fMin := f2I (fun _ _ => true) fun i j => .int (if j < i then j else i)
theorem xmax {b' : Expr} {mb' : ME} {x : Str} {p : Pos} (hc : X.calm = true) (hg : Gl X x) (hm : X.mg x = none) (hv : bootBuiltins x = some (.builtin "max")) (ha : XE X e m) (hb : XE X b' mb') (hn : x ≠ "__name__" := by decide)
    (hdb : (x == ("__debug__" : Str)) = false := by decide) (he : starEach [e, b'] X.env = (false, eval e X.env) :: starEach [b'] X.env := by rfl) (he2 : starEach (b' :: []) X.env = (false, eval b' X.env) :: starEach [] X.env := by rfl) (hpl : (backTo pos (starEach [b'] X.env)).any (·.1) = false := by rfl) :
    XE X (.Call (.Name x p) [e, b'] [] pos) (m2 m mb' fMax) :=
  xcallB2 (call_max2 hc) (sim2c (f := fun i j => if j > i then j else i)) hg hm hv ha hb hn hdb he he2 hpl
theorem xmin {b' : Expr} {mb' : ME} {x : Str} {p : Pos} (hc : X.calm = true) (hg : Gl X x) (hm : X.mg x = none) (hv : bootBuiltins x = some (.builtin "min")) (ha : XE X e m) (hb : XE X b' mb') (hn : x ≠ "__name__" := by decide)
    (hdb : (x == ("__debug__" : Str)) = false := by decide) (he : starEach [e, b'] X.env = (false, eval e X.env) :: starEach [b'] X.env := by rfl) (he2 : starEach (b' :: []) X.env = (false, eval b' X.env) :: starEach [] X.env := by rfl) (hpl : (backTo pos (starEach [b'] X.env)).any (·.1) = false := by rfl) :
    XE X (.Call (.Name x p) [e, b'] [] pos) (m2 m mb' fMin) :=
  xcallB2 (call_min2 hc) (sim2c (f := fun i j => if j < i then j else i)) hg hm hv ha hb hn hdb he he2 hpl
/-- isinstance(x, T) -/
def tyOf (env : Env) (st : Store) : R → Option String
  | .d .non => some "NoneType"
  | .d (.bl _) => some "bool"
  | .d (.int _) => some "int"
  | .d (.str _) => some "str"
  | .d (.tup _) => some "tuple"
  | .d (.lst _) => some "list"
  | .d (.dct _ _) => some "dict"
  | .d (.ref n) => match st[n]? with | some (.lst _) => some "list" | some (.dK _) => some "dict" | some (.dT _) => some "dict" | _ => none
  | .loc i => match env[i]? with | some (.own (.lst _)) => some "list" | some (.own (.dK _)) => some "dict" | some (.own (.dT _)) => some "dict" | _ => none
  | _ => none
theorem tyT {K : KW} {H : Hp} {a : Addr} {vs : List V} (s : SqT K H a vs) : TyX K H (.ref a) (.type "tuple") := by
  rcases s with (h | ⟨o, h⟩) | ⟨o, its, n, h1, h2, _⟩
  · exact .base (.tup h)
  · exact .fTuple h
  · exact .kTuple h1 h2
theorem tyL {K : KW} {H : Hp} {a : Addr} {vs : List V} (s : SqL K H a vs) : TyX K H (.ref a) (.type "list") := by
  rcases s with (h | ⟨o, h⟩) | ⟨o, its, n, h1, h2, _⟩
  · exact .base (.lst h)
  · exact .base (.frz h)
  · exact .kList h1 h2
theorem tyD {K : KW} {H : Hp} {a : Addr} {kvs : List (Key × V)} (s : Rd H a (.dK kvs)) : TyX K H (.ref a) (.type "dict") := by
  rcases s with h | ⟨o, h⟩
  · exact .base (.dK h)
  · exact .fDict h
theorem tyOf_ok {K : KW} {F : Hp} {μ : List Addr} {H : Hp} {st : Store} {env : Env} {σ : L2.St} {r : R} {v : V} {T : String} (w : Wd K F μ H st) (en : EnvOk K F μ H env σ) (q : RRep K F μ env σ r v) (h : tyOf env st r = some T) : TyX K H v (.type T) := by
  unfold tyOf at h
  split at h
  · cases h; cases q; exact .base .non
  · cases h; cases q; exact .base (.bl _)
  · cases h; cases q; exact .base (.int _)
  · cases h; cases q; exact .base (.str _)
  · cases h; obtain ⟨a, vs, rfl, s, q⟩ := q; exact tyT (SqT.mono w.sub s)
  · cases h; obtain ⟨a, vs, rfl, s, q⟩ := q; exact tyL (SqL.mono w.sub s)
  · cases h; obtain ⟨a, vs, rfl, s, l, q⟩ := q; exact tyD (Rd.mono w.sub s)
  · rename_i n
    obtain ⟨a, rfl, hm⟩ := q
    split at h
    · rename_i e; cases h
      obtain ⟨o, h1, h2⟩ := w.obj n _ a e hm
      cases o <;> first | exact h2.elim | skip
      exact .base (.lst h1)
    · rename_i e; cases h
      obtain ⟨o, h1, h2⟩ := w.obj n _ a e hm
      cases o <;> first | exact h2.elim | skip
      exact .base (.dK h1)
    · rename_i e; cases h
      obtain ⟨o, h1, h2⟩ := w.obj n _ a e hm
      cases o <;> first | exact h2.elim | skip
      exact .base (.dT h1)
    · cases h
  · rename_i i
    obtain ⟨a, rfl, so, g1, g2⟩ := q
    obtain ⟨b, u, h3, h4, h5, h6, h7⟩ := en.slot i _ _ g1 g2
    cases h3
    rw [g1] at h
    split at h
    · rename_i e; cases e; cases h
      cases u <;> first | exact h7.elim | skip
      exact .base (.lst h6)
    · rename_i e; cases e; cases h
      cases u <;> first | exact h7.elim | skip
      exact .base (.dK h6)
    · rename_i e; cases e; cases h
      cases u <;> first | exact h7.elim | skip
      exact .base (.dT h6)
    · cases h
  · cases h
def f2Isi (T : String) : Env → Store → R → R → Option (R × Store) := fun env st x y => match y with
  | .d (.ty n) => if n = T then match tyOf env st x with
      | some S => match kitB S T with | some b => some (.d (.bl b), st) | none => none
      | none => none
    else none
  | _ => none
theorem xisi {b' : Expr} {mb' : ME} {x : Str} {p : Pos} {T : String} (hg : Gl X x) (hm : X.mg x = none) (hv : bootBuiltins x = some (.builtin "isinstance")) (ha : XE X e m) (hb : XE X b' mb') (hn : x ≠ "__name__" := by decide)
    (hdb : (x == ("__debug__" : Str)) = false := by decide) (he : starEach [e, b'] X.env = (false, eval e X.env) :: starEach [b'] X.env := by rfl) (he2 : starEach (b' :: []) X.env = (false, eval b' X.env) :: starEach [] X.env := by rfl) (hpl : (backTo pos (starEach [b'] X.env)).any (·.1) = false := by rfl) :
    XE X (.Call (.Name x p) [e, b'] [] pos) (m2 m mb' (f2Isi T)) := by
  refine xcallB2 call_isi ?_ hg hm hv ha hb hn hdb he he2 hpl
  intro σ F μ H env st x y v u z st' Q w en rx ry h k
  unfold f2Isi at h
  split at h
  · rename_i n
    split at h
    · rename_i hnT
      subst hnT
      split at h
      · rename_i S e1
        split at h
        · rename_i b e2
          cases h
          cases ry
          exact ⟨v, .ty n, _, _, b, rfl, .ty n, tyOf_ok w en rx e1, kit_ty e2, k _ F μ H w Stp.refl rfl⟩
        · cases h
      · cases h
    · cases h
  · cases h
end
end Gx

set_option maxHeartbeats 1000000
namespace Gx
open PySem L2

/-! ### one reading for all contexts -/
def tOfM (K : KW) (m : ME) : TE := fun σ H Q => ∃ F μ env st r st', Wd K F μ H st ∧ EnvOk K F μ H env σ ∧ m env st = some (r, st') ∧ ∀ v F' μ' H', Wd K F' μ' H' st' → Stp F μ H F' μ' H' → RRep K F' μ' env σ r v → Q v H'
def tOfT (K : KW) (m : MT) : TT := fun σ H Q => ∃ F μ env st r st', Wd K F μ H st ∧ EnvOk K F μ H env σ ∧ m env st = some (r, st') ∧ ∀ F' μ' H', Wd K F' μ' H' st' → Stp F μ H F' μ' H' → Q r H'
theorem simOfM {K : KW} {m : ME} : SimE K (tOfM K m) m := fun σ F μ H env st r st' Q w en e k => ⟨F, μ, env, st, r, st', w, en, e, k⟩
theorem simOfT {K : KW} {m : MT} : SimT K (tOfT K m) m := fun σ F μ H env st r st' Q w en e k => ⟨F, μ, env, st, r, st', w, en, e, k⟩
theorem XE.pe {X : Cx} {e : Expr} {m : ME} (h : XE X e m) : PE X e (tOfM X.kw m) := by
  obtain ⟨t, p, s⟩ := h
  exact ⟨fun pins sh σ H Q I ⟨F, μ, env, st, r, st', w, en, e1, k⟩ => p.run pins sh σ H Q I (s σ F μ H env st r st' Q w en e1 k)⟩
theorem XT.pt {X : Cx} {e : Expr} {m : MT} (h : XT X e m) : PT X e (tOfT X.kw m) := by
  obtain ⟨t, p, s⟩ := h
  exact ⟨fun pins sh σ H Q I ⟨F, μ, env, st, r, st', w, en, e1, k⟩ => p.run pins sh σ H Q I (s σ F μ H env st r st' Q w en e1 k)⟩

/-! ### slots stored -/
section
variable {K : KW} {F : Hp} {μ : List Addr} {H : Hp} {st : Store} {env : Env} {σ : L2.St}
theorem EnvOk.set (en : EnvOk K F μ H env σ) (i : Nat) {s : Slot} {o : Option V} (h : SlotOk K F μ H s o) (hs : ∀ a j, j ≠ i → (∃ so, s = .own so) → o = some (.ref a) → ownAt env σ j a → False) : EnvOk K F μ H (env.set i s) (σ.set i o) := by
  have own' : ∀ j a, ownAt (env.set i s) (σ.set i o) j a → (j = i ∧ (∃ so, s = .own so) ∧ o = some (.ref a)) ∨ (j ≠ i ∧ ownAt env σ j a) := by
    rintro j a ⟨so, h1, h2⟩
    by_cases hj : j = i
    · subst hj
      have hl := (List.getElem?_eq_some_iff.mp h1).1
      rw [List.length_set] at hl
      rw [List.getElem?_set_self hl] at h1
      have hl2 := (List.getElem?_eq_some_iff.mp h2).1
      rw [List.length_set] at hl2
      rw [List.getElem?_set_self hl2] at h2
      exact .inl ⟨rfl, ⟨so, Option.some.inj h1⟩, Option.some.inj h2⟩
    · rw [List.getElem?_set_ne (Ne.symm hj)] at h1 h2
      exact .inr ⟨hj, so, h1, h2⟩
  refine ⟨by simp [en.len], fun j t u h1 h2 => ?_, fun j k a hjk h1 h2 => ?_⟩
  · by_cases hj : j = i
    · subst hj
      have hl := (List.getElem?_eq_some_iff.mp h1).1
      rw [List.length_set] at hl
      rw [List.getElem?_set_self hl] at h1
      have hl2 := (List.getElem?_eq_some_iff.mp h2).1
      rw [List.length_set] at hl2
      rw [List.getElem?_set_self hl2] at h2
      cases h1; cases h2; exact h
    · rw [List.getElem?_set_ne (Ne.symm hj)] at h1 h2
      exact en.slot j t u h1 h2
  · rcases own' j a h1 with ⟨rfl, e1, e2⟩ | ⟨n1, o1⟩
    · rcases own' k a h2 with ⟨rfl, _, _⟩ | ⟨n2, o2⟩
      · exact hjk rfl
      · exact hs a k n2 e1 e2 o2
    · rcases own' k a h2 with ⟨rfl, e1, e2⟩ | ⟨n2, o2⟩
      · exact hs a j n1 e1 e2 o1
      · exact en.sep j k a hjk o1 o2
theorem EnvOk.val (en : EnvOk K F μ H env σ) (i : Nat) {d : D} {v : V} (r : Rep K F μ d v) : EnvOk K F μ H (env.set i (.val d)) (σ.set i (some v)) :=
  en.set i ⟨v, rfl, r⟩ fun a j _ ⟨so, e⟩ => nomatch e
def wipeE (env : Env) : List Nat → Env
  | [] => env
  | v :: vs => (wipeE env vs).set v .none
theorem EnvOk.wipe (en : EnvOk K F μ H env σ) : ∀ vs : List Nat, EnvOk K F μ H (wipeE env vs) (L2.wipe σ vs)
  | [] => en
  | v :: vs => (EnvOk.wipe en vs).set v trivial fun a j _ ⟨so, e⟩ => nomatch e
end
theorem wipe_get (σ : L2.St) : ∀ (vs : List Nat) (i : Nat), (L2.wipe σ vs)[i]? = if i ∈ vs then (σ[i]?).map (fun _ => none) else σ[i]?
  | [], i => by simp [L2.wipe]
  | v :: vs, i => by
    show ((L2.wipe σ vs).set v none)[i]? = _
    rw [List.getElem?_set, wipe_length]
    by_cases h : v = i
    · subst h
      by_cases hl : v < σ.length
      · simp [hl]
      · simp [hl]
    · rw [if_neg h, wipe_get σ vs i]
      have : i ≠ v := Ne.symm h
      simp [this]
theorem wipe_set {σ : L2.St} {vs : List Nat} {j : Nat} (hj : j ∈ vs) (x : Option V) : L2.wipe ((L2.wipe σ vs).set j x) vs = L2.wipe σ vs := by
  apply List.ext_getElem?
  intro i
  rw [wipe_get, wipe_get, List.getElem?_set, wipe_length, wipe_get]
  by_cases hi : i ∈ vs
  · simp only [hi, if_true]
    by_cases h : j = i
    · subst h
      by_cases hl : j < σ.length
      · simp [hl]
      · simp [hl]
    · simp only [h, if_false, Option.map_map]
      rfl
  · simp only [hi, if_false]
    have : j ≠ i := fun e => hi (e ▸ hj)
    simp [this]

/-! ### what is walked -/
inductive Src where
  | rng (lo : Int) (n : Nat)
  | seq (r : R)
  | txt (x : Str)
  deriving DecidableEq
def txtItems (x : Str) : List D := x.cps.toList.map fun c => .str ⟨#[c]⟩
def isTup : R → Bool
  | .d (.tup _) => true
  | _ => false
def rngItems (lo : Int) (n : Nat) : List D := (List.range n).map fun (k : Nat) => .int (lo + k)
def srcItems (env : Env) (st : Store) : Src → Option (List D)
  | .rng lo n => some (rngItems lo n)
  | .seq r => seqOf env st r
  | .txt x => some (txtItems x)
def SrcOk (K : KW) (F : Hp) (μ : List Addr) (env : Env) (σ : L2.St) (src : Src) (J : It) : Prop := match src with
  | .rng lo n => J = Itr lo n
  | .seq r => ∃ a, RRep K F μ env σ r (.ref a) ∧ ((isTup r = true ∧ J = Itt K a) ∨ (isTup r = false ∧ J = Itl K a))
  | .txt x => J = Its x
def AtJ (J : It) (H : Hp) (vs : List V) : Prop := (∀ i, i < vs.length → J.go i H ∧ ∀ x H', J.yld i H x H' → H' = H ∧ vs[i]? = some x) ∧ J.stop vs.length H
def isData : Src → Bool
  | .rng _ _ => true
  | .seq (.d _) => true
  | .txt _ => true
  | _ => false
section
variable {K : KW} {F F1 : Hp} {μ μ1 : List Addr} {H H1 : Hp} {st : Store} {env env1 : Env} {σ σ1 : L2.St} {src : Src} {J : It} {xs : List D}
theorem SrcOk.step (a : Stp F μ H F1 μ1 H1) (h : SrcOk K F μ env σ src J) : SrcOk K F1 μ1 env σ src J := by
  cases src with
  | rng lo n => exact h
  | seq r => obtain ⟨b, q, z⟩ := h; exact ⟨b, q.step a, z⟩
  | txt x => exact h
theorem SrcOk.data (hd : isData src = true) (hF : ∀ a o, F a = some o → F1 a = some o) (hm : ∀ (n : Nat) (a : Addr), μ[n]? = some a → μ1[n]? = some a) (h : SrcOk K F μ env σ src J) : SrcOk K F1 μ1 env1 σ1 src J := by
  cases src with
  | rng lo n => exact h
  | seq r =>
    cases r with
    | loc i => cases hd
    | d d => obtain ⟨b, q, z⟩ := h; exact ⟨b, Rep.mono hF hm _ _ q, z⟩
  | txt x => exact h
theorem txt_reps : ∀ l : List Nat, Reps K F μ (l.map fun c => D.str ⟨#[c]⟩) (l.map fun c => V.str ⟨#[c]⟩)
  | [] => trivial
  | _ :: l => ⟨rfl, txt_reps l⟩
theorem rng_reps : ∀ (lo : Int) (n : Nat), Reps K F μ (rngItems lo n) ((List.range n).map fun (k : Nat) => V.int (lo + k)) := by
  intro lo n
  unfold rngItems
  generalize List.range n = l
  induction l with
  | nil => trivial
  | cons k l ih => exact ⟨rfl, ih⟩
theorem srcAt (w : Wd K F μ H st) (en : EnvOk K F μ H env σ) (h : SrcOk K F μ env σ src J) (e : srcItems env st src = some xs) : ∃ vs, AtJ J H vs ∧ Reps K F μ xs vs := by
  cases src with
  | rng lo n =>
    cases e
    have h : J = Itr lo n := h
    subst h
    refine ⟨_, ⟨fun i hi => ⟨?_, fun x H' y => ?_⟩, ?_⟩, rng_reps lo n⟩
    · show i < n
      simpa using hi
    · obtain ⟨e, y⟩ := y
      refine ⟨e, ?_⟩
      rw [y]
      simp at hi
      simp [hi]
    · show n ≤ _
      simp
  | seq r =>
    obtain ⟨a, q, z⟩ := h
    have e : seqOf env st r = some xs := e
    unfold seqOf at e
    rcases z with ⟨t, rfl⟩ | ⟨t, rfl⟩
    · cases r with
      | loc i => cases t
      | d d =>
        cases d <;> cases t
        cases e
        obtain ⟨b, vs, e1, s, q⟩ := asU_ok (r := .d (.tup _)) w q rfl
        cases e1
        refine ⟨vs, ⟨fun i hi => ⟨⟨vs, vs[i], s, by simp [hi]⟩, fun x H' y => ⟨y.1, y.2 vs s⟩⟩, ⟨vs, s, Nat.le_refl _⟩⟩, q⟩
    · split at e
      · rename_i ys e2
        cases r with
        | loc i => cases e2
        | d d => cases d <;> simp_all [isTup, asU]
      · obtain ⟨b, vs, e1, s, q⟩ := asL_ok w en q e
        cases e1
        exact ⟨vs, ⟨fun i hi => ⟨⟨vs, vs[i], s, by simp [hi]⟩, fun x H' y => ⟨y.1, y.2 vs s⟩⟩, ⟨vs, s, Nat.le_refl _⟩⟩, q⟩
  | txt x =>
    cases e
    have h : J = Its x := h
    subst h
    refine ⟨_, ⟨fun i hi => ⟨?_, fun v H' y => ?_⟩, ?_⟩, txt_reps x.cps.toList⟩
    · show i < x.cps.size
      simpa using hi
    · obtain ⟨e, c, hc, y⟩ := y
      refine ⟨e, ?_⟩
      rw [y]
      have hc' : x.cps.toList[i]? = some c := by simpa using hc
      simp [hc']
    · show x.cps.size ≤ _
      simp
end
abbrev MI := Env → Store → Option (Src × Store)
def SimI (K : KW) (wi : TI) (mi : MI) : Prop :=
  ∀ (σ : L2.St) (F : Hp) (μ : List Addr) (H : Hp) (env : Env) (st : Store) (src : Src) (st' : Store) (R : It → Hp → Prop), Wd K F μ H st → EnvOk K F μ H env σ → mi env st = some (src, st') →
    (∀ J F' μ' H', Wd K F' μ' H' st' → Stp F μ H F' μ' H' → SrcOk K F' μ' env σ src J → R J H') → wi σ H R
structure XI (X : Cx) (tg iter : Expr) (mi : MI) : Prop where
  h : ∃ wi, PI X tg iter wi ∧ SimI X.kw wi mi
section
variable {X : Cx} {tg e a b : Expr} {m ma mb : ME} {p pos : Pos}
def inR (j : Int) : Bool := decide (-(2 ^ 62) ≤ j ∧ j < 2 ^ 62)
def mRng1 (m : ME) : MI := fun env st => match m env st with
  | some (.d (.int j), st1) => if inR j then some (.rng 0 j.toNat, st1) else none
  | _ => none
def mRng2 (a b : ME) : MI := fun env st => match a env st with
  | some (.d (.int i), st1) => match b env st1 with
    | some (.d (.int j), st2) => if inR i && inR j then some (.rng i (j - i).toNat, st2) else none
    | _ => none
  | _ => none
theorem xrange1 (hg : Gl X "range") (hm : X.mg "range" = none) (ha : XE X a ma) (hs : starEach [a] X.env = [(false, eval a X.env)] := by rfl) : XI X tg (.Call (.Name "range" p) [a] [] pos) (mRng1 ma) := by
  obtain ⟨t, pa, s⟩ := ha
  refine ⟨_, pi_range1 hg hm (pa_cons pa pa_nil hs) hs, ?_⟩
  intro σ F μ H env st src st' R w en e k
  unfold mRng1 at e
  split at e
  · rename_i j st1 e1
    split at e
    · rename_i hr
      cases e
      have hr := of_decide_eq_true hr
      exact s σ F μ H env st _ _ _ w en e1 fun v F1 μ1 H1 w1 s1 r1 => ⟨j, by rw [show v = V.int j from r1], hr.1, hr.2, k _ F1 μ1 H1 w1 s1 rfl⟩
    · cases e
  · cases e
theorem xrange2 (hg : Gl X "range") (hm : X.mg "range" = none) (ha : XE X a ma) (hb : XE X b mb) (hs : starEach [a, b] X.env = [(false, eval a X.env), (false, eval b X.env)] := by rfl) (hs2 : starEach [b] X.env = [(false, eval b X.env)] := by rfl) :
    XI X tg (.Call (.Name "range" p) [a, b] [] pos) (mRng2 ma mb) := by
  obtain ⟨t, pa, s⟩ := ha
  obtain ⟨t', pb, s'⟩ := hb
  refine ⟨_, pi_range2 hg hm (pa_cons pa (pa_cons pb pa_nil hs2) (by rw [hs, hs2])) hs hs2, ?_⟩
  intro σ F μ H env st src st' R w en e k
  unfold mRng2 at e
  split at e
  · rename_i i st1 e1
    split at e
    · rename_i j st2 e2
      split at e
      · rename_i hr
        cases e
        rw [Bool.and_eq_true] at hr
        have h1 := of_decide_eq_true hr.1
        have h2 := of_decide_eq_true hr.2
        refine s σ F μ H env st _ _ _ w en e1 fun v F1 μ1 H1 w1 s1 r1 => ?_
        refine s' σ F1 μ1 H1 env _ _ _ _ w1 (en.step s1) e2 fun u F2 μ2 H2 w2 s2 r2 => ⟨i, j, by rw [show v = V.int i from r1, show u = V.int j from r2], ⟨h1.1, h1.2, h2.1, h2.2⟩, k _ F2 μ2 H2 w2 (s1.trans s2) rfl⟩
      · cases e
    · cases e
  · cases e
theorem PI.or {wi wj : TI} (h : PI X tg e wi) (h' : PI X tg e wj) : PI X tg e (fun σ H R => wi σ H R ∨ wj σ H R) :=
  ⟨fun pins s σ H R I q => q.elim (h.run pins s σ H R I) (h'.run pins s σ H R I)⟩
def mSeq (m : ME) : MI := fun env st => match m env st with
  | some (r, st1) => match seqOf env st1 r with
    | some _ => some (.seq r, st1)
    | none => none
  | none => none
theorem xseq (h : XE X e m) : XI X tg e (mSeq m) := by
  obtain ⟨t, p, s⟩ := h
  refine ⟨_, PI.or (pi_list p) (pi_tup p), ?_⟩
  intro σ F μ H env st src st' R w en e k
  unfold mSeq at e
  split at e
  · rename_i r st1 e1
    split at e
    · rename_i xs e2
      cases e
      cases ht : isTup r with
      | true =>
        refine .inr (s σ F μ H env st _ _ _ w en e1 fun v F1 μ1 H1 w1 s1 r1 => ?_)
        cases r with
        | loc i => cases ht
        | d d =>
          cases d <;> cases ht
          obtain ⟨a, vs, rfl, sq, q⟩ := asU_ok (r := .d (.tup _)) w1 r1 rfl
          exact ⟨a, rfl, ⟨vs, sq⟩, k _ F1 μ1 H1 w1 s1 ⟨a, r1, .inl ⟨rfl, rfl⟩⟩⟩
      | false =>
        refine .inl (s σ F μ H env st _ _ _ w en e1 fun v F1 μ1 H1 w1 s1 r1 => ?_)
        have e3 : asL env st' r = some xs := by
          unfold seqOf at e2
          split at e2
          · rename_i ys e4
            cases r with
            | loc i => cases e4
            | d d => cases d <;> simp_all [isTup, asU]
          · exact e2
        obtain ⟨a, vs, rfl, sq, q⟩ := asL_ok w1 (en.step s1) r1 e3
        exact ⟨a, rfl, ⟨vs, sq⟩, k _ F1 μ1 H1 w1 s1 ⟨a, r1, .inr ⟨ht, rfl⟩⟩⟩
    · cases e
  · cases e
end

section
variable {X : Cx} {tg e : Expr} {m : ME}
/-- a text, sign by sign; or a list or tuple -/
def mSeqS (m : ME) : MI := fun env st => match m env st with
  | some (.d (.str x), st1) => some (.txt x, st1)
  | some (r, st1) => match seqOf env st1 r with
    | some _ => some (.seq r, st1)
    | none => none
  | none => none
theorem xseqS (h : XE X e m) : XI X tg e (mSeqS m) := by
  obtain ⟨ws, ps, ss⟩ := xseq (tg := tg) h
  obtain ⟨t, p, s⟩ := h
  refine ⟨_, PI.or ps (pi_str p), ?_⟩
  intro σ F μ H env st src st' R w en e k
  unfold mSeqS at e
  split at e
  · rename_i x st1 e1
    cases e
    exact .inr (s σ F μ H env st _ _ _ w en e1 fun v F1 μ1 H1 w1 s1 r1 => ⟨x, r1, k _ F1 μ1 H1 w1 s1 rfl⟩)
  · rename_i r st1 hno e1
    refine .inl (ss σ F μ H env st src st' R w en ?_ k)
    unfold mSeq
    rw [e1]
    exact e
  · cases e
end

/-! ### list comprehensions -/
def lcGo (j : Nat) (t : MT) (e : ME) (env : Env) (chk : Store → Bool) : List D → Store → List D → Option (List D × Store)
  | [], st, acc => if chk st then some (acc, st) else none
  | x :: xs, st, acc => if chk st then
      match t (env.set j (.val x)) st with
      | some (true, st1) => match e (env.set j (.val x)) st1 with
        | some (.d d, st2) => if acc.length < 16000000 then lcGo j t e env chk xs st2 (acc ++ [d]) else none
        | _ => none
      | some (false, st1) => lcGo j t e env chk xs st1 acc
      | none => none
    else none
def mLc (mi : MI) (j : Nat) (t : MT) (e : ME) (vs : List Nat) : MF := fun env st => match mi env st with
  | some (src, st1) => match srcItems env st1 src with
    | some xs => match lcGo j t e (wipeE env vs) (fun st => decide (srcItems env st src = some xs)) xs st1 [] with
      | some (acc, st2) => some (.lst acc, st2)
      | none => none
    | none => none
  | none => none
def mYes : MT := fun _ st => some (true, st)
theorem lc_by {J : It} {n : Nat} {g : TG} {tt : TT} {te : TE} {vs : List Nat} {σ : L2.St} {H1 : Hp} {D : Addr} {Qd : Hp → Prop} (Pv : Nat → Hp → Prop) (h0 : Pv 0 (upd H1 D (.lst [])))
    (hs : ∀ i H, i < n → Pv i H → J.go i H ∧ ∀ x H', J.yld i H x H' → g x (L2.wipe σ vs) H' fun σ2 H2 => L2.wipe σ2 vs = L2.wipe σ vs ∧ tt σ2 H2 fun b H3 =>
      if b = true then te σ2 H3 fun y H4 => ∃ acc, H4 D = some (.lst acc) ∧ acc.length < sizeLine ∧ Pv (i + 1) (upd H4 D (.lst (acc ++ [y]))) else Pv (i + 1) H3) (hd : ∀ H, Pv n H → J.stop n H ∧ Qd H) :
    ∃ W : Nat → Nat → Hp → Prop, (∃ m, W 0 m (upd H1 D (.lst []))) ∧ ∀ i m H, W i m H →
      (J.stop i H ∧ Qd H) ∨ (J.go i H ∧ ∃ Nx : Hp → Prop, (∀ H', Nx H' → ∃ m', m' < m ∧ W (i + 1) m' H') ∧ ∀ x H', J.yld i H x H' → g x (L2.wipe σ vs) H' fun σ2 H2 => L2.wipe σ2 vs = L2.wipe σ vs ∧ tt σ2 H2 fun b H3 =>
        if b = true then te σ2 H3 fun y H4 => ∃ acc, H4 D = some (.lst acc) ∧ acc.length < sizeLine ∧ Nx (upd H4 D (.lst (acc ++ [y]))) else Nx H3) := by
  refine ⟨fun i m H => m = n - i ∧ i ≤ n ∧ Pv i H, ⟨n, by simp, Nat.zero_le _, h0⟩, ?_⟩
  rintro i m H ⟨rfl, hi, p⟩
  by_cases hlt : i < n
  · obtain ⟨h1, h2⟩ := hs i H hlt p
    exact .inr ⟨h1, Pv (i + 1), fun H' p' => ⟨n - (i + 1), by omega, rfl, hlt, p'⟩, h2⟩
  · have e : i = n := by omega
    subst e
    exact .inl (hd H p)
section
variable {K : KW} {F F' : Hp} {μ μ' : List Addr} {H H' : Hp} {st : Store}
/-- an object that nobody knows changes -/
theorem Wd.poke (w : Wd K F μ H st) {p : Addr} {o : HO} (hF : F p = none) (hμ : p ∉ μ) : Wd K F μ (upd H p o) st := by
  refine ⟨fun a u e => ?_, w.len, w.nd, w.nf, fun n so a e1 e2 => ?_⟩
  · rw [upd_ne (fun q => by subst q; rw [hF] at e; cases e)]; exact w.sub _ _ e
  · obtain ⟨u, h1, h2⟩ := w.obj n so a e1 e2
    exact ⟨u, by rw [upd_ne (ne_mem (List.mem_of_getElem? e2) hμ)]; exact h1, h2⟩
theorem Stp.poke (s : Stp F μ H F' μ' H') {p : Addr} {o : HO} (h0 : H p = none) : Stp F μ H F' μ' (upd H' p o) := by
  refine ⟨s.fF, s.fm, fun a u e n => ?_, fun a h => ?_, s.newF, fun a od u e => ?_⟩
  · rw [upd_ne (fun q => by subst q; rw [h0] at e; cases e)]; exact s.frame a u e n
  · by_cases q : a = p
    · subst q; exact absurd h0 h
    · rw [upd_ne q]; exact s.live a h
  · rw [upd_ne (fun q => by subst q; rw [h0] at e; cases e)]; exact s.frz a od u e
/-- what is new stays unknown -/
theorem Stp.out (s : Stp F μ H F' μ' H') {p : Addr} (hF : F p = none) (hμ : p ∉ μ) (h : H p ≠ none) : F' p = none ∧ p ∉ μ' := by
  refine ⟨Classical.byContradiction fun c => ?_, fun q => ?_⟩
  · rcases s.newF p c with z | z
    · exact z hF
    · exact h z
  · obtain ⟨ex, e, n⟩ := s.fm
    rw [e] at q
    rcases List.mem_append.mp q with q | q
    · exact hμ q
    · exact h (n p q)
end
theorem simLc {K : KW} {wi : TI} {mi : MI} {j : Nat} {tt : TT} {mt : MT} {te : TE} {me : ME} {vs : List Nat} (hi : SimI K wi mi) (ht : SimT K tt mt) (he : SimE K te me) (hj : j ∈ vs) : SimF K (tLc wi (gName j) tt te vs) (mLc mi j mt me vs) := by
  intro σ F μ H env st so st' Q w en e k
  unfold mLc at e
  split at e
  · rename_i src st1 e1
    split at e
    · rename_i xs e2
      split at e
      · rename_i acc st2 e3
        cases e
        refine hi σ F μ H env st src st1 _ w en e1 fun J F1 μ1 H1 w1 s1 hJ D hD => ?_
        have hD0 : H D = none := fresh_of s1 hD
        refine lc_by (n := xs.length) (fun i Hc => i ≤ xs.length ∧ ∃ F2 μ2 stc ac av, Wd K F2 μ2 Hc stc ∧ Stp F μ H F2 μ2 Hc ∧ Stp F1 μ1 H1 F2 μ2 Hc ∧ F2 D = none ∧ D ∉ μ2 ∧ Hc D = some (.lst av) ∧ Reps K F2 μ2 ac av ∧
          lcGo j mt me (wipeE env vs) (fun st => decide (srcItems env st src = some xs)) (xs.drop i) stc ac = some (acc, st')) ?_ ?_ ?_
        · refine ⟨Nat.zero_le _, F1, μ1, st1, [], [], w1.lay0 hD, s1.trans (Stp.lay0 hD), Stp.lay0 hD, w1.Fnone hD, w1.out hD, upd_same, trivial, ?_⟩
          simpa using e3
        · rintro i Hc hin ⟨_, F2, μ2, stc, ac, av, w2, s2, s2', f2, m2', hDc, r2, go⟩
          rw [List.drop_eq_getElem_cons hin] at go
          unfold lcGo at go
          split at go
          · rename_i hck
            have hck := of_decide_eq_true hck
            have en2 := en.step s2
            obtain ⟨vs2, ⟨a1, a2⟩, rr⟩ := srcAt w2 en2 (hJ.step s2') hck
            have hl := rr.length
            obtain ⟨g1, g2⟩ := a1 i (by omega)
            refine ⟨g1, fun x H' y => ?_⟩
            obtain ⟨eH, ex⟩ := g2 x H' y
            subst eH
            obtain ⟨d, ed, rd⟩ := rr.get' ex
            have ed' : xs[i] = d := by
              have := List.getElem?_eq_getElem hin
              rw [this] at ed; exact Option.some.inj ed
            rw [ed'] at go
            show L2.wipe ((L2.wipe σ vs).set j (some x)) vs = L2.wipe σ vs ∧ _
            refine ⟨wipe_set hj _, ?_⟩
            have enb : EnvOk K F2 μ2 H' ((wipeE env vs).set j (.val d)) ((L2.wipe σ vs).set j (some x)) := (en2.wipe vs).val j rd
            split at go
            · rename_i st3 e4
              refine ht _ F2 μ2 H' _ stc _ st3 _ w2 enb e4 fun F3 μ3 H3 w3 s3 => ?_
              rw [if_pos rfl]
              split at go
              · rename_i d2 st4 e5
                split at go
                · rename_i hz
                  refine he _ F3 μ3 H3 _ st3 _ st4 _ w3 (enb.step s3) e5 fun v F4 μ4 H4 w4 s4 r4 => ?_
                  have o3 := s3.out f2 m2' (by rw [hDc]; simp)
                  have hD3 := s3.frame D _ hDc m2'
                  have o4 := s4.out o3.1 o3.2 (by rw [hD3]; simp)
                  have hD4 := s4.frame D _ hD3 o3.2
                  have s24 := s3.trans s4
                  refine ⟨av, hD4, ?_, hin, F4, μ4, st4, ac ++ [d2], av ++ [v], w4.poke o4.1 o4.2, (s2.trans s24).poke hD0, (s2'.trans s24).poke hD, o4.1, o4.2, upd_same, (s24.reps r2).append ⟨r4, trivial⟩, go⟩
                  rw [← r2.length, sizeLine_eq]; omega
                · cases go
              · cases go
            · rename_i st3 e4
              refine ht _ F2 μ2 H' _ stc _ st3 _ w2 enb e4 fun F3 μ3 H3 w3 s3 => ?_
              rw [if_neg Bool.false_ne_true]
              have o3 := s3.out f2 m2' (by rw [hDc]; simp)
              exact ⟨hin, F3, μ3, st3, ac, av, w3, s2.trans s3, s2'.trans s3, o3.1, o3.2, s3.frame D _ hDc m2', s3.reps r2, go⟩
            · cases go
          · cases go
        · rintro Hc ⟨_, F2, μ2, stc, ac, av, w2, s2, s2', f2, m2', hDc, r2, go⟩
          rw [List.drop_length] at go
          unfold lcGo at go
          split at go
          · rename_i hck
            have hck := of_decide_eq_true hck
            cases go
            obtain ⟨vs2, ⟨a1, a2⟩, rr⟩ := srcAt w2 (en.step s2) (hJ.step s2') hck
            rw [rr.length]
            exact ⟨a2, k D _ F2 μ2 Hc w2 s2 hD0 f2 m2' hDc r2⟩
          · cases go
      · cases e
    · cases e
  · cases e
section
variable {X : Cx}
theorem xlc {elt tg iter : Expr} {scope : Scope} {own : List (Str × Nat)} {pos : Pos} {mi : MI} {j : Nat} {me : ME} (hc : X.calm = true) (hN : X.N.Nodup) (hi : XI X tg iter mi) (ok : BlkOk X.N X.env.scope scope own)
    (hg : ∀ (s : Shared) (H : Hp) (C : Addr) (cl : List (Str × Addr)) (fp : List Addr), PG (X.blk s H scope (compEnvC scope cl C X.env) fp) tg (gName j))
    (he : ∀ (s : Shared) (H : Hp) (C : Addr) (cl : List (Str × Addr)) (fp : List Addr), XE (X.blk s H scope (compEnvC scope cl C X.env) fp) elt me) (hj : j ∈ own.map (·.2) := by decide) (hs : ∀ x, foldedSetIterable iter X.env x = pure x := by intro _; rfl) :
    XF X (.ListComp elt [⟨tg, iter, [], 0⟩] scope pos) (mLc mi j mYes me (own.map (·.2))) := by
  obtain ⟨wi, p, s⟩ := hi
  refine ⟨_, pe_lc hc hN p ok hg (fun _ _ _ _ _ => pts_nil) (fun s H C cl fp => (he s H C cl fp).pe) hs, simLc s ?_ simOfM hj⟩
  intro σ F μ H env st b st' Q w en e k
  cases e
  exact k F μ H w Stp.refl
theorem xlcIf {elt tg iter c : Expr} {scope : Scope} {own : List (Str × Nat)} {pos : Pos} {mi : MI} {j : Nat} {mt : MT} {me : ME} (hc : X.calm = true) (hN : X.N.Nodup) (hi : XI X tg iter mi) (ok : BlkOk X.N X.env.scope scope own)
    (hg : ∀ (s : Shared) (H : Hp) (C : Addr) (cl : List (Str × Addr)) (fp : List Addr), PG (X.blk s H scope (compEnvC scope cl C X.env) fp) tg (gName j)) (ht : ∀ (s : Shared) (H : Hp) (C : Addr) (cl : List (Str × Addr)) (fp : List Addr), XT (X.blk s H scope (compEnvC scope cl C X.env) fp) c mt)
    (he : ∀ (s : Shared) (H : Hp) (C : Addr) (cl : List (Str × Addr)) (fp : List Addr), XE (X.blk s H scope (compEnvC scope cl C X.env) fp) elt me) (hj : j ∈ own.map (·.2) := by decide) (hs : ∀ x, foldedSetIterable iter X.env x = pure x := by intro _; rfl) :
    XF X (.ListComp elt [⟨tg, iter, [c], 0⟩] scope pos) (mLc mi j mt me (own.map (·.2))) := by
  obtain ⟨wi, p, s⟩ := hi
  exact ⟨_, pe_lc hc hN p ok hg (fun s H C cl fp => pts_one (ht s H C cl fp).pt) (fun s H C cl fp => (he s H C cl fp).pe) hs, simLc s simOfT simOfM hj⟩
end
end Gx

set_option maxHeartbeats 1000000
namespace Gx
open PySem L2

/-! ### statements -/
inductive Fl where
  | nx | bk | ct | rt (d : D)
abbrev Out := Fl × Env × Store
abbrev MS := Env → Store → Option Out
/-- what is known grows -/
structure Gr (Fg : Hp) (μg : List Addr) (F : Hp) (μ : List Addr) : Prop where
  f : ∀ a o, Fg a = some o → F a = some o
  m : ∀ (n : Nat) (a : Addr), μg[n]? = some a → μ[n]? = some a
theorem Gr.refl {F : Hp} {μ : List Addr} : Gr F μ F μ := ⟨fun _ _ e => e, fun _ _ e => e⟩
theorem Gr.trans {F F1 F2 : Hp} {μ μ1 μ2 : List Addr} (a : Gr F μ F1 μ1) (b : Gr F1 μ1 F2 μ2) : Gr F μ F2 μ2 := ⟨fun x o e => b.f x o (a.f x o e), fun n x e => b.m n x (a.m n x e)⟩
theorem Stp.gr {F F1 : Hp} {μ μ1 : List Addr} {H H1 : Hp} (a : Stp F μ H F1 μ1 H1) : Gr F μ F1 μ1 := ⟨a.fF, a.pre⟩
structure SOk (K : KW) (F0 : Hp) (μ0 : List Addr) (H0 : Hp) (Fg : Hp) (μg : List Addr) (F : Hp) (μ : List Addr) (H : Hp) (env : Env) (σ : L2.St) (st : Store) : Prop where
  wd : Wd K F μ H st
  en : EnvOk K F μ H env σ
  stp : Stp F0 μ0 H0 F μ H
  own0 : ∀ (i : Nat) (a : Addr), ownAt env σ i a → H0 a = none
  gr : Gr Fg μg F μ
def Post (K : KW) (F0 : Hp) (μ0 : List Addr) (H0 : Hp) (Fg : Hp) (μg : List Addr) (D : Ends) : Out → Prop
  | (.nx, env, st) => ∀ σ F μ H, SOk K F0 μ0 H0 Fg μg F μ H env σ st → D.nx σ H
  | (.bk, env, st) => ∀ σ F μ H, SOk K F0 μ0 H0 Fg μg F μ H env σ st → D.bk σ H
  | (.ct, env, st) => ∀ σ F μ H, SOk K F0 μ0 H0 Fg μg F μ H env σ st → D.ct σ H
  | (.rt d, _, st) => ∀ v F μ H, Wd K F μ H st → Stp F0 μ0 H0 F μ H → Rep K F μ d v → D.rt v H
def SimS (K : KW) (t : TS) (ms : MS) : Prop :=
  ∀ (F0 : Hp) (μ0 : List Addr) (H0 : Hp) (Fg : Hp) (μg : List Addr) (σ : L2.St) (F : Hp) (μ : List Addr) (H : Hp) (env : Env) (st : Store) (out : Out) (D : Ends), SOk K F0 μ0 H0 Fg μg F μ H env σ st → ms env st = some out → Post K F0 μ0 H0 Fg μg D out → t D σ H
structure XS (X : Cx) (st : Stmt) (ms : MS) : Prop where
  h : ∃ t, PS X st t ∧ SimS X.kw t ms
structure XSs (X : Cx) (st : List Stmt) (ms : MS) : Prop where
  h : ∃ t, PSs X st t ∧ SimS X.kw t ms
section
variable {K : KW} {F0 Fg F F' : Hp} {μ0 μg μ μ' : List Addr} {H0 H H' : Hp} {env : Env} {σ : L2.St} {st st' : Store}
theorem SOk.step (o : SOk K F0 μ0 H0 Fg μg F μ H env σ st) (w : Wd K F' μ' H' st') (s : Stp F μ H F' μ' H') : SOk K F0 μ0 H0 Fg μg F' μ' H' env σ st' := ⟨w, o.en.step s, o.stp.trans s, o.own0, o.gr.trans s.gr⟩
theorem ownAt_set {i j : Nat} {a : Addr} {s : Slot} {v : Option V} (h : ownAt (env.set i s) (σ.set i v) j a) : (j = i ∧ (∃ so, s = .own so) ∧ v = some (.ref a)) ∨ (j ≠ i ∧ ownAt env σ j a) := by
  obtain ⟨so, h1, h2⟩ := h
  by_cases hj : j = i
  · subst hj
    have hl := (List.getElem?_eq_some_iff.mp h1).1
    rw [List.length_set] at hl
    rw [List.getElem?_set_self hl] at h1
    have hl2 := (List.getElem?_eq_some_iff.mp h2).1
    rw [List.length_set] at hl2
    rw [List.getElem?_set_self hl2] at h2
    exact .inl ⟨rfl, ⟨so, Option.some.inj h1⟩, Option.some.inj h2⟩
  · rw [List.getElem?_set_ne (Ne.symm hj)] at h1 h2
    exact .inr ⟨hj, so, h1, h2⟩
theorem SOk.val (o : SOk K F0 μ0 H0 Fg μg F μ H env σ st) (i : Nat) {d : D} {v : V} (r : Rep K F μ d v) : SOk K F0 μ0 H0 Fg μg F μ H (env.set i (.val d)) (σ.set i (some v)) st :=
  ⟨o.wd, o.en.val i r, o.stp, fun j a h => by
    rcases ownAt_set h with ⟨_, ⟨so, e⟩, _⟩ | ⟨_, h⟩
    · cases e
    · exact o.own0 j a h, o.gr⟩
/-- a fresh object given to a name -/
theorem SOk.own (o : SOk K F0 μ0 H0 Fg μg F μ H env σ st) (w : Wd K F' μ' H' st') (s : Stp F μ H F' μ' H') (i : Nat) {a : Addr} {u : HO} {so : SO} (h0 : H a = none) (hF : F' a = none) (hm : a ∉ μ') (hu : H' a = some u) (r : SORep K F' μ' so u) :
    SOk K F0 μ0 H0 Fg μg F' μ' H' (env.set i (.own so)) (σ.set i (some (.ref a))) st' := by
  have o' := o.step w s
  refine ⟨w, o'.en.set i ⟨a, u, rfl, hF, hm, hu, r⟩ fun b j hj _ e hb => ?_, o'.stp, fun j b h => ?_, o'.gr⟩
  · cases e
    obtain ⟨so', h1, h2⟩ := hb
    obtain ⟨c, u', e1, _, _, e2, _⟩ := o.en.slot j _ _ h1 h2
    cases e1
    rw [h0] at e2; cases e2
  · rcases ownAt_set h with ⟨_, _, e⟩ | ⟨_, h⟩
    · cases e; exact fresh_of o.stp h0
    · exact o.own0 j b h
/-- an owned object becomes data -/
theorem SOk.freeze (o : SOk K F0 μ0 H0 Fg μg F μ H env σ st) {i : Nat} {so : SO} {d : D} (h : env[i]? = some (.own so)) (hd : dOf so = some d) : ∃ F', SOk K F0 μ0 H0 Fg μg F' μ H (env.set i (.val d)) σ st := by
  have hl : i < σ.length := by rw [← o.en.len]; exact (List.getElem?_eq_some_iff.mp h).1
  obtain ⟨a, u, e, hF, hm, hu, r⟩ := o.en.slot i _ _ h (List.getElem?_eq_getElem hl)
  have hσ : σ[i]? = some (some (.ref a)) := by rw [List.getElem?_eq_getElem hl, e]
  have h00 := o.own0 i a ⟨so, h, hσ⟩
  have ext : ∀ b o, F b = some o → upd F a u b = some o := fun b o e2 => by rw [upd_ne (fun q => by subst q; rw [hF] at e2; cases e2)]; exact e2
  have hset : σ.set i (some (.ref a)) = σ := by
    apply List.ext_getElem?
    intro j
    rw [List.getElem?_set]
    by_cases hj : i = j
    · subst hj; rw [if_pos rfl, if_pos hl, hσ]
    · rw [if_neg hj]
  refine ⟨upd F a u, o.wd.freeze hu hF hm, ⟨by simp [o.en.len], fun j t v h1 h2 => ?_, fun j k b hjk h1 h2 => ?_⟩, o.stp.freeze h00 hF, fun j b h' => ?_, o.gr.trans ⟨ext, fun _ _ e => e⟩⟩
  · by_cases hj : i = j
    · subst hj
      have hl2 := (List.getElem?_eq_some_iff.mp h).1
      rw [List.getElem?_set_self hl2] at h1
      cases h1
      rw [hσ] at h2; cases h2
      exact ⟨.ref a, rfl, dOf_ok (F' := F) hd (SORep.mono ext (fun _ _ e => e) _ _ r) upd_same⟩
    · rw [List.getElem?_set_ne hj] at h1
      have q := o.en.slot j t v h1 h2
      cases t with
      | none => trivial
      | val d => obtain ⟨x, e1, r1⟩ := q; exact ⟨x, e1, Rep.mono ext (fun _ _ e => e) _ _ r1⟩
      | own so' =>
        obtain ⟨b, u', e1, f1, m1, h3, r1⟩ := q
        refine ⟨b, u', e1, ?_, m1, h3, SORep.mono ext (fun _ _ e => e) _ _ r1⟩
        rw [upd_ne]
        · exact f1
        · intro q
          subst q
          subst e1
          exact o.en.sep i j b hj ⟨so, h, hσ⟩ ⟨so', h1, h2⟩
  · rw [← hset] at h1 h2
    rcases ownAt_set h1 with ⟨_, ⟨_, e⟩, _⟩ | ⟨_, h1⟩
    · cases e
    · rcases ownAt_set h2 with ⟨_, ⟨_, e⟩, _⟩ | ⟨_, h2⟩
      · cases e
      · exact o.en.sep j k b hjk h1 h2
  · rw [← hset] at h'
    rcases ownAt_set h' with ⟨_, ⟨_, e⟩, _⟩ | ⟨_, h'⟩
    · cases e
    · exact o.own0 j b h'
end

def mSkip : MS := fun env st => some (.nx, env, st)
def mSq (a b : MS) : MS := fun env st => match a env st with
  | some (.nx, env1, st1) => b env1 st1
  | r => r
theorem simSkip {K : KW} : SimS K tNext mSkip := by
  intro F0 μ0 H0 Fg μg σ F μ H env st out D o e k
  cases e
  exact k σ F μ H o
theorem simSq {K : KW} {t u : TS} {a b : MS} (ha : SimS K t a) (hb : SimS K u b) : SimS K (tSeq t u) (mSq a b) := by
  intro F0 μ0 H0 Fg μg σ F μ H env st out D o e k
  unfold mSq at e
  split at e
  · rename_i env1 st1 e1
    exact ha F0 μ0 H0 Fg μg σ F μ H env st _ _ o e1 fun σ' F' μ' H' o' => hb F0 μ0 H0 Fg μg σ' F' μ' H' env1 st1 out D o' e k
  · rename_i hne
    refine ha F0 μ0 H0 Fg μg σ F μ H env st out _ o e ?_
    obtain ⟨f, env1, st1⟩ := out
    cases f with
    | nx => exact absurd e (hne env1 st1)
    | bk => exact k
    | ct => exact k
    | rt d => exact k
section
variable {X : Cx} {s : Stmt} {ss : List Stmt} {a b : MS} {e : Expr} {me : ME} {mf : MF} {pos : Pos}
theorem xs_nil : XSs X [] mSkip := ⟨_, pss_nil, simSkip⟩
theorem xs_cons (h : XS X s a) (h2 : XSs X ss b) : XSs X (s :: ss) (mSq a b) := let ⟨t, p, q⟩ := h; let ⟨u, p', q'⟩ := h2; ⟨_, pss_cons p p', simSq q q'⟩
theorem xs_one (h : XS X s a) : XSs X [s] a := let ⟨t, p, q⟩ := h; ⟨_, pss_one p, q⟩
/-- the owned object of slot i is data from here on -/
def mFz (i : Nat) : MS := fun env st => match env[i]? with
  | some (.own so) => match dOf so with | some d => some (.nx, env.set i (.val d), st) | none => none
  | _ => some (.nx, env, st)
theorem xs_fz (i : Nat) (h : XSs X ss a) : XSs X ss (mSq (mFz i) a) := by
  obtain ⟨t, p, q⟩ := h
  refine ⟨t, p, ?_⟩
  intro F0 μ0 H0 Fg μg σ F μ H env st out D o e k
  unfold mSq at e
  cases e1 : mFz i env st with
  | none => rw [e1] at e; cases e
  | some z =>
    rw [e1] at e
    unfold mFz at e1
    split at e1
    · rename_i so h1
      split at e1
      · rename_i d hd
        cases e1
        obtain ⟨F', o'⟩ := o.freeze h1 hd
        exact q F0 μ0 H0 Fg μg σ F' μ H _ st out D o' e k
      · cases e1
    · cases e1
      exact q F0 μ0 H0 Fg μg σ F μ H env st out D o e k
/-- name = e -/
def mSet (i : Nat) (me : ME) : MS := fun env st => match me env st with
  | some (.d d, st1) => some (.nx, env.set i (.val d), st1)
  | _ => none
def mSetO (i : Nat) (mf : MF) : MS := fun env st => match mf env st with
  | some (so, st1) => some (.nx, env.set i (.own so), st1)
  | none => none
theorem simSet {K : KW} {i : Nat} {t : TE} (h : SimE K t me) : SimS K (tAsg t (gName i)) (mSet i me) := by
  intro F0 μ0 H0 Fg μg σ F μ H env st out D o e k
  unfold mSet at e
  split at e
  · rename_i d st1 e1
    cases e
    exact h σ F μ H env st _ _ _ o.wd o.en e1 fun v F1 μ1 H1 w1 s1 r1 => k _ F1 μ1 H1 ((o.step w1 s1).val i r1)
  · cases e
theorem simSetO {K : KW} {i : Nat} {t : TE} (h : SimF K t mf) : SimS K (tAsg t (gName i)) (mSetO i mf) := by
  intro F0 μ0 H0 Fg μg σ F μ H env st out D o e k
  unfold mSetO at e
  split at e
  · rename_i so st1 e1
    cases e
    exact h σ F μ H env st _ _ _ o.wd o.en e1 fun a u F1 μ1 H1 w1 s1 h0 f1 m1 h1 r1 => k _ F1 μ1 H1 (o.own w1 s1 i h0 f1 m1 h1 r1)
  · cases e
theorem xset {i : Nat} {x : Str} {pos' : Pos} (hN : X.N.Nodup) (hi : X.N[i]? = some x) (hx : Loc X.env.scope x) (he : XE X e me) (hs : swapsWith e (some (.Name x pos')) pos.line X.env = pure false := by rfl) (hf : X.fn x = true ∨ X.env.scope.names.lookup x = some .local := by first | exact .inl rfl | exact .inr rfl | assumption) :
    XS X (.Assign [.Name x pos'] e pos) (mSet i me) := let ⟨t, p, q⟩ := he; ⟨_, ps_set hN hi hx p hs hf, simSet q⟩
theorem xsetO {i : Nat} {x : Str} {pos' : Pos} (hN : X.N.Nodup) (hi : X.N[i]? = some x) (hx : Loc X.env.scope x) (he : XF X e mf) (hs : swapsWith e (some (.Name x pos')) pos.line X.env = pure false := by rfl) (hf : X.fn x = true ∨ X.env.scope.names.lookup x = some .local := by first | exact .inl rfl | exact .inr rfl | assumption) :
    XS X (.Assign [.Name x pos'] e pos) (mSetO i mf) := let ⟨t, p, q⟩ := he; ⟨_, ps_set hN hi hx p hs hf, simSetO q⟩
/-- name = [..] on one line, the name a local -/
structure XLA (X : Cx) (i : Nat) (s : Stmt) (mf : MF) : Prop where
  h : ∃ t, PS X s (tAsg t (gName i)) ∧ SimF X.kw t mf
theorem xla {elt tg iter : Expr} {scope : Scope} {own : List (Str × Nat)} {mi : MI} {j i : Nat} {y : Str} {py spos : Pos} (hc : X.calm = true) (hN : X.N.Nodup) (hy : X.N[i]? = some y) (hyl : X.env.scope.names.lookup y = some .local)
    (hsw : swapsWith (.ListComp elt [⟨tg, iter, [], 0⟩] scope pos) (some (.Name y py)) spos.line X.env = pure true) (hi : XI X tg iter mi) (ok : BlkOk X.N X.env.scope scope own)
    (hg : ∀ (s : Shared) (H : Hp) (C : Addr) (cl : List (Str × Addr)) (fp : List Addr), PG (X.blk s H scope (compEnvC scope cl C X.env) fp) tg (gName j))
    (he : ∀ (s : Shared) (H : Hp) (C : Addr) (cl : List (Str × Addr)) (fp : List Addr), XE (X.blk s H scope (compEnvC scope cl C X.env) fp) elt me) (hj : j ∈ own.map (·.2) := by decide) (hs : ∀ x, foldedSetIterable iter X.env x = pure x := by intro _; rfl) :
    XLA X i (.Assign [.Name y py] (.ListComp elt [⟨tg, iter, [], 0⟩] scope pos) spos) (mLc mi j mYes me (own.map (·.2))) := by
  obtain ⟨wi, p, s⟩ := hi
  refine ⟨_, ps_setLc hc hN hy hyl hsw p ok hg (fun _ _ _ _ _ => pts_nil) (fun s H C cl fp => (he s H C cl fp).pe) hs, simLc s ?_ simOfM hj⟩
  intro σ F μ H env st b st' Q w en e k
  cases e
  exact k F μ H w Stp.refl
theorem xlaIf {elt tg iter c : Expr} {scope : Scope} {own : List (Str × Nat)} {mi : MI} {mt : MT} {j i : Nat} {y : Str} {py spos : Pos} (hc : X.calm = true) (hN : X.N.Nodup) (hy : X.N[i]? = some y) (hyl : X.env.scope.names.lookup y = some .local)
    (hsw : swapsWith (.ListComp elt [⟨tg, iter, [c], 0⟩] scope pos) (some (.Name y py)) spos.line X.env = pure true) (hi : XI X tg iter mi) (ok : BlkOk X.N X.env.scope scope own)
    (hg : ∀ (s : Shared) (H : Hp) (C : Addr) (cl : List (Str × Addr)) (fp : List Addr), PG (X.blk s H scope (compEnvC scope cl C X.env) fp) tg (gName j)) (ht : ∀ (s : Shared) (H : Hp) (C : Addr) (cl : List (Str × Addr)) (fp : List Addr), XT (X.blk s H scope (compEnvC scope cl C X.env) fp) c mt)
    (he : ∀ (s : Shared) (H : Hp) (C : Addr) (cl : List (Str × Addr)) (fp : List Addr), XE (X.blk s H scope (compEnvC scope cl C X.env) fp) elt me) (hj : j ∈ own.map (·.2) := by decide) (hs : ∀ x, foldedSetIterable iter X.env x = pure x := by intro _; rfl) :
    XLA X i (.Assign [.Name y py] (.ListComp elt [⟨tg, iter, [c], 0⟩] scope pos) spos) (mLc mi j mt me (own.map (·.2))) := by
  obtain ⟨wi, p, s⟩ := hi
  exact ⟨_, ps_setLc hc hN hy hyl hsw p ok hg (fun s H C cl fp => pts_one (ht s H C cl fp).pt) (fun s H C cl fp => (he s H C cl fp).pe) hs, simLc s simOfT simOfM hj⟩
theorem xla_o {i : Nat} (h : XLA X i s mf) : XS X s (mSetO i mf) := let ⟨t, p, q⟩ := h; ⟨_, p, simSetO q⟩
theorem xla_d {i : Nat} (h : XLA X i s mf) : XS X s (mSet i (mFrz mf)) := let ⟨t, p, q⟩ := h; ⟨_, p, simSet (simFrz q)⟩
theorem xla_a {i : Nat} (h : XLA X i s mf) : XS X s (mSet i (mAlloc mf)) := let ⟨t, p, q⟩ := h; ⟨_, p, simSet (simAlloc q)⟩
/-- e -/
def mExpr (me : ME) : MS := fun env st => match me env st with | some (_, st1) => some (.nx, env, st1) | none => none
theorem xexpr (he : XE X e me) (hs : swapsWith e none pos.line X.env = pure false := by rfl) : XS X (.Expr e pos) (mExpr me) := by
  obtain ⟨t, p, q⟩ := he
  refine ⟨_, ps_expr p hs, ?_⟩
  intro F0 μ0 H0 Fg μg σ F μ H env st out D o e k
  unfold mExpr at e
  split at e
  · rename_i r st1 e1
    cases e
    exact q σ F μ H env st _ _ _ o.wd o.en e1 fun v F1 μ1 H1 w1 s1 r1 => k _ F1 μ1 H1 (o.step w1 s1)
  · cases e
/-- return e -/
def mRet (me : ME) : MS := fun env st => match me env st with
  | some (.d d, st1) => some (.rt d, env, st1)
  | some (.loc i, st1) => match env[i]? with
    | some (.own so) => match dOf so with | some d => some (.rt d, env, st1) | none => none
    | _ => none
  | none => none
theorem xret (he : XE X e me) : XS X (.Return (some e) pos) (mRet me) := by
  obtain ⟨t, p, q⟩ := he
  refine ⟨_, ps_ret p, ?_⟩
  intro F0 μ0 H0 Fg μg σ F μ H env st out D o e k
  unfold mRet at e
  split at e
  · rename_i d st1 e1
    cases e
    exact q σ F μ H env st _ _ _ o.wd o.en e1 fun v F1 μ1 H1 w1 s1 r1 => k v F1 μ1 H1 w1 (o.stp.trans s1) r1
  · rename_i i st1 e1
    split at e
    · rename_i so h1
      split at e
      · rename_i d hd
        cases e
        refine q σ F μ H env st _ _ _ o.wd o.en e1 fun v F1 μ1 H1 w1 s1 r1 => ?_
        obtain ⟨F', o'⟩ := (o.step w1 s1).freeze h1 hd
        obtain ⟨a, rfl, so', g1, g2⟩ := r1
        have hl := (List.getElem?_eq_some_iff.mp h1).1
        obtain ⟨v, ev, rv⟩ := o'.en.slot i _ _ (List.getElem?_set_self hl) g2
        cases ev
        exact k (.ref a) F' μ1 H1 o'.wd o'.stp rv
      · cases e
    · cases e
  · cases e
def mRetN : MS := fun env st => some (.rt .non, env, st)
theorem xretN : XS X (.Return none pos) mRetN := by
  refine ⟨_, ps_retN, ?_⟩
  intro F0 μ0 H0 Fg μg σ F μ H env st out D o e k
  cases e
  exact k .non F μ H o.wd o.stp rfl
theorem xpass : XS X (.Pass pos) mSkip := ⟨_, ps_pass, simSkip⟩
def mBrk : MS := fun env st => some (.bk, env, st)
def mCnt : MS := fun env st => some (.ct, env, st)
theorem xbreak : XS X (.Break pos) mBrk := ⟨_, ps_break, by
  intro F0 μ0 H0 Fg μg σ F μ H env st out D o e k
  cases e
  exact k σ F μ H o⟩
theorem xcont : XS X (.Continue pos) mCnt := ⟨_, ps_continue, by
  intro F0 μ0 H0 Fg μg σ F μ H env st out D o e k
  cases e
  exact k σ F μ H o⟩
theorem xnever : XS X s (fun _ _ => none) := ⟨_, ps_never, by
  intro F0 μ0 H0 Fg μg σ F μ H env st out D o e k
  cases e⟩
/-- if -/
def mIf (t : MT) (a b : MS) : MS := fun env st => match t env st with
  | some (true, st1) => a env st1
  | some (false, st1) => b env st1
  | none => none
theorem xif {c : Expr} {sa sb : List Stmt} {mt : MT} (hc : XT X c mt) (ha : XSs X sa a) (hb : XSs X sb b) : XS X (.If c sa sb pos) (mIf mt a b) := by
  obtain ⟨t, p, q⟩ := hc
  obtain ⟨ta, pa, qa⟩ := ha
  obtain ⟨tb, pb, qb⟩ := hb
  refine ⟨_, ps_if p pa pb, ?_⟩
  intro F0 μ0 H0 Fg μg σ F μ H env st out D o e k
  unfold mIf at e
  split at e
  · rename_i st1 e1
    refine q σ F μ H env st _ _ _ o.wd o.en e1 fun F1 μ1 H1 w1 s1 => ?_
    rw [if_pos rfl]
    exact qa F0 μ0 H0 Fg μg σ F1 μ1 H1 env st1 out D (o.step w1 s1) e k
  · rename_i st1 e1
    refine q σ F μ H env st _ _ _ o.wd o.en e1 fun F1 μ1 H1 w1 s1 => ?_
    rw [if_neg Bool.false_ne_true]
    exact qb F0 μ0 H0 Fg μg σ F1 μ1 H1 env st1 out D (o.step w1 s1) e k
  · cases e

/-! ### targets -/
abbrev MG := D → Env → Option Env
def SimG (K : KW) (g : TG) (mg : MG) : Prop :=
  ∀ (F0 : Hp) (μ0 : List Addr) (H0 : Hp) (Fg : Hp) (μg : List Addr) (σ : L2.St) (F : Hp) (μ : List Addr) (H : Hp) (env : Env) (st : Store) (d : D) (v : V) (env' : Env) (Q : L2.St → Hp → Prop), SOk K F0 μ0 H0 Fg μg F μ H env σ st → Rep K F μ d v → mg d env = some env' →
    (∀ σ', SOk K F0 μ0 H0 Fg μg F μ H env' σ' st → Q σ' H) → g v σ H Q
def SimGs (K : KW) (g : TGs) (mg : List D → Env → Option Env) : Prop :=
  ∀ (F0 : Hp) (μ0 : List Addr) (H0 : Hp) (Fg : Hp) (μg : List Addr) (σ : L2.St) (F : Hp) (μ : List Addr) (H : Hp) (env : Env) (st : Store) (d : List D) (v : List V) (env' : Env) (Q : L2.St → Hp → Prop), SOk K F0 μ0 H0 Fg μg F μ H env σ st → Reps K F μ d v → mg d env = some env' →
    (∀ σ', SOk K F0 μ0 H0 Fg μg F μ H env' σ' st → Q σ' H) → g v σ H Q
structure XG (X : Cx) (tg : Expr) (m : MG) : Prop where
  h : ∃ g, PG X tg g ∧ SimG X.kw g m
structure XGs (X : Cx) (tg : List Expr) (m : List D → Env → Option Env) : Prop where
  h : ∃ g, PGs X tg g ∧ SimGs X.kw g m
def gN (i : Nat) : MG := fun d env => some (env.set i (.val d))
theorem xgn {i : Nat} {x : Str} (hN : X.N.Nodup) (hi : X.N[i]? = some x) (hx : Loc X.env.scope x) (hf : X.fn x = true ∨ X.env.scope.names.lookup x = some .local := by first | exact .inl rfl | exact .inr rfl | assumption) : XG X (.Name x pos) (gN i) := by
  refine ⟨_, pg_name hN hi hx hf, ?_⟩
  intro F0 μ0 H0 Fg μg σ F μ H env st d v env' Q o r e k
  cases e
  exact k _ (o.val i r)
def gsN : List D → Env → Option Env := fun ds env => match ds with | [] => some env | _ => none
def gsC (m : MG) (n : List D → Env → Option Env) : List D → Env → Option Env := fun ds env => match ds with
  | d :: ds => match m d env with | some env1 => n ds env1 | none => none
  | [] => none
theorem xgs_nil : XGs X [] gsN := by
  refine ⟨_, pgs_nil, ?_⟩
  intro F0 μ0 H0 Fg μg σ F μ H env st d v env' Q o r e k
  cases d with
  | cons _ _ => cases e
  | nil =>
    cases e
    cases v with
    | cons _ _ => exact r.elim
    | nil => exact ⟨rfl, k σ o⟩
theorem xgs_cons {tg : Expr} {tgs : List Expr} {m : MG} {n : List D → Env → Option Env} (h1 : XG X tg m) (h2 : XGs X tgs n)
    (hs : (assignEach (tg :: tgs) X.env).map (·.2) = assign tg X.env :: (assignEach tgs X.env).map (·.2) := by rfl) : XGs X (tg :: tgs) (gsC m n) := by
  obtain ⟨g, p, q⟩ := h1
  obtain ⟨g', p', q'⟩ := h2
  refine ⟨_, pgs_cons p p' hs, ?_⟩
  intro F0 μ0 H0 Fg μg σ F μ H env st d v env' Q o r e k
  cases d with
  | nil => cases e
  | cons d ds =>
    cases v with
    | nil => exact r.elim
    | cons v vs =>
      unfold gsC at e
      dsimp only at e
      split at e
      · rename_i env1 e1
        exact ⟨v, vs, rfl, q F0 μ0 H0 Fg μg σ F μ H env st d v env1 _ o r.1 e1 fun σ1 o1 => q' F0 μ0 H0 Fg μg σ1 F μ H env1 st ds vs env' Q o1 r.2 e k⟩
      · cases e
def gT (n : Nat) (m : List D → Env → Option Env) : MG := fun d env => match d with | .tup ds => if ds.length = n then m ds env else none | _ => none
theorem xgtup {es : List Expr} {kk : Nat} {m : List D → Env → Option Env} {n : Nat} (hc : X.calm = true) (h : XGs X es m) (hn : (assignEach es X.env).length = n := by rfl) (hst : (assignEach es X.env).findIdx? (·.1) = none := by rfl) : XG X (.Tuple es kk pos) (gT n m) := by
  obtain ⟨g, p, q⟩ := h
  refine ⟨_, pg_tup hc p hn hst, ?_⟩
  intro F0 μ0 H0 Fg μg σ F μ H env st d v env' Q o r e k
  unfold gT at e
  split at e
  · rename_i ds
    split at e
    · rename_i hl
      obtain ⟨a, vs, rfl, s, rr⟩ := r
      exact ⟨a, vs, rfl, SqT.mono o.wd.sub s, by rw [← rr.length]; exact hl, q F0 μ0 H0 Fg μg σ F μ H env st ds vs env' Q o rr e k⟩
    · cases e
  · cases e
/-- target = e -/
def mAsg (g : MG) (me : ME) : MS := fun env st => match me env st with
  | some (.d d, st1) => match g d env with | some env1 => some (.nx, env1, st1) | none => none
  | _ => none
theorem xasg {tg : Expr} {m : MG} (he : XE X e me) (hg : XG X tg m) (hs : swapsWithSole [tg] e pos.line X.env = pure false := by rfl) (hw : swappedStores [tg] e X.env = pure none := by rfl) (h1 : (assignEach [tg] X.env).map (·.2) = [assign tg X.env] := by rfl) :
    XS X (.Assign [tg] e pos) (mAsg m me) := by
  obtain ⟨t, p, q⟩ := he
  obtain ⟨g, p', q'⟩ := hg
  refine ⟨_, ps_asg p p' hs hw h1, ?_⟩
  intro F0 μ0 H0 Fg μg σ F μ H env st out D o e k
  unfold mAsg at e
  split at e
  · rename_i d st1 e1
    split at e
    · rename_i env1 e2
      cases e
      exact q σ F μ H env st _ _ _ o.wd o.en e1 fun v F1 μ1 H1 w1 s1 r1 => q' F0 μ0 H0 Fg μg σ F1 μ1 H1 env _ d v env1 _ (o.step w1 s1) r1 e2 fun σ' o' => k σ' F1 μ1 H1 o'
    · cases e
  · cases e

/-! ### for -/
def forGo (g : MG) (body : MS) (chk : Env → Store → Bool) : List D → Env → Store → Option Out
  | [], env, st => if chk env st then some (.nx, env, st) else none
  | x :: xs, env, st => if chk env st then
      match g x env with
      | some env1 => match body env1 st with
        | some (.nx, env2, st2) => forGo g body chk xs env2 st2
        | some (.ct, env2, st2) => forGo g body chk xs env2 st2
        | some (.bk, env2, st2) => some (.nx, env2, st2)
        | some (.rt d, env2, st2) => some (.rt d, env2, st2)
        | none => none
      | none => none
    else none
def mFor (mi : MI) (g : MG) (body : MS) : MS := fun env st => match mi env st with
  | some (src, st1) => if isData src then match srcItems env st1 src with
      | some xs => forGo g body (fun env st => decide (srcItems env st src = some xs)) xs env st1
      | none => none
    else none
  | none => none
theorem simFor {K : KW} {wi : TI} {mi : MI} {g : TG} {mg : MG} {tb : TS} {mb : MS} (hi : SimI K wi mi) (hg : SimG K g mg) (hb : SimS K tb mb) : SimS K (tFor wi g tb) (mFor mi mg mb) := by
  intro F0 μ0 H0 Fg μg σ F μ H env st out D o e k
  unfold mFor at e
  split at e
  · rename_i src st1 e1
    split at e
    · rename_i hdt
      split at e
      · rename_i xs e2
        refine hi σ F μ H env st src st1 _ o.wd o.en e1 fun J F1 μ1 H1 w1 s1 hJ => ?_
        have o1 := o.step w1 s1
        -- W i m: what is left leads to out
        refine ⟨fun i m σ' H' => m = xs.length - i ∧ i ≤ xs.length ∧ ∃ F2 μ2 env2 st2, SOk K F0 μ0 H0 Fg μg F2 μ2 H' env2 σ' st2 ∧ SrcOk K F2 μ2 env2 σ' src J ∧ forGo mg mb (fun env st => decide (srcItems env st src = some xs)) (xs.drop i) env2 st2 = some out,
          ⟨xs.length, by simp, Nat.zero_le _, F1, μ1, env, st1, o1, hJ, by simpa using e⟩, ?_⟩
        rintro i m σ' H' ⟨rfl, hi', F2, μ2, env2, st2, o2, hJ2, go⟩
        by_cases hlt : i < xs.length
        · rw [List.drop_eq_getElem_cons hlt] at go
          unfold forGo at go
          split at go
          · rename_i hck
            have hck := of_decide_eq_true hck
            obtain ⟨vs2, ⟨a1, a2⟩, rr⟩ := srcAt o2.wd o2.en hJ2 hck
            have hl := rr.length
            obtain ⟨g1, g2⟩ := a1 i (by omega)
            refine .inr ⟨g1, fun σ3 H3 => ∃ F3 μ3 env3 st3, SOk K F0 μ0 H0 Fg μg F3 μ3 H3 env3 σ3 st3 ∧ SrcOk K F3 μ3 env3 σ3 src J ∧ forGo mg mb (fun env st => decide (srcItems env st src = some xs)) (xs.drop (i + 1)) env3 st3 = some out,
              fun σ3 H3 ⟨F3, μ3, env3, st3, q1, q2, q3⟩ => ⟨xs.length - (i + 1), by omega, rfl, hlt, F3, μ3, env3, st3, q1, q2, q3⟩, fun x H3 y => ?_⟩
            obtain ⟨eH, ex⟩ := g2 x H3 y
            subst eH
            obtain ⟨d, ed, rd⟩ := rr.get' ex
            have ed' : xs[i] = d := by
              have := List.getElem?_eq_getElem hlt
              rw [this] at ed; exact Option.some.inj ed
            rw [ed'] at go
            have o2' : SOk K F0 μ0 H0 F2 μ2 F2 μ2 H3 env2 σ' st2 := ⟨o2.wd, o2.en, o2.stp, o2.own0, Gr.refl⟩
            have back : ∀ {σ4 F4 μ4 H4 env4 st4}, SOk K F0 μ0 H0 F2 μ2 F4 μ4 H4 env4 σ4 st4 → SOk K F0 μ0 H0 Fg μg F4 μ4 H4 env4 σ4 st4 ∧ SrcOk K F4 μ4 env4 σ4 src J := fun q =>
              ⟨⟨q.wd, q.en, q.stp, q.own0, o2.gr.trans q.gr⟩, hJ2.data hdt q.gr.f q.gr.m⟩
            split at go
            · rename_i env3 e3
              refine hg F0 μ0 H0 F2 μ2 σ' F2 μ2 H3 env2 st2 d x env3 _ o2' rd e3 fun σ3 o3 => ?_
              cases e4 : mb env3 st2 with
              | none => rw [e4] at go; cases go
              | some z =>
                obtain ⟨f, env4, st4⟩ := z
                rw [e4] at go
                refine hb F0 μ0 H0 F2 μ2 σ3 F2 μ2 H3 env3 st2 _ _ o3 e4 ?_
                cases f with
                | nx => exact fun σ5 F5 μ5 H5 q => ⟨F5, μ5, env4, st4, (back q).1, (back q).2, go⟩
                | ct => exact fun σ5 F5 μ5 H5 q => ⟨F5, μ5, env4, st4, (back q).1, (back q).2, go⟩
                | bk =>
                  cases go
                  exact fun σ5 F5 μ5 H5 q => k σ5 F5 μ5 H5 (back q).1
                | rt d =>
                  cases go
                  exact k
            · cases go
          · cases go
        · have hi2 : i = xs.length := by omega
          subst hi2
          rw [List.drop_length] at go
          unfold forGo at go
          split at go
          · rename_i hck
            have hck := of_decide_eq_true hck
            cases go
            obtain ⟨vs2, ⟨a1, a2⟩, rr⟩ := srcAt o2.wd o2.en hJ2 hck
            rw [rr.length]
            exact .inl ⟨a2, k σ' F2 μ2 H' o2⟩
          · cases go
      · cases e
    · cases e
  · cases e
theorem xfor {tg iter : Expr} {sb : List Stmt} {mi : MI} {mg : MG} {mb : MS} (hp : PassesOwn (model X.prog X.w) X.A X.env X.xe) (hc : X.calm = true) (hi : XI X tg iter mi) (hg : XG X tg mg) (hb : XSs X sb mb) (hs : ∀ x, foldedSetIterable iter X.env x = pure x := by intro _; rfl) :
    XS X (.For tg iter sb [] pos) (mFor mi mg mb) := by
  obtain ⟨wi, p, q⟩ := hi
  obtain ⟨g, p', q'⟩ := hg
  obtain ⟨t, p2, q2⟩ := hb
  exact ⟨_, ps_for hp hc p p' p2 hs, simFor q q' q2⟩
end

/-! ### defs -/
abbrev MFn := List D → Store → Option (D × Store)
def spM (K : KW) (n : Nat) (m : MFn) : Sp := fun vs H Q _ => ∃ F μ ds st d st', Wd K F μ H st ∧ Reps K F μ ds vs ∧ ds.length = n ∧ m ds st = some (d, st') ∧
  ∀ v F' μ' H', Wd K F' μ' H' st' → Stp F μ H F' μ' H' → Rep K F' μ' d v → Q v H'
def mFn (n : Nat) (body : MS) : MFn := fun ds st => match body (ds.map .val ++ List.replicate (n - ds.length) .none) st with
  | some (.rt d, _, st1) => some (d, st1)
  | some (.nx, _, st1) => some (.non, st1)
  | _ => none
theorem start_ok {K : KW} {F : Hp} {μ : List Addr} {H : Hp} {st : Store} {N : List Str} {ds : List D} {vs : List V} (w : Wd K F μ H st) (r : Reps K F μ ds vs) : SOk K F μ H F μ F μ H (ds.map .val ++ List.replicate (N.length - ds.length) .none) (L2.start N vs) st := by
  have nown : ∀ i a, ownAt (ds.map .val ++ List.replicate (N.length - ds.length) .none) (L2.start N vs) i a → False := by
    rintro i a ⟨so, h1, h2⟩
    have := List.mem_of_getElem? h1
    rcases List.mem_append.mp this with q | q
    · obtain ⟨d, _, e⟩ := List.mem_map.mp q
      cases e
    · have e := (List.mem_replicate.mp q).2
      cases e
  refine ⟨w, ⟨?_, fun i s o h1 h2 => ?_, fun i j a _ h _ => nown i a h⟩, Stp.refl, fun i a h => (nown i a h).elim, Gr.refl⟩
  · unfold L2.start
    simp [r.length]
  · by_cases hi : i < ds.length
    · rw [List.getElem?_append_left (by simpa using hi), List.getElem?_map] at h1
      rw [List.getElem?_eq_getElem hi] at h1
      simp only [Option.map_some, Option.some.injEq] at h1
      subst h1
      obtain ⟨v, e, rv⟩ := r.get (List.getElem?_eq_getElem hi)
      unfold L2.start at h2
      rw [List.getElem?_append_left (by rw [List.length_map, ← r.length]; exact hi), List.getElem?_map, e] at h2
      cases h2
      exact ⟨v, rfl, rv⟩
    · rw [List.getElem?_append_right (by simpa using hi), List.getElem?_replicate] at h1
      split at h1
      · cases h1; trivial
      · cases h1
theorem xfn {P : Program} {w : World} {K : PySem.W.Frag} {mg : Str → Option Value} {base : Heap} {x qual : Str} {s : Stmt} {f : Addr} {fd : FuncData} {N ps : List Str} {k : Nat} {body : MS} (F : Fun K x qual s f fd) (S : FnScope N ps (defScope s))
    (hb : ∀ (cdv : Value) (A : Around) (outer : List PySem.Env) (sh : Shared) (H : Hp) (E : XK), Room k (A.deeper (PyProof.Rows.envOfC qual (defScope s) sh.heap.objs.size f cdv)) → XSs (cxOf CX0 P w K mg base N qual (defScope s) f cdv A outer sh H E).nox (defBody s) body) :
    FnOk P w K mg base CX0 (k + 1) f fd ps (spM ⟨K, w⟩ ps.length (mFn N.length body)) := by
  refine F.ok S (fun vs H Q E h => ?_) (fun cdv A outer sh H vs Q E hr h => ?_)
  · obtain ⟨F, μ, ds, st, d, st', w, r, hl, _⟩ := h
    rw [← r.length]; exact hl
  · obtain ⟨F, μ, ds, st, d, st', w, r, hl, e, kk⟩ := h
    obtain ⟨t, p, q⟩ := hb cdv A outer sh H E hr
    refine ⟨t, p, ?_⟩
    unfold mFn at e
    cases e1 : body (ds.map .val ++ List.replicate (N.length - ds.length) .none) st with
    | none => rw [e1] at e; cases e
    | some z =>
      obtain ⟨fl, env1, st1⟩ := z
      rw [e1] at e
      refine q F μ H F μ _ F μ H _ st _ _ (start_ok w r) e1 ?_
      cases fl with
      | nx => cases e; exact fun σ F' μ' H' o => kk .non F' μ' H' o.wd o.stp rfl
      | rt d => cases e; exact kk
      | bk => cases e
      | ct => cases e
section
variable {X : Cx}
def mCall (c : MFn) (a : MA) : ME := fun env st => match a env st with
  | some (ds, st1) => match c ds st1 with
    | some (d, st2) => some (.d d, st2)
    | none => none
  | none => none
theorem simCall {K : KW} {n : Nat} {c : MFn} {t : TA} {a : MA} {E : XK} (h : SimA K t a) (hn : ∀ env st ds st1, a env st = some (ds, st1) → ds.length = n) : SimE K (tCall (spM K n c) [] E t) (mCall c a) := by
  intro σ F μ H env st r st' Q w en e k
  unfold mCall at e
  split at e
  · rename_i ds st1 e1
    split at e
    · rename_i d st2 e2
      cases e
      refine h σ F μ H env st ds st1 _ w en e1 fun vs F1 μ1 H1 w1 s1 r1 => ?_
      rw [List.append_nil]
      exact ⟨F1, μ1, ds, st1, d, _, w1, r1, hn _ _ _ _ e1, e2, fun v F' μ' H' w' s' r' => k v F' μ' H' w' (s1.trans s') r'⟩
    · cases e
  · cases e
theorem len_nil : ∀ env st ds st1, mNil env st = some (ds, st1) → ds.length = 0 := fun env st ds st1 h => by cases h; rfl
theorem len_cons {m : ME} {r : MA} {n : Nat} (hr : ∀ env st ds st1, r env st = some (ds, st1) → ds.length = n) : ∀ env st ds st1, mCons m r env st = some (ds, st1) → ds.length = n + 1 := fun env st ds st1 h => by
  unfold mCons at h
  split at h
  · split at h
    · rename_i e2
      cases h
      rw [List.length_cons, hr _ _ _ _ e2]
    · cases h
  · cases h
theorem xcall {x : Str} {p pos : Pos} {e : Expr} {es : List Expr} {k n : Nat} {f : Addr} {fd : FuncData} {ps : List Str} {c : MFn} {m : MA} (F : FnOk X.prog X.w X.kw X.mg X.base CX0 k f fd ps (spM X.kw n c)) (hr : Room k X.A) (hg : Gl X x) (hm : X.mg x = some (.ref f)) (hk : PySem.W.keepIn X.kw (.ref f) = true) (hb : Binds X.kw fd ps [])
    (ha : XA X (e :: es) m) (hn : ∀ env st ds st1, m env st = some (ds, st1) → ds.length = n) (hdb : (x == ("__debug__" : Str)) = false := by decide) (he : starEach (e :: es) X.env = (false, eval e X.env) :: starEach es X.env := by rfl) (hpl : (backTo pos (starEach es X.env)).any (·.1) = false := by rfl) :
    XE X (.Call (.Name x p) (e :: es) [] pos) (mCall c m) := by
  obtain ⟨t, pa, s⟩ := ha
  exact ⟨_, pe_call F hr hg hm hk hb .nil pass0 pa hdb he hpl, simCall s hn⟩
theorem xcall0 {x : Str} {p pos : Pos} {k : Nat} {f : Addr} {fd : FuncData} {ps : List Str} {c : MFn} (F : FnOk X.prog X.w X.kw X.mg X.base CX0 k f fd ps (spM X.kw 0 c)) (hr : Room k X.A) (hg : Gl X x) (hm : X.mg x = some (.ref f)) (hk : PySem.W.keepIn X.kw (.ref f) = true) (hb : Binds X.kw fd ps [])
    (hdb : (x == ("__debug__" : Str)) = false := by decide) : XE X (.Call (.Name x p) [] [] pos) (mCall c mNil) :=
  ⟨_, pe_call0 F hr hg hm hk hb .nil pass0 hdb, simCall simNil len_nil⟩
/-- what a call of a def of the module needs, at one place -/
structure Fn (P : Program) (w : World) (K : PySem.W.Frag) (mg : Str → Option Value) (base : Heap) (k : Nat) (x : Str) (n : Nat) (c : MFn) : Prop where
  h : ∃ f fd ps, FnOk P w K mg base CX0 k f fd ps (spM ⟨K, w⟩ n c) ∧ mg x = some (.ref f) ∧ PySem.W.keepIn K (.ref f) = true ∧ Binds K fd ps []
theorem xcl {x : Str} {p pos : Pos} {e : Expr} {es : List Expr} {j k n : Nat} {c : MFn} {m : MA} (F : Fn X.prog X.w X.kw X.mg X.base k x n c) (hr : Room j X.A) (hkj : k ≤ j) (hg : Gl X x)
    (ha : XA X (e :: es) m) (hn : ∀ env st ds st1, m env st = some (ds, st1) → ds.length = n) (hdb : (x == ("__debug__" : Str)) = false := by decide) (he : starEach (e :: es) X.env = (false, eval e X.env) :: starEach es X.env := by rfl) (hpl : (backTo pos (starEach es X.env)).any (·.1) = false := by rfl) :
    XE X (.Call (.Name x p) (e :: es) [] pos) (mCall c m) := by
  obtain ⟨f, fd, ps, h1, h2, h3, h4⟩ := F
  exact xcall h1 (hr.mono hkj) hg h2 h3 h4 ha hn hdb he hpl
theorem xcl0 {x : Str} {p pos : Pos} {j k : Nat} {c : MFn} (F : Fn X.prog X.w X.kw X.mg X.base k x 0 c) (hr : Room j X.A) (hkj : k ≤ j) (hg : Gl X x) (hdb : (x == ("__debug__" : Str)) = false := by decide) : XE X (.Call (.Name x p) [] [] pos) (mCall c mNil) := by
  obtain ⟨f, fd, ps, h1, h2, h3, h4⟩ := F
  exact xcall0 h1 (hr.mono hkj) hg h2 h3 h4 hdb
end
end Gx

set_option maxHeartbeats 2000000
namespace L2
open PySem PySem.Spec PyProof.Rows
theorem tuple_mul1 (l : Addr) (items : Array Value) (n : Nat) (dd : Option Addr) (sl : Array (Option Value)) (u : Tok) :
    Meets (Builtin.«tuple.__mul__» ⟨[.ref l, .int 1 u], []⟩) (fun _ R s => s.heap.get? l = some { cls := .type "tuple", dict := dd, data := .seq items n, slots := sl } ∧
      R (.ok (.ret (Value.ref l))) s) :=
  .of_wp fun prog w A R s h => by
    obtain ⟨hp, g, d, tk, os⟩ := s
    obtain ⟨hl, h⟩ := h
    have f1 := AutoSeq1.idx_int
    have c0 : (decide ((1 : Int) < -(2 ^ 63)) || decide ((1 : Int) ≥ 2 ^ 63)) = false := by decide
    have c1 : (items.isEmpty || (1 : Int) == 1) = true := by simp
    wp_walk using wpAny_loadPart' hl
    exact ⟨_, rfl, h⟩
def rRepT1 (K : PySem.W.Frag) : R2 := fun x y H Q => ∃ l xs, x = .ref l ∧ y = .int 1 ∧ SqT K H l xs ∧ Q (.ref l) H
section
variable {X : Cx}
theorem op_repT1 : OpR X (binaryOp .Mult) (rRepT1 X.K) := by
  intro pins s σ H x y v u Q I rx ry h
  obtain ⟨l, xs, rfl, rfl, hT, q⟩ := h
  cases rx
  obtain ⟨t, rfl⟩ := ry
  obtain ⟨its, r, ⟨⟨cls, dd, data, sl⟩, ho, hc, n, hd⟩, hs⟩ := I.tuple hT
  simp only at hc hd
  subst hc hd
  exact wpAny_binaryOp_repeat_ref (T := "tuple") (U := "int") (by decide) ⟨_, ho, rfl⟩ (fun s' => typeIs_int s' 1 t) noFill_tuple_mul F.fills_int_mul F.slot_int_rmul repeat_tuple F.slot_int_index.lookup
    (call_meets F.slot_int_rmul (typeIs_int s 1 t) F.entry_int_rmul (F.args_int_rmul_2 _ _) (int_rmul_tuple 1 t l its.toArray n dd sl)
      ⟨ho, rfl, ⟨_, ho, rfl⟩, call_meets F.slot_tuple_mul ⟨_, ho, rfl⟩ F.entry_tuple_mul (F.args_tuple_mul_2 _ _) (tuple_mul1 l its.toArray n dd sl t) ⟨ho, ⟨.ref l, H, I, rfl, q⟩⟩⟩)
end
end L2
namespace Gx
open PySem L2
theorem Reps.rep {K : KW} {F : Hp} {μ : List Addr} {xs : List D} {vs : List V} (r : Reps K F μ xs vs) : ∀ k : Nat, Reps K F μ (List.replicate k xs).flatten (List.replicate k vs).flatten
  | 0 => trivial
  | k + 1 => by
    rw [List.replicate_succ, List.replicate_succ, List.flatten_cons, List.flatten_cons]
    exact r.append (Reps.rep r k)
def f2RepTN : Env → Store → R → R → Option (R × Store) := fun _ st x y =>
  match x, y with
  | .d (.tup xs), .d (.int k) => if xs.isEmpty = false ∧ 2 ≤ k ∧ k ≤ 1000 ∧ xs.length ≤ 1000 then some (.d (.tup (List.replicate k.toNat xs).flatten), st) else none
  | _, _ => none
def f2RepT1 : Env → Store → R → R → Option (R × Store) := fun _ st x y =>
  match x, y with
  | .d (.tup xs), .d (.int k) => if k = 1 then some (.d (.tup xs), st) else none
  | _, _ => none
theorem sim2RepTN {K : KW} : Sim2 K (rRepT K) f2RepTN := by
  intro σ F μ H env st x y v u z st' Q w en rx ry h k
  unfold f2RepTN at h
  split at h
  · rename_i xs i
    split at h
    · rename_i hc
      cases h
      obtain ⟨a, vs, rfl, s, q⟩ := rx
      refine ⟨a, i, vs, rfl, ry, SqT.mono w.sub s, fun e => ?_, hc.2.1, hc.2.2.1, by rw [← q.length]; exact hc.2.2.2, fun p hp => ?_⟩
      · subst e
        have : xs = [] := List.eq_nil_of_length_eq_zero q.length
        subst this; cases hc.1
      · have sl := Stp.lay (F := F) (μ := μ) (o := .tup (List.replicate i.toNat vs).flatten) hp (w.Fnone hp)
        exact k _ _ μ _ (w.lay hp) sl ⟨p, _, rfl, .of upd_same, (sl.reps q).rep _⟩
    · cases h
  · cases h
theorem sim2RepT1 {K : KW} : Sim2 K (rRepT1 K) f2RepT1 := by
  intro σ F μ H env st x y v u z st' Q w en rx ry h k
  unfold f2RepT1 at h
  split at h
  · rename_i xs i
    split at h
    · rename_i hc
      cases h
      subst hc
      obtain ⟨a, vs, rfl, s, q⟩ := rx
      exact ⟨a, vs, rfl, ry, SqT.mono w.sub s, k _ F μ H w Stp.refl ⟨a, vs, rfl, s, q⟩⟩
    · cases h
  · cases h
/-- a * b: ints, a tuple and an int -/
def fMul := fOr (fOr (f2I cMul fun i j => .int (i * j)) f2RepTN) f2RepT1
def mMulA (a b : ME) : ME := m2 a b fMul
section
variable {X : Cx} {a b c e : Expr} {ma mb mc m : ME} {mf : MF} {pos : Pos}
theorem xmulA (ha : XE X a ma) (hb : XE X b mb) : XE X (.BinOp a .Mult b pos) (mMulA ma mb) :=
  xop (OpR.or (OpR.or op_mul op_repT) op_repT1) (((sim2I (C := CMul) (g := fun i j => .int (i * j)) (g' := fun i j => .int (i * j)) cMul_ok fun _ _ _ _ => rfl).or sim2RepTN).or sim2RepT1) ha hb
/-- [..] * n -/
def mFRep (f : MF) (b : ME) : MF := fun env st => match f env st with
  | some (.lst xs, st1) => match b env st1 with
    | some (.d (.int k), st2) => if -(2 ^ 62) ≤ k ∧ k < 2 ^ 62 ∧ xs.length * k.toNat ≤ 16000000 then some (.lst (List.replicate k.toNat xs).flatten, st2) else none
    | _ => none
  | _ => none
theorem xfrep (ha : XF X a mf) (hb : XE X b mb) : XF X (.BinOp a .Mult b pos) (mFRep mf mb) := by
  obtain ⟨t, p, s⟩ := ha
  obtain ⟨t', p', s'⟩ := hb
  refine ⟨_, pe_op op_rep p p', ?_⟩
  intro σ F μ H env st so st' Q w en e k
  unfold mFRep at e
  split at e
  · rename_i xs st1 e1
    split at e
    · rename_i kk st2 e2
      split at e
      · rename_i hc
        cases e
        refine s σ F μ H env st _ _ _ w en e1 fun a u F1 μ1 H1 w1 s1 h0 f1 m1 h1 r1 => ?_
        refine s' σ F1 μ1 H1 env _ _ _ _ w1 (en.step s1) e2 fun v F2 μ2 H2 w2 s2 r2 => ?_
        cases u <;> first | exact r1.elim | skip
        rename_i vs
        have hq := s2.frame a _ h1 m1
        have hl := Reps.length r1
        refine ⟨a, kk, vs, rfl, r2, hq, by omega, by omega, by rw [← hl, sizeLine_eq]; omega, fun p hp => ?_⟩
        exact k p _ F2 μ2 _ (w2.lay0 hp) ((s1.trans s2).trans (Stp.lay0 hp)) (fresh_of (s1.trans s2) hp) (w2.Fnone hp) (w2.out hp) upd_same ((s2.reps r1).rep _)
      · cases e
    · cases e
  · cases e
end
end Gx

set_option maxHeartbeats 2000000
namespace Gx
open PySem L2
section
variable {K : KW} {F0 Fg F F' : Hp} {μ0 μg μ μ' : List Addr} {H0 H H' : Hp} {env : Env} {σ : L2.St} {st st' : Store}
theorem SOk.pokeOwn (o : SOk K F0 μ0 H0 Fg μg F μ H env σ st) {i : Nat} {so so' : SO} {u' : HO} {a : Addr} (h : env[i]? = some (.own so)) (hσ : σ[i]? = some (some (.ref a))) (r : SORep K F μ so' u') :
    SOk K F0 μ0 H0 Fg μg F μ (upd H a u') (env.set i (.own so')) σ st := by
  obtain ⟨a', u, e, hF, hm, hu, r0⟩ := o.en.slot i _ _ h hσ
  cases e
  have h00 := o.own0 i a ⟨so, h, hσ⟩
  have hset : σ.set i (some (.ref a)) = σ := by
    apply List.ext_getElem?
    intro j
    rw [List.getElem?_set]
    by_cases hj : i = j
    · subst hj; rw [if_pos rfl, if_pos (List.getElem?_eq_some_iff.mp hσ).1, hσ]
    · rw [if_neg hj]
  have own' : ∀ j b, ownAt (env.set i (.own so')) σ j b → ownAt env σ j b := fun j b hb => by
    rw [← hset] at hb
    rcases ownAt_set hb with ⟨rfl, _, e⟩ | ⟨_, hb⟩
    · cases e; exact ⟨so, h, hσ⟩
    · exact hb
  refine ⟨o.wd.poke hF hm, ⟨by simp [o.en.len], fun j t v h1 h2 => ?_, fun j k b hjk h1 h2 => o.en.sep j k b hjk (own' j b h1) (own' k b h2)⟩, o.stp.poke h00, fun j b hb => o.own0 j b (own' j b hb), o.gr⟩
  by_cases hj : i = j
  · subst hj
    rw [List.getElem?_set_self (List.getElem?_eq_some_iff.mp h).1] at h1
    cases h1
    rw [hσ] at h2; cases h2
    exact ⟨a, u', rfl, hF, hm, upd_same, r⟩
  · rw [List.getElem?_set_ne hj] at h1
    have q := o.en.slot j t v h1 h2
    cases t with
    | none => trivial
    | val d => exact q
    | own s2 =>
      obtain ⟨b, u2, e1, f1, m1, h3, r1⟩ := q
      subst e1
      exact ⟨b, u2, rfl, f1, m1, by rw [upd_ne (fun q => by subst q; exact o.en.sep i j b hj ⟨so, h, hσ⟩ ⟨s2, h1, h2⟩)]; exact h3, r1⟩
/-- an object of the store changes -/
theorem Wd.put (w : Wd K F μ H st) {n : Nat} {a : Addr} {so : SO} {u : HO} (hn : n < st.length) (hm : μ[n]? = some a) (r : SORep K F μ so u) : Wd K F μ (upd H a u) (st.set n so) := by
  have ha : a ∈ μ := List.mem_of_getElem? hm
  refine ⟨fun b o e => ?_, by simp [w.len], w.nd, w.nf, fun k so' b e1 e2 => ?_⟩
  · rw [upd_ne (fun q => by subst q; rw [w.nf _ ha] at e; cases e)]; exact w.sub _ _ e
  · by_cases hk : n = k
    · subst hk
      rw [List.getElem?_set_self hn] at e1
      cases e1
      rw [hm] at e2; cases e2
      exact ⟨u, upd_same, r⟩
    · rw [List.getElem?_set_ne hk] at e1
      obtain ⟨o, h1, h2⟩ := w.obj k so' b e1 e2
      refine ⟨o, ?_, h2⟩
      rw [upd_ne]
      · exact h1
      · rintro rfl
        have := (List.getElem?_inj (List.getElem?_eq_some_iff.mp hm).1 w.nd).mp (hm.trans e2.symm)
        exact hk this
/-- nothing locked -/
theorem SORep.free {so : SO} {u : HO} (r : SORep K F μ so u) (h : ∀ kvs, so ≠ .dF kvs) (h' : ∀ n kvs, so ≠ .dXF n kvs) (od : Obj) (v : HO) : u ≠ .frz od v := by
  rintro rfl
  cases so <;> first | exact r.elim | exact h _ rfl | exact h' _ _ rfl
theorem Stp.put (w : Wd K F μ H st) {a : Addr} {u : HO} (ha : a ∈ μ) (hz : ∀ od v, H a ≠ some (.frz od v)) : Stp F μ H F μ (upd H a u) := by
  refine ⟨fun _ _ e => e, ⟨[], by simp, by simp⟩, fun b o e n => ?_, fun b h => ?_, fun _ h => .inl h, fun b od v e => ?_⟩
  · rw [upd_ne (ne_mem ha n).symm]; exact e
  · by_cases q : b = a
    · subst q; rw [upd_same]; simp
    · rw [upd_ne q]; exact h
  · rw [upd_ne (fun q => by subst q; exact hz od v e)]; exact e
end

/-! ### o[i] = v -/
def putD {κ : Type} [DecidableEq κ] (kvs : List (κ × D)) (k : κ) (v : D) : List (κ × D) :=
  if (kvs.any fun kv => decide (kv.1 = k)) = true then kvs.map (fun kv => if kv.1 = k then (kv.1, v) else kv) else kvs ++ [(k, v)]
section
variable {K : KW} {F : Hp} {μ : List Addr}
theorem RepKV.append {κ : Type} : ∀ {ps : List (κ × D)} {qs : List (κ × V)} {ps' qs'}, RepKV K F μ ps qs → RepKV K F μ ps' qs' → RepKV K F μ (ps ++ ps') (qs ++ qs')
  | [], [], _, _, _, s => s
  | p :: ps, q :: qs, _, _, r, s => ⟨r.1, r.2.1, RepKV.append r.2.2 s⟩
  | [], _ :: _, _, _, r, _ => r.elim
  | _ :: _, [], _, _, r, _ => r.elim
theorem RepKV.anyk {κ : Type} [DecidableEq κ] (k : κ) : ∀ {ps : List (κ × D)} {qs : List (κ × V)}, RepKV K F μ ps qs → (ps.any fun kv => decide (kv.1 = k)) = (qs.any fun kv => decide (kv.1 = k))
  | [], [], _ => rfl
  | p :: ps, q :: qs, r => by rw [List.any_cons, List.any_cons, RepKV.anyk k r.2.2, r.1]
  | [], _ :: _, r => r.elim
  | _ :: _, [], r => r.elim
theorem RepKV.mapk {κ : Type} [DecidableEq κ] (k : κ) {d : D} {v : V} (h : Rep K F μ d v) : ∀ {ps : List (κ × D)} {qs : List (κ × V)}, RepKV K F μ ps qs →
    RepKV K F μ (ps.map fun kv => if kv.1 = k then (kv.1, d) else kv) (qs.map fun kv => if kv.1 = k then (kv.1, v) else kv)
  | [], [], _ => trivial
  | p :: ps, q :: qs, r => by
    have e := r.1
    by_cases hk : p.1 = k
    · have hk' : q.1 = k := e ▸ hk
      refine ⟨?_, ?_, RepKV.mapk k h r.2.2⟩
      · show (if p.1 = k then (p.1, d) else p).1 = (if q.1 = k then (q.1, v) else q).1
        rw [if_pos hk, if_pos hk']; exact e
      · show Rep K F μ (if p.1 = k then (p.1, d) else p).2 (if q.1 = k then (q.1, v) else q).2
        rw [if_pos hk, if_pos hk']; exact h
    · have hk' : ¬ q.1 = k := e ▸ hk
      refine ⟨?_, ?_, RepKV.mapk k h r.2.2⟩
      · show (if p.1 = k then (p.1, d) else p).1 = (if q.1 = k then (q.1, v) else q).1
        rw [if_neg hk, if_neg hk']; exact e
      · show Rep K F μ (if p.1 = k then (p.1, d) else p).2 (if q.1 = k then (q.1, v) else q).2
        rw [if_neg hk, if_neg hk']; exact r.2.1
  | [], _ :: _, r => r.elim
  | _ :: _, [], r => r.elim
theorem RepKV.put {κ : Type} [DecidableEq κ] (k : κ) {d : D} {v : V} (h : Rep K F μ d v) {ps : List (κ × D)} {qs : List (κ × V)} (r : RepKV K F μ ps qs) : RepKV K F μ (putD ps k d) (putK qs k v) := by
  unfold putD putK
  rw [← RepKV.anyk k r]
  split
  · exact RepKV.mapk k h r
  · exact r.append ⟨rfl, h, trivial⟩
end
def putL (so : SO) (i v : D) : Option SO := match so, i with
  | .lst xs, .int i => match ixN xs.length i with | some j => some (.lst (xs.set j v)) | none => none
  | _, _ => none
def putKv (so : SO) (i v : D) : Option SO := match so with
  | .dK kvs => match keyOf i with
    | some k => if kvs.length < 16000000 then some (.dK (putD kvs k v)) else none
    | none => none
  | _ => none
/-- a change of the object that r names -/
def chg (f : SO → Option SO) (env : Env) (st : Store) (r : R) : Option Out := match r with
  | .loc k => match env[k]? with
    | some (.own so) => match f so with | some so' => some (.nx, env.set k (.own so'), st) | none => none
    | _ => none
  | .d (.ref n) => match st[n]? with
    | some so => match f so with | some so' => some (.nx, env, st.set n so') | none => none
    | none => none
  | _ => none
def mSt (f : SO → D → D → Option SO) (o i v : ME) : MS := fun env st => match v env st with
  | some (.d dv, st1) => match o env st1 with
    | some (ro, st2) => match i env st2 with
      | some (.d di, st3) => chg (fun so => f so di dv) env st3 ro
      | _ => none
    | none => none
  | _ => none
/-- what stands at a changed object: the reading asks the old and gives the new -/
theorem chg_ok {K : KW} {F0 Fg F : Hp} {μ0 μg μ : List Addr} {H0 H : Hp} {env : Env} {σ : L2.St} {st : Store} {r : R} {v : V} {f : SO → Option SO} {out : Out} {D : Ends} (o : SOk K F0 μ0 H0 Fg μg F μ H env σ st) (q : RRep K F μ env σ r v) (h : chg f env st r = some out)
    (k : Post K F0 μ0 H0 Fg μg D out) (hz : ∀ kvs, f (.dF kvs) = none := by intro _; rfl) (hz2 : ∀ n kvs, f (.dXF n kvs) = none := by intro _ _; rfl) : ∃ a so u so', v = .ref a ∧ H a = some u ∧ SORep K F μ so u ∧ f so = some so' ∧ ∀ u', SORep K F μ so' u' → D.nx σ (upd H a u') := by
  unfold chg at h
  split at h
  · rename_i i
    obtain ⟨a, rfl, so0, g1, g2⟩ := q
    rw [g1] at h
    dsimp only at h
    split at h
    · rename_i so' e2
      cases h
      obtain ⟨b, u, e3, hF, hm, hu, r0⟩ := o.en.slot i _ _ g1 g2
      cases e3
      exact ⟨a, so0, u, so', rfl, hu, r0, e2, fun u' ru => k σ F μ _ (o.pokeOwn g1 g2 ru)⟩
    · cases h
  · rename_i n
    obtain ⟨a, rfl, hm⟩ := q
    split at h
    · rename_i so e1
      split at h
      · rename_i so' e2
        cases h
        obtain ⟨u, hu, r0⟩ := o.wd.obj n so a e1 hm
        have hn := (List.getElem?_eq_some_iff.mp e1).1
        exact ⟨a, so, u, so', rfl, hu, r0, e2, fun u' ru => k σ F μ _ (o.step (o.wd.put hn hm ru) (Stp.put o.wd (List.mem_of_getElem? hm) fun od v z => SORep.free r0 (fun kvs q => by rw [q, hz] at e2; cases e2) (fun n kvs q => by rw [q, hz2] at e2; cases e2) od v (Option.some.inj (hu.symm.trans z))))⟩
      · cases h
    · cases h
  · cases h
section
variable {X : Cx} {o i e : Expr} {mo mi me : ME} {pos tpos : Pos} {s : Stmt}
theorem PS.or {t u : TS} (a : PS X s t) (b : PS X s u) : PS X s (fun D σ H => t D σ H ∨ u D σ H) := ⟨fun pins sh σ H D I h => h.elim (a.run pins sh σ H D I) (b.run pins sh σ H D I)⟩
def sOr (a b : MS) : MS := fun env st => match a env st with | some z => some z | none => b env st
theorem SimS.or {K : KW} {t u : TS} {a b : MS} (h : SimS K t a) (h' : SimS K u b) : SimS K (fun D σ H => t D σ H ∨ u D σ H) (sOr a b) := by
  intro F0 μ0 H0 Fg μg σ F μ H env st out D o e k
  unfold sOr at e
  split at e
  · rename_i e1; cases e
    exact .inl (h F0 μ0 H0 Fg μg σ F μ H env st _ D o e1 k)
  · exact .inr (h' F0 μ0 H0 Fg μg σ F μ H env st _ D o e k)
def mStIx (o i v : ME) : MS := sOr (mSt putL o i v) (mSt putKv o i v)
theorem xstix (hu : X.A.units + 1 < cLine) (ho : XE X o mo) (hi : XE X i mi) (he : XE X e me) (hs : swapsWithSole [.Subscript o i tpos] e pos.line X.env = pure false := by rfl) (hw : swappedStores [.Subscript o i tpos] e X.env = pure none := by rfl)
    (h1 : (assignEach [.Subscript o i tpos] X.env).map (·.2) = [assign (.Subscript o i tpos) X.env] := by rfl)
    (ha : ∀ v, assign (.Subscript o i tpos) X.env v = (do
      let ov ← holding [v] (eval o X.env)
      let iv ← holding [v, ov] (eval i X.env)
      standAt tpos
      holding [v, ov, iv] (setItem ov iv v)
      release [v, ov, iv] []) := by intro _; rfl) (hs2 : swapsWith e (some (.Subscript o i tpos)) pos.line X.env = pure false := by rfl) : XS X (.Assign [.Subscript o i tpos] e pos) (mStIx mo mi me) := by
  obtain ⟨to, po, so⟩ := ho
  obtain ⟨ti, pi, si⟩ := hi
  obtain ⟨te, pe, se⟩ := he
  refine ⟨_, PS.or (ps_asg pe (pg_sub po pi set_list ha) hs hw h1) (ps_dput hu po pi pe hs2), SimS.or ?_ ?_⟩
  · intro F0 μ0 H0 Fg μg σ F μ H env st out D oo e k
    unfold mSt at e
    split at e
    · rename_i dv st1 e1
      split at e
      · rename_i ro st2 e2
        split at e
        · rename_i di st3 e3
          refine se σ F μ H env st _ _ _ oo.wd oo.en e1 fun v F1 μ1 H1 w1 s1 r1 => ?_
          refine so σ F1 μ1 H1 env st1 _ _ _ w1 (oo.en.step s1) e2 fun ov F2 μ2 H2 w2 s2 r2 => ?_
          refine si σ F2 μ2 H2 env st2 _ _ _ w2 ((oo.en.step s1).step s2) e3 fun iv F3 μ3 H3 w3 s3 r3 => ?_
          have o3 := ((oo.step w1 s1).step w2 s2).step w3 s3
          obtain ⟨a, so1, u, so2, rfl, hu1, ru, ef, kk⟩ := chg_ok o3 (r2.step s3) e k
          unfold putL at ef
          split at ef
          · rename_i xs ii
            split at ef
            · rename_i j hj
              cases ef
              cases u <;> first | exact ru.elim | skip
              rename_i vs
              refine ⟨a, vs, ii, j, rfl, r3, hu1, by rw [← ru.length]; exact hj, kk _ ?_⟩
              exact Reps.set ((s2.trans s3).rep r1) j ru
            · cases ef
          · cases ef
        · cases e
      · cases e
    · cases e
  · intro F0 μ0 H0 Fg μg σ F μ H env st out D oo e k
    unfold mSt at e
    split at e
    · rename_i dv st1 e1
      split at e
      · rename_i ro st2 e2
        split at e
        · rename_i di st3 e3
          refine se σ F μ H env st _ _ _ oo.wd oo.en e1 fun v F1 μ1 H1 w1 s1 r1 => ?_
          refine so σ F1 μ1 H1 env st1 _ _ _ w1 (oo.en.step s1) e2 fun ov F2 μ2 H2 w2 s2 r2 => ?_
          refine si σ F2 μ2 H2 env st2 _ _ _ w2 ((oo.en.step s1).step s2) e3 fun iv F3 μ3 H3 w3 s3 r3 => ?_
          have o3 := ((oo.step w1 s1).step w2 s2).step w3 s3
          obtain ⟨a, so1, u, so2, rfl, hu1, ru, ef, kk⟩ := chg_ok o3 (r2.step s3) e k
          unfold putKv at ef
          split at ef
          · rename_i kvs
            split at ef
            · rename_i kx hk
              split at ef
              · rename_i hl
                cases ef
                cases u <;> first | exact ru.elim | skip
                rename_i vs
                refine ⟨a, _, rfl, .inl ⟨vs, kx, hu1, keyOf_ok hk r3, by rw [← RepKV.length ru, sizeLine_eq]; omega, rfl⟩, kk _ ?_⟩
                exact RepKV.put kx ((s2.trans s3).rep r1) ru
              · cases ef
            · cases ef
          · cases ef
        · cases e
      · cases e
    · cases e

/-! ### o.append(e) -/
def appL (so : SO) (v : D) : Option SO := match so with
  | .lst xs => if xs.length < 16000000 then some (.lst (xs ++ [v])) else none
  | _ => none
def mApp (o v : ME) : MS := fun env st => match o env st with
  | some (ro, st1) => match v env st1 with
    | some (.d dv, st2) => match asL env st1 ro with
      | some _ => chg (fun so => appL so dv) env st2 ro
      | none => none
    | _ => none
  | none => none
theorem xapp {apos : Pos} (ho : XE X o mo) (he : XE X e me) (hs : swapsWith (.Call (.Attribute o "append" apos) [e] [] tpos) none pos.line X.env = pure false := by rfl)
    (hbase : attributeBase o "append" X.env (eval o X.env) = eval o X.env := by rfl)
    (hfew : ((backTo tpos (starEach (e :: []) X.env)).all (fun x => !x.1) && (backToKw tpos (keywordEach [] X.env)).all (fun x => x.1.isSome)
      && decide ((e :: []).length + ([] : List Keyword).length + (if ([] : List Keyword).isEmpty then 0 else 1) < 30)) = true := by rfl)
    (hline : (apos.endLine == tpos.line) = true := by rfl) (hst : starEach (e :: []) X.env = (false, eval e X.env) :: starEach [] X.env := by rfl) (hplain : (backTo tpos (starEach [] X.env)).any (·.1) = false := by rfl) :
    XS X (.Expr (.Call (.Attribute o "append" apos) [e] [] tpos) pos) (mApp mo me) := by
  obtain ⟨to, po, so⟩ := ho
  obtain ⟨te, pe, se⟩ := he
  refine ⟨_, ps_expr (pe_bm PySem.F.plainAttrs_list PySem.F.slot_list_append PySem.F.type_list_append mt_append po (pa_cons pe pa_nil hst) hbase hfew hline hst hplain) hs, ?_⟩
  intro F0 μ0 H0 Fg μg σ F μ H env st out D oo e k
  unfold mApp at e
  split at e
  · rename_i ro st1 e1
    split at e
    · rename_i dv st2 e2
      split at e
      · rename_i xs e3
        refine so σ F μ H env st _ _ _ oo.wd oo.en e1 fun ov F1 μ1 H1 w1 s1 r1 => ?_
        have en1 := oo.en.step s1
        obtain ⟨a, vs, rfl, sq, q⟩ := asL_ok w1 en1 r1 e3
        refine ⟨.inl ⟨rfl, vs, sq⟩, ?_⟩
        refine se σ F1 μ1 H1 env st1 _ _ _ w1 en1 e2 fun v F2 μ2 H2 w2 s2 r2 => ?_
        have o2 := (oo.step w1 s1).step w2 s2
        obtain ⟨a', so1, u, so2, e4, hu1, ru, ef, kk⟩ := chg_ok o2 (r1.step s2) e k
        cases e4
        unfold appL at ef
        split at ef
        · rename_i ys
          split at ef
          · rename_i hl
            cases ef
            cases u <;> first | exact ru.elim | skip
            rename_i us
            refine ⟨a, us, v, rfl, rfl, hu1, by rw [← ru.length, sizeLine_eq]; omega, kk _ ?_⟩
            exact ru.append ⟨r2, trivial⟩
          · cases ef
        · cases ef
      · cases e
    · cases e
  · cases e
end
end Gx

set_option maxHeartbeats 2000000
namespace Gx
open PySem L2
/-- the law's end -/
theorem law_sp {K : KW} {H : Hp} {a : Addr} {ns : List Int} {m : MFn} (hS : SqL K H a (ns.map V.int)) (h : ∃ st, m [.lst (ns.map .int)] [] = some (.bl true, st)) : spM K 1 m [.ref a] H (fun v _ => v = .bl true) fun _ _ _ => False := by
  obtain ⟨st, h⟩ := h
  refine ⟨H, [], [.lst (ns.map .int)], [], _, st, ⟨fun _ _ e => e, rfl, List.nodup_nil, fun _ h => (nomatch h), fun n so b e _ => by simp at e⟩, ⟨⟨a, _, rfl, hS, Reps.of_ints ns⟩, trivial⟩, rfl, h, fun v F' μ' H' _ _ r => r⟩
section
variable {X : Cx} {a b c e : Expr} {ma mb mc m : ME} {pos : Pos}
def mNeg (a : ME) : ME := fun env st => match a env st with | some (.d (.int i), st1) => some (.d (.int (-i)), st1) | _ => none
theorem xneg (ha : XE X a ma) : XE X (.UnaryOp .USub a pos) (mNeg ma) := by
  obtain ⟨t, p, s⟩ := ha
  refine ⟨_, pe_un un_neg p, ?_⟩
  intro σ F μ H env st r st' Q w en e k
  unfold mNeg at e
  split at e
  · rename_i i st1 e1
    cases e
    exact s σ F μ H env st _ _ _ w en e1 fun v F1 μ1 H1 w1 s1 r1 => ⟨i, r1, k _ F1 μ1 H1 w1 s1 rfl⟩
  · cases e
/-- x, y = a, b -/
def mPar (i j : Nat) (a b : ME) : MS := fun env st => match a env st with
  | some (.d x, st1) => match b env st1 with
    | some (.d y, st2) => some (.nx, (env.set i (.val x)).set j (.val y), st2)
    | _ => none
  | _ => none
theorem xpar {i j : Nat} {x y : Str} {px py pt : Pos} {kt k2 pt2} {spos : Pos} (hN : X.N.Nodup) (ha : XE X a ma) (hb : XE X b mb)
    (hp : ∀ {ta tb : TE}, PE X a ta → PE X b tb → PS X (.Assign [.Tuple [.Name x px, .Name y py] kt pt] (.Tuple [a, b] k2 pt2) spos) (tPar i j (tCons ta (tCons tb tNil)))) : XS X (.Assign [.Tuple [.Name x px, .Name y py] kt pt] (.Tuple [a, b] k2 pt2) spos) (mPar i j ma mb) := by
  obtain ⟨ta, pa, sa⟩ := ha
  obtain ⟨tb, pb, sb⟩ := hb
  refine ⟨_, hp pa pb, ?_⟩
  intro F0 μ0 H0 Fg μg σ F μ H env st out D o e k
  unfold mPar at e
  split at e
  · rename_i x st1 e1
    split at e
    · rename_i y st2 e2
      cases e
      refine sa σ F μ H env st _ _ _ o.wd o.en e1 fun v F1 μ1 H1 w1 s1 r1 => ?_
      refine sb σ F1 μ1 H1 env st1 _ _ _ w1 (o.en.step s1) e2 fun u F2 μ2 H2 w2 s2 r2 => ⟨v, u, rfl, ?_⟩
      exact k _ F2 μ2 H2 ((((o.step w1 s1).step w2 s2).val i (s2.rep r1)).val j r2)
    · cases e
  · cases e
end
end Gx

set_option maxHeartbeats 2000000
namespace L2
open PySem PySem.Spec PyProof.Rows
def rGtT (K : PySem.W.Frag) : R2 := fun x y H Q => ∃ (a b : Addr) (ns ms : List Int), x = .ref a ∧ y = .ref b ∧ SqT K H a (ns.map V.int) ∧ SqT K H b (ms.map V.int) ∧
  Q (.bl (Ob.lexAt (fun j => decide (ns.getD j 0 = ms.getD j 0)) (fun j => decide (ms.getD j 0 < ns.getD j 0)) (decide (ns.length > ms.length)) 0 (min ns.length ms.length))) H
theorem op_gtT {X : Cx} (hu : X.A.units < cLine) : OpR X (compareOp .Gt) (rGtT X.K) := by
  intro pins s σ H x y v u Q I rx ry h
  obtain ⟨a, b, ns, ms, rfl, rfl, ha, hb, q⟩ := h
  cases rx
  cases ry
  obtain ⟨its, r1, p1, _⟩ := I.tuple ha
  obtain ⟨its2, r2, p2, _⟩ := I.tuple hb
  have i1 : IntsAre its ns := Vals.ints r1
  have i2 : IntsAre its2 ms := Vals.ints r2
  have e1 : its.toArray.size = ns.length := by rw [List.size_toArray]; exact i1.length
  have e2 : its2.toArray.size = ms.length := by rw [List.size_toArray]; exact i2.length
  have at1 : ∀ j (h1 : j < its.toArray.size), ∃ t, its.toArray[j] = .int (ns.getD j 0) t := fun j h1 => PyProof.Rows.IntsAre.int_at i1 _ _ (by simp at h1; simp [h1])
  have at2 : ∀ j (h1 : j < its2.toArray.size), ∃ t, its2.toArray[j] = .int (ms.getD j 0) t := fun j h1 => PyProof.Rows.IntsAre.int_at i2 _ _ (by simp at h1; simp [h1])
  have R := Ob.RcOp.tuples_gt (A := X.A) (s := s) (e := fun j => decide (ns.getD j 0 = ms.getD j 0)) (r := fun j => decide (ms.getD j 0 < ns.getD j 0)) p1 p2 hu (fun j h1 h2 => by
    obtain ⟨t, et⟩ := at1 j h1
    obtain ⟨t', et'⟩ := at2 j h2
    rw [et, et']
    have z : (ns.getD j 0 == ms.getD j 0) = decide (ns.getD j 0 = ms.getD j 0) := by
      by_cases q : ns.getD j 0 = ms.getD j 0
      · rw [decide_eq_true q]; exact beq_iff_eq.mpr q
      · rw [decide_eq_false q]; exact beq_eq_false_iff_ne.mpr q
    rw [← z]
    exact SeqAt.EqAt.int_int _ _ _ _) (fun j h1 h2 _ => by
    obtain ⟨t, et⟩ := at1 j h1
    obtain ⟨t', et'⟩ := at2 j h2
    rw [et, et']
    exact Ob.RcOp.gt_int _ _ _ _)
  rw [e1, e2] at R
  have z : wpAny (model X.prog X.w) X.A (compareOp .Gt (.ref a) (.ref b)) (EP X pins σ Q) X.xe s := R X.prog X.w X.xe (EP X pins σ Q) ⟨.bl _, H, I, rfl, q⟩
  exact z
end L2
namespace Gx
open PySem L2
section
variable {K : KW} {F : Hp} {μ : List Addr} {H : Hp} {st : Store} {env : Env} {σ : L2.St}
/-- the numbers of a tuple of ints -/
def numsOf : List D → Option (List Int)
  | [] => some []
  | .int i :: r => (numsOf r).map (i :: ·)
  | _ => none
theorem numsOf_ok : ∀ {xs : List D} {ns : List Int}, numsOf xs = some ns → xs = ns.map D.int
  | [], ns, h => by cases h; rfl
  | .int b :: r, ns, h => by
    simp only [numsOf, Option.map_eq_some_iff] at h
    obtain ⟨cs, h, rfl⟩ := h
    rw [numsOf_ok h]; rfl
  | .non :: _, _, h | .bl _ :: _, _, h | .str _ :: _, _, h | .ty _ :: _, _, h | .tup _ :: _, _, h | .lst _ :: _, _, h | .dct _ _ :: _, _, h | .dtt _ _ :: _, _, h | .ref _ :: _, _, h | .fn _ :: _, _, h => by simp [numsOf] at h
def f2T (g : List Int → List Int → Bool) : Env → Store → R → R → Option (R × Store) := fun _ st x y => match asU x, asU y with
  | some xs, some ys => match numsOf xs, numsOf ys with
    | some ns, some ms => some (.d (.bl (g ns ms)), st)
    | _, _ => none
  | _, _ => none
theorem sim2T {g : List Int → List Int → Bool} {r : R2} (hr : ∀ (a b : Addr) (ns ms : List Int) (H : Hp) (Q : VK), SqT K H a (ns.map V.int) → SqT K H b (ms.map V.int) → Q (.bl (g ns ms)) H → r (.ref a) (.ref b) H Q) : Sim2 K r (f2T g) := by
  intro σ F μ H env st x y v u z st' Q w en rx ry h k
  unfold f2T at h
  split at h
  · rename_i xs ys e1 e2
    split at h
    · rename_i ns ms e3 e4
      cases h
      obtain ⟨a, vs, rfl, s1, q1⟩ := asU_ok w rx e1
      obtain ⟨b, us, rfl, s2, q2⟩ := asU_ok w ry e2
      rw [numsOf_ok e3] at q1
      rw [numsOf_ok e4] at q2
      rw [q1.ints] at s1
      rw [q2.ints] at s2
      exact hr a b ns ms H Q s1 s2 (k _ F μ H w Stp.refl rfl)
    · cases h
  · cases h
def gLe (ns ms : List Int) : Bool := Ob.lexAt (fun j => decide (ns.getD j 0 = ms.getD j 0)) (fun j => decide (ns.getD j 0 ≤ ms.getD j 0)) (decide (ns.length ≤ ms.length)) 0 (min ns.length ms.length)
def gGt (ns ms : List Int) : Bool := Ob.lexAt (fun j => decide (ns.getD j 0 = ms.getD j 0)) (fun j => decide (ms.getD j 0 < ns.getD j 0)) (decide (ns.length > ms.length)) 0 (min ns.length ms.length)
end
theorem hu65 {A : Around} {k : Nat} (hr : Room k A) : A.units + 65 < cLine := by
  have h := hr.un
  have h2 := hr.units
  omega
section
variable {X : Cx} {a b c e : Expr} {ma mb mc m : ME} {mt : MT} {pos : Pos} {es : List Expr} {mA : MA}
/-- comparisons of ints, of tuples of ints -/
def fLeU := fOr (f2I (fun _ _ => true) fun i j => .bl (decide (i ≤ j))) (f2T gLe)
def fGtU := fOr (f2I (fun _ _ => true) fun i j => .bl (decide (j < i))) (f2T gGt)
def fLtU := fOr (f2I (fun _ _ => true) fun i j => .bl (decide (i < j))) (f2T HT.lexLt)
theorem kLeU (hu : X.A.units < cLine) : CmpK X .LtE fLeU := ⟨_, OpR.or op_le (op_leT hu), (sim2I0 (g := fun i j => .bl (decide (i ≤ j))) (g' := fun i j => .bl (decide (i ≤ j))) fun _ _ _ _ => rfl).or (sim2T (r := rLeT X.kw) fun a b ns ms H Q h1 h2 q => ⟨a, b, ns, ms, rfl, rfl, h1, h2, q⟩)⟩
theorem kGtU (hu : X.A.units < cLine) : CmpK X .Gt fGtU := ⟨_, OpR.or op_gt (op_gtT hu), (sim2I0 (g := fun i j => .bl (decide (j < i))) (g' := fun i j => .bl (decide (j < i))) fun _ _ _ _ => rfl).or (sim2T (r := rGtT X.kw) fun a b ns ms H Q h1 h2 q => ⟨a, b, ns, ms, rfl, rfl, h1, h2, q⟩)⟩
theorem kLtU (hu : X.A.units < cLine) : CmpK X .Lt fLtU := ⟨_, OpR.or op_lt (op_ltT hu), (sim2I0 (g := fun i j => .bl (decide (i < j))) (g' := fun i j => .bl (decide (i < j))) fun _ _ _ _ => rfl).or (sim2T (r := rLtT X.kw) fun a b ns ms H Q h1 h2 q => ⟨a, b, ns, ms, rfl, rfl, h1, h2, q⟩)⟩
/-- a op b op' c -/
def mChain (f g : Env → Store → R → R → Option (R × Store)) (a b c : ME) : ME := fun env st => match a env st with
  | some (x, st1) => match b env st1 with
    | some (y, st2) => match f env st2 x y with
      | some (.d (.bl true), st3) => match c env st3 with
        | some (z, st4) => g env st4 y z
        | none => none
      | some (.d (.bl false), st3) => some (.d (.bl false), st3)
      | _ => none
    | none => none
  | none => none
theorem simChain {K : KW} {ta tb tc : TE} {r r' : R2} {f g} (ha : SimE K ta ma) (hb : SimE K tb mb) (hc : SimE K tc mc) (hr : Sim2 K r f) (hr' : Sim2 K r' g) : SimE K (tChain r r' ta tb tc) (mChain f g ma mb mc) := by
  intro σ F μ H env st z st' Q w en h k
  unfold mChain at h
  split at h
  · rename_i x st1 e1
    split at h
    · rename_i y st2 e2
      refine ha σ F μ H env st x st1 _ w en e1 fun v F1 μ1 H1 w1 s1 r1 => ?_
      refine hb σ F1 μ1 H1 env st1 y st2 _ w1 (en.step s1) e2 fun u F2 μ2 H2 w2 s2 r2 => ?_
      have en2 := (en.step s1).step s2
      split at h
      · rename_i st3 e3
        refine hr σ F2 μ2 H2 env st2 x y v u _ st3 _ w2 en2 (r1.step s2) r2 e3 fun v' F3 μ3 H3 w3 s3 r3 => ⟨true, r3, ?_⟩
        rw [if_pos rfl]
        split at h
        · rename_i z' st4 e4
          refine hc σ F3 μ3 H3 env st3 z' st4 _ w3 (en2.step s3) e4 fun q F4 μ4 H4 w4 s4 r4 => ?_
          exact hr' σ F4 μ4 H4 env st4 y z' u q z st' Q w4 ((en2.step s3).step s4) ((r2.step s3).step s4) r4 h fun v' F5 μ5 H5 w5 s5 r5 => k v' F5 μ5 H5 w5 ((((s1.trans s2).trans s3).trans s4).trans s5) r5
        · cases h
      · rename_i st3 e3
        cases h
        refine hr σ F2 μ2 H2 env st2 x y v u _ _ _ w2 en2 (r1.step s2) r2 e3 fun v' F3 μ3 H3 w3 s3 r3 => ⟨false, r3, ?_⟩
        rw [if_neg Bool.false_ne_true]
        exact k _ F3 μ3 H3 w3 ((s1.trans s2).trans s3) rfl
      · cases h
    · cases h
  · cases h
theorem xchain {op op' : CmpOp} {f g} (k : CmpK X op f) (k' : CmpK X op' g) (ha : XE X a ma) (hb : XE X b mb) (hc : XE X c mc) (hm : lastMarks [op, op'] [b, c] = false := by with_unfolding_all rfl) : XE X (.Compare a [op, op'] [b, c] pos) (mChain f g ma mb mc) := by
  obtain ⟨r, h1, h2⟩ := k
  obtain ⟨r', h1', h2'⟩ := k'
  obtain ⟨ta, pa, sa⟩ := ha
  obtain ⟨tb, pb, sb⟩ := hb
  obtain ⟨tc, pc, sc⟩ := hc
  exact ⟨_, pe_chain h1 h1' pa pb pc hm, simChain sa sb sc h2 h2'⟩
theorem xchaint {op op' : CmpOp} {f g} (k : CmpK X op f) (k' : CmpK X op' g) (ha : XE X a ma) (hb : XE X b mb) (hc : XE X c mc) (hm : lastMarks [op, op'] [b, c] = false := by with_unfolding_all rfl) : XT X (.Compare a [op, op'] [b, c] pos) (mTest (mChain f g ma mb mc)) := by
  obtain ⟨r, h1, h2⟩ := k
  obtain ⟨r', h1', h2'⟩ := k'
  obtain ⟨ta, pa, sa⟩ := ha
  obtain ⟨tb, pb, sb⟩ := hb
  obtain ⟨tc, pc, sc⟩ := hc
  exact ⟨_, pt_chain h1 h1' pa pb pc hm, simTest (simChain sa sb sc h2 h2')⟩
/-- x in a list of data; in a dict -/
def listP (env : Env) (st : Store) (r : R) : Option (List PyData) := match asL env st r with | some xs => toPs (dr2 st) xs | none => none
theorem listP_ok {K : KW} {F : Hp} {μ : List Addr} {H : Hp} {st : Store} {env : Env} {σ : L2.St} {r : R} {v : V} {ps : List PyData} (w : Wd K F μ H st) (en : EnvOk K F μ H env σ) (q : RRep K F μ env σ r v) (h : listP env st r = some ps) : Dp K H v (.list ps) := by
  unfold listP at h
  split at h
  · rename_i xs e
    obtain ⟨a, vs, rfl, s, q⟩ := asL_ok w en q e
    exact .lst s (toPs_ok w (dr2_ok w) _ _ _ q h)
  · cases h
def f2In (neg : Bool) : Env → Store → R → R → Option (R × Store) := fun env st x y => match toPR env st x, listP env st y with
  | some p, some ps => if SeqAt.shaped p && SeqAt.shaped (.list ps) then some (.d (.bl (if neg then !(ps.any fun z => PyData.eqv z p) else ps.any fun z => PyData.eqv z p)), st) else none
  | _, _ => none
theorem sim2In {K : KW} : Sim2 K (rInD K) (f2In false) := by
  intro σ F μ H env st x y v u z st' Q w en rx ry h k
  unfold f2In at h
  split at h
  · rename_i p q e1 e2
    split at h
    · rename_i hs
      rw [Bool.and_eq_true] at hs
      cases h
      exact ⟨p, q, toPR_ok w en rx e1, listP_ok w en ry e2, hs.1, hs.2, k _ F μ H w Stp.refl rfl⟩
    · cases h
  · cases h
theorem sim2NotIn {K : KW} : Sim2 K (rNotInD K) (f2In true) := by
  intro σ F μ H env st x y v u z st' Q w en rx ry h k
  unfold f2In at h
  split at h
  · rename_i p q e1 e2
    split at h
    · rename_i hs
      rw [Bool.and_eq_true] at hs
      cases h
      exact ⟨p, q, toPR_ok w en rx e1, listP_ok w en ry e2, hs.1, hs.2, k _ F μ H w Stp.refl rfl⟩
    · cases h
  · cases h
def f2InK (neg : Bool) : Env → Store → R → R → Option (R × Store) := fun env st x y => match x, asK env st y with
  | .d d, some kvs => match keyOf d with
    | some k => some (.d (.bl (if neg then !(valD kvs k).isSome else (valD kvs k).isSome)), st)
    | none => none
  | _, _ => none
theorem sim2InK {K : KW} (neg : Bool) : Sim2 K (fun y x H Q => ∃ a o, x = .ref a ∧ DGet H a y o ∧ Q (.bl (if neg then !o.isSome else o.isSome)) H) (f2InK neg) := by
  intro σ F μ H env st x y v u z st' Q w en rx ry h k
  unfold f2InK at h
  split at h
  · rename_i d kvs e1
    split at h
    · rename_i kk e2
      cases h
      obtain ⟨a, vs, rfl, s, q⟩ := asK_ok w en ry e1
      have hv := RepKV.val kk q
      refine ⟨a, valV vs kk, rfl, .inl ⟨vs, kk, s, keyOf_ok e2 rx, rfl⟩, k _ F μ H w Stp.refl ?_⟩
      show V.bl _ = V.bl _
      cases hd : valD kvs kk with
      | none => rw [hv.2 hd]; cases neg <;> rfl
      | some d' => obtain ⟨v', h1, _⟩ := hv.1 d' hd; rw [h1]; cases neg <;> rfl
    · cases h
  · cases h
theorem xin (hu : X.A.units + 65 < cLine) (ha : XE X a ma) (hb : XE X b mb) (h1 : behindInMarks .In b = false := by rfl) : XE X (.Compare a [.In] [b] pos) (m2 ma mb (fOr (f2In false) (f2InK false))) := by
  obtain ⟨ta, pa, sa⟩ := ha
  obtain ⟨tb, pb, sb⟩ := hb
  exact ⟨_, PE.or (pe_cmpR (op_inD hu) pa pb h1) (pe_cmp (pc_din (by omega) pa pb) h1), simOr2 (sim2 sa sb sim2In) (sim2 (r := fun y x H Q => ∃ a o, x = .ref a ∧ DGet H a y o ∧ Q (.bl o.isSome) H) sa sb (sim2InK false))⟩
theorem xnotin (hu : X.A.units + 65 < cLine) (ha : XE X a ma) (hb : XE X b mb) (h1 : behindInMarks .NotIn b = false := by rfl) : XE X (.Compare a [.NotIn] [b] pos) (m2 ma mb (fOr (f2In true) (f2InK true))) := by
  obtain ⟨ta, pa, sa⟩ := ha
  obtain ⟨tb, pb, sb⟩ := hb
  exact ⟨_, PE.or (pe_cmpR (op_notInD hu) pa pb h1) (pe_cmp (pc_dnotin (by omega) pa pb) h1), simOr2 (sim2 sa sb sim2NotIn) (sim2 (r := fun y x H Q => ∃ a o, x = .ref a ∧ DGet H a y o ∧ Q (.bl (!o.isSome)) H) sa sb (sim2InK true))⟩
theorem PT.or {e : Expr} {t u : TT} (h : PT X e t) (h' : PT X e u) : PT X e (fun σ H Q => t σ H Q ∨ u σ H Q) := ⟨fun pins s σ H Q I q => q.elim (h.run pins s σ H Q I) (h'.run pins s σ H Q I)⟩
theorem mTest_or {m1 m2 m : ME} {K : KW} {t u : TT} (h1 : SimT K t (mTest m1)) (h2 : SimT K u (mTest m2)) (hm : ∀ env st z, m env st = some z → m1 env st = some z ∨ m2 env st = some z) : SimT K (fun σ H Q => t σ H Q ∨ u σ H Q) (mTest m) := by
  intro σ F μ H env st b st' Q w en e k
  unfold mTest at e
  split at e
  · rename_i b' s' e1
    cases e
    rcases hm _ _ _ e1 with q | q
    · exact .inl (h1 σ F μ H env st _ _ Q w en (by unfold mTest; rw [q]) k)
    · exact .inr (h2 σ F μ H env st _ _ Q w en (by unfold mTest; rw [q]) k)
  · cases e
theorem xint' (hu : X.A.units + 65 < cLine) (ha : XE X a ma) (hb : XE X b mb) (h1 : behindInMarks .In b = false := by rfl) : XT X (.Compare a [.In] [b] pos) (mTest (m2 ma mb (fOr (f2In false) (f2InK false)))) := by
  obtain ⟨ta, pa, sa⟩ := ha
  obtain ⟨tb, pb, sb⟩ := hb
  exact ⟨_, PT.or (pt_cmpR (op_inD hu) pa pb h1) (pt_cmp (pc_din (by omega) pa pb) h1), mTest_or (simTest (sim2 sa sb sim2In)) (simB (sim2 (r := fun y x H Q => ∃ a o, x = .ref a ∧ DGet H a y o ∧ Q (.bl o.isSome) H) sa sb (sim2InK false))) fun _ _ _ h => m2_or h⟩
theorem xnotint (hu : X.A.units + 65 < cLine) (ha : XE X a ma) (hb : XE X b mb) (h1 : behindInMarks .NotIn b = false := by rfl) : XT X (.Compare a [.NotIn] [b] pos) (mTest (m2 ma mb (fOr (f2In true) (f2InK true)))) := by
  obtain ⟨ta, pa, sa⟩ := ha
  obtain ⟨tb, pb, sb⟩ := hb
  exact ⟨_, PT.or (pt_cmpR (op_notInD hu) pa pb h1) (pt_cmp (pc_dnotin (by omega) pa pb) h1), mTest_or (simTest (sim2 sa sb sim2NotIn)) (simB (sim2 (r := fun y x H Q => ∃ a o, x = .ref a ∧ DGet H a y o ∧ Q (.bl (!o.isSome)) H) sa sb (sim2InK true))) fun _ _ _ h => m2_or h⟩
/-- x is None, x is not None -/
def f2Is (neg : Bool) : Env → Store → R → R → Option (R × Store) := fun _ st x y => match y with
  | .d .non => match x with
    | .d d => some (.d (.bl (if neg then !decide (d = .non) else decide (d = .non))), st)
    | .loc _ => some (.d (.bl neg), st)
  | _ => none
theorem rep_non {K : KW} {F : Hp} {μ : List Addr} {d : D} {v : V} (r : Rep K F μ d v) : decide (v = V.non) = decide (d = D.non) := by
  cases d <;> simp only [Rep] at r <;> (try obtain ⟨_, _, rfl, _⟩ := r) <;> (try obtain ⟨_, rfl, _⟩ := r) <;> (try subst r) <;> simp
theorem sim2Is {K : KW} : Sim2 K (fun x y H Q => y = .non ∧ Q (.bl (decide (x = .non))) H) (f2Is false) := by
  intro σ F μ H env st x y v u z st' Q w en rx ry h k
  unfold f2Is at h
  split at h
  · split at h
    · cases h
      exact ⟨ry, k _ F μ H w Stp.refl (by rw [rep_non rx]; rfl)⟩
    · cases h
      obtain ⟨a, rfl, _⟩ := rx
      exact ⟨ry, k _ F μ H w Stp.refl rfl⟩
  · cases h
theorem sim2IsNot {K : KW} : Sim2 K (fun x y H Q => y = .non ∧ Q (.bl (!decide (x = .non))) H) (f2Is true) := by
  intro σ F μ H env st x y v u z st' Q w en rx ry h k
  unfold f2Is at h
  split at h
  · split at h
    · cases h
      exact ⟨ry, k _ F μ H w Stp.refl (by rw [rep_non rx]; rfl)⟩
    · cases h
      obtain ⟨a, rfl, _⟩ := rx
      exact ⟨ry, k _ F μ H w Stp.refl rfl⟩
  · cases h
theorem kIs : CmpK X .Is (f2Is false) := ⟨_, op_isN, sim2Is⟩
theorem kIsNot : CmpK X .IsNot (f2Is true) := ⟨_, op_notN, sim2IsNot⟩
/-- constants of the module -/
theorem xglob {x : Str} {d : D} {v : V} {u : Value} {pos : Pos} (hg : Gl X x) (h : X.mg x = some u ∧ RelV v u ∧ ∀ F μ, Rep X.kw F μ d v) (hd : (x == ("__debug__" : Str)) = false := by decide) : XE X (.Name x pos) (mC d) :=
  ⟨_, pe_glob hg h.1 h.2.1 hd, simC h.2.2⟩
structure Cst (K : KW) (mg : Str → Option Value) (x : Str) (d : D) : Prop where
  h : ∃ v u, mg x = some u ∧ RelV v u ∧ ∀ F μ, Rep K F μ d v
theorem xcst {x : Str} {d : D} {pos : Pos} (c : Cst X.kw X.mg x d) (hg : Gl X x) (hd : (x == ("__debug__" : Str)) = false := by decide) : XE X (.Name x pos) (mC d) := by
  obtain ⟨v, u, h⟩ := c
  exact xglob hg h hd
/-- list(x): a new list -/
def m1F (a : ME) (f : Env → Store → R → Option SO) : MF := fun env st => match a env st with
  | some (x, st1) => match f env st1 x with
    | some so => some (so, st1)
    | none => none
  | none => none
def f1List : Env → Store → R → Option SO := fun env st x => match seqOf env st x with | some xs => some (.lst xs) | none => none
theorem xflist {x : Str} {p : Pos} (hg : Gl X x) (hm : X.mg x = none) (hv : bootBuiltins x = some (.type "list")) (ha : XE X e m) (hn : x ≠ "__name__" := by decide)
    (hdb : (x == ("__debug__" : Str)) = false := by decide) (he : starEach (e :: []) X.env = (false, eval e X.env) :: starEach [] X.env := by rfl) (hpl : (backTo pos (starEach [] X.env)).any (·.1) = false := by rfl) : XF X (.Call (.Name x p) [e] [] pos) (m1F m f1List) := by
  obtain ⟨t, pe, s⟩ := ha
  refine ⟨_, pe_callTy call_list_of hg hm hv (pa_cons pe pa_nil he) hn hdb he hpl, ?_⟩
  intro σ F μ H env st so st' Q w en h k
  unfold m1F at h
  split at h
  · rename_i x st1 e1
    split at h
    · rename_i so' e2
      cases h
      unfold f1List at e2
      split at e2
      · rename_i xs e3
        cases e2
        refine s σ F μ H env st _ _ _ w en e1 fun v F1 μ1 H1 w1 s1 r1 => ?_
        obtain ⟨a, vs, rfl, sq, q⟩ := seqOf_ok w1 (en.step s1) r1 e3
        exact ⟨a, vs, rfl, sq, fun p hp => k p (.lst vs) F1 μ1 _ (w1.lay0 hp) (s1.trans (Stp.lay0 hp)) (fresh_of s1 hp) (w1.Fnone hp) (w1.out hp) upd_same q⟩
      · cases e2
    · cases h
  · cases h
/-! ### {k: v, ..} -/
abbrev MPs := Env → Store → Option (List (Key × D) × Store)
/-- the pairs; the dict at p is known to nobody meanwhile -/
def SimPs (K : KW) (trs : List (TE × TE)) (m : MPs) : Prop :=
  ∀ (σ : L2.St) (F : Hp) (μ : List Addr) (H : Hp) (env : Env) (st : Store) (kvs : List (Key × D)) (st' : Store) (Q : List (V × V) → Hp → Prop), Wd K F μ H st → EnvOk K F μ H env σ → m env st = some (kvs, st') →
    (∀ ps F' μ' H', Wd K F' μ' H' st' → Stp F μ H F' μ' H' → (∃ qs, ps = qs.map (fun (kv : Key × V) => (kV kv.1, kv.2)) ∧ RepKV K F' μ' kvs qs) → Q ps H') → tPairs trs σ H Q
structure XPs (X : Cx) (pos : Pos) (ks : List (Option Expr)) (vs : List Expr) (m : MPs) : Prop where
  h : ∃ trs, PPs X pos ks vs trs ∧ SimPs X.kw trs m ∧ trs.length = ks.length
def mPsN : MPs := fun _ st => some ([], st)
def mPsC (k v : ME) (r : MPs) : MPs := fun env st => match k env st with
  | some (.d dk, st1) => match keyOf dk with
    | some kk => match v env st1 with
      | some (.d dv, st2) => match r env st2 with
        | some (kvs, st3) => some ((kk, dv) :: kvs, st3)
        | none => none
      | _ => none
    | none => none
  | _ => none
theorem xps_nil {pos : Pos} : XPs X pos [] [] mPsN := ⟨[], pps_nil, (by
  intro σ F μ H env st kvs st' Q w en e k
  cases e
  exact k [] F μ H w Stp.refl ⟨[], rfl, trivial⟩), rfl⟩
theorem xps_cons {pos : Pos} {k v : Expr} {mk mv : ME} {ks : List (Option Expr)} {vs : List Expr} {mr : MPs} (hk : XE X k mk) (hv : XE X v mv) (hr : XPs X pos ks vs mr) : XPs X pos (some k :: ks) (v :: vs) (mPsC mk mv mr) := by
  obtain ⟨tk, pk, sk⟩ := hk
  obtain ⟨tv, pv, sv⟩ := hv
  obtain ⟨tr, pr, sr, hl⟩ := hr
  refine ⟨_, pps_cons pk pv pr, ?_, by simp [hl]⟩
  intro σ F μ H env st kvs st' Q w en e k
  unfold mPsC at e
  split at e
  · rename_i dk st1 e1
    split at e
    · rename_i kk e2
      split at e
      · rename_i dv st2 e3
        split at e
        · rename_i kvs st3 e4
          cases e
          refine sk σ F μ H env st _ _ _ w en e1 fun v F1 μ1 H1 w1 s1 r1 => ?_
          refine sv σ F1 μ1 H1 env st1 _ _ _ w1 (en.step s1) e3 fun u F2 μ2 H2 w2 s2 r2 => ?_
          refine sr σ F2 μ2 H2 env st2 _ _ _ w2 ((en.step s1).step s2) e4 fun ps F3 μ3 H3 w3 s3 ⟨qs, e5, r3⟩ => ?_
          refine k _ F3 μ3 H3 w3 ((s1.trans s2).trans s3) ⟨(kk, u) :: qs, by rw [e5, keyOf_ok e2 r1]; rfl, rfl, s3.rep r2, r3⟩
        · cases e
      · cases e
    · cases e
  · cases e
def mergeD (kvs more : List (Key × D)) : List (Key × D) := more.foldl (fun acc kv => putD acc kv.1 kv.2) kvs
theorem RepKV.merge {K : KW} {F : Hp} {μ : List Addr} : ∀ {more : List (Key × D)} {rs : List (Key × V)} {kvs : List (Key × D)} {vs : List (Key × V)}, RepKV K F μ more rs → RepKV K F μ kvs vs → RepKV K F μ (mergeD kvs more) (mergeK vs rs)
  | [], [], _, _, _, q => q
  | p :: ps, r :: rs, kvs, vs, h, q => by
    have := RepKV.put p.1 h.2.1 q
    have e : mergeK vs (r :: rs) = mergeK (putK vs p.1 r.2) rs := by rw [h.1]; rfl
    rw [e]
    exact RepKV.merge (more := ps) (rs := rs) h.2.2 this
  | [], _ :: _, _, _, h, _ => h.elim
  | _ :: _, [], _, _, h, _ => h.elim
def mFDisp (m : MPs) : MF := fun env st => match m env st with
  | some (kvs, st1) => if kvs.length ≤ 15 then some (.dK (mergeD [] kvs), st1) else none
  | none => none
theorem xfdisp {ks : List (Option Expr)} {vs : List Expr} {mp : MPs} (h : XPs X pos ks vs mp) (hall : ks.all (·.isSome) = true) (hl : ks.length = vs.length) (h0 : ks ≠ []) (h15 : ks.length ≤ 15) : XF X (.Dict ks vs pos) (mFDisp mp) := by
  obtain ⟨tr, p, s, _⟩ := h
  refine ⟨_, pe_disp p hall hl h0 h15, ?_⟩
  intro σ F μ H env st so st' Q w en e k
  unfold mFDisp at e
  split at e
  · rename_i kvs st1 e1
    split at e
    · rename_i hz
      cases e
      intro p hp
      have s0 := Stp.lay0 (F := F) (μ := μ) (o := HO.dK []) hp
      have w0 := w.lay0 (o := HO.dK []) hp
      refine s σ F μ _ env st _ _ _ w0 (en.step s0) e1 fun ps F1 μ1 H1 w1 s1 ⟨qs, e5, r1⟩ => ?_
      have h1 := s1.frame p _ upd_same (w.out hp)
      have o1 := s1.out (w.Fnone hp) (w.out hp) (by rw [upd_same]; simp)
      refine ⟨h1, qs, e5, by rw [← RepKV.length r1]; exact hz, ?_⟩
      exact k p _ F1 μ1 _ (w1.poke o1.1 o1.2) ((s0.trans s1).poke hp) hp o1.1 o1.2 upd_same (RepKV.merge r1 (trivial : RepKV X.kw F1 μ1 [] []))
    · cases e
  · cases e
end
end Gx

set_option maxHeartbeats 2000000
namespace L2
open PySem PySem.Spec PyProof.Rows
open PySem.W (AllAlike Sortable dataLe EachIs sorted_data alike)
/-- sorted(xs): data that can be compared -/
def rSortDat (K : PySem.W.Frag) : List V → Hp → VK → Prop := fun vs H Q => ∃ (a : Addr) (xs : List (V × PyData)), vs = [V.ref a] ∧ SqL K H a (xs.map (·.1)) ∧ (∀ x ∈ xs, Dp K H x.1 x.2) ∧ AllAlike (xs.map (·.2)) ∧ Sortable (xs.map (·.2)) ∧ (∀ x ∈ xs, x.2.depth ≤ 60) ∧
  ∀ p : Addr, H p = none → Q (.ref p) (upd H p (.lst ((xs.mergeSort (dataLe false (·.2))).map (·.1))))
theorem each_vals {X : Cx} {pins : List (Addr × Obj)} {σ : L2.St} {H : Hp} {s : Shared} (I : Inv X pins σ H s) : ∀ (xs : List (V × PyData)) (us : List Value), Vals (xs.map (·.1)) us → (∀ x ∈ xs, Dp X.K H x.1 x.2) →
    EachIs (fun v (b : V × PyData) => RelV b.1 v) us xs ∧ EachIs (fun v (b : V × PyData) => ∃ as, Reads s.heap v b.2 as) us xs
  | [], us, r, _ => by
    rw [List.map_nil] at r
    cases r
    exact ⟨.nil, .nil⟩
  | x :: xs, us, r, h => by
    rw [List.map_cons] at r
    cases r with
    | cons h1 h2 =>
      obtain ⟨e1, e2⟩ := each_vals I xs _ h2 fun y hy => h y (by simp [hy])
      obtain ⟨as, hr⟩ := Dp.reads I x.2 x.1 _ (h x (by simp)) h1
      exact ⟨.cons h1 e1, .cons ⟨as, hr⟩ e2⟩
theorem vals_each : ∀ (xs : List (V × PyData)) (us : List Value), EachIs (fun v (b : V × PyData) => RelV b.1 v) us xs → Vals (xs.map (·.1)) us
  | [], _, h => by cases h; exact Paired.nil
  | x :: xs, _, h => by
    cases h with
    | cons h1 h2 => rw [List.map_cons]; exact Paired.cons h1 (vals_each xs _ h2)
theorem cr_sortDat {X : Cx} (hu : X.A.units + 65 < cLine) : CallR X (.builtin "sorted") (rSortDat X.K) := by
  intro pins s σ H vs us Q I r h
  obtain ⟨a, xs, rfl, hs, hd, hal, hk, hdp, q⟩ := h
  obtain ⟨its, rv, hl, hz⟩ := I.list hs
  rw [Vals.ref1 r]
  obtain ⟨e1, e2⟩ := each_vals I xs its rv hd
  rw [List.length_map] at hz
  refine sorted_data (bs := xs) (enc := fun b => b.2) hl.isList e1 e2 hal hk hz (fun b hb => by have := hdp b hb; omega) fun out ho eo => ?_
  obtain ⟨ep, he'⟩ := PyProof.Rows.sortedAll_at s.heap its out.toArray
  have hlen : ((xs.mergeSort (dataLe false (·.2))).map (·.1)).length ≤ sizeLine := by
    rw [List.length_map, List.length_mergeSort]
    exact hz
  exact ⟨.ref _, upd H (s.heap.objs.size + 1) (.lst ((xs.mergeSort (dataLe false (·.2))).map (·.1))), I.laid (t' := s.toks) (fun _ _ => PyProof.Rows.sortedAll_old) (Nat.le_succ _) ⟨hlen, out, ep, vals_each _ _ eo, he'⟩, rfl, q _ (I.hok.fresh (Nat.le_succ _))⟩
end L2
namespace Gx
open PySem L2
open PySem.W (AllAlike Sortable dataLe EachIs sorted_data alike)
section
variable {X : Cx} {a b c e : Expr} {ma mb mc m : ME} {mt : MT} {pos : Pos} {es : List Expr} {mA : MA}
/-! ### sorted(xs) -/
def isT1 : PyData → Bool
  | .tuple (_ :: _) => true
  | _ => false
def isPl : PyData → Bool
  | .none => false
  | .tuple _ => false
  | _ => true
def sortOk (ps : List PyData) : Bool := ps.all (fun d => ps.all fun d' => alike d d') && (ps.all isT1 || ps.all isPl) && ps.all fun d => decide (d.depth ≤ 60)
theorem sortOk_ok {ps : List PyData} (h : sortOk ps = true) : AllAlike ps ∧ Sortable ps ∧ ∀ d ∈ ps, d.depth ≤ 60 := by
  unfold sortOk at h
  simp only [Bool.and_eq_true, Bool.or_eq_true, List.all_eq_true, decide_eq_true_eq] at h
  refine ⟨fun d hd d' hd' => h.1.1 d hd d' hd', ?_, h.2⟩
  rcases h.1.2 with h1 | h1
  · refine .inl fun d hd => ?_
    have := h1 d hd
    unfold isT1 at this
    split at this
    · exact ⟨_, _, rfl⟩
    · cases this
  · refine .inr fun d hd => ?_
    have := h1 d hd
    unfold isPl at this
    refine ⟨(fun e => by subst e; cases this), (fun xs e => by subst e; cases this)⟩
/-- the three views of a list: data, values, the model's data -/
theorem three {K : KW} {F : Hp} {μ : List Addr} {H : Hp} {st : Store} (w : Wd K F μ H st) : ∀ (ds : List D) (vs : List V) (ps : List PyData), Reps K F μ ds vs → toPs dr0 ds = some ps →
    ∃ T : List (D × V × PyData), T.map (·.1) = ds ∧ T.map (·.2.1) = vs ∧ T.map (·.2.2) = ps ∧ ∀ t ∈ T, Rep K F μ t.1 t.2.1 ∧ Dp K H t.2.1 t.2.2
  | [], [], ps, _, h => by
    simp only [toPs] at h; cases h
    exact ⟨[], rfl, rfl, rfl, by simp⟩
  | d :: ds, v :: vs, ps, r, h => by
    simp only [toPs] at h
    split at h
    · rename_i p e
      rw [Option.map_eq_some_iff] at h
      obtain ⟨qs, h, rfl⟩ := h
      obtain ⟨T, h1, h2, h3, h4⟩ := three w ds vs qs r.2 h
      refine ⟨(d, v, p) :: T, by simp [h1], by simp [h2], by simp [h3], ?_⟩
      intro t ht
      rcases List.mem_cons.mp ht with rfl | ht
      · exact ⟨r.1, toP_ok w (fun _ _ _ _ h => by unfold dr0 at h; cases h) d v p r.1 e⟩
      · exact h4 t ht
    · cases h
  | [], _ :: _, _, r, _ => r.elim
  | _ :: _, [], _, r, _ => r.elim
theorem reps_of {K : KW} {F : Hp} {μ : List Addr} : ∀ T : List (D × V × PyData), (∀ t ∈ T, Rep K F μ t.1 t.2.1) → Reps K F μ (T.map (·.1)) (T.map (·.2.1))
  | [], _ => trivial
  | t :: T, h => ⟨h t (by simp), reps_of T fun x hx => h x (by simp [hx])⟩
def intKey : Key → Option Int
  | .inl i => some i
  | .inr _ => none
def intKeys : List Key → Option (List Int)
  | [] => some []
  | k :: ks => match intKey k with
    | some i => match intKeys ks with
      | some js => some (i :: js)
      | none => none
    | none => none
theorem intKeys_ok : ∀ {ks : List Key} {is : List Int}, intKeys ks = some is → ks = is.map Sum.inl
  | [], is, h => by simp only [intKeys] at h; cases h; rfl
  | k :: ks, is, h => by
    simp only [intKeys] at h
    split at h
    · rename_i i e1
      split at h
      · rename_i js e2
        cases h
        rw [List.map_cons, ← intKeys_ok e2]
        cases k with
        | inl z => cases e1; rfl
        | inr z => cases e1
      · cases h
    · cases h
theorem repKV_keys {K : KW} {F : Hp} {μ : List Addr} {κ : Type} : ∀ {ps : List (κ × D)} {qs : List (κ × V)}, RepKV K F μ ps qs → ps.map (·.1) = qs.map (·.1)
  | [], [], _ => rfl
  | p :: ps, q :: qs, h => by rw [List.map_cons, List.map_cons, h.1, repKV_keys h.2.2]
  | [], _ :: _, h => h.elim
  | _ :: _, [], h => h.elim
theorem reps_ints {K : KW} {F : Hp} {μ : List Addr} : ∀ l : List Int, Reps K F μ (l.map D.int) (l.map V.int)
  | [] => trivial
  | _ :: l => ⟨rfl, reps_ints l⟩
def f1Sort : Env → Store → R → Option SO := fun env st x => match asL env st x with
  | some xs => match toPs dr0 xs with
    | some ps => if sortOk ps then some (.lst (((xs.zip ps).mergeSort (dataLe false (·.2))).map (·.1))) else none
    | none => none
  | none => match asK env st x with
    | some kvs => match intKeys (kvs.map (·.1)) with
      | some ks => if ks.length < 64 then some (.lst ((ks.mergeSort fun i j => decide (i ≤ j)).map .int)) else none
      | none => none
    | none => none
theorem zip_map {α β γ : Type} (f : α → β) (g : α → γ) : ∀ T : List α, (T.map f).zip (T.map g) = T.map fun t => (f t, g t)
  | [] => rfl
  | t :: T => by simp [zip_map f g T]
theorem xsorted (hc : X.calm = true) (hu : X.A.units + 65 < cLine) {x : Str} {p : Pos} (hg : Gl X x) (hm : X.mg x = none) (hv : bootBuiltins x = some (.builtin "sorted")) (ha : XE X e m) (hn : x ≠ "__name__" := by decide)
    (hdb : (x == ("__debug__" : Str)) = false := by decide) (he : starEach (e :: []) X.env = (false, eval e X.env) :: starEach [] X.env := by rfl) (hpl : (backTo pos (starEach [] X.env)).any (·.1) = false := by rfl) : XF X (.Call (.Name x p) [e] [] pos) (m1F m f1Sort) := by
  obtain ⟨t, pe, s⟩ := ha
  have cr : CallR X (.builtin "sorted") (fun vs H Q => rSortDat X.kw vs H Q ∨ ∃ (a : Addr) (kvs : List (Key × V)) (ks : List Int), vs = [.ref a] ∧ Rd H a (.dK kvs) ∧ kvs.map (·.1) = ks.map Sum.inl ∧ ks.length < 64 ∧
    ∀ (ys : List Int) (p : Addr), ys.Perm ks → ys.Pairwise (· ≤ ·) → H p = none → Q (.ref p) (upd H p (.lst (ys.map V.int)))) := by
    intro pins s σ H vs us Q I r h
    rcases h with h | h
    · exact cr_sortDat hu pins s σ H vs us Q I r h
    · exact call_sortedDI hc pins s σ H vs us Q I r h
  refine ⟨_, pe_callB cr hg hm hv (pa_cons pe pa_nil he) hn hdb he hpl, ?_⟩
  intro σ F μ H env st so st' Q w en h k
  unfold m1F at h
  split at h
  · rename_i x st1 e1
    split at h
    · rename_i so' e2
      cases h
      unfold f1Sort at e2
      refine s σ F μ H env st _ _ _ w en e1 fun v F1 μ1 H1 w1 s1 r1 => ?_
      split at e2
      · rename_i xs e3
        split at e2
        · rename_i ps e4
          split at e2
          · rename_i hso
            cases e2
            obtain ⟨a, vs, rfl, sq, q⟩ := asL_ok w1 (en.step s1) r1 e3
            obtain ⟨hal, hk, hdp⟩ := sortOk_ok hso
            obtain ⟨T, t1, t2, t3, t4⟩ := three w1 xs vs ps q e4
            have z1 : xs.zip ps = T.map fun t => (t.1, t.2.2) := by rw [← t1, ← t3]; exact zip_map _ _ T
            have z2 : (T.map fun t => (t.2.1, t.2.2)).map (·.1) = vs := by rw [List.map_map, ← t2]; rfl
            have z3 : (T.map fun t => (t.2.1, t.2.2)).map (·.2) = ps := by rw [List.map_map, ← t3]; rfl
            have m1' : ((xs.zip ps).mergeSort (dataLe false (·.2))).map (·.1) = (T.mergeSort (dataLe false (·.2.2))).map (·.1) := by
              rw [z1, ← List.map_mergeSort (f := fun t : D × V × PyData => (t.1, t.2.2)) (r := dataLe false (fun t : D × V × PyData => t.2.2)) (fun _ _ _ _ => rfl), List.map_map]
              rfl
            have m2' : ((T.map fun t => (t.2.1, t.2.2)).mergeSort (dataLe false (·.2))).map (·.1) = (T.mergeSort (dataLe false (·.2.2))).map (·.2.1) := by
              rw [← List.map_mergeSort (f := fun t : D × V × PyData => (t.2.1, t.2.2)) (r := dataLe false (fun t : D × V × PyData => t.2.2)) (fun _ _ _ _ => rfl), List.map_map]
              rfl
            refine .inl ⟨a, T.map fun t => (t.2.1, t.2.2), rfl, by rw [z2]; exact sq, ?_, by rw [z3]; exact hal, by rw [z3]; exact hk, ?_, fun p hp => ?_⟩
            · intro y hy
              obtain ⟨t, ht, rfl⟩ := List.mem_map.mp hy
              exact (t4 t ht).2
            · intro y hy
              exact hdp _ (by rw [← z3]; exact List.mem_map.mpr ⟨y, hy, rfl⟩)
            · rw [m2']
              refine k p (.lst _) F1 μ1 _ (w1.lay0 hp) (s1.trans (Stp.lay0 hp)) (fresh_of s1 hp) (w1.Fnone hp) (w1.out hp) upd_same ?_
              rw [m1']
              exact reps_of _ fun t ht => (t4 t ((List.mergeSort_perm T _).mem_iff.mp ht)).1
          · cases e2
        · cases e2
      · split at e2
        · rename_i kvs e3
          split at e2
          · rename_i ks e4
            split at e2
            · rename_i h64
              cases e2
              obtain ⟨a, qs, rfl, hd, hr⟩ := asK_ok w1 (en.step s1) r1 e3
              refine .inr ⟨a, qs, ks, rfl, hd, by rw [← repKV_keys hr]; exact intKeys_ok e4, h64, fun ys p hp1 hp2 hp => ?_⟩
              have e5 : ys = ks.mergeSort (fun x y => decide (x ≤ y)) := PySem.W.os_sorted_mergeSort hp1 hp2
              refine k p (.lst _) F1 μ1 _ (w1.lay0 hp) (s1.trans (Stp.lay0 hp)) (fresh_of s1 hp) (w1.Fnone hp) (w1.out hp) upd_same ?_
              rw [← e5]
              exact reps_ints ys
            · cases e2
          · cases e2
        · cases e2
    · cases h
  · cases h
end
end Gx

set_option maxHeartbeats 2000000
namespace Gx
open PySem L2
abbrev ML := Env → Store → Option (List D × Store)
/-- a list that is fresh or the def's own -/
def SimL (K : KW) (te : TE) (m : ML) : Prop :=
  ∀ (σ : L2.St) (F : Hp) (μ : List Addr) (H : Hp) (env : Env) (st : Store) (ds : List D) (st' : Store) (Q : VK), Wd K F μ H st → EnvOk K F μ H env σ → m env st = some (ds, st') →
    (∀ a vs F' μ' H', Wd K F' μ' H' st' → Stp F μ H F' μ' H' → a ∉ μ' → H' a = some (.lst vs) → Reps K F' μ' ds vs → Q (.ref a) H') → te σ H Q
structure XL (X : Cx) (e : Expr) (m : ML) : Prop where
  h : ∃ t, PE X e t ∧ SimL X.kw t m
section
variable {X : Cx} {a b c e : Expr} {ma mb mc m : ME} {mt : MT} {pos : Pos} {es : List Expr} {mA : MA} {mf mg : MF} {ml mr : ML}
def mLf (m : MF) : ML := fun env st => match m env st with
  | some (.lst ds, st1) => some (ds, st1)
  | _ => none
theorem xl_f (h : XF X e mf) : XL X e (mLf mf) := by
  obtain ⟨t, pe, s⟩ := h
  refine ⟨t, pe, ?_⟩
  intro σ F μ H env st ds st' Q w en e k
  unfold mLf at e
  split at e
  · rename_i ds' st1 e1
    cases e
    refine s σ F μ H env st _ _ _ w en e1 fun a u F' μ' H' w' s' h0 f0 n0 hu r => ?_
    cases u <;> first | exact r.elim | skip
    exact k a _ F' μ' H' w' s' n0 hu r
  · cases e
def mLo (i : Nat) : ML := fun env st => match env[i]? with
  | some (.own (.lst xs)) => some (xs, st)
  | _ => none
theorem xl_o {i : Nat} (h : XE X e (mVar i)) : XL X e (mLo i) := by
  obtain ⟨t, pe, s⟩ := h
  refine ⟨t, pe, ?_⟩
  intro σ F μ H env st ds st' Q w en e k
  unfold mLo at e
  split at e
  · rename_i xs e1
    cases e
    have e2 : mVar i env st = some (.loc i, st) := by unfold mVar; rw [e1]
    refine s σ F μ H env st _ _ _ w en e2 fun v F' μ' H' w' s' r => ?_
    obtain ⟨a, rfl, so, h1, h2⟩ := r
    obtain ⟨b, u, h3, h4, h5, h6, h7⟩ := (en.step s').slot i _ _ h1 h2
    cases h3
    rw [e1] at h1; cases h1
    cases u <;> first | exact h7.elim | skip
    exact k a _ F' μ' H' w' s' h5 h6 h7
  · cases e
def mFCat (a b : ML) : MF := fun env st => match a env st with
  | some (xs, st1) => match b env st1 with
    | some (ys, st2) => if xs.length + ys.length ≤ 16000000 then some (.lst (xs ++ ys), st2) else none
    | none => none
  | none => none
theorem xfcat (ha : XL X a ml) (hb : XL X b mr) : XF X (.BinOp a .Add b pos) (mFCat ml mr) := by
  obtain ⟨ta, pa, sa⟩ := ha
  obtain ⟨tb, pb, sb⟩ := hb
  refine ⟨_, pe_op op_cat pa pb, ?_⟩
  intro σ F μ H env st so st' Q w en e k
  unfold mFCat at e
  split at e
  · rename_i xs st1 e1
    split at e
    · rename_i ys st2 e2
      split at e
      · rename_i hl
        cases e
        refine sa σ F μ H env st _ _ _ w en e1 fun p vs F1 μ1 H1 w1 s1 n1 h1 r1 => ?_
        refine sb σ F1 μ1 H1 env st1 _ _ _ w1 (en.step s1) e2 fun q us F2 μ2 H2 w2 s2 n2 h2 r2 => ?_
        have r1' := s2.reps r1
        have h1' := s2.frame _ _ h1 n1
        refine ⟨p, q, vs, us, rfl, rfl, h1', h2, ?_, fun z hz => ?_⟩
        · rw [← r1'.length, ← r2.length]; exact small16 hl
        · exact k z (.lst (vs ++ us)) F2 μ2 _ (w2.lay0 hz) ((s1.trans s2).trans (Stp.lay0 hz)) (fresh_of (s1.trans s2) hz) (w2.Fnone hz) (w2.out hz) upd_same (r1'.append r2)
      · cases e
    · cases e
  · cases e
/-- xs[lo:hi] of a list: a fresh one -/
def mFSl (a : ME) (lo hi : MO) : MF := fun env st => match a env st with
  | some (x, st1) => match lo env st1 with
    | some (l, st2) => match hi env st2 with
      | some (u, st3) => match asL env st3 x with | some xs => some (.lst (cutD xs l u), st3) | none => none
      | none => none
    | none => none
  | none => none
theorem xfsl {p2 : Pos} {lo hi : Option Expr} {ml mh : MO} (ha : XE X a ma) (hl : XO X lo ml) (hh : XO X hi mh) : XF X (.Subscript a (.Slice lo hi none p2) pos) (mFSl ma ml mh) := by
  obtain ⟨ta, pa, sa⟩ := ha
  obtain ⟨tl, pl, sl⟩ := hl
  obtain ⟨th, ph, sh⟩ := hh
  refine ⟨_, pe_slice sl_list pa pl ph, ?_⟩
  intro σ F μ H env st r st' Q w en h k
  unfold mFSl at h
  split at h
  · rename_i x st1 e1
    split at h
    · rename_i l st2 e2
      split at h
      · rename_i u st3 e3
        refine sa σ F μ H env st x st1 _ w en e1 fun v F1 μ1 H1 w1 s1 r1 => ?_
        refine sl σ F1 μ1 H1 env st1 l st2 _ w1 (en.step s1) e2 fun F2 μ2 H2 w2 s2 => ?_
        refine sh σ F2 μ2 H2 env st2 u st3 _ w2 ((en.step s1).step s2) e3 fun F3 μ3 H3 w3 s3 => ?_
        have sA := (s1.trans s2).trans s3
        have r3 := (r1.step s2).step s3
        split at h
        · rename_i xs e4
          cases h
          obtain ⟨a, vs, e, s, q⟩ := asL_ok w3 (((en.step s1).step s2).step s3) r3 e4
          exact ⟨a, vs, e, s, fun p hp => k p (.lst (cutV vs l u)) F3 μ3 _ (w3.lay0 hp) (sA.trans (Stp.lay0 hp)) (fresh_of sA hp) (w3.Fnone hp) (w3.out hp) upd_same (cut_rep q)⟩
        · cases h
      · cases h
    · cases h
  · cases h
/-- xs[::-1] -/
def f1Rev : Env → Store → R → Option SO := fun env st x => match asL env st x with | some xs => some (.lst xs.reverse) | none => none
theorem reps_rev {K : KW} {F : Hp} {μ : List Addr} : ∀ {xs : List D} {vs : List V}, Reps K F μ xs vs → Reps K F μ xs.reverse vs.reverse
  | [], [], _ => trivial
  | x :: xs, v :: vs, h => by
    rw [List.reverse_cons, List.reverse_cons]
    exact (reps_rev h.2).append ⟨h.1, trivial⟩
  | [], _ :: _, h => h.elim
  | _ :: _, [], h => h.elim
theorem xfrev {k : Nat} {p1 p2 p3 : Pos} (ha : XE X a ma) : XF X (.Subscript a (.Slice none none (some (.UnaryOp .USub (.Constant (.int 1) k p1) p2)) p3) pos) (m1F ma f1Rev) := by
  obtain ⟨ta, pa, sa⟩ := ha
  refine ⟨_, pe_revL pa, ?_⟩
  intro σ F μ H env st so st' Q w en h k
  unfold m1F at h
  split at h
  · rename_i x st1 e1
    split at h
    · rename_i so' e2
      cases h
      unfold f1Rev at e2
      split at e2
      · rename_i xs e3
        cases e2
        refine sa σ F μ H env st _ _ _ w en e1 fun v F1 μ1 H1 w1 s1 r1 => ?_
        obtain ⟨a, vs, rfl, sq, q⟩ := asL_ok w1 (en.step s1) r1 e3
        exact ⟨a, vs, rfl, sq, fun p hp => k p (.lst vs.reverse) F1 μ1 _ (w1.lay0 hp) (s1.trans (Stp.lay0 hp)) (fresh_of s1 hp) (w1.Fnone hp) (w1.out hp) upd_same (reps_rev q)⟩
      · cases e2
    · cases h
  · cases h
/-- * of ints of at most a thousand bits each -/
def cMulX (i j : Int) : Bool := decide (i.natAbs < 2 ^ 1000) && decide (j.natAbs < 2 ^ 1000)
theorem cMulX_ok (i j : Int) (h : cMulX i j = true) : CMulX i j := by
  unfold cMulX at h
  rw [Bool.and_eq_true, decide_eq_true_eq, decide_eq_true_eq] at h
  exact mulx_ok h.1 h.2 (by decide)
end
end Gx
namespace Gx
open PySem L2
section
variable {X : Cx} {a b : Expr} {ma mb : ME} {pos : Pos}
def mMulX (a b : ME) : ME := m2 a b (f2I cMulX fun i j => .int (i * j))
theorem xmulX (ha : XE X a ma) (hb : XE X b mb) : XE X (.BinOp a .Mult b pos) (mMulX ma mb) := xop op_mulX (sim2I cMulX_ok fun _ _ _ _ => rfl) ha hb
end
end Gx

set_option maxHeartbeats 2000000
namespace L2
open PySem PySem.Spec PyProof.Rows
/-- two dicts of the same keys whose values are equal data -/
def DctSame (K : PySem.W.Frag) (H : Hp) (x y : V) : Prop := ∃ a b ks ls, x = .ref a ∧ y = .ref b ∧ Rd H a (.dK ks) ∧ Rd H b (.dK ls) ∧ ks.length = ls.length ∧ ∀ p ∈ ks, ∃ u d e, valV ls p.1 = some u ∧ Dp K H p.2 d ∧ Dp K H u e ∧ SeqAt.shaped d = true ∧ SeqAt.shaped e = true ∧ PyData.eqv d e = true
theorem hits_data {X : Cx} {pins : List (Addr × Obj)} {σ : St} {H : Hp} {s : Shared} (I : Inv X pins σ H s) (hu : X.A.units + 65 < cLine) {ls : List (Key × V)} {vb : List (Key × Value)} (rb : KV ls vb) {ks : List (Key × V)} {va : List (Key × Value)} (ra : KV ks va) :
    (∀ p ∈ ks, ∃ u d e, valV ls p.1 = some u ∧ Dp X.K H p.2 d ∧ Dp X.K H u e ∧ SeqAt.shaped d = true ∧ SeqAt.shaped e = true ∧ PyData.eqv d e = true) → PySem.W.KeqHits X.A.in1 s vb va true := by
  unfold KV at ra
  induction ra with
  | nil => intro _; exact .nil
  | @cons p q ps qs h t ih =>
    intro hp
    obtain ⟨h1, h2⟩ := h
    obtain ⟨u, d, e, hv, hd, he, sd, se, hq⟩ := hp p List.mem_cons_self
    have rr : RelO (some u) (valueAt vb p.1) := by rw [← hv]; exact rb.val p.1
    obtain ⟨y, hy, ry⟩ := rr.some_of
    obtain ⟨k, v⟩ := q
    have h1' : p.1 = k := h1
    rw [h1'] at hy
    obtain ⟨as, r1⟩ := Dp.reads I d _ _ hd h2
    obtain ⟨bs, r2⟩ := Dp.reads I e _ _ he ry
    have eq := PySem.W.keq_at (A := X.A) r1 r2 sd se (by show X.A.units + 1 + 64 < cLine; omega)
    rw [hq] at eq
    show PySem.W.KeqHits X.A.in1 s vb ((k, v) :: qs) (true && true)
    exact .hit hy eq (ih fun p' hm => hp p' (List.mem_cons_of_mem _ hm))
theorem op_eqDct {X : Cx} (hu : X.A.units + 65 < cLine) : OpR X (compareOp .Eq) (fun x y H Q => DctSame X.K H x y ∧ Q (.bl true) H) := by
  intro pins s σ H x y v u Q I rx ry h
  obtain ⟨⟨a, b, ks, ls, rfl, rfl, ea, eb, hlen, hp⟩, q⟩ := h
  obtain rfl : v = Value.ref a := rx
  obtain rfl : u = Value.ref b := ry
  obtain ⟨_, ya, va, ra, da⟩ := dk_rd I.hok ea
  obtain ⟨_, yb, vb, rb, db⟩ := dk_rd I.hok eb
  have hl : va.length = vb.length := by rw [← ra.length, ← rb.length]; exact hlen
  exact PySem.W.keq_eq (knd := mixKind X.prog X.w) (r := true) ya yb da db (by omega) (fun _ => hits_data I hu rb ra hp) (fin_bl I q (by simp [hl]))
theorem op_neDct {X : Cx} (hu : X.A.units + 65 < cLine) : OpR X (compareOp .NotEq) (fun x y H Q => DctSame X.K H x y ∧ Q (.bl false) H) := by
  intro pins s σ H x y v u Q I rx ry h
  obtain ⟨⟨a, b, ks, ls, rfl, rfl, ea, eb, hlen, hp⟩, q⟩ := h
  obtain rfl : v = Value.ref a := rx
  obtain rfl : u = Value.ref b := ry
  obtain ⟨_, ya, va, ra, da⟩ := dk_rd I.hok ea
  obtain ⟨_, yb, vb, rb, db⟩ := dk_rd I.hok eb
  have hl : va.length = vb.length := by rw [← ra.length, ← rb.length]; exact hlen
  exact PySem.W.keq_ne (knd := mixKind X.prog X.w) (r := true) ya yb da db (by omega) (fun _ => hits_data I hu rb ra hp) (fin_bl I q (by simp [hl]))
end L2
namespace Gx
open PySem L2
section
variable {X : Cx} {a b c e : Expr} {ma mb mc m : ME} {mt : MT} {pos : Pos} {es : List Expr} {mA : MA}
/-! ### {}, dict(d) -/
def mFD0 : MF := fun _ st => some (.dK [], st)
theorem xfd0 : XF X (.Dict [] [] pos) mFD0 := by
  refine ⟨_, pe_dnewK, ?_⟩
  intro σ F μ H env st so st' Q w en h k
  cases h
  exact fun p hp => k p (.dK []) F μ _ (w.lay0 hp) (Stp.lay0 hp) hp (w.Fnone hp) (w.out hp) upd_same trivial
def f1Dict : Env → Store → R → Option SO := fun env st x => match asK env st x with | some kvs => some (.dK kvs) | none => none
theorem xfdict {x : Str} {p : Pos} (hg : Gl X x) (hm : X.mg x = none) (hv : bootBuiltins x = some (.type "dict")) (ha : XE X e m) (hn : x ≠ "__name__" := by decide)
    (hdb : (x == ("__debug__" : Str)) = false := by decide) (he : starEach (e :: []) X.env = (false, eval e X.env) :: starEach [] X.env := by rfl) (hpl : (backTo pos (starEach [] X.env)).any (·.1) = false := by rfl) : XF X (.Call (.Name x p) [e] [] pos) (m1F m f1Dict) := by
  obtain ⟨t, pe, s⟩ := ha
  refine ⟨_, pe_callTy call_dictD hg hm hv (pa_cons pe pa_nil he) hn hdb he hpl, ?_⟩
  intro σ F μ H env st so st' Q w en h k
  unfold m1F at h
  split at h
  · rename_i x st1 e1
    split at h
    · rename_i so' e2
      cases h
      unfold f1Dict at e2
      split at e2
      · rename_i xs e3
        cases e2
        refine s σ F μ H env st _ _ _ w en e1 fun v F1 μ1 H1 w1 s1 r1 => ?_
        obtain ⟨a, vs, rfl, sq, q⟩ := asK_ok w1 (en.step s1) r1 e3
        exact ⟨a, vs, rfl, sq, fun p hp => k p (.dK vs) F1 μ1 _ (w1.lay0 hp) (s1.trans (Stp.lay0 hp)) (fresh_of s1 hp) (w1.Fnone hp) (w1.out hp) upd_same q⟩
      · cases e2
    · cases h
  · cases h
/-! ### d.get(k, z) -/
def mGet2 (mo mk md : ME) : ME := fun env st => match mo env st with
  | some (x, st1) => match asK env st1 x with
    | some _ => match mk env st1 with
      | some (.d k, st2) => match md env st2 with
        | some (.d z, st3) => match asK env st3 x with
          | some kvs => match keyOf k with
            | some kk => some (.d ((valD kvs kk).getD z), st3)
            | none => none
          | none => none
        | _ => none
      | _ => none
    | none => none
  | none => none
theorem xget2 {apos : Pos} (hu : X.A.units + 65 < cLine) (ho : XE X a ma) (hk : XE X b mb) (hz : XE X c mc) (m : M2 X a "get" apos b c pos) : XE X (.Call (.Attribute a "get" apos) [b, c] [] pos) (mGet2 ma mb mc) := by
  obtain ⟨ta, pa, sa⟩ := ho
  obtain ⟨tb, pb, sb⟩ := hk
  obtain ⟨tc, pc, sc⟩ := hz
  refine ⟨_, pe_dget2 (by omega) pa pb pc m, ?_⟩
  intro σ F μ H env st r st' Q w en h k
  unfold mGet2 at h
  split at h
  · rename_i x st1 e1
    split at h
    · rename_i kvs0 e2
      split at h
      · rename_i dk st2 e3
        split at h
        · rename_i dz st3 e4
          split at h
          · rename_i kvs e5
            split at h
            · rename_i kk e6
              cases h
              refine sa σ F μ H env st _ _ _ w en e1 fun v F1 μ1 H1 w1 s1 r1 => ?_
              obtain ⟨p, vs0, rfl, sq0, q0⟩ := asK_ok w1 (en.step s1) r1 e2
              refine ⟨p, rfl, .inl ⟨vs0, sq0⟩, ?_⟩
              refine sb σ F1 μ1 H1 env st1 _ _ _ w1 (en.step s1) e3 fun vk F2 μ2 H2 w2 s2 r2 => ?_
              refine sc σ F2 μ2 H2 env st2 _ _ _ w2 ((en.step s1).step s2) e4 fun vz F3 μ3 H3 w3 s3 r3 => ?_
              have rx := (r1.step s2).step s3
              obtain ⟨p', vs, ep, sq, q⟩ := asK_ok w3 (((en.step s1).step s2).step s3) rx e5
              cases ep
              have hv := RepKV.val kk q
              refine ⟨valV vs kk, .inl ⟨vs, kk, sq, keyOf_ok e6 (r2.step s3), rfl⟩, k _ F3 μ3 H3 w3 ((s1.trans s2).trans s3) ?_⟩
              cases hd : valD kvs kk with
              | none => rw [hv.2 hd]; exact r3
              | some d' => obtain ⟨v', h1, h2⟩ := hv.1 d' hd; rw [h1]; exact h2
            · cases h
          · cases h
        · cases h
      · cases h
    · cases h
  · cases h
end
end Gx
namespace Gx
open PySem L2
/-! ### == of dicts of data -/
def eqAtK (st : Store) (ls : List (Key × D)) (p : Key × D) : Bool := match valD ls p.1 with
  | some u => match toP (dr2 st) p.2 with
    | some d => match toP (dr2 st) u with
      | some e => SeqAt.shaped d && SeqAt.shaped e && PyData.eqv d e
      | none => false
    | none => false
  | none => false
def f2EqK (neg : Bool) : Env → Store → R → R → Option (R × Store) := fun env st x y => match asK env st x with
  | some ks => match asK env st y with
    | some ls => if ks.length = ls.length ∧ ks.all (eqAtK st ls) = true then some (.d (.bl (!neg)), st) else none
    | none => none
  | none => none
theorem repKV_mem {K : KW} {F : Hp} {μ : List Addr} {κ : Type} : ∀ {ps : List (κ × D)} {qs : List (κ × V)}, RepKV K F μ ps qs → ∀ q ∈ qs, ∃ p ∈ ps, p.1 = q.1 ∧ Rep K F μ p.2 q.2
  | [], [], _, q, h => by cases h
  | p :: ps, q :: qs, h, z, hz => by
    rcases List.mem_cons.mp hz with rfl | hz
    · exact ⟨p, by simp, h.1, h.2.1⟩
    · obtain ⟨y, h1, h2⟩ := repKV_mem h.2.2 z hz
      exact ⟨y, by simp [h1], h2⟩
  | [], _ :: _, h, _, _ => h.elim
  | _ :: _, [], h, _, _ => h.elim
theorem dct_same {K : KW} {F : Hp} {μ : List Addr} {H : Hp} {st : Store} {env : Env} {σ : L2.St} {x y : R} {v u : V} {ks ls : List (Key × D)} (w : Wd K F μ H st) (en : EnvOk K F μ H env σ) (rx : RRep K F μ env σ x v) (ry : RRep K F μ env σ y u)
    (h1 : asK env st x = some ks) (h2 : asK env st y = some ls) (hl : ks.length = ls.length) (ha : ks.all (eqAtK st ls) = true) : DctSame K H v u := by
  obtain ⟨a, vs, rfl, sa, qa⟩ := asK_ok w en rx h1
  obtain ⟨b, us, rfl, sb, qb⟩ := asK_ok w en ry h2
  refine ⟨a, b, vs, us, rfl, rfl, sa, sb, by rw [← RepKV.length qa, ← RepKV.length qb]; exact hl, fun q hq => ?_⟩
  obtain ⟨p, hp, hk, hr⟩ := repKV_mem qa q hq
  have e := List.all_eq_true.mp ha p hp
  unfold eqAtK at e
  split at e
  · rename_i d' e1
    split at e
    · rename_i d e2
      split at e
      · rename_i f e3
        simp only [Bool.and_eq_true] at e
        obtain ⟨v', h3, h4⟩ := (RepKV.val p.1 qb).1 d' e1
        rw [hk] at h3
        exact ⟨v', d, f, h3, toP_ok w (dr2_ok w) _ _ _ hr e2, toP_ok w (dr2_ok w) _ _ _ h4 e3, e.1.1, e.1.2, e.2⟩
      · cases e
    · cases e
  · cases e
theorem sim2EqK {K : KW} : Sim2 K (fun x y H Q => DctSame K H x y ∧ Q (.bl true) H) (f2EqK false) := by
  intro σ F μ H env st x y v u z st' Q w en rx ry h k
  unfold f2EqK at h
  split at h
  · rename_i ks e1
    split at h
    · rename_i ls e2
      split at h
      · rename_i hc
        cases h
        exact ⟨dct_same w en rx ry e1 e2 hc.1 hc.2, k _ F μ H w Stp.refl rfl⟩
      · cases h
    · cases h
  · cases h
theorem sim2NeK {K : KW} : Sim2 K (fun x y H Q => DctSame K H x y ∧ Q (.bl false) H) (f2EqK true) := by
  intro σ F μ H env st x y v u z st' Q w en rx ry h k
  unfold f2EqK at h
  split at h
  · rename_i ks e1
    split at h
    · rename_i ls e2
      split at h
      · rename_i hc
        cases h
        exact ⟨dct_same w en rx ry e1 e2 hc.1 hc.2, k _ F μ H w Stp.refl rfl⟩
      · cases h
    · cases h
  · cases h
theorem kEqA {X : Cx} (hu : X.A.units + 65 < cLine) : CmpK X .Eq (fOr (f2Eq false) (f2EqK false)) := ⟨_, OpR.or (op_eqD (by omega)) (op_eqDct hu), sim2EqD.or sim2EqK⟩
theorem kNeA {X : Cx} (hu : X.A.units + 65 < cLine) : CmpK X .NotEq (fOr (f2Eq true) (f2EqK true)) := ⟨_, OpR.or (op_neD (by omega)) (op_neDct hu), sim2NeD.or sim2NeK⟩
end Gx

set_option maxHeartbeats 2000000
namespace Gx
open PySem L2
/-! ### dict comprehensions -/
def dcGo (j : Nat) (t : MT) (ek ev : ME) (env : Env) (chk : Store → Bool) : List D → Store → List (Key × D) → Option (List (Key × D) × Store)
  | [], st, acc => if chk st then some (acc, st) else none
  | x :: xs, st, acc => if chk st then
      match t (env.set j (.val x)) st with
      | some (true, st1) => match ek (env.set j (.val x)) st1 with
        | some (.d dk, st2) => match keyOf dk with
          | some kk => match ev (env.set j (.val x)) st2 with
            | some (.d d, st3) => if acc.length < 16000000 then dcGo j t ek ev env chk xs st3 (putD acc kk d) else none
            | _ => none
          | none => none
        | _ => none
      | some (false, st1) => dcGo j t ek ev env chk xs st1 acc
      | none => none
    else none
def mDc (mi : MI) (j : Nat) (t : MT) (ek ev : ME) (vs : List Nat) : MF := fun env st => match mi env st with
  | some (src, st1) => match srcItems env st1 src with
    | some xs => match dcGo j t ek ev (wipeE env vs) (fun st => decide (srcItems env st src = some xs)) xs st1 [] with
      | some (acc, st2) => some (.dK acc, st2)
      | none => none
    | none => none
  | none => none
theorem dc_by {J : It} {n : Nat} {g : TG} {tt : TT} {tk tv : TE} {vs : List Nat} {σ : L2.St} {H1 : Hp} {D : Addr} {Qd : Hp → Prop} (Pv : Nat → Hp → Prop) (h0 : Pv 0 (upd H1 D (.dK [])))
    (hs : ∀ i H, i < n → Pv i H → J.go i H ∧ ∀ x H', J.yld i H x H' → g x (L2.wipe σ vs) H' fun σ2 H2 => L2.wipe σ2 vs = L2.wipe σ vs ∧ tt σ2 H2 fun b H3 =>
      if b = true then tk σ2 H3 fun y H4 => tv σ2 H4 fun z H5 => ∃ kvs k, y = kV k ∧ H5 D = some (.dK kvs) ∧ kvs.length < sizeLine ∧ Pv (i + 1) (upd H5 D (.dK (putK kvs k z))) else Pv (i + 1) H3) (hd : ∀ H, Pv n H → J.stop n H ∧ Qd H) :
    ∃ W : Nat → Nat → Hp → Prop, (∃ m, W 0 m (upd H1 D (.dK []))) ∧ ∀ i m H, W i m H →
      (J.stop i H ∧ Qd H) ∨ (J.go i H ∧ ∃ Nx : Hp → Prop, (∀ H', Nx H' → ∃ m', m' < m ∧ W (i + 1) m' H') ∧ ∀ x H', J.yld i H x H' → g x (L2.wipe σ vs) H' fun σ2 H2 => L2.wipe σ2 vs = L2.wipe σ vs ∧ tt σ2 H2 fun b H3 =>
        if b = true then tk σ2 H3 fun y H4 => tv σ2 H4 fun z H5 => ∃ kvs k, y = kV k ∧ H5 D = some (.dK kvs) ∧ kvs.length < sizeLine ∧ Nx (upd H5 D (.dK (putK kvs k z))) else Nx H3) := by
  refine ⟨fun i m H => m = n - i ∧ i ≤ n ∧ Pv i H, ⟨n, by simp, Nat.zero_le _, h0⟩, ?_⟩
  rintro i m H ⟨rfl, hi, p⟩
  by_cases hlt : i < n
  · obtain ⟨h1, h2⟩ := hs i H hlt p
    exact .inr ⟨h1, Pv (i + 1), fun H' p' => ⟨n - (i + 1), by omega, rfl, hlt, p'⟩, h2⟩
  · have e : i = n := by omega
    subst e
    exact .inl (hd H p)
theorem simDc {K : KW} {wi : TI} {mi : MI} {j : Nat} {tt : TT} {mt : MT} {tk tv : TE} {mk mv : ME} {vs : List Nat} (hi : SimI K wi mi) (ht : SimT K tt mt) (hk : SimE K tk mk) (hv : SimE K tv mv) (hj : j ∈ vs) : SimF K (tDc wi (gName j) tt tk tv vs) (mDc mi j mt mk mv vs) := by
  intro σ F μ H env st so st' Q w en e k
  unfold mDc at e
  split at e
  · rename_i src st1 e1
    split at e
    · rename_i xs e2
      split at e
      · rename_i acc st2 e3
        cases e
        refine hi σ F μ H env st src st1 _ w en e1 fun J F1 μ1 H1 w1 s1 hJ D hD => ?_
        have hD0 : H D = none := fresh_of s1 hD
        refine dc_by (n := xs.length) (fun i Hc => i ≤ xs.length ∧ ∃ F2 μ2 stc ac av, Wd K F2 μ2 Hc stc ∧ Stp F μ H F2 μ2 Hc ∧ Stp F1 μ1 H1 F2 μ2 Hc ∧ F2 D = none ∧ D ∉ μ2 ∧ Hc D = some (.dK av) ∧ RepKV K F2 μ2 ac av ∧
          dcGo j mt mk mv (wipeE env vs) (fun st => decide (srcItems env st src = some xs)) (xs.drop i) stc ac = some (acc, st')) ?_ ?_ ?_
        · refine ⟨Nat.zero_le _, F1, μ1, st1, [], [], w1.lay0 hD, s1.trans (Stp.lay0 hD), Stp.lay0 hD, w1.Fnone hD, w1.out hD, upd_same, trivial, ?_⟩
          simpa using e3
        · rintro i Hc hin ⟨_, F2, μ2, stc, ac, av, w2, s2, s2', f2, m2', hDc, r2, go⟩
          rw [List.drop_eq_getElem_cons hin] at go
          unfold dcGo at go
          split at go
          · rename_i hck
            have hck := of_decide_eq_true hck
            have en2 := en.step s2
            obtain ⟨vs2, ⟨a1, a2⟩, rr⟩ := srcAt w2 en2 (hJ.step s2') hck
            have hl := rr.length
            obtain ⟨g1, g2⟩ := a1 i (by omega)
            refine ⟨g1, fun x H' y => ?_⟩
            obtain ⟨eH, ex⟩ := g2 x H' y
            subst eH
            obtain ⟨d, ed, rd⟩ := rr.get' ex
            have ed' : xs[i] = d := by
              have := List.getElem?_eq_getElem hin
              rw [this] at ed; exact Option.some.inj ed
            rw [ed'] at go
            show L2.wipe ((L2.wipe σ vs).set j (some x)) vs = L2.wipe σ vs ∧ _
            refine ⟨wipe_set hj _, ?_⟩
            have enb : EnvOk K F2 μ2 H' ((wipeE env vs).set j (.val d)) ((L2.wipe σ vs).set j (some x)) := (en2.wipe vs).val j rd
            split at go
            · rename_i st3 e4
              refine ht _ F2 μ2 H' _ stc _ st3 _ w2 enb e4 fun F3 μ3 H3 w3 s3 => ?_
              rw [if_pos rfl]
              split at go
              · rename_i dk st4 e5
                split at go
                · rename_i kk e6
                  split at go
                  · rename_i d2 st5 e7
                    split at go
                    · rename_i hz
                      refine hk _ F3 μ3 H3 _ st3 _ st4 _ w3 (enb.step s3) e5 fun v F4 μ4 H4 w4 s4 r4 => ?_
                      refine hv _ F4 μ4 H4 _ st4 _ st5 _ w4 ((enb.step s3).step s4) e7 fun v5 F5 μ5 H5 w5 s5 r5 => ?_
                      have o3 := s3.out f2 m2' (by rw [hDc]; simp)
                      have hD3 := s3.frame D _ hDc m2'
                      have o4 := s4.out o3.1 o3.2 (by rw [hD3]; simp)
                      have hD4 := s4.frame D _ hD3 o3.2
                      have o5 := s5.out o4.1 o4.2 (by rw [hD4]; simp)
                      have hD5 := s5.frame D _ hD4 o4.2
                      have s25 := (s3.trans s4).trans s5
                      have rkv : RepKV K F5 μ5 ac av := RepKV.mono s25.fF s25.pre _ _ r2
                      refine ⟨av, kk, keyOf_ok e6 r4, hD5, ?_, hin, F5, μ5, st5, putD ac kk d2, putK av kk v5, w5.poke o5.1 o5.2, (s2.trans s25).poke hD0, (s2'.trans s25).poke hD, o5.1, o5.2, upd_same, RepKV.put kk r5 rkv, go⟩
                      rw [← RepKV.length r2, sizeLine_eq]; omega
                    · cases go
                  · cases go
                · cases go
              · cases go
            · rename_i st3 e4
              refine ht _ F2 μ2 H' _ stc _ st3 _ w2 enb e4 fun F3 μ3 H3 w3 s3 => ?_
              rw [if_neg Bool.false_ne_true]
              have o3 := s3.out f2 m2' (by rw [hDc]; simp)
              exact ⟨hin, F3, μ3, st3, ac, av, w3, s2.trans s3, s2'.trans s3, o3.1, o3.2, s3.frame D _ hDc m2', RepKV.mono s3.fF s3.pre _ _ r2, go⟩
            · cases go
          · cases go
        · rintro Hc ⟨_, F2, μ2, stc, ac, av, w2, s2, s2', f2, m2', hDc, r2, go⟩
          rw [List.drop_length] at go
          unfold dcGo at go
          split at go
          · rename_i hck
            have hck := of_decide_eq_true hck
            cases go
            obtain ⟨vs2, ⟨a1, a2⟩, rr⟩ := srcAt w2 (en.step s2) (hJ.step s2') hck
            rw [rr.length]
            exact ⟨a2, k D _ F2 μ2 Hc w2 s2 hD0 f2 m2' hDc r2⟩
          · cases go
      · cases e
    · cases e
  · cases e
section
variable {X : Cx}
theorem xdc {kx vx tg iter : Expr} {scope : Scope} {own : List (Str × Nat)} {pos : Pos} {mi : MI} {j : Nat} {mk mv : ME} (hc : X.calm = true) (hN : X.N.Nodup) (hi : XI X tg iter mi) (ok : BlkOk X.N X.env.scope scope own)
    (hg : ∀ (s : Shared) (H : Hp) (C : Addr) (cl : List (Str × Addr)) (fp : List Addr), PG (X.blk s H scope (compEnvC scope cl C X.env) fp) tg (gName j))
    (hk : ∀ (s : Shared) (H : Hp) (C : Addr) (cl : List (Str × Addr)) (fp : List Addr), XE (X.blk s H scope (compEnvC scope cl C X.env) fp) kx mk)
    (he : ∀ (s : Shared) (H : Hp) (C : Addr) (cl : List (Str × Addr)) (fp : List Addr), XE (X.blk s H scope (compEnvC scope cl C X.env) fp) vx mv) (hj : j ∈ own.map (·.2) := by decide) (hs : ∀ x, foldedSetIterable iter X.env x = pure x := by intro _; rfl) :
    XF X (.DictComp kx vx [⟨tg, iter, [], 0⟩] scope pos) (mDc mi j mYes mk mv (own.map (·.2))) := by
  obtain ⟨wi, p, s⟩ := hi
  refine ⟨_, pe_dc hc hN p ok hg (fun _ _ _ _ _ => pts_nil) (fun s H C cl fp => (hk s H C cl fp).pe) (fun s H C cl fp => (he s H C cl fp).pe) hs, simDc s ?_ simOfM simOfM hj⟩
  intro σ F μ H env st b st' Q w en e k
  cases e
  exact k F μ H w Stp.refl
end
end Gx

set_option maxHeartbeats 2000000
namespace Gx
open PySem L2
section
variable {X : Cx} {e : Expr} {m : ME} {pos : Pos}
/-! ### min(d), d a dict of int keys in the store -/
def f1Min : Env → Store → R → Option (R × Store) := fun env st x => match x with
  | .d (.ref n) => match st[n]? with
    | some (.dK kvs) => match intKeys (kvs.map (·.1)) with
      | some is => match is.min? with
        | some j => some (.d (.int j), st)
        | none => none
      | none => none
    | _ => none
  | _ => none
theorem xmin1 (hc : X.calm = true) {x : Str} {p : Pos} (hg : Gl X x) (hm : X.mg x = none) (hv : bootBuiltins x = some (.builtin "min")) (ha : XE X e m) (hn : x ≠ "__name__" := by decide)
    (hdb : (x == ("__debug__" : Str)) = false := by decide) (he : starEach (e :: []) X.env = (false, eval e X.env) :: starEach [] X.env := by rfl) (hpl : (backTo pos (starEach [] X.env)).any (·.1) = false := by rfl) : XE X (.Call (.Name x p) [e] [] pos) (m1 m f1Min) := by
  refine xcallB (cr_minK hc) ?_ hg hm hv ha hn hdb he hpl
  intro σ F μ H env st x v z st' Q w en rx h k
  unfold f1Min at h
  split at h
  · rename_i n
    split at h
    · rename_i kvs e1
      split at h
      · rename_i is e2
        split at h
        · rename_i j e3
          cases h
          obtain ⟨a, rfl, hm⟩ := rx
          obtain ⟨o, h1, h2⟩ := w.obj n _ a e1 hm
          cases o <;> first | exact h2.elim | skip
          rename_i qs
          have h2' : RepKV X.kw F μ kvs qs := h2
          rw [List.min?_eq_some_iff] at e3
          refine ⟨a, qs, is, rfl, h1, by rw [← repKV_keys h2']; exact intKeys_ok e2, fun q => ?_, fun m hm1 hm2 => ?_⟩
          · rw [q] at e3; cases e3.1
          · have : m = j := by
              have h3 := hm2 j e3.1
              have h4 := e3.2 m hm1
              omega
            rw [this]
            exact k _ F μ H w Stp.refl rfl
        · cases h
      · cases h
    · cases h
  · cases h
end
end Gx

set_option maxHeartbeats 2000000
namespace Gx
open PySem L2 PySem.Spec PyProof.Rows
section
variable {X : Cx} {a b c e : Expr} {ma mb mc m : ME} {mt : MT} {pos : Pos}
/-! ### x in a tuple of data -/
def tupP (st : Store) (r : R) : Option (List PyData) := match asU r with | some xs => toPs (dr2 st) xs | none => none
theorem tupP_ok {K : KW} {F : Hp} {μ : List Addr} {H : Hp} {st : Store} {env : Env} {σ : L2.St} {r : R} {v : V} {ps : List PyData} (w : Wd K F μ H st) (q : RRep K F μ env σ r v) (h : tupP st r = some ps) : Dp K H v (.tuple ps) := by
  unfold tupP at h
  split at h
  · rename_i xs e
    obtain ⟨a, vs, rfl, s, q⟩ := asU_ok w q e
    exact .tup s (toPs_ok w (dr2_ok w) _ _ _ q h)
  · cases h
def rInT (K : KW) (neg : Bool) : R2 := fun x y H Q => ∃ d ds, Dp K H x d ∧ Dp K H y (.tuple ds) ∧ SeqAt.shaped d = true ∧ SeqAt.shaped (.tuple ds) = true ∧ Q (.bl (if neg then !(ds.any fun z => PyData.eqv z d) else ds.any fun z => PyData.eqv z d)) H
theorem op_inT (hu : X.A.units + 65 < cLine) : OpR X (compareOp .In) (rInT X.kw false) := by
  intro pins s σ H x y v u Q I rx ry h
  obtain ⟨d, ds, hd, he, sd, se, q⟩ := h
  obtain ⟨as, r1⟩ := Dp.reads I d x v hd rx
  obtain ⟨bs, r2⟩ := Dp.reads I (.tuple ds) y u he ry
  exact SeqAt.in_tuple_reads r2 r1 (SeqAt.canLay_of_shaped se) (SeqAt.canLay_of_shaped sd) (room_in_shaped sd hu) ⟨.bl _, H, I, rfl, q⟩
theorem op_notInT (hu : X.A.units + 65 < cLine) : OpR X (compareOp .NotIn) (rInT X.kw true) := by
  intro pins s σ H x y v u Q I rx ry h
  obtain ⟨d, ds, hd, he, sd, se, q⟩ := h
  obtain ⟨as, r1⟩ := Dp.reads I d x v hd rx
  obtain ⟨bs, r2⟩ := Dp.reads I (.tuple ds) y u he ry
  exact SeqAt.notIn_tuple_reads r2 r1 (SeqAt.canLay_of_shaped se) (SeqAt.canLay_of_shaped sd) (room_in_shaped sd hu) ⟨.bl _, H, I, rfl, q⟩
def f2InU (neg : Bool) : Env → Store → R → R → Option (R × Store) := fun env st x y => match toPR env st x, tupP st y with
  | some p, some ps => if SeqAt.shaped p && SeqAt.shaped (.tuple ps) then some (.d (.bl (if neg then !(ps.any fun z => PyData.eqv z p) else ps.any fun z => PyData.eqv z p)), st) else none
  | _, _ => none
theorem sim2InU {K : KW} (neg : Bool) : Sim2 K (rInT K neg) (f2InU neg) := by
  intro σ F μ H env st x y v u z st' Q w en rx ry h k
  unfold f2InU at h
  split at h
  · rename_i p q e1 e2
    split at h
    · rename_i hs
      rw [Bool.and_eq_true] at hs
      cases h
      exact ⟨p, q, toPR_ok w en rx e1, tupP_ok w ry e2, hs.1, hs.2, k _ F μ H w Stp.refl rfl⟩
    · cases h
  · cases h
def fIn (neg : Bool) : Env → Store → R → R → Option (R × Store) := fOr (fOr (f2In neg) (f2InK neg)) (f2InU neg)
theorem xinU (hu : X.A.units + 65 < cLine) (ha : XE X a ma) (hb : XE X b mb) (h1 : behindInMarks .In b = false := by rfl) : XE X (.Compare a [.In] [b] pos) (m2 ma mb (fIn false)) := by
  obtain ⟨t1, p1, s1⟩ := xin (pos := pos) hu ha hb h1
  obtain ⟨ta, pa, sa⟩ := ha
  obtain ⟨tb, pb, sb⟩ := hb
  exact ⟨_, PE.or p1 (pe_cmpR (op_inT hu) pa pb h1), simOr2 s1 (sim2 sa sb (sim2InU false))⟩
theorem xnotinU (hu : X.A.units + 65 < cLine) (ha : XE X a ma) (hb : XE X b mb) (h1 : behindInMarks .NotIn b = false := by rfl) : XE X (.Compare a [.NotIn] [b] pos) (m2 ma mb (fIn true)) := by
  obtain ⟨t1, p1, s1⟩ := xnotin (pos := pos) hu ha hb h1
  obtain ⟨ta, pa, sa⟩ := ha
  obtain ⟨tb, pb, sb⟩ := hb
  exact ⟨_, PE.or p1 (pe_cmpR (op_notInT hu) pa pb h1), simOr2 s1 (sim2 sa sb (sim2InU true))⟩
theorem xinUt (hu : X.A.units + 65 < cLine) (ha : XE X a ma) (hb : XE X b mb) (h1 : behindInMarks .In b = false := by rfl) : XT X (.Compare a [.In] [b] pos) (mTest (m2 ma mb (fIn false))) := by
  obtain ⟨t1, p1, s1⟩ := xint' (pos := pos) hu ha hb h1
  obtain ⟨ta, pa, sa⟩ := ha
  obtain ⟨tb, pb, sb⟩ := hb
  exact ⟨_, PT.or p1 (pt_cmpR (op_inT hu) pa pb h1), mTest_or s1 (simTest (sim2 sa sb (sim2InU false))) fun _ _ _ h => m2_or h⟩
theorem xnotinUt (hu : X.A.units + 65 < cLine) (ha : XE X a ma) (hb : XE X b mb) (h1 : behindInMarks .NotIn b = false := by rfl) : XT X (.Compare a [.NotIn] [b] pos) (mTest (m2 ma mb (fIn true))) := by
  obtain ⟨t1, p1, s1⟩ := xnotint (pos := pos) hu ha hb h1
  obtain ⟨ta, pa, sa⟩ := ha
  obtain ⟨tb, pb, sb⟩ := hb
  exact ⟨_, PT.or p1 (pt_cmpR (op_notInT hu) pa pb h1), mTest_or s1 (simTest (sim2 sa sb (sim2InU true))) fun _ _ _ h => m2_or h⟩
end
end Gx

set_option maxHeartbeats 2000000
namespace Gx
open PySem L2 PySem.Spec PyProof.Rows
section
variable {X : Cx} {a b c e o i : Expr} {ma mb mc m me mo mi : ME} {mt : MT} {pos tpos : Pos} {s : Stmt}
/-! ### list + list, of any lists that are read -/
def rCatS (K : KW) : R2 := fun x y H Q => ∃ l b xs zs, x = .ref l ∧ y = .ref b ∧ SqL K H l xs ∧ SqL K H b zs ∧ xs.length + zs.length ≤ sizeLine ∧ ∀ p, H p = none → Q (.ref p) (upd H p (.lst (xs ++ zs)))
theorem op_catS : OpR X (binaryOp .Add) (rCatS X.kw) := by
  intro pins s σ H x y v u Q I rx ry h
  obtain ⟨l, b, xs, zs, rfl, rfl, hH, hB, hz, q⟩ := h
  cases rx
  cases ry
  obtain ⟨its, r, pl, _⟩ := I.list hH
  obtain ⟨its2, r2, pl2, _⟩ := I.list hB
  have l1 := r.length
  have l2 := r2.length
  obtain ⟨⟨cls, dd, data, sl⟩, ho, hc, n, hd⟩ := pl.isList
  obtain ⟨⟨cls2, dd2, data2, sl2⟩, ho2, hc2, n2, hd2⟩ := pl2.isList
  simp only at hc hd hc2 hd2
  subst hc hd hc2 hd2
  have ea : its.toArray ++ its2.toArray = (its ++ its2).toArray := by simp
  refine concat_meets ⟨_, ho, rfl⟩ ⟨_, ho2, rfl⟩ noFill_list_add seq_list_add PySem.F.slot_list_add PySem.F.entry_list_add (PySem.F.args_list_add_2 _ _) (list_addW l b its.toArray its2.toArray n n2 dd dd2 sl sl2 (by simp; omega)) ⟨ho, ho2, ?_⟩
  rw [ea]
  exact ⟨.ref _, _, I.lnew (t' := s.toks) (r.append r2) (by rw [List.length_append]; omega), rfl, q _ I.fresh⟩
def mFCatE (a b : ME) : MF := fun env st => match a env st with
  | some (x, st1) => match b env st1 with
    | some (y, st2) => match asL env st2 x with
      | some xs => match asL env st2 y with
        | some ys => if xs.length + ys.length ≤ 16000000 then some (.lst (xs ++ ys), st2) else none
        | none => none
      | none => none
    | none => none
  | none => none
theorem xfcatE (ha : XE X a ma) (hb : XE X b mb) : XF X (.BinOp a .Add b pos) (mFCatE ma mb) := by
  obtain ⟨ta, pa, sa⟩ := ha
  obtain ⟨tb, pb, sb⟩ := hb
  refine ⟨_, pe_op op_catS pa pb, ?_⟩
  intro σ F μ H env st so st' Q w en h k
  unfold mFCatE at h
  split at h
  · rename_i x st1 e1
    split at h
    · rename_i y st2 e2
      split at h
      · rename_i xs e3
        split at h
        · rename_i ys e4
          split at h
          · rename_i hz
            cases h
            refine sa σ F μ H env st _ _ _ w en e1 fun v F1 μ1 H1 w1 s1 r1 => ?_
            refine sb σ F1 μ1 H1 env st1 _ _ _ w1 (en.step s1) e2 fun u F2 μ2 H2 w2 s2 r2 => ?_
            have en2 := (en.step s1).step s2
            obtain ⟨p, vs, rfl, sq, q⟩ := asL_ok w2 en2 (r1.step s2) e3
            obtain ⟨p2, vs2, rfl, sq2, q2⟩ := asL_ok w2 en2 r2 e4
            have l1 := q.length
            have l2 := q2.length
            refine ⟨p, p2, vs, vs2, rfl, rfl, sq, sq2, small16 (by omega), fun z hp => ?_⟩
            exact k z (.lst (vs ++ vs2)) F2 μ2 _ (w2.lay0 hp) ((s1.trans s2).trans (Stp.lay0 hp)) (fresh_of (s1.trans s2) hp) (w2.Fnone hp) (w2.out hp) upd_same (q.append q2)
          · cases h
        · cases h
      · cases h
    · cases h
  · cases h

/-! ### o[i] op= e of ints -/
def rPGetL (K : KW) : V → V → Hp → VK → Prop := fun o i H Q => ∃ p xs k z, o = .ref p ∧ i = .int k ∧ SqL K H p xs ∧ 0 ≤ k ∧ xs[k.toNat]? = some z ∧ Q z H
theorem pget_list : PGet X (rPGetL X.kw) := by
  intro pins s σ H o i ov iv Q I ro ri h
  obtain ⟨p, xs, k, z, rfl, rfl, hq, h0, hz, q⟩ := h
  cases ro
  obtain ⟨t, rfl⟩ := ri
  obtain ⟨its, r, pl, hl⟩ := I.list hq
  obtain ⟨w, ew, rw'⟩ := r.get hz
  have hlen := r.length
  have hlt := (List.getElem?_eq_some_iff.mp ew).1
  have hn := line63
  exact getItem_listL pl.isList h0 (by omega) ew ⟨z, H, I, rw', q⟩
def mAugL (f : Int → Int → Int) (o i e : ME) : MS := fun env st => match o env st with
  | some (ro, st1) => match i env st1 with
    | some (.d (.int k), st2) => match asL env st2 ro with
      | some xs => if 0 ≤ k then match xs[k.toNat]? with
        | some (.int x) => match e env st2 with
          | some (.d (.int y), st3) => chg (fun so => putL so (.int k) (.int (f x y))) env st3 ro
          | _ => none
        | _ => none
        else none
      | none => none
    | _ => none
  | none => none
def mAugK (f : Int → Int → Int) (o i e : ME) : MS := fun env st => match o env st with
  | some (ro, st1) => match i env st1 with
    | some (.d k, st2) => match asK env st2 ro with
      | some kvs => match keyOf k with
        | some kk => match valD kvs kk with
          | some (.int x) => match e env st2 with
            | some (.d (.int y), st3) => chg (fun so => putKv so k (.int (f x y))) env st3 ro
            | _ => none
          | _ => none
        | none => none
      | none => none
    | _ => none
  | none => none
def mAug (f : Int → Int → Int) (o i e : ME) : MS := sOr (mAugL f o i e) (mAugK f o i e)
theorem xaug {op : Operator} {f : Int → Int → Int} (hip : PIp X op (ipI f)) (hin : InOp X op fun x y H Q => ∃ i j, x = .int i ∧ y = .int j ∧ Q (.int (f i j)) H) (hu : X.A.units + 1 < cLine) (ho : XE X o mo) (hi : XE X i mi) (he : XE X e me)
    (ha : ∀ ov iv new, augStore i ov iv new = (do holding [new, ov, iv] (setItem ov iv new); release [new, ov, iv] []; pure .next) := by intros; rfl) : XS X (.AugAssign (.Subscript o i tpos) op e pos) (mAug f mo mi me) := by
  obtain ⟨to, po, so⟩ := ho
  obtain ⟨ti, pi, si⟩ := hi
  obtain ⟨te, pe, se⟩ := he
  refine ⟨_, PS.or (ps_augS po pi pget_list pe hip set_list ha) (ps_daug hu po pi pe hin ha), SimS.or ?_ ?_⟩
  · intro F0 μ0 H0 Fg μg σ F μ H env st out D oo e k
    unfold mAugL at e
    split at e
    · rename_i ro st1 e1
      split at e
      · rename_i ki st2 e2
        split at e
        · rename_i xs e3
          split at e
          · rename_i h0
            split at e
            · rename_i x e4
              split at e
              · rename_i y st3 e5
                refine so σ F μ H env st _ _ _ oo.wd oo.en e1 fun ov F1 μ1 H1 w1 s1 r1 => ?_
                refine si σ F1 μ1 H1 env st1 _ _ _ w1 (oo.en.step s1) e2 fun iv F2 μ2 H2 w2 s2 r2 => ?_
                obtain ⟨p, vs, rfl, sq, q⟩ := asL_ok w2 ((oo.en.step s1).step s2) (r1.step s2) e3
                obtain ⟨z, hz, rz⟩ := q.get e4
                refine ⟨p, vs, ki, z, rfl, r2, sq, h0, hz, ?_⟩
                refine se σ F2 μ2 H2 env st2 _ _ _ w2 ((oo.en.step s1).step s2) e5 fun v F3 μ3 H3 w3 s3 r3 => ?_
                refine ⟨x, y, rz, r3, ?_⟩
                have o3 := ((oo.step w1 s1).step w2 s2).step w3 s3
                obtain ⟨a', so1, u, so2, e6, hu1, ru, ef, kk⟩ := chg_ok o3 ((r1.step s2).step s3) e k
                cases e6
                unfold putL at ef
                split at ef
                · rename_i ys ii hii
                  cases hii
                  split at ef
                  · rename_i j hj
                    cases ef
                    cases u <;> first | exact ru.elim | skip
                    rename_i vs'
                    refine ⟨p, vs', ki, j, rfl, r2, hu1, by rw [← ru.length]; exact hj, kk _ ?_⟩
                    exact Reps.set (d := .int (f x y)) (v := .int (f x y)) (show Rep X.kw F3 μ3 (.int (f x y)) (.int (f x y)) from rfl) j ru
                  · cases ef
                · cases ef
              · cases e
            · cases e
          · cases e
        · cases e
      · cases e
    · cases e
  · intro F0 μ0 H0 Fg μg σ F μ H env st out D oo e k
    unfold mAugK at e
    split at e
    · rename_i ro st1 e1
      split at e
      · rename_i dk st2 e2
        split at e
        · rename_i kvs e3
          split at e
          · rename_i kk e4
            split at e
            · rename_i x e5
              split at e
              · rename_i y st3 e6
                refine so σ F μ H env st _ _ _ oo.wd oo.en e1 fun ov F1 μ1 H1 w1 s1 r1 => ?_
                refine si σ F1 μ1 H1 env st1 _ _ _ w1 (oo.en.step s1) e2 fun iv F2 μ2 H2 w2 s2 r2 => ?_
                obtain ⟨p, vs, rfl, sq, q⟩ := asK_ok w2 ((oo.en.step s1).step s2) (r1.step s2) e3
                obtain ⟨z, hz, rz⟩ := (RepKV.val kk q).1 _ e5
                refine ⟨p, z, rfl, .inl ⟨vs, kk, sq, keyOf_ok e4 r2, hz.symm⟩, ?_⟩
                refine se σ F2 μ2 H2 env st2 _ _ _ w2 ((oo.en.step s1).step s2) e6 fun v F3 μ3 H3 w3 s3 r3 => ?_
                refine ⟨x, y, rz, r3, ?_⟩
                have o3 := ((oo.step w1 s1).step w2 s2).step w3 s3
                obtain ⟨a', so1, u, so2, e7, hu1, ru, ef, kq⟩ := chg_ok o3 ((r1.step s2).step s3) e k
                cases e7
                unfold putKv at ef
                split at ef
                · rename_i kvs2
                  rw [e4] at ef
                  dsimp only at ef
                  split at ef
                  · rename_i hl
                    cases ef
                    cases u <;> first | exact ru.elim | skip
                    rename_i vs2
                    refine ⟨_, .inl ⟨vs2, kk, hu1, keyOf_ok e4 r2, by rw [← RepKV.length ru, sizeLine_eq]; omega, rfl⟩, kq _ ?_⟩
                    exact RepKV.put kk (show Rep X.kw F3 μ3 (.int (f x y)) (.int (f x y)) from rfl) ru
                  · cases ef
                · cases ef
              · cases e
            · cases e
          · cases e
        · cases e
      · cases e
    · cases e

/-! ### xs.pop(i), xs in the store -/
def mPopAt (mo mi : ME) : ME := fun env st => match mo env st with
  | some (.d (.ref n), st1) => match asL env st1 (.d (.ref n)) with
    | some _ => match mi env st1 with
      | some (.d (.int i), st2) => match st2[n]? with
        | some (.lst xs) => match ixN xs.length i with
          | some k => match xs[k]? with
            | some d => if xs.length ≤ 16000000 then some (.d d, st2.set n (.lst (xs.eraseIdx k))) else none
            | none => none
          | none => none
        | _ => none
      | _ => none
    | none => none
  | _ => none
theorem Reps.erase {K : KW} {F : Hp} {μ : List Addr} : ∀ {ds : List D} {vs : List V} (k : Nat), Reps K F μ ds vs → Reps K F μ (ds.eraseIdx k) (vs.eraseIdx k)
  | [], [], k, _ => by simp [Reps]
  | d :: ds, v :: vs, 0, r => r.2
  | d :: ds, v :: vs, k + 1, r => ⟨r.1, Reps.erase k r.2⟩
  | [], _ :: _, _, r => r.elim
  | _ :: _, [], _, r => r.elim
theorem xpop {apos : Pos} (ho : XE X o mo) (he : XE X i mi)
    (hbase : attributeBase o "pop" X.env (eval o X.env) = eval o X.env := by rfl)
    (hfew : ((backTo tpos (starEach (i :: []) X.env)).all (fun x => !x.1) && (backToKw tpos (keywordEach [] X.env)).all (fun x => x.1.isSome)
      && decide ((i :: []).length + ([] : List Keyword).length + (if ([] : List Keyword).isEmpty then 0 else 1) < 30)) = true := by rfl)
    (hline : (apos.endLine == tpos.line) = true := by rfl) (hst : starEach (i :: []) X.env = (false, eval i X.env) :: starEach [] X.env := by rfl) (hplain : (backTo tpos (starEach [] X.env)).any (·.1) = false := by rfl) :
    XE X (.Call (.Attribute o "pop" apos) [i] [] tpos) (mPopAt mo mi) := by
  obtain ⟨to, po, so⟩ := ho
  obtain ⟨te, pe, se⟩ := he
  refine ⟨_, pe_bm PySem.F.plainAttrs_list PySem.F.slot_list_pop PySem.F.type_list_pop (r := rPopAt) mt_popAt po (pa_cons pe pa_nil hst) hbase hfew hline hst hplain, ?_⟩
  intro σ F μ H env st r st' Q w en h k
  unfold mPopAt at h
  split at h
  · rename_i n st1 e1
    split at h
    · rename_i xs0 e2
      split at h
      · rename_i ii st2 e3
        split at h
        · rename_i xs e4
          split at h
          · rename_i kk e5
            split at h
            · rename_i d e6
              split at h
              case isFalse => cases h
              rename_i hz16
              cases h
              refine so σ F μ H env st _ _ _ w en e1 fun ov F1 μ1 H1 w1 s1 r1 => ?_
              have en1 := en.step s1
              obtain ⟨a, vs0, rfl, sq, q0⟩ := asL_ok w1 en1 r1 e2
              refine ⟨.inl ⟨rfl, vs0, sq⟩, ?_⟩
              refine se σ F1 μ1 H1 env st1 _ _ _ w1 en1 e3 fun v F2 μ2 H2 w2 s2 r2 => ?_
              obtain ⟨a', ea, hm⟩ := r1.step s2
              cases ea
              obtain ⟨u, hu1, ru⟩ := w2.obj n _ a e4 hm
              cases u <;> first | exact ru.elim | skip
              rename_i vs
              have ru' : Reps X.kw F2 μ2 xs vs := ru
              obtain ⟨z, hz, rz⟩ := ru'.get e6
              obtain ⟨h1, h2, h3, h4⟩ := ixN_seq e5
              have hlen := ru'.length
              have hlt := (List.getElem?_eq_some_iff.mp e4).1
              refine ⟨a, vs, ii, kk, z, rfl, by rw [r2], hu1, by omega, by omega, by rw [← hlen]; exact h1, hz, ?_⟩
              have s3 := Stp.put (K := X.kw) (F := F2) (st := st2) (u := .lst (vs.eraseIdx kk)) w2 (List.mem_of_getElem? hm) fun od v z => by rw [hu1] at z; cases z
              exact k z F2 μ2 _ (w2.put hlt hm (Reps.erase kk ru')) ((s1.trans s2).trans s3) (s3.rep rz)
            · cases h
          · cases h
        · cases h
      · cases h
    · cases h
  · cases h
end
end Gx

set_option maxHeartbeats 2000000
namespace Gx
open PySem L2 PySem.Spec PyProof.Rows
/-! ### targets within comprehensions -/
theorem wipe_set1 {vs : List Nat} {j : Nat} (hj : j ∈ vs) (σ : L2.St) (x : Option V) : L2.wipe (σ.set j x) vs = L2.wipe σ vs := by
  apply List.ext_getElem?
  intro i
  rw [wipe_get, wipe_get, List.getElem?_set]
  by_cases hi : i ∈ vs
  · simp only [hi, if_true]
    by_cases h : j = i
    · subst h
      by_cases hl : j < σ.length
      · simp [hl]
      · simp [hl]
    · simp only [h, if_false]
  · simp only [hi, if_false]
    have : j ≠ i := fun e => hi (e ▸ hj)
    simp [this]
theorem wipe_wipe (σ : L2.St) (vs : List Nat) : L2.wipe (L2.wipe σ vs) vs = L2.wipe σ vs := by
  apply List.ext_getElem?
  intro i
  rw [wipe_get, wipe_get]
  by_cases hi : i ∈ vs
  · simp only [hi, if_true, Option.map_map]; rfl
  · simp only [hi, if_false]
def GB (K : KW) (g : TG) (mg : MG) (vs : List Nat) : Prop :=
  ∀ (σ : L2.St) (F : Hp) (μ : List Addr) (H : Hp) (env env' : Env) (d : D) (v : V) (Q : L2.St → Hp → Prop), (∀ a o, F a = some o → H a = some o) → EnvOk K F μ H env σ → Rep K F μ d v → mg d env = some env' →
    (∀ σ', L2.wipe σ' vs = L2.wipe σ vs → EnvOk K F μ H env' σ' → Q σ' H) → g v σ H Q
def GBs (K : KW) (g : TGs) (mg : List D → Env → Option Env) (vs : List Nat) : Prop :=
  ∀ (σ : L2.St) (F : Hp) (μ : List Addr) (H : Hp) (env env' : Env) (d : List D) (v : List V) (Q : L2.St → Hp → Prop), (∀ a o, F a = some o → H a = some o) → EnvOk K F μ H env σ → Reps K F μ d v → mg d env = some env' →
    (∀ σ', L2.wipe σ' vs = L2.wipe σ vs → EnvOk K F μ H env' σ' → Q σ' H) → g v σ H Q
section
variable {K : KW} {vs : List Nat}
theorem gb_name {j : Nat} (hj : j ∈ vs) : GB K (gName j) (gN j) vs := by
  intro σ F μ H env env' d v Q hs en r e k
  cases e
  exact k _ (wipe_set1 hj σ _) (en.val j r)
theorem gbs_nil : GBs K gNil gsN vs := by
  intro σ F μ H env env' d v Q hs en r e k
  cases d with
  | cons _ _ => cases e
  | nil =>
    cases e
    cases v with
    | cons _ _ => exact r.elim
    | nil => exact ⟨rfl, k σ rfl en⟩
theorem gbs_cons {g : TG} {mg : MG} {gs : TGs} {ms : List D → Env → Option Env} (h : GB K g mg vs) (h2 : GBs K gs ms vs) : GBs K (gCons g gs) (gsC mg ms) vs := by
  intro σ F μ H env env' d v Q hs en r e k
  cases d with
  | nil => cases e
  | cons d ds =>
    cases v with
    | nil => exact r.elim
    | cons v us =>
      unfold gsC at e
      dsimp only at e
      split at e
      · rename_i env1 e1
        exact ⟨v, us, rfl, h σ F μ H env env1 d v _ hs en r.1 e1 fun σ1 w1 en1 => h2 σ1 F μ H env1 env' ds us Q hs en1 r.2 e fun σ2 w2 en2 => k σ2 (w2.trans w1) en2⟩
      · cases e
theorem gb_tup {n : Nat} {gs : TGs} {ms : List D → Env → Option Env} (h : GBs K gs ms vs) : GB K (gTup K n gs) (gT n ms) vs := by
  intro σ F μ H env env' d v Q hs en r e k
  unfold gT at e
  split at e
  · rename_i ds
    split at e
    · rename_i hl
      obtain ⟨a, us, rfl, s, rr⟩ := r
      exact ⟨a, us, rfl, SqT.mono hs s, by rw [← rr.length]; exact hl, h σ F μ H env env' ds us Q hs en rr e k⟩
    · cases e
  · cases e
end
def lcGoG (g : MG) (t : MT) (e : ME) (env : Env) (chk : Store → Bool) : List D → Store → List D → Option (List D × Store)
  | [], st, acc => if chk st then some (acc, st) else none
  | x :: xs, st, acc => if chk st then
      match g x env with
      | some env1 => match t env1 st with
        | some (true, st1) => match e env1 st1 with
          | some (.d d, st2) => if acc.length < 16000000 then lcGoG g t e env chk xs st2 (acc ++ [d]) else none
          | _ => none
        | some (false, st1) => lcGoG g t e env chk xs st1 acc
        | none => none
      | none => none
    else none
def mLcG (mi : MI) (g : MG) (t : MT) (e : ME) (vs : List Nat) : MF := fun env st => match mi env st with
  | some (src, st1) => match srcItems env st1 src with
    | some xs => match lcGoG g t e (wipeE env vs) (fun st => decide (srcItems env st src = some xs)) xs st1 [] with
      | some (acc, st2) => some (.lst acc, st2)
      | none => none
    | none => none
  | none => none
theorem simLcG {K : KW} {wi : TI} {mi : MI} {g : TG} {mg : MG} {tt : TT} {mt : MT} {te : TE} {me : ME} {vs : List Nat} (hi : SimI K wi mi) (ht : SimT K tt mt) (he : SimE K te me) (hg : GB K g mg vs) : SimF K (tLc wi g tt te vs) (mLcG mi mg mt me vs) := by
  intro σ F μ H env st so st' Q w en e k
  unfold mLcG at e
  split at e
  · rename_i src st1 e1
    split at e
    · rename_i xs e2
      split at e
      · rename_i acc st2 e3
        cases e
        refine hi σ F μ H env st src st1 _ w en e1 fun J F1 μ1 H1 w1 s1 hJ D hD => ?_
        have hD0 : H D = none := fresh_of s1 hD
        refine lc_by (n := xs.length) (fun i Hc => i ≤ xs.length ∧ ∃ F2 μ2 stc ac av, Wd K F2 μ2 Hc stc ∧ Stp F μ H F2 μ2 Hc ∧ Stp F1 μ1 H1 F2 μ2 Hc ∧ F2 D = none ∧ D ∉ μ2 ∧ Hc D = some (.lst av) ∧ Reps K F2 μ2 ac av ∧
          lcGoG mg mt me (wipeE env vs) (fun st => decide (srcItems env st src = some xs)) (xs.drop i) stc ac = some (acc, st')) ?_ ?_ ?_
        · refine ⟨Nat.zero_le _, F1, μ1, st1, [], [], w1.lay0 hD, s1.trans (Stp.lay0 hD), Stp.lay0 hD, w1.Fnone hD, w1.out hD, upd_same, trivial, ?_⟩
          simpa using e3
        · rintro i Hc hin ⟨_, F2, μ2, stc, ac, av, w2, s2, s2', f2, m2', hDc, r2, go⟩
          rw [List.drop_eq_getElem_cons hin] at go
          unfold lcGoG at go
          split at go
          · rename_i hck
            have hck := of_decide_eq_true hck
            have en2 := en.step s2
            obtain ⟨vs2, ⟨a1, a2⟩, rr⟩ := srcAt w2 en2 (hJ.step s2') hck
            have hl := rr.length
            obtain ⟨g1, g2⟩ := a1 i (by omega)
            refine ⟨g1, fun x H' y => ?_⟩
            obtain ⟨eH, ex⟩ := g2 x H' y
            subst eH
            obtain ⟨d, ed, rd⟩ := rr.get' ex
            have ed' : xs[i] = d := by
              have := List.getElem?_eq_getElem hin
              rw [this] at ed; exact Option.some.inj ed
            rw [ed'] at go
            split at go
            case h_2 => cases go
            rename_i env1 eg
            refine hg _ F2 μ2 H' _ env1 d x _ w2.sub (en2.wipe vs) rd eg fun σ2 hw2 enb => ⟨hw2.trans (wipe_wipe σ vs), ?_⟩
            split at go
            · rename_i st3 e4
              refine ht _ F2 μ2 H' _ stc _ st3 _ w2 enb e4 fun F3 μ3 H3 w3 s3 => ?_
              rw [if_pos rfl]
              split at go
              · rename_i d2 st4 e5
                split at go
                · rename_i hz
                  refine he _ F3 μ3 H3 _ st3 _ st4 _ w3 (enb.step s3) e5 fun v F4 μ4 H4 w4 s4 r4 => ?_
                  have o3 := s3.out f2 m2' (by rw [hDc]; simp)
                  have hD3 := s3.frame D _ hDc m2'
                  have o4 := s4.out o3.1 o3.2 (by rw [hD3]; simp)
                  have hD4 := s4.frame D _ hD3 o3.2
                  have s24 := s3.trans s4
                  refine ⟨av, hD4, ?_, hin, F4, μ4, st4, ac ++ [d2], av ++ [v], w4.poke o4.1 o4.2, (s2.trans s24).poke hD0, (s2'.trans s24).poke hD, o4.1, o4.2, upd_same, (s24.reps r2).append ⟨r4, trivial⟩, go⟩
                  rw [← r2.length, sizeLine_eq]; omega
                · cases go
              · cases go
            · rename_i st3 e4
              refine ht _ F2 μ2 H' _ stc _ st3 _ w2 enb e4 fun F3 μ3 H3 w3 s3 => ?_
              rw [if_neg Bool.false_ne_true]
              have o3 := s3.out f2 m2' (by rw [hDc]; simp)
              exact ⟨hin, F3, μ3, st3, ac, av, w3, s2.trans s3, s2'.trans s3, o3.1, o3.2, s3.frame D _ hDc m2', s3.reps r2, go⟩
            · cases go
          · cases go
        · rintro Hc ⟨_, F2, μ2, stc, ac, av, w2, s2, s2', f2, m2', hDc, r2, go⟩
          rw [List.drop_length] at go
          unfold lcGoG at go
          split at go
          · rename_i hck
            have hck := of_decide_eq_true hck
            cases go
            obtain ⟨vs2, ⟨a1, a2⟩, rr⟩ := srcAt w2 (en.step s2) (hJ.step s2') hck
            rw [rr.length]
            exact ⟨a2, k D _ F2 μ2 Hc w2 s2 hD0 f2 m2' hDc r2⟩
          · cases go
      · cases e
    · cases e
  · cases e
def dcGoG (g : MG) (t : MT) (ek ev : ME) (env : Env) (chk : Store → Bool) : List D → Store → List (Key × D) → Option (List (Key × D) × Store)
  | [], st, acc => if chk st then some (acc, st) else none
  | x :: xs, st, acc => if chk st then
      match g x env with
      | some env1 =>
        match t env1 st with
        | some (true, st1) => match ek env1 st1 with
          | some (.d dk, st2) => match keyOf dk with
            | some kk => match ev env1 st2 with
              | some (.d d, st3) => if acc.length < 16000000 then dcGoG g t ek ev env chk xs st3 (putD acc kk d) else none
              | _ => none
            | none => none
          | _ => none
        | some (false, st1) => dcGoG g t ek ev env chk xs st1 acc
        | none => none
      | none => none
    else none
def mDcG (mi : MI) (g : MG) (t : MT) (ek ev : ME) (vs : List Nat) : MF := fun env st => match mi env st with
  | some (src, st1) => match srcItems env st1 src with
    | some xs => match dcGoG g t ek ev (wipeE env vs) (fun st => decide (srcItems env st src = some xs)) xs st1 [] with
      | some (acc, st2) => some (.dK acc, st2)
      | none => none
    | none => none
  | none => none
theorem simDcG {K : KW} {wi : TI} {mi : MI} {g : TG} {mg : MG} {tt : TT} {mt : MT} {tk tv : TE} {mk mv : ME} {vs : List Nat} (hi : SimI K wi mi) (ht : SimT K tt mt) (hk : SimE K tk mk) (hv : SimE K tv mv) (hg : GB K g mg vs) : SimF K (tDc wi g tt tk tv vs) (mDcG mi mg mt mk mv vs) := by
  intro σ F μ H env st so st' Q w en e k
  unfold mDcG at e
  split at e
  · rename_i src st1 e1
    split at e
    · rename_i xs e2
      split at e
      · rename_i acc st2 e3
        cases e
        refine hi σ F μ H env st src st1 _ w en e1 fun J F1 μ1 H1 w1 s1 hJ D hD => ?_
        have hD0 : H D = none := fresh_of s1 hD
        refine dc_by (n := xs.length) (fun i Hc => i ≤ xs.length ∧ ∃ F2 μ2 stc ac av, Wd K F2 μ2 Hc stc ∧ Stp F μ H F2 μ2 Hc ∧ Stp F1 μ1 H1 F2 μ2 Hc ∧ F2 D = none ∧ D ∉ μ2 ∧ Hc D = some (.dK av) ∧ RepKV K F2 μ2 ac av ∧
          dcGoG mg mt mk mv (wipeE env vs) (fun st => decide (srcItems env st src = some xs)) (xs.drop i) stc ac = some (acc, st')) ?_ ?_ ?_
        · refine ⟨Nat.zero_le _, F1, μ1, st1, [], [], w1.lay0 hD, s1.trans (Stp.lay0 hD), Stp.lay0 hD, w1.Fnone hD, w1.out hD, upd_same, trivial, ?_⟩
          simpa using e3
        · rintro i Hc hin ⟨_, F2, μ2, stc, ac, av, w2, s2, s2', f2, m2', hDc, r2, go⟩
          rw [List.drop_eq_getElem_cons hin] at go
          unfold dcGoG at go
          split at go
          · rename_i hck
            have hck := of_decide_eq_true hck
            have en2 := en.step s2
            obtain ⟨vs2, ⟨a1, a2⟩, rr⟩ := srcAt w2 en2 (hJ.step s2') hck
            have hl := rr.length
            obtain ⟨g1, g2⟩ := a1 i (by omega)
            refine ⟨g1, fun x H' y => ?_⟩
            obtain ⟨eH, ex⟩ := g2 x H' y
            subst eH
            obtain ⟨d, ed, rd⟩ := rr.get' ex
            have ed' : xs[i] = d := by
              have := List.getElem?_eq_getElem hin
              rw [this] at ed; exact Option.some.inj ed
            rw [ed'] at go
            split at go
            case h_2 => cases go
            rename_i env1 eg
            refine hg _ F2 μ2 H' _ env1 d x _ w2.sub (en2.wipe vs) rd eg fun σ2 hw2 enb => ⟨hw2.trans (wipe_wipe σ vs), ?_⟩
            split at go
            · rename_i st3 e4
              refine ht _ F2 μ2 H' _ stc _ st3 _ w2 enb e4 fun F3 μ3 H3 w3 s3 => ?_
              rw [if_pos rfl]
              split at go
              · rename_i dk st4 e5
                split at go
                · rename_i kk e6
                  split at go
                  · rename_i d2 st5 e7
                    split at go
                    · rename_i hz
                      refine hk _ F3 μ3 H3 _ st3 _ st4 _ w3 (enb.step s3) e5 fun v F4 μ4 H4 w4 s4 r4 => ?_
                      refine hv _ F4 μ4 H4 _ st4 _ st5 _ w4 ((enb.step s3).step s4) e7 fun v5 F5 μ5 H5 w5 s5 r5 => ?_
                      have o3 := s3.out f2 m2' (by rw [hDc]; simp)
                      have hD3 := s3.frame D _ hDc m2'
                      have o4 := s4.out o3.1 o3.2 (by rw [hD3]; simp)
                      have hD4 := s4.frame D _ hD3 o3.2
                      have o5 := s5.out o4.1 o4.2 (by rw [hD4]; simp)
                      have hD5 := s5.frame D _ hD4 o4.2
                      have s25 := (s3.trans s4).trans s5
                      have rkv : RepKV K F5 μ5 ac av := RepKV.mono s25.fF s25.pre _ _ r2
                      refine ⟨av, kk, keyOf_ok e6 r4, hD5, ?_, hin, F5, μ5, st5, putD ac kk d2, putK av kk v5, w5.poke o5.1 o5.2, (s2.trans s25).poke hD0, (s2'.trans s25).poke hD, o5.1, o5.2, upd_same, RepKV.put kk r5 rkv, go⟩
                      rw [← RepKV.length r2, sizeLine_eq]; omega
                    · cases go
                  · cases go
                · cases go
              · cases go
            · rename_i st3 e4
              refine ht _ F2 μ2 H' _ stc _ st3 _ w2 enb e4 fun F3 μ3 H3 w3 s3 => ?_
              rw [if_neg Bool.false_ne_true]
              have o3 := s3.out f2 m2' (by rw [hDc]; simp)
              exact ⟨hin, F3, μ3, st3, ac, av, w3, s2.trans s3, s2'.trans s3, o3.1, o3.2, s3.frame D _ hDc m2', RepKV.mono s3.fF s3.pre _ _ r2, go⟩
            · cases go
          · cases go
        · rintro Hc ⟨_, F2, μ2, stc, ac, av, w2, s2, s2', f2, m2', hDc, r2, go⟩
          rw [List.drop_length] at go
          unfold dcGoG at go
          split at go
          · rename_i hck
            have hck := of_decide_eq_true hck
            cases go
            obtain ⟨vs2, ⟨a1, a2⟩, rr⟩ := srcAt w2 (en.step s2) (hJ.step s2') hck
            rw [rr.length]
            exact ⟨a2, k D _ F2 μ2 Hc w2 s2 hD0 f2 m2' hDc r2⟩
          · cases go
      · cases e
    · cases e
  · cases e
section
variable {X : Cx}
/-- comprehensions with any target -/
theorem xlcG {elt tg iter : Expr} {scope : Scope} {own : List (Str × Nat)} {pos : Pos} {mi : MI} {g : TG} {mg : MG} {me : ME} (hc : X.calm = true) (hN : X.N.Nodup) (hi : XI X tg iter mi) (ok : BlkOk X.N X.env.scope scope own)
    (hg : ∀ (s : Shared) (H : Hp) (C : Addr) (cl : List (Str × Addr)) (fp : List Addr), PG (X.blk s H scope (compEnvC scope cl C X.env) fp) tg g) (hb : GB X.kw g mg (own.map (·.2)))
    (he : ∀ (s : Shared) (H : Hp) (C : Addr) (cl : List (Str × Addr)) (fp : List Addr), XE (X.blk s H scope (compEnvC scope cl C X.env) fp) elt me) (hs : ∀ x, foldedSetIterable iter X.env x = pure x := by intro _; rfl) :
    XF X (.ListComp elt [⟨tg, iter, [], 0⟩] scope pos) (mLcG mi mg mYes me (own.map (·.2))) := by
  obtain ⟨wi, p, s⟩ := hi
  refine ⟨_, pe_lc hc hN p ok hg (fun _ _ _ _ _ => pts_nil) (fun s H C cl fp => (he s H C cl fp).pe) hs, simLcG s ?_ simOfM hb⟩
  intro σ F μ H env st b st' Q w en e k
  cases e
  exact k F μ H w Stp.refl
theorem xlcGIf {elt tg iter c : Expr} {scope : Scope} {own : List (Str × Nat)} {pos : Pos} {mi : MI} {g : TG} {mg : MG} {mt : MT} {me : ME} (hc : X.calm = true) (hN : X.N.Nodup) (hi : XI X tg iter mi) (ok : BlkOk X.N X.env.scope scope own)
    (hg : ∀ (s : Shared) (H : Hp) (C : Addr) (cl : List (Str × Addr)) (fp : List Addr), PG (X.blk s H scope (compEnvC scope cl C X.env) fp) tg g) (hb : GB X.kw g mg (own.map (·.2))) (ht : ∀ (s : Shared) (H : Hp) (C : Addr) (cl : List (Str × Addr)) (fp : List Addr), XT (X.blk s H scope (compEnvC scope cl C X.env) fp) c mt)
    (he : ∀ (s : Shared) (H : Hp) (C : Addr) (cl : List (Str × Addr)) (fp : List Addr), XE (X.blk s H scope (compEnvC scope cl C X.env) fp) elt me) (hs : ∀ x, foldedSetIterable iter X.env x = pure x := by intro _; rfl) :
    XF X (.ListComp elt [⟨tg, iter, [c], 0⟩] scope pos) (mLcG mi mg mt me (own.map (·.2))) := by
  obtain ⟨wi, p, s⟩ := hi
  exact ⟨_, pe_lc hc hN p ok hg (fun s H C cl fp => pts_one (ht s H C cl fp).pt) (fun s H C cl fp => (he s H C cl fp).pe) hs, simLcG s simOfT simOfM hb⟩
theorem xdcG {kx vx tg iter : Expr} {scope : Scope} {own : List (Str × Nat)} {pos : Pos} {mi : MI} {g : TG} {mg : MG} {mk mv : ME} (hc : X.calm = true) (hN : X.N.Nodup) (hi : XI X tg iter mi) (ok : BlkOk X.N X.env.scope scope own)
    (hg : ∀ (s : Shared) (H : Hp) (C : Addr) (cl : List (Str × Addr)) (fp : List Addr), PG (X.blk s H scope (compEnvC scope cl C X.env) fp) tg g) (hb : GB X.kw g mg (own.map (·.2)))
    (hk : ∀ (s : Shared) (H : Hp) (C : Addr) (cl : List (Str × Addr)) (fp : List Addr), XE (X.blk s H scope (compEnvC scope cl C X.env) fp) kx mk)
    (he : ∀ (s : Shared) (H : Hp) (C : Addr) (cl : List (Str × Addr)) (fp : List Addr), XE (X.blk s H scope (compEnvC scope cl C X.env) fp) vx mv) (hs : ∀ x, foldedSetIterable iter X.env x = pure x := by intro _; rfl) :
    XF X (.DictComp kx vx [⟨tg, iter, [], 0⟩] scope pos) (mDcG mi mg mYes mk mv (own.map (·.2))) := by
  obtain ⟨wi, p, s⟩ := hi
  refine ⟨_, pe_dc hc hN p ok hg (fun _ _ _ _ _ => pts_nil) (fun s H C cl fp => (hk s H C cl fp).pe) (fun s H C cl fp => (he s H C cl fp).pe) hs, simDcG s ?_ simOfM simOfM hb⟩
  intro σ F μ H env st b st' Q w en e k
  cases e
  exact k F μ H w Stp.refl
theorem xdcGIf {kx vx tg iter c : Expr} {scope : Scope} {own : List (Str × Nat)} {pos : Pos} {mi : MI} {g : TG} {mg : MG} {mt : MT} {mk mv : ME} (hc : X.calm = true) (hN : X.N.Nodup) (hi : XI X tg iter mi) (ok : BlkOk X.N X.env.scope scope own)
    (hg : ∀ (s : Shared) (H : Hp) (C : Addr) (cl : List (Str × Addr)) (fp : List Addr), PG (X.blk s H scope (compEnvC scope cl C X.env) fp) tg g) (hb : GB X.kw g mg (own.map (·.2))) (ht : ∀ (s : Shared) (H : Hp) (C : Addr) (cl : List (Str × Addr)) (fp : List Addr), XT (X.blk s H scope (compEnvC scope cl C X.env) fp) c mt)
    (hk : ∀ (s : Shared) (H : Hp) (C : Addr) (cl : List (Str × Addr)) (fp : List Addr), XE (X.blk s H scope (compEnvC scope cl C X.env) fp) kx mk)
    (he : ∀ (s : Shared) (H : Hp) (C : Addr) (cl : List (Str × Addr)) (fp : List Addr), XE (X.blk s H scope (compEnvC scope cl C X.env) fp) vx mv) (hs : ∀ x, foldedSetIterable iter X.env x = pure x := by intro _; rfl) :
    XF X (.DictComp kx vx [⟨tg, iter, [c], 0⟩] scope pos) (mDcG mi mg mt mk mv (own.map (·.2))) := by
  obtain ⟨wi, p, s⟩ := hi
  exact ⟨_, pe_dc hc hN p ok hg (fun s H C cl fp => pts_one (ht s H C cl fp).pt) (fun s H C cl fp => (hk s H C cl fp).pe) (fun s H C cl fp => (he s H C cl fp).pe) hs, simDcG s simOfT simOfM simOfM hb⟩
/-! ### is, is not of bools -/
def f2IsB (neg : Bool) : Env → Store → R → R → Option (R × Store) := fun _ st x y => match x, y with
  | .d (.bl a), .d (.bl b) => some (.d (.bl (if neg then !decide (a = b) else decide (a = b))), st)
  | _, _ => none
theorem sim2IsB {K : KW} : Sim2 K rIsB (f2IsB false) := by
  intro σ F μ H env st x y v u z st' Q w en rx ry h k
  unfold f2IsB at h
  split at h
  · cases h; exact ⟨_, _, rx, ry, k _ F μ H w Stp.refl rfl⟩
  · cases h
theorem sim2NotB {K : KW} : Sim2 K rNotB (f2IsB true) := by
  intro σ F μ H env st x y v u z st' Q w en rx ry h k
  unfold f2IsB at h
  split at h
  · cases h; exact ⟨_, _, rx, ry, k _ F μ H w Stp.refl rfl⟩
  · cases h
theorem kIsB : CmpK X .Is (fOr (f2IsB false) (f2Is false)) := ⟨_, OpR.or op_isBl op_isN, sim2IsB.or sim2Is⟩
theorem kIsNotB : CmpK X .IsNot (fOr (f2IsB true) (f2Is true)) := ⟨_, OpR.or op_notBl op_notN, sim2NotB.or sim2IsNot⟩
/-! ### d.get(k) -/
variable {a b : Expr} {ma mb : ME} {pos : Pos}
def mGet1 (mo mk : ME) : ME := fun env st => match mo env st with
  | some (x, st1) => match asK env st1 x with
    | some _ => match mk env st1 with
      | some (.d k, st2) => match asK env st2 x with
        | some kvs => match keyOf k with
          | some kk => some (.d ((valD kvs kk).getD .non), st2)
          | none => none
        | none => none
      | _ => none
    | none => none
  | none => none
theorem xget1 {apos : Pos} (hu : X.A.units + 65 < cLine) (ho : XE X a ma) (hk : XE X b mb) (m : M1 X a "get" apos b pos) : XE X (.Call (.Attribute a "get" apos) [b] [] pos) (mGet1 ma mb) := by
  obtain ⟨ta, pa, sa⟩ := ho
  obtain ⟨tb, pb, sb⟩ := hk
  refine ⟨_, pe_dget1 (by omega) pa pb m, ?_⟩
  intro σ F μ H env st r st' Q w en h k
  unfold mGet1 at h
  split at h
  · rename_i x st1 e1
    split at h
    · rename_i kvs0 e2
      split at h
      · rename_i dk st2 e3
        split at h
        · rename_i kvs e5
          split at h
          · rename_i kk e6
            cases h
            refine sa σ F μ H env st _ _ _ w en e1 fun v F1 μ1 H1 w1 s1 r1 => ?_
            obtain ⟨p, vs0, rfl, sq0, q0⟩ := asK_ok w1 (en.step s1) r1 e2
            refine ⟨p, rfl, .inl ⟨vs0, sq0⟩, ?_⟩
            refine sb σ F1 μ1 H1 env st1 _ _ _ w1 (en.step s1) e3 fun vk F2 μ2 H2 w2 s2 r2 => ?_
            have rx := r1.step s2
            obtain ⟨p', vs, ep, sq, q⟩ := asK_ok w2 ((en.step s1).step s2) rx e5
            cases ep
            have hv := RepKV.val kk q
            refine ⟨valV vs kk, .inl ⟨vs, kk, sq, keyOf_ok e6 r2, rfl⟩, k _ F2 μ2 H2 w2 (s1.trans s2) ?_⟩
            cases hd : valD kvs kk with
            | none => rw [hv.2 hd]; exact (rfl : V.non = V.non)
            | some d' => obtain ⟨v', h1, h2⟩ := hv.1 d' hd; rw [h1]; exact h2
          · cases h
        · cases h
      · cases h
    · cases h
  · cases h
end
end Gx

set_option maxHeartbeats 2000000
namespace Gx
open PySem L2 PySem.Spec PyProof.Rows
/-! ### dicts with tuple keys -/
def keysOf : List D → Option (List Key)
  | [] => some []
  | d :: ds => match keyOf d with
    | some k => (keysOf ds).map (k :: ·)
    | none => none
theorem keysOf_ok {K : KW} {F : Hp} {μ : List Addr} : ∀ {ds : List D} {vs : List V} {ks : List Key}, Reps K F μ ds vs → keysOf ds = some ks → vs = ks.map kV
  | [], [], ks, _, h => by cases h; rfl
  | d :: ds, v :: vs, ks, r, h => by
    unfold keysOf at h
    split at h
    · rename_i k e
      rw [Option.map_eq_some_iff] at h
      obtain ⟨ks', h1, rfl⟩ := h
      rw [keyOf_ok e r.1, keysOf_ok r.2 h1]
      rfl
    · cases h
  | [], _ :: _, _, r, _ => r.elim
  | _ :: _, [], _, r, _ => r.elim
def asT (env : Env) (st : Store) : R → Option (List (List Key × D))
  | .d (.dtt ks vs) => some (ks.zip vs)
  | .d (.ref n) => match st[n]? with | some (.dT xs) => some xs | _ => none
  | .loc i => match env[i]? with | some (.own (.dT xs)) => some xs | _ => none
  | _ => none
theorem asT_ok {K : KW} {F : Hp} {μ : List Addr} {H : Hp} {st : Store} {env : Env} {σ : L2.St} {r : R} {v : V} (w : Wd K F μ H st) (en : EnvOk K F μ H env σ) {xs : List (List Key × D)} (q : RRep K F μ env σ r v) (h : asT env st r = some xs) : ∃ a vs, v = .ref a ∧ Rd H a (.dT vs) ∧ RepKV K F μ xs vs := by
  unfold asT at h
  split at h
  · cases h
    obtain ⟨a, vs, e, s, l, q⟩ := q
    exact ⟨a, _, e, Rd.mono w.sub s, .zip q⟩
  · rename_i n
    split at h
    · rename_i ys hs
      cases h
      obtain ⟨a, e, hm⟩ := q
      obtain ⟨o, h1, h2⟩ := w.obj n _ a hs hm
      cases o <;> first | exact h2.elim | skip
      exact ⟨a, _, e, .of h1, h2⟩
    · cases h
  · rename_i i
    split at h
    · rename_i ys hs
      cases h
      obtain ⟨a, e, so, h1, h2⟩ := q
      obtain ⟨b, u, h3, h4, h5, h6, h7⟩ := en.slot i _ _ h1 h2
      cases h3
      rw [hs] at h1; cases h1
      cases u <;> first | exact h7.elim | skip
      exact ⟨a, _, e, .of h6, h7⟩
    · cases h
  · cases h
abbrev MK := Env → Store → Option (List Key × Store)
def SimK (K : KW) (te : TE) (m : MK) : Prop :=
  ∀ (σ : L2.St) (F : Hp) (μ : List Addr) (H : Hp) (env : Env) (st : Store) (ks : List Key) (st' : Store) (Q : VK), Wd K F μ H st → EnvOk K F μ H env σ → m env st = some (ks, st') →
    (∀ a F' μ' H', Wd K F' μ' H' st' → Stp F μ H F' μ' H' → H' a = some (.tup (ks.map kV)) → a ∉ μ' → Q (.ref a) H') → te σ H Q
structure XK (X : Cx) (e : Expr) (m : MK) : Prop where
  h : ∃ te, PE X e te ∧ SimK X.kw te m
section
variable {X : Cx} {a b c e : Expr} {ma mb mc m : ME} {mk : MK} {pos : Pos} {es : List Expr} {mA : MA}
/-- a tuple that a local slot owns -/
def mFTup (a : MA) : MF := fun env st => match a env st with
  | some (ds, st1) => if ds.length ≤ 16000000 then some (.tup ds, st1) else none
  | none => none
theorem xftup {x1} (h : XA X es mA) : XF X (.Tuple es x1 pos) (mFTup mA) := by
  obtain ⟨t, p, s⟩ := h
  refine ⟨_, pe_tup p, ?_⟩
  intro σ F μ H env st so st' Q w en e k
  unfold mFTup at e
  split at e
  · rename_i ds st1 e1
    split at e
    · rename_i hz
      cases e
      refine s σ F μ H env st _ _ _ w en e1 fun vs F1 μ1 H1 w1 s1 r1 => ⟨small16 (by rw [← r1.length]; exact hz), fun p hp => ?_⟩
      exact k p (.tup vs) F1 μ1 _ (w1.lay0 hp) (s1.trans (Stp.lay0 hp)) (fresh_of s1 hp) (w1.Fnone hp) (w1.out hp) upd_same r1
    · cases e
  · cases e
def mKt (a : MA) : MK := fun env st => match a env st with
  | some (ds, st1) => if ds.length ≤ 16000000 then (keysOf ds).map fun ks => (ks, st1) else none
  | none => none
theorem xkt {x1} (h : XA X es mA) : XK X (.Tuple es x1 pos) (mKt mA) := by
  obtain ⟨t, p, s⟩ := h
  refine ⟨_, pe_tup p, ?_⟩
  intro σ F μ H env st ks st' Q w en e k
  unfold mKt at e
  split at e
  · rename_i ds st1 e1
    split at e
    · rename_i hz
      rw [Option.map_eq_some_iff] at e
      obtain ⟨ks', hk, e⟩ := e
      cases e
      refine s σ F μ H env st _ _ _ w en e1 fun vs F1 μ1 H1 w1 s1 r1 => ⟨small16 (by rw [← r1.length]; exact hz), fun p hp => ?_⟩
      refine k p F1 μ1 _ (w1.lay0 hp) (s1.trans (Stp.lay0 hp)) ?_ (w1.out hp)
      rw [upd_same, keysOf_ok r1 hk]
    · cases e
  · cases e
def slotU (o : Option Slot) : Option (List D) := match o with | some (.own (.tup xs)) => some xs | _ => none
def mKv (i : Nat) : MK := fun env st => match slotU env[i]? with
  | some ds => (keysOf ds).map fun ks => (ks, st)
  | none => none
theorem xkv (i : Nat) (h : XE X e (mVar i)) : XK X e (mKv i) := by
  obtain ⟨t, p, s⟩ := h
  refine ⟨_, p, ?_⟩
  intro σ F μ H env st ks st' Q w en e k
  unfold mKv at e
  split at e
  · rename_i ds hs
    rw [Option.map_eq_some_iff] at e
    obtain ⟨ks', hk, e⟩ := e
    cases e
    unfold slotU at hs
    split at hs
    · rename_i ys hi
      cases hs
      have e1 : mVar i env st = some (.loc i, st) := by unfold mVar; rw [hi]
      refine s σ F μ H env st _ _ _ w en e1 fun v F1 μ1 H1 w1 s1 r1 => ?_
      obtain ⟨a, rfl, so, g1, g2⟩ := r1
      rw [hi] at g1
      cases g1
      obtain ⟨b, u, h3, h4, h5, h6, h7⟩ := (en.step s1).slot i _ _ hi g2
      cases h3
      cases u <;> first | exact h7.elim | skip
      refine k a F1 μ1 H1 w1 s1 ?_ h5
      rw [h6, keysOf_ok h7 hk]
    · cases hs
  · cases e
/-! {}, d.get(k, z), d[k], k in d -/
def mFD0T : MF := fun _ st => some (.dT [], st)
theorem xfd0T : XF X (.Dict [] [] pos) mFD0T := by
  refine ⟨_, pe_dnewT, ?_⟩
  intro σ F μ H env st so st' Q w en h k
  cases h
  exact fun p hp => k p (.dT []) F μ _ (w.lay0 hp) (Stp.lay0 hp) hp (w.Fnone hp) (w.out hp) upd_same trivial
def mGet2T (mo : ME) (mk : MK) (md : ME) : ME := fun env st => match mo env st with
  | some (x, st1) => match asT env st1 x with
    | some _ => match mk env st1 with
      | some (kk, st2) => match md env st2 with
        | some (.d z, st3) => match asT env st3 x with
          | some kvs => some (.d ((valD kvs kk).getD z), st3)
          | none => none
        | _ => none
      | none => none
    | none => none
  | none => none
theorem xget2T {apos : Pos} (hu : X.A.units + 65 < cLine) (ho : XE X a ma) (hk : XK X b mk) (hz : XE X c mc) (m : M2 X a "get" apos b c pos) : XE X (.Call (.Attribute a "get" apos) [b, c] [] pos) (mGet2T ma mk mc) := by
  obtain ⟨ta, pa, sa⟩ := ho
  obtain ⟨tb, pb, sb⟩ := hk
  obtain ⟨tc, pc, sc⟩ := hz
  refine ⟨_, pe_dget2 (by omega) pa pb pc m, ?_⟩
  intro σ F μ H env st r st' Q w en h k
  unfold mGet2T at h
  split at h
  · rename_i x st1 e1
    split at h
    · rename_i kvs0 e2
      split at h
      · rename_i kk st2 e3
        split at h
        · rename_i dz st3 e4
          split at h
          · rename_i kvs e5
            cases h
            refine sa σ F μ H env st _ _ _ w en e1 fun v F1 μ1 H1 w1 s1 r1 => ?_
            obtain ⟨p, vs0, rfl, sq0, q0⟩ := asT_ok w1 (en.step s1) r1 e2
            refine ⟨p, rfl, .inr ⟨vs0, sq0⟩, ?_⟩
            refine sb σ F1 μ1 H1 env st1 _ _ _ w1 (en.step s1) e3 fun ad F2 μ2 H2 w2 s2 hd hm => ?_
            refine sc σ F2 μ2 H2 env st2 _ _ _ w2 ((en.step s1).step s2) e4 fun vz F3 μ3 H3 w3 s3 r3 => ?_
            have rx := (r1.step s2).step s3
            obtain ⟨p', vs, ep, sq, q⟩ := asT_ok w3 (((en.step s1).step s2).step s3) rx e5
            cases ep
            have hv := RepKV.val kk q
            refine ⟨valV vs kk, .inr ⟨vs, kk, ad, sq, rfl, s3.frame _ _ hd hm, rfl⟩, k _ F3 μ3 H3 w3 ((s1.trans s2).trans s3) ?_⟩
            cases hd2 : valD kvs kk with
            | none => rw [hv.2 hd2]; exact r3
            | some d' => obtain ⟨v', h1, h2⟩ := hv.1 d' hd2; rw [h1]; exact h2
          · cases h
        · cases h
      · cases h
    · cases h
  · cases h
def mIxT (mo : ME) (mk : MK) : ME := fun env st => match mo env st with
  | some (x, st1) => match mk env st1 with
    | some (kk, st2) => match asT env st2 x with
      | some kvs => match valD kvs kk with
        | some z => some (.d z, st2)
        | none => none
      | none => none
    | none => none
  | none => none
theorem xixT (hu : X.A.units + 1 < cLine) (ho : XE X a ma) (hk : XK X b mk) (hn : NoSl b := by exact fun _ _ => rfl) : XE X (.Subscript a b pos) (mIxT ma mk) := by
  obtain ⟨ta, pa, sa⟩ := ho
  obtain ⟨tb, pb, sb⟩ := hk
  refine ⟨_, pe_dget hu pa pb hn, ?_⟩
  intro σ F μ H env st r st' Q w en h k
  unfold mIxT at h
  split at h
  · rename_i x st1 e1
    split at h
    · rename_i kk st2 e3
      split at h
      · rename_i kvs e5
        split at h
        · rename_i z e6
          cases h
          refine sa σ F μ H env st _ _ _ w en e1 fun v F1 μ1 H1 w1 s1 r1 => ?_
          refine sb σ F1 μ1 H1 env st1 _ _ _ w1 (en.step s1) e3 fun ad F2 μ2 H2 w2 s2 hd hm => ?_
          obtain ⟨p', vs, rfl, sq, q⟩ := asT_ok w2 ((en.step s1).step s2) (r1.step s2) e5
          obtain ⟨v', h1, h2⟩ := (RepKV.val kk q).1 _ e6
          exact ⟨p', v', rfl, .inr ⟨vs, kk, ad, sq, rfl, hd, h1.symm⟩, k v' F2 μ2 H2 w2 (s1.trans s2) h2⟩
        · cases h
      · cases h
    · cases h
  · cases h
def mInT (neg : Bool) (mk : MK) (mo : ME) : ME := fun env st => match mk env st with
  | some (kk, st1) => match mo env st1 with
    | some (x, st2) => match asT env st2 x with
      | some kvs => some (.d (.bl (if neg then !(valD kvs kk).isSome else (valD kvs kk).isSome)), st2)
      | none => none
    | none => none
  | none => none
theorem simInT {K : KW} {ta tb : TE} {ma : ME} {mk : MK} (neg : Bool) (sb : SimK K tb mk) (sa : SimE K ta ma) : SimE K (fun σ H Q => tb σ H fun y H1 => ta σ H1 fun x H2 => ∃ a o, x = .ref a ∧ DGet H2 a y o ∧ Q (.bl (if neg then !o.isSome else o.isSome)) H2) (mInT neg mk ma) := by
  intro σ F μ H env st r st' Q w en h k
  unfold mInT at h
  split at h
  · rename_i kk st1 e1
    split at h
    · rename_i x st2 e3
      split at h
      · rename_i kvs e5
        cases h
        refine sb σ F μ H env st _ _ _ w en e1 fun ad F1 μ1 H1 w1 s1 hd hm => ?_
        refine sa σ F1 μ1 H1 env st1 _ _ _ w1 (en.step s1) e3 fun v F2 μ2 H2 w2 s2 r2 => ?_
        obtain ⟨p', vs, rfl, sq, q⟩ := asT_ok w2 ((en.step s1).step s2) r2 e5
        have hv := RepKV.val kk q
        refine ⟨p', valV vs kk, rfl, .inr ⟨vs, kk, ad, sq, rfl, s2.frame _ _ hd hm, rfl⟩, k _ F2 μ2 H2 w2 (s1.trans s2) ?_⟩
        show V.bl _ = V.bl _
        cases hd2 : valD kvs kk with
        | none => rw [hv.2 hd2]; cases neg <;> rfl
        | some d' => obtain ⟨v', h1, _⟩ := hv.1 d' hd2; rw [h1]; cases neg <;> rfl
      · cases h
    · cases h
  · cases h
theorem xinT (hu : X.A.units + 65 < cLine) (hk : XK X b mk) (ha : XE X a ma) (h1 : behindInMarks .In a = false := by rfl) : XE X (.Compare b [.In] [a] pos) (mInT false mk ma) := by
  obtain ⟨ta, pa, sa⟩ := ha
  obtain ⟨tb, pb, sb⟩ := hk
  exact ⟨_, pe_cmp (pc_din (by omega) pb pa) h1, simInT false sb sa⟩
theorem xnotinT (hu : X.A.units + 65 < cLine) (hk : XK X b mk) (ha : XE X a ma) (h1 : behindInMarks .NotIn a = false := by rfl) : XE X (.Compare b [.NotIn] [a] pos) (mInT true mk ma) := by
  obtain ⟨ta, pa, sa⟩ := ha
  obtain ⟨tb, pb, sb⟩ := hk
  exact ⟨_, pe_cmp (pc_dnotin (by omega) pb pa) h1, simInT true sb sa⟩
end
section
variable {X : Cx} {o i e : Expr} {mo me : ME} {mk : MK} {pos tpos : Pos}
def putT (so : SO) (k : List Key) (v : D) : Option SO := match so with
  | .dT kvs => if kvs.length < 16000000 then some (.dT (putD kvs k v)) else none
  | _ => none
/-- d[k] = v -/
def mStT (mo : ME) (mk : MK) (mv : ME) : MS := fun env st => match mv env st with
  | some (.d dv, st1) => match mo env st1 with
    | some (ro, st2) => match mk env st2 with
      | some (kk, st3) => chg (fun so => putT so kk dv) env st3 ro
      | none => none
    | none => none
  | _ => none
theorem xstT (hu : X.A.units + 1 < cLine) (ho : XE X o mo) (hi : XK X i mk) (he : XE X e me) (hs2 : swapsWith e (some (.Subscript o i tpos)) pos.line X.env = pure false := by rfl) : XS X (.Assign [.Subscript o i tpos] e pos) (mStT mo mk me) := by
  obtain ⟨to, po, so⟩ := ho
  obtain ⟨ti, pi, si⟩ := hi
  obtain ⟨te, pe, se⟩ := he
  refine ⟨_, ps_dput hu po pi pe hs2, ?_⟩
  intro F0 μ0 H0 Fg μg σ F μ H env st out D oo e k
  unfold mStT at e
  split at e
  · rename_i dv st1 e1
    split at e
    · rename_i ro st2 e2
      split at e
      · rename_i kk st3 e3
        refine se σ F μ H env st _ _ _ oo.wd oo.en e1 fun v F1 μ1 H1 w1 s1 r1 => ?_
        refine so σ F1 μ1 H1 env st1 _ _ _ w1 (oo.en.step s1) e2 fun ov F2 μ2 H2 w2 s2 r2 => ?_
        refine si σ F2 μ2 H2 env st2 _ _ _ w2 ((oo.en.step s1).step s2) e3 fun ad F3 μ3 H3 w3 s3 hd hm => ?_
        have o3 := ((oo.step w1 s1).step w2 s2).step w3 s3
        obtain ⟨a, so1, u, so2, rfl, hu1, ru, ef, kk2⟩ := chg_ok o3 (r2.step s3) e k
        unfold putT at ef
        split at ef
        · rename_i kvs
          split at ef
          · rename_i hl
            cases ef
            cases u <;> first | exact ru.elim | skip
            rename_i vs
            refine ⟨a, _, rfl, .inr ⟨vs, kk, ad, hu1, rfl, hd, by rw [← RepKV.length ru, sizeLine_eq]; omega, rfl⟩, kk2 _ ?_⟩
            exact RepKV.put kk ((s2.trans s3).rep r1) ru
          · cases ef
        · cases ef
      · cases e
    · cases e
  · cases e
end
end Gx

set_option maxHeartbeats 2000000
namespace Gx
open PySem L2 PySem.Spec PyProof.Rows
/-! ### a dict of the module with text keys; texts by place, their length -/
structure CDct (K : KW) (w : World) (mg : Str → Option Value) (x : Str) (hits : List (Str × D)) (misses : List Str) : Prop where
  h : ∃ a es n, mg x = some (.ref a) ∧ KDict K w a es n ∧ (∀ p ∈ hits, ∃ v u, PySem.W.nsIn K a p.1 = some (some u) ∧ RelV v u ∧ ∀ F μ, Rep K F μ p.2 v) ∧ ∀ z ∈ misses, PySem.W.nsIn K a z = some none
section
variable {X : Cx} {a b e : Expr} {ma mb m : ME} {pos p : Pos}
def fInC (neg : Bool) (hits : List (Str × D)) (misses : List Str) : Env → Store → R → Option (R × Store) := fun _ st x => match x with
  | .d (.str z) => if (valD hits z).isSome then some (.d (.bl (!neg)), st) else if z ∈ misses then some (.d (.bl neg), st) else none
  | _ => none
theorem valD_in {κ : Type} [DecidableEq κ] {k : κ} {v : D} {ls : List (κ × D)} (h : valD ls k = some v) : (k, v) ∈ ls := by
  unfold valD at h
  rw [Option.map_eq_some_iff] at h
  obtain ⟨p, hp, rfl⟩ := h
  have h1 := List.mem_of_find?_eq_some hp
  have h2 := List.find?_some hp
  have h3 : p.1 = k := by simpa using h2
  rw [← h3]
  exact h1
theorem xinC {x : Str} {hits misses} (c : CDct X.kw X.w X.mg x hits misses) (hg : Gl X x) (ha : XE X a ma) (h1 : behindInMarks .In (.Name x p) = false := by rfl) (hd : (x == ("__debug__" : Str)) = false := by decide) : XE X (.Compare a [.In] [.Name x p] pos) (m1 ma (fInC false hits misses)) := by
  obtain ⟨d, es, n, h, D, hh, hm⟩ := c
  obtain ⟨ta, pa, sa⟩ := ha
  refine ⟨_, pe_cmpR (op_in_kd D) pa (pe_glob (v := .ref d) hg h rfl hd) h1, ?_⟩
  intro σ F μ H env st r st' Q w en e k
  unfold m1 at e
  split at e
  · rename_i y st1 e1
    unfold fInC at e
    split at e
    · rename_i z
      split at e
      · rename_i hz
        cases e
        obtain ⟨v, hv⟩ := Option.isSome_iff_exists.mp hz
        obtain ⟨v', u, h2, _, _⟩ := hh _ (valD_in hv)
        exact sa σ F μ H env st _ _ _ w en e1 fun v0 F1 μ1 H1 w1 s1 r1 => ⟨z, some u, r1, rfl, h2, k _ F1 μ1 H1 w1 s1 rfl⟩
      · split at e
        · rename_i hz
          cases e
          exact sa σ F μ H env st _ _ _ w en e1 fun v0 F1 μ1 H1 w1 s1 r1 => ⟨z, none, r1, rfl, hm z hz, k _ F1 μ1 H1 w1 s1 rfl⟩
        · cases e
    · cases e
  · cases e
theorem xinCt {x : Str} {hits misses} (c : CDct X.kw X.w X.mg x hits misses) (hg : Gl X x) (ha : XE X a ma) (h1 : behindInMarks .In (.Name x p) = false := by rfl) (hd : (x == ("__debug__" : Str)) = false := by decide) : XT X (.Compare a [.In] [.Name x p] pos) (mTest (m1 ma (fInC false hits misses))) := by
  obtain ⟨d, es, n, h, D, hh, hm⟩ := c
  obtain ⟨ta, pa, sa⟩ := ha
  refine ⟨_, pt_cmpR (op_in_kd D) pa (pe_glob (v := .ref d) hg h rfl hd) h1, simTest ?_⟩
  intro σ F μ H env st r st' Q w en e k
  unfold m1 at e
  split at e
  · rename_i y st1 e1
    unfold fInC at e
    split at e
    · rename_i z
      split at e
      · rename_i hz
        cases e
        obtain ⟨v, hv⟩ := Option.isSome_iff_exists.mp hz
        obtain ⟨v', u, h2, _, _⟩ := hh _ (valD_in hv)
        exact sa σ F μ H env st _ _ _ w en e1 fun v0 F1 μ1 H1 w1 s1 r1 => ⟨z, some u, r1, rfl, h2, k _ F1 μ1 H1 w1 s1 rfl⟩
      · split at e
        · rename_i hz
          cases e
          exact sa σ F μ H env st _ _ _ w en e1 fun v0 F1 μ1 H1 w1 s1 r1 => ⟨z, none, r1, rfl, hm z hz, k _ F1 μ1 H1 w1 s1 rfl⟩
        · cases e
    · cases e
  · cases e
theorem xnotinC {x : Str} {hits misses} (c : CDct X.kw X.w X.mg x hits misses) (hg : Gl X x) (ha : XE X a ma) (h1 : behindInMarks .NotIn (.Name x p) = false := by rfl) (hd : (x == ("__debug__" : Str)) = false := by decide) : XE X (.Compare a [.NotIn] [.Name x p] pos) (m1 ma (fInC true hits misses)) := by
  obtain ⟨d, es, n, h, D, hh, hm⟩ := c
  obtain ⟨ta, pa, sa⟩ := ha
  refine ⟨_, pe_cmpR (op_notIn_kd D) pa (pe_glob (v := .ref d) hg h rfl hd) h1, ?_⟩
  intro σ F μ H env st r st' Q w en e k
  unfold m1 at e
  split at e
  · rename_i y st1 e1
    unfold fInC at e
    split at e
    · rename_i z
      split at e
      · rename_i hz
        cases e
        obtain ⟨v, hv⟩ := Option.isSome_iff_exists.mp hz
        obtain ⟨v', u, h2, _, _⟩ := hh _ (valD_in hv)
        exact sa σ F μ H env st _ _ _ w en e1 fun v0 F1 μ1 H1 w1 s1 r1 => ⟨z, some u, r1, rfl, h2, k _ F1 μ1 H1 w1 s1 rfl⟩
      · split at e
        · rename_i hz
          cases e
          exact sa σ F μ H env st _ _ _ w en e1 fun v0 F1 μ1 H1 w1 s1 r1 => ⟨z, none, r1, rfl, hm z hz, k _ F1 μ1 H1 w1 s1 rfl⟩
        · cases e
    · cases e
  · cases e
theorem xnotinCt {x : Str} {hits misses} (c : CDct X.kw X.w X.mg x hits misses) (hg : Gl X x) (ha : XE X a ma) (h1 : behindInMarks .NotIn (.Name x p) = false := by rfl) (hd : (x == ("__debug__" : Str)) = false := by decide) : XT X (.Compare a [.NotIn] [.Name x p] pos) (mTest (m1 ma (fInC true hits misses))) := by
  obtain ⟨d, es, n, h, D, hh, hm⟩ := c
  obtain ⟨ta, pa, sa⟩ := ha
  refine ⟨_, pt_cmpR (op_notIn_kd D) pa (pe_glob (v := .ref d) hg h rfl hd) h1, simTest ?_⟩
  intro σ F μ H env st r st' Q w en e k
  unfold m1 at e
  split at e
  · rename_i y st1 e1
    unfold fInC at e
    split at e
    · rename_i z
      split at e
      · rename_i hz
        cases e
        obtain ⟨v, hv⟩ := Option.isSome_iff_exists.mp hz
        obtain ⟨v', u, h2, _, _⟩ := hh _ (valD_in hv)
        exact sa σ F μ H env st _ _ _ w en e1 fun v0 F1 μ1 H1 w1 s1 r1 => ⟨z, some u, r1, rfl, h2, k _ F1 μ1 H1 w1 s1 rfl⟩
      · split at e
        · rename_i hz
          cases e
          exact sa σ F μ H env st _ _ _ w en e1 fun v0 F1 μ1 H1 w1 s1 r1 => ⟨z, none, r1, rfl, hm z hz, k _ F1 μ1 H1 w1 s1 rfl⟩
        · cases e
    · cases e
  · cases e
theorem xinTt {mk : MK} (hu : X.A.units + 65 < cLine) (hk : XK X b mk) (ha : XE X a ma) (h1 : behindInMarks .In a = false := by rfl) : XT X (.Compare b [.In] [a] pos) (mTest (mInT false mk ma)) := by
  obtain ⟨ta, pa, sa⟩ := ha
  obtain ⟨tb, pb, sb⟩ := hk
  exact ⟨_, pt_cmp (pc_din (by omega) pb pa) h1, simB (simInT false sb sa)⟩
theorem xnotinTt {mk : MK} (hu : X.A.units + 65 < cLine) (hk : XK X b mk) (ha : XE X a ma) (h1 : behindInMarks .NotIn a = false := by rfl) : XT X (.Compare b [.NotIn] [a] pos) (mTest (mInT true mk ma)) := by
  obtain ⟨ta, pa, sa⟩ := ha
  obtain ⟨tb, pb, sb⟩ := hk
  exact ⟨_, pt_cmp (pc_dnotin (by omega) pb pa) h1, simB (simInT true sb sa)⟩
def fIxC (hits : List (Str × D)) : Env → Store → R → Option (R × Store) := fun _ st x => match x with
  | .d (.str z) => match valD hits z with | some v => some (.d v, st) | none => none
  | _ => none
theorem xixC {x : Str} {hits misses} (c : CDct X.kw X.w X.mg x hits misses) (hg : Gl X x) (ha : XE X a ma) (hs : PlainIx a := by exact fun _ _ => rfl) (hd : (x == ("__debug__" : Str)) = false := by decide) : XE X (.Subscript (.Name x p) a pos) (m1 ma (fIxC hits)) := by
  obtain ⟨d, es, n, h, D, hh, hm⟩ := c
  obtain ⟨ta, pa, sa⟩ := ha
  refine ⟨_, pe_ix ix_kdict (pe_glob (v := .ref d) hg h rfl hd) pa hs, ?_⟩
  intro σ F μ H env st r st' Q w en e k
  unfold m1 at e
  split at e
  · rename_i y st1 e1
    unfold fIxC at e
    split at e
    · rename_i z
      split at e
      · rename_i v hv
        cases e
        obtain ⟨v', u, h2, rv, rp⟩ := hh _ (valD_in hv)
        exact sa σ F μ H env st _ _ _ w en e1 fun v0 F1 μ1 H1 w1 s1 r1 => ⟨d, z, v', rfl, r1, ⟨es, n, u, D.at_, D.lit, h2, rv⟩, k _ F1 μ1 H1 w1 s1 (rp _ _)⟩
      · cases e
    · cases e
  · cases e
/-! texts -/
def f2IxS : Env → Store → R → R → Option (R × Store) := fun _ st x y => match x, y with
  | .d (.str z), .d (.int i) => if z.length ≤ 16000000 then match atI z.cps.toList i with | some c => some (.d (.str ⟨#[c]⟩), st) | none => none else none
  | _, _ => none
theorem sim2IxS {K : KW} : Sim2 K rIxS f2IxS := by
  intro σ F μ H env st x y v u z st' Q w en rx ry h k
  unfold f2IxS at h
  split at h
  · rename_i s i
    split at h
    · rename_i hz
      split at h
      · rename_i c hc
        cases h
        exact ⟨s, i, c, rx, ry, small16 hz, hc, k _ F μ H w Stp.refl rfl⟩
      · cases h
    · cases h
  · cases h
theorem xixA (hu : X.A.units + 1 < cLine) (ha : XE X a ma) (hb : XE X b mb) (hs : PlainIx b := by exact fun _ _ => rfl) (hn : NoSl b := by exact fun _ _ => rfl) : XE X (.Subscript a b pos) (m2 ma mb (fOr fIx f2IxS)) := by
  obtain ⟨t1, p1, s1⟩ := xix (pos := pos) hu ha hb hs hn
  obtain ⟨ta, pa, sa⟩ := ha
  obtain ⟨tb, pb, sb⟩ := hb
  exact ⟨_, PE.or p1 (pe_ix ix_str pa pb hs), simOr2 s1 (sim2 sa sb sim2IxS)⟩
def f1LenA : Env → Store → R → Option (R × Store) := fun env st x => match f1Len env st x with
  | some z => some z
  | none => match x with | .d (.str z) => if z.length ≤ 16000000 then some (.d (.int z.length), st) else none | _ => none
theorem sim1LenS {K : KW} : Sim1 K (fun xs H Q => ∃ z, xs = [V.str z] ∧ z.length ≤ sizeLine ∧ Q (.int z.length) H) (fun _ st x => match x with | .d (.str z) => if z.length ≤ 16000000 then some (.d (.int z.length), st) else none | _ => none) := by
  intro σ F μ H env st x v z st' Q w en rx h k
  dsimp only at h
  split at h
  · rename_i s
    split at h
    · rename_i hz
      cases h
      exact ⟨s, by rw [rx], small16 hz, k _ F μ H w Stp.refl rfl⟩
    · cases h
  · cases h
theorem xlenA {x : Str} {p : Pos} (hg : Gl X x) (hm : X.mg x = none) (hv : bootBuiltins x = some (.builtin "len")) (ha : XE X e m) (hn : x ≠ "__name__" := by decide)
    (hdb : (x == ("__debug__" : Str)) = false := by decide) (he : starEach (e :: []) X.env = (false, eval e X.env) :: starEach [] X.env := by rfl) (hpl : (backTo pos (starEach [] X.env)).any (·.1) = false := by rfl) : XE X (.Call (.Name x p) [e] [] pos) (m1 m f1LenA) :=
  xcallB ((call_len_seq.or call_lenRd).or call_len_str) (Sim1.or sim1Len sim1LenS) hg hm hv ha hn hdb he hpl
end
end Gx

set_option maxHeartbeats 2000000
namespace Gx
open PySem L2 PySem.Spec PyProof.Rows
/-- a comprehension within another one -/
abbrev CF (L : List (Str × NameKind)) (x : Str) : Prop := L.lookup x = some .cell ∨ L.lookup x = some .free
theorem look_if {x n : Str} {k : NameKind} {c : Bool} {L L0 : List (Str × NameKind)} (ih : CF L0 x → CF L x) (h : CF ((n, k) :: L0) x) : CF ((if c = true then (n, NameKind.cell) else (n, k)) :: L) x := by
  by_cases q : (x == n) = true
  · unfold CF at h ⊢
    simp only [List.lookup_cons, q] at h
    cases c
    · simp only [List.lookup_cons, q, Bool.false_eq_true, if_false]
      exact h
    · left
      simp only [List.lookup_cons, q, if_true]
  · have q' : (x == n) = false := by simpa using q
    unfold CF at h ih ⊢
    simp only [List.lookup_cons, q'] at h
    cases c
    · simp only [List.lookup_cons, q', Bool.false_eq_true, if_false]
      exact ih h
    · simp only [List.lookup_cons, q', if_true]
      exact ih h
theorem relabel_cf {env : PySem.Env} : ∀ {names : List (Str × NameKind)} {x : Str}, CF names x →
    CF (names.map fun (n, k) => if (k == NameKind.free && env.scope.kind == .function && env.kindOf n == some .cell) then (n, NameKind.cell) else (n, k)) x
  | [], x, h => by rcases h with h | h <;> cases h
  | (n, k) :: r, x, h => look_if (c := (k == NameKind.free && env.scope.kind == .function && env.kindOf n == some .cell)) relabel_cf h
theorem blkOk_in {X : Cx} {s : Shared} {H : Hp} {sc0 : Scope} {C : Addr} {cl : List (Str × Addr)} {fp : List Addr} {N : List Str} {scope : Scope} {own : List (Str × Nat)} (eN : X.N = N) (h : blkC N sc0 scope own = true) :
    BlkOk (X.blk s H sc0 (compEnvC sc0 cl C X.env) fp).N (X.blk s H sc0 (compEnvC sc0 cl C X.env) fp).env.scope scope own := by
  subst eN
  have b := blkOk_by h
  exact ⟨b.kind, b.uniq, b.ix, fun y hy e => relabel_cf (b.free y hy e), b.own⟩
/-! ### xs[i:j] of a tuple, a fresh one -/
section
variable {X : Cx} {a b c e : Expr} {ma mb mc m : ME} {pos : Pos}
def mFSlT (a : ME) (lo hi : MO) : MF := fun env st => match a env st with
  | some (.d (.tup xs), st1) => match lo env st1 with
    | some (l, st2) => match hi env st2 with
      | some (u, st3) => if HT.sIx xs.length 0 l = 0 ∧ HT.sIx xs.length xs.length u = xs.length then none else some (.tup (cutD xs l u), st3)
      | none => none
    | none => none
  | _ => none
theorem xfslT {p2 : Pos} {lo hi : Option Expr} {ml mh : MO} (ha : XE X a ma) (hl : XO X lo ml) (hh : XO X hi mh) : XF X (.Subscript a (.Slice lo hi none p2) pos) (mFSlT ma ml mh) := by
  obtain ⟨ta, pa, sa⟩ := ha
  obtain ⟨tl, pl, sl⟩ := hl
  obtain ⟨th, ph, sh⟩ := hh
  refine ⟨_, pe_slice sl_tup pa pl ph, ?_⟩
  intro σ F μ H env st r st' Q w en h k
  unfold mFSlT at h
  split at h
  · rename_i xs st1 e1
    split at h
    · rename_i l st2 e2
      split at h
      · rename_i u st3 e3
        split at h
        · cases h
        · rename_i hw
          cases h
          refine sa σ F μ H env st _ st1 _ w en e1 fun v F1 μ1 H1 w1 s1 r1 => ?_
          refine sl σ F1 μ1 H1 env st1 l st2 _ w1 (en.step s1) e2 fun F2 μ2 H2 w2 s2 => ?_
          refine sh σ F2 μ2 H2 env st2 u _ _ w2 ((en.step s1).step s2) e3 fun F3 μ3 H3 w3 s3 => ?_
          have sA := (s1.trans s2).trans s3
          obtain ⟨a, vs, e, s, q⟩ := (r1.step s2).step s3
          refine ⟨a, vs, e, SqT.mono w3.sub s, by rw [← q.length]; exact hw, fun p hp => ?_⟩
          exact k p (.tup (cutV vs l u)) F3 μ3 _ (w3.lay0 hp) (sA.trans (Stp.lay0 hp)) (fresh_of sA hp) (w3.Fnone hp) (w3.out hp) upd_same (cut_rep q)
      · cases h
    · cases h
  · cases h
end
/-! ### dict([(k, v) for x in xs]) with tuple keys -/
def mergeT (kvs : List (List Key × V)) (more : List (List Key × V)) : List (List Key × V) := more.foldl (fun acc kv => putK acc kv.1 kv.2) kvs
def mergeDT (kvs : List (List Key × D)) (more : List (List Key × D)) : List (List Key × D) := more.foldl (fun acc kv => putD acc kv.1 kv.2) kvs
theorem repKV_mergeT {K : KW} {F : Hp} {μ : List Addr} : ∀ {more : List (List Key × D)} {rs : List (List Key × V)} {kvs : List (List Key × D)} {vs : List (List Key × V)}, RepKV K F μ more rs → RepKV K F μ kvs vs → RepKV K F μ (mergeDT kvs more) (mergeT vs rs)
  | [], [], _, _, _, h => h
  | p :: ps, q :: qs, kvs, vs, ⟨e, r, t⟩, h => by
    show RepKV K F μ (mergeDT (putD kvs p.1 p.2) ps) (mergeT (putK vs q.1 q.2) qs)
    rw [e]
    exact repKV_mergeT t (RepKV.put q.1 r h)
  | [], _ :: _, _, _, h, _ => h.elim
  | _ :: _, [], _, _, h, _ => h.elim
theorem mergeT_len : ∀ (more kvs : List (List Key × V)), (mergeT kvs more).length ≤ kvs.length + more.length
  | [], kvs => Nat.le_refl _
  | p :: ps, kvs => by
    have h := mergeT_len ps (putK kvs p.1 p.2)
    have h2 : (putK kvs p.1 p.2).length ≤ kvs.length + 1 := by
      unfold putK
      split <;> simp
    show (mergeT (putK kvs p.1 p.2) ps).length ≤ _
    simp only [List.length_cons]
    omega
theorem KT_merge {H : Hp} : ∀ {more : List (List Key × V)} {rs : List (List Key × Addr × Value)} {kvs : List (List Key × V)} {xs : List (List Key × Addr × Value)}, KT H more rs → KT H kvs xs → KT H (mergeT kvs more) (storedAllH xs rs) := by
  intro more rs kvs xs r
  induction r generalizing kvs xs with
  | nil => exact fun h => h
  | @cons p q ps qs hq t ih =>
    intro h
    show KT H (mergeT (putK kvs p.1 p.2) ps) (storedAllH (storedH xs q.1 q.2.1 q.2.2) qs)
    rw [← hq.1]
    exact ih (KT.put h p.1 hq.2.1 hq.2.2)
abbrev PrT (H : Hp) : List (Addr × Addr) → List (List Key × V) → Prop := Paired fun z kv => H z.1 = some (.tup [.ref z.2, kv.2]) ∧ H z.2 = some (.tup (kv.1.map kV))
section
variable {X : Cx}
theorem prT_at {pins : List (Addr × Obj)} {σ : L2.St} {H : Hp} {s : Shared} (I : Inv X pins σ H s) : ∀ {ts : List (Addr × Addr)} {kvs : List (List Key × V)}, PrT H ts kvs →
    ∃ ps : List (List Key × Addr × Value), KT H kvs ps ∧ ps.length = ts.length ∧ ∀ (j : Nat) (q : List Key × Addr × Value), ps[j]? = some q → ∃ z, ts[j]? = some z ∧ PairAt s.heap z.1 (.ref q.2.1) q.2.2
  | _, _, .nil => ⟨[], .nil, rfl, fun j q e => by simp at e⟩
  | _, _, .cons (a := z) (b := kv) h t => by
    obtain ⟨ps, r, hl, hp⟩ := prT_at I t
    obtain ⟨_, its, rv, ht⟩ := (show ObjOk X.prog X.w H s.heap z.1 (.tup [.ref z.2, kv.2]) from I.hok z.1 _ h.1)
    obtain ⟨u, y, ei, ru, ry⟩ := vals2 rv
    subst ei
    cases ru
    refine ⟨(kv.1, z.2, y) :: ps, .cons ⟨rfl, h.2, ry⟩ r, by rw [List.length_cons, List.length_cons, hl], fun j q e => ?_⟩
    cases j with
    | zero =>
      have e' : (kv.1, z.2, y) = q := Option.some.inj e
      subst e'
      obtain ⟨o, h1, h2, n, h3⟩ := ht
      exact ⟨z, rfl, .inl ⟨o, h1, h2, n, h3⟩⟩
    | succ j =>
      obtain ⟨z', e1, e2⟩ := hp j q (by simpa using e)
      exact ⟨z', by simpa using e1, e2⟩
def rDictT : List V → Hp → VK → Prop := fun xs H Q => ∃ (a : Addr) (ts : List (Addr × Addr)) (kvs : List (List Key × V)), xs = [.ref a] ∧ H a = some (.lst (ts.map fun z => V.ref z.1)) ∧ PrT H ts kvs ∧
  ∀ p, H p = none → Q (.ref p) (upd H p (.dT (mergeT [] kvs)))
theorem call_dictT (hcalm : X.calm = true) (hu : X.A.units + 65 < cLine) : CallR X (.type "dict") rDictT := by
  intro pins s σ H xs us Q I r q
  obtain ⟨a, ts, kvs, ex, hq, hp, q⟩ := q
  subst ex
  obtain ⟨u, eu, rx⟩ := vals1 r
  subst eu
  cases rx
  obtain ⟨hz, its, n, rv, ho⟩ := (show ObjOk X.prog X.w H s.heap a (.lst (ts.map fun z => V.ref z.1)) from I.hok a _ hq)
  have ei := refs_at (ps := ts.map (·.1)) (us := its) (by rw [List.map_map]; exact rv)
  subst ei
  rw [List.length_map] at hz
  obtain ⟨ps, rel, hl, hpr⟩ := prT_at I hp
  have hkl : kvs.length = ps.length := Paired.length rel
  have P := PairArg.list (prog := X.prog) (w := X.w) a ((ts.map (·.1)).map Value.ref).toArray (fun j => (ts.map (·.1)).getD j 0) (ps.map fun q => (Value.ref q.2.1, q.2.2))
  refine call_dict_pairsH (knd := tupleKind (mixKind X.prog X.w)) (ps := ps) P (I.ok.hd hcalm) ?_ ?_ ?_ ?_ ?_ ?_
  · show X.A.units + 1 + 1 < cLine
    omega
  · refine ⟨⟨_, n, ho, rfl, rfl, rfl⟩, by simp [hl], fun j k v hj => ?_⟩
    rw [List.getElem?_map, Option.map_eq_some_iff] at hj
    obtain ⟨q0, h1, h2⟩ := hj
    cases h2
    obtain ⟨z, h3, h4⟩ := hpr j q0 h1
    refine ⟨?_, ?_⟩
    · simp [h3]
    · show PairAt s.heap ((ts.map (·.1)).getD j 0) _ _
      rw [List.getD_eq_getElem?_getD, List.getElem?_map, h3]
      exact h4
  · refine ⟨by simp, fun i key v hj => ?_⟩
    rw [PairRel, List.getElem?_map, Option.map_eq_some_iff] at hj
    obtain ⟨q0, h1, h2⟩ := hj
    cases h2
    exact ⟨q0.1, q0.2.1, h1, rfl⟩
  · intro h' hk x hx
    obtain ⟨j, hj⟩ := List.getElem?_of_mem hx
    obtain ⟨kv, hkv, e1, e2, _⟩ := L2.DX.pget rel hj
    obtain ⟨o, its', n', h1, h2, h3, h4⟩ := (show IsTupleKey (mixKind X.prog X.w) s.heap kv.1 x.2.1 from key_of I.hok e2)
    show IsTupleKey (mixKind X.prog X.w) h' x.1 x.2.1
    rw [← e1]
    exact ⟨o, its', n', hk _ _ (Nat.ne_of_lt (Heap.lt_size h1)) (fun z => nomatch z) h1, h2, h3, h4⟩
  · rw [List.length_map, hl]; exact hz
  · intro h' tk hd' k
    have hm : (s.heap.objs.size == sysModules) = false := beq_eq_false_iff_ne.mpr (Nat.ne_of_gt I.big)
    have hlen : (mergeT [] kvs).length ≤ sizeLine := by
      refine Nat.le_trans (mergeT_len kvs []) ?_
      rw [List.length_nil, Nat.zero_add, hkl, hl]
      exact hz
    obtain ⟨o, es, ep, d1, d2, d3, d4, d5, d6⟩ := hd'
    have kt := (KT_merge rel (.nil : KT H [] [])).keeps (H' := upd H s.heap.objs.size (.dT (mergeT [] kvs))) fun b ys e => by
      rw [upd_ne (ne_of_none e (I.hok.fresh (Nat.le_refl _)))]; exact e
    exact ⟨.ref s.heap.objs.size, upd H s.heap.objs.size (.dT (mergeT [] kvs)), I.laid (t' := tk) (fun b o e => k b o (fun z => nomatch z) e) (Nat.le_refl _)
      (show ObjOk X.prog X.w _ _ _ (.dT (mergeT [] kvs)) from ⟨hlen, hm, _, kt, o, es, ep, d1, d2, d3, d4, d6⟩), rfl, q _ (I.hok.fresh (Nat.le_refl _))⟩
end
/-! ### list(d.values()) of a dict with tuple keys -/
def valsO (p d : Addr) : HO := .ext fun h => h.IsValuesView p d
theorem valsO_ok {P : Program} {w : World} {H : Hp} {h : Heap} {p d : Addr} (e : h.get? p = some { cls := .type "dict_values", data := .fields #[.ref d] }) : ObjOk P w H h p (valsO p d) :=
  ⟨⟨_, e, rfl, rfl⟩, ⟨_, e⟩, fun h1 h2 x k => let ⟨o, ho, r⟩ := x; ⟨o, k o ho, r⟩⟩
section
variable {X : Cx}
def rValsT : V → List V → Hp → VK → Prop := fun x xs H Q => ∃ (a : Addr) (kvs : List (List Key × V)), x = .ref a ∧ xs = [] ∧ H a = some (.dT kvs) ∧ ∀ p, H p = none → Q (.ref p) (upd H p (valsO p a))
theorem mt_valsT : MtR X "dict.values" rValsT := by
  intro pins s σ H x xs v us Q I rx rxs h
  obtain ⟨a, kvs, rfl, rfl, ha, q⟩ := h
  cases rx
  cases rxs
  obtain ⟨z, hd, xs', rel, o, es, ep, ho, hx, hdat, _⟩ := dt_of I.hok ha
  have raw : s.heap.DictRaw a es ep := ⟨o, ho, hx, hdat⟩
  refine call_meetsIn PySem.F.slot_dict_values raw.typeIs PySem.F.entry_dict_values (PySem.F.args_dict_values_1 _) (meets_dict_values_raw a hd) ⟨⟨es, ep, raw⟩, ?_⟩
  have hf : H s.heap.objs.size = none := I.hok.fresh (Nat.le_refl _)
  exact ⟨.ref s.heap.objs.size, upd H s.heap.objs.size (valsO s.heap.objs.size a), I.laid (t' := s.toks) (fun b u e => Heap.get?_push_of_some _ e) (Nat.le_refl _) (valsO_ok (Heap.get?_push_size _ rfl)), rfl, q _ hf⟩
def rLiVals : List V → Hp → VK → Prop := fun xs H Q => ∃ (p a : Addr) (kvs : List (List Key × V)), xs = [.ref p] ∧ H p = some (valsO p a) ∧ H a = some (.dT kvs) ∧ ∀ q, H q = none → Q (.ref q) (upd H q (.lst (kvs.map (·.2))))
theorem vals_at {H : Hp} : ∀ {kvs : List (List Key × V)} {xs : List (List Key × Addr × Value)}, KT H kvs xs → Vals (kvs.map (·.2)) (xs.map (·.2.2))
  | _, _, .nil => .nil
  | _, _, .cons h t => .cons h.2.2 (vals_at t)
theorem call_liVals (hcalm : X.calm = true) : CallR X (.type "list") rLiVals := by
  intro pins s σ H xs us Q I r q
  obtain ⟨p, a, kvs, ex, hp, ha, q⟩ := q
  subst ex
  obtain ⟨u, eu, rx⟩ := vals1 r
  subst eu
  cases rx
  have view : s.heap.IsValuesView p a := (show ObjOk X.prog X.w H s.heap p (valsO p a) from I.hok p _ hp).1
  obtain ⟨z, hd, xs', rel, o, es, ep, ho, hx, hdat, hes, his, hn⟩ := dt_of I.hok ha
  have hsz : es.size = xs'.length := size_of_entries hes
  have hkl : kvs.length = xs'.length := Paired.length rel
  refine PySem.W.kdl_call (PySem.KdlSrc.rawValues (r := p) (d := a) (es := es) (ep := ep)) (I.ok.hd hcalm) ⟨view, ⟨o, ho, hx, hdat⟩⟩ (by rw [hsz, ← hkl]; exact z) fun h' tk acc c hk hS hacc => ?_
  have hf : H s.heap.objs.size = none := I.hok.fresh (Nat.le_refl _)
  have e : acc.toList = xs'.map (·.2.2) := by
    apply List.ext_getElem?
    intro j
    rw [Array.getElem?_toList, List.getElem?_map]
    by_cases hj : j < acc.size
    · obtain ⟨hi, e⟩ := hacc.2 j acc[j] (Array.getElem?_eq_getElem hj)
      have h3 := entry_at hes j
      rw [Array.getElem?_eq_getElem hi] at h3
      rw [Array.getElem?_eq_getElem hj, e]
      cases hx : xs'[j]? with
      | none => rw [hx] at h3; cases h3
      | some x => rw [hx] at h3; have h3 := Option.some.inj h3; rw [h3]; rfl
    · have h1 : acc.size = xs'.length := hacc.1.trans hsz
      have h2 : xs'.length ≤ j := by omega
      rw [Array.getElem?_eq_none (by omega), List.getElem?_eq_none h2]
      rfl
  refine ⟨.ref s.heap.objs.size, upd H s.heap.objs.size (.lst (kvs.map (·.2))), I.laid (t' := tk) hk (Nat.le_refl _) ?_, rfl, q _ hf⟩
  refine ⟨by rw [List.length_map]; exact z, xs'.map (·.2.2), c, vals_at rel, ?_⟩
  rw [hS, ← e, Array.toArray_toList]
end
def lcGoT (j : Nat) (mk : MF) (me : ME) (env : Env) (chk : Store → Bool) : List D → Store → List (List Key × D) → Option (List (List Key × D) × Store)
  | [], st, acc => if chk st then some (acc, st) else none
  | x :: xs, st, acc => if chk st then
      match mk (env.set j (.val x)) st with
      | some (.tup ks, st1) => match keysOf ks with
        | some kk => match me (env.set j (.val x)) st1 with
          | some (.d d, st2) => if acc.length < 16000000 then lcGoT j mk me env chk xs st2 (acc ++ [(kk, d)]) else none
          | _ => none
        | none => none
      | _ => none
    else none
def mDictLc (mi : MI) (j : Nat) (mk : MF) (me : ME) (vs : List Nat) : MF := fun env st => match mi env st with
  | some (src, st1) => match srcItems env st1 src with
    | some xs => match lcGoT j mk me (wipeE env vs) (fun st => decide (srcItems env st src = some xs)) xs st1 [] with
      | some (acc, st2) => some (.dT (mergeDT [] acc), st2)
      | none => none
    | none => none
  | none => none
theorem PrT.app {H : Hp} : ∀ {ts : List (Addr × Addr)} {kvs : List (List Key × V)} {ts' kvs'}, PrT H ts kvs → PrT H ts' kvs' → PrT H (ts ++ ts') (kvs ++ kvs')
  | _, _, _, _, .nil, h => h
  | _, _, _, _, .cons a t, h => .cons a (PrT.app t h)
/-- the objects of a pair, unknown to F and μ -/
abbrev OffT (F : Hp) (μ : List Addr) (ts : List (Addr × Addr)) : Prop := ∀ z ∈ ts, (F z.1 = none ∧ z.1 ∉ μ) ∧ F z.2 = none ∧ z.2 ∉ μ
theorem PrT.move {F : Hp} {μ : List Addr} {H : Hp} {F' : Hp} {μ' : List Addr} {H' : Hp} (s : Stp F μ H F' μ' H') : ∀ {ts : List (Addr × Addr)} {kvs : List (List Key × V)}, PrT H ts kvs → OffT F μ ts → PrT H' ts kvs ∧ OffT F' μ' ts
  | _, _, .nil, _ => ⟨.nil, fun z hz => nomatch hz⟩
  | _, _, .cons (a := z) a t, o => by
    obtain ⟨h1, h2⟩ := PrT.move s t fun x hx => o x (List.mem_cons_of_mem _ hx)
    obtain ⟨⟨f1, m1⟩, f2, m2⟩ := o z List.mem_cons_self
    refine ⟨.cons ⟨s.frame _ _ a.1 m1, s.frame _ _ a.2 m2⟩ h1, fun x hx => ?_⟩
    rcases List.mem_cons.mp hx with rfl | hx
    · exact ⟨s.out f1 m1 (by rw [a.1]; simp), s.out f2 m2 (by rw [a.2]; simp)⟩
    · exact h2 x hx
theorem PrT.pokeL {H : Hp} {D : Addr} {av bv : List V} (hD : H D = some (.lst av)) : ∀ {ts : List (Addr × Addr)} {kvs : List (List Key × V)}, PrT H ts kvs → PrT (upd H D (.lst bv)) ts kvs
  | _, _, .nil => .nil
  | _, _, .cons a t => .cons ⟨by rw [upd_ne (ne_of a.1 hD (fun z => nomatch z))]; exact a.1, by rw [upd_ne (ne_of a.2 hD (fun z => nomatch z))]; exact a.2⟩ (PrT.pokeL hD t)
theorem PrT.new {H : Hp} {p : Addr} {o : HO} (hp : H p = none) : ∀ {ts : List (Addr × Addr)} {kvs : List (List Key × V)}, PrT H ts kvs → PrT (upd H p o) ts kvs
  | _, _, .nil => .nil
  | _, _, .cons a t => .cons ⟨by rw [upd_ne (ne_of_none a.1 hp)]; exact a.1, by rw [upd_ne (ne_of_none a.2 hp)]; exact a.2⟩ (PrT.new hp t)
theorem repkv_append1 {K : KW} {F : Hp} {μ : List Addr} {ps : List (List Key × D)} {qs : List (List Key × V)} {k : List Key} {d : D} {v : V} (h : RepKV K F μ ps qs) (r : Rep K F μ d v) : RepKV K F μ (ps ++ [(k, d)]) (qs ++ [(k, v)]) :=
  RepKV.append h ⟨rfl, r, trivial⟩
def tOfMF (K : KW) (m : MF) : TE := fun σ H Q => ∃ F μ env st so st', Wd K F μ H st ∧ EnvOk K F μ H env σ ∧ m env st = some (so, st') ∧
  ∀ a u F' μ' H', Wd K F' μ' H' st' → Stp F μ H F' μ' H' → H a = none → F' a = none → a ∉ μ' → H' a = some u → SORep K F' μ' so u → Q (.ref a) H'
theorem simFOfM {K : KW} {m : MF} : SimF K (tOfMF K m) m := fun σ F μ H env st r st' Q w en e k => ⟨F, μ, env, st, r, st', w, en, e, k⟩
theorem XF.pf {X : Cx} {e : Expr} {m : MF} (h : XF X e m) : PE X e (tOfMF X.kw m) := by
  obtain ⟨te, p, s⟩ := h
  exact ⟨fun pins sh σ H Q I ⟨F, μ, env, st, r, st', w, en, e1, k⟩ => p.run pins sh σ H Q I (s σ F μ H env st r st' Q w en e1 k)⟩
theorem simDictLc {K : KW} {wi : TI} {mi : MI} {j : Nat} {tk te : TE} {mk : MF} {me : ME} {vs : List Nat} (hi : SimI K wi mi) (hk : SimF K tk mk) (he : SimE K te me) (hj : j ∈ vs) :
    SimF K (tCB rDictT (tCons (tLc wi (gName j) tYes (tTup (tCons tk (tCons te tNil))) vs) tNil)) (mDictLc mi j mk me vs) := by
  intro σ F μ H env st so st' Q w en e k
  unfold mDictLc at e
  split at e
  · rename_i src st1 e1
    split at e
    · rename_i xs e2
      split at e
      · rename_i acc st2 e3
        cases e
        refine hi σ F μ H env st src st1 _ w en e1 fun J F1 μ1 H1 w1 s1 hJ D hD => ?_
        have hD0 : H D = none := fresh_of s1 hD
        refine lc_by (n := xs.length) (fun i Hc => i ≤ xs.length ∧ ∃ F2 μ2 stc ac ts av, Wd K F2 μ2 Hc stc ∧ Stp F μ H F2 μ2 Hc ∧ Stp F1 μ1 H1 F2 μ2 Hc ∧ F2 D = none ∧ D ∉ μ2 ∧ Hc D = some (.lst (ts.map fun z => V.ref z.1)) ∧ PrT Hc ts av ∧ OffT F2 μ2 ts ∧ RepKV K F2 μ2 ac av ∧ ts.length = ac.length ∧
          lcGoT j mk me (wipeE env vs) (fun st => decide (srcItems env st src = some xs)) (xs.drop i) stc ac = some (acc, st')) ?_ ?_ ?_
        · refine ⟨Nat.zero_le _, F1, μ1, st1, [], [], [], w1.lay0 hD, s1.trans (Stp.lay0 hD), Stp.lay0 hD, w1.Fnone hD, w1.out hD, upd_same, .nil, (fun z hz => nomatch hz), trivial, rfl, ?_⟩
          simpa using e3
        · rintro i Hc hin ⟨_, F2, μ2, stc, ac, ts, av, w2, s2, s2', f2, m2', hDc, pt, off, r2, hlen, go⟩
          rw [List.drop_eq_getElem_cons hin] at go
          unfold lcGoT at go
          split at go
          · rename_i hck
            have hck := of_decide_eq_true hck
            have en2 := en.step s2
            obtain ⟨vs2, ⟨a1, a2⟩, rr⟩ := srcAt w2 en2 (hJ.step s2') hck
            have hl := rr.length
            obtain ⟨g1, g2⟩ := a1 i (by omega)
            refine ⟨g1, fun x H' y => ?_⟩
            obtain ⟨eH, ex⟩ := g2 x H' y
            subst eH
            obtain ⟨d, ed, rd⟩ := rr.get' ex
            have ed' : xs[i] = d := by
              have := List.getElem?_eq_getElem hin
              rw [this] at ed; exact Option.some.inj ed
            rw [ed'] at go
            show L2.wipe ((L2.wipe σ vs).set j (some x)) vs = L2.wipe σ vs ∧ _
            refine ⟨wipe_set hj _, ?_⟩
            have enb : EnvOk K F2 μ2 H' ((wipeE env vs).set j (.val d)) ((L2.wipe σ vs).set j (some x)) := (en2.wipe vs).val j rd
            unfold tYes
            dsimp only
            rw [if_pos rfl]
            split at go
            · rename_i ks st3 e5
              split at go
              · rename_i kk e6
                split at go
                · rename_i d2 st4 e7
                  split at go
                  · rename_i hz
                    refine hk _ F2 μ2 H' _ stc _ st3 _ w2 enb e5 fun b u F3 μ3 H3 w3 s3 b0 bF bm hb rb => ?_
                    cases u <;> first | exact rb.elim | skip
                    rename_i kvs
                    have hkv := keysOf_ok rb e6
                    subst hkv
                    refine he _ F3 μ3 H3 _ st3 _ st4 _ w3 (enb.step s3) e7 fun v F4 μ4 H4 w4 s4 r4 => ?_
                    have s24 := s3.trans s4
                    have hb4 := s4.frame _ _ hb bm
                    have ob4 := s4.out bF bm (by rw [hb]; simp)
                    obtain ⟨pt4, off4⟩ := PrT.move s24 pt off
                    have o3 := s24.out f2 m2' (by rw [hDc]; simp)
                    have hD4 := s24.frame D _ hDc m2'
                    have rkv : RepKV K F4 μ4 ac av := RepKV.mono s24.fF s24.pre _ _ r2
                    refine ⟨by rw [sizeLine_eq]; simp, fun p hp => ?_⟩
                    have hpD : D ≠ p := fun q => by rw [← q, hD4] at hp; cases hp
                    have hDp : (upd H4 p (.tup [.ref b, v])) D = some (.lst (ts.map fun z => V.ref z.1)) := by rw [upd_ne hpD]; exact hD4
                    have sp : Stp F4 μ4 H4 F4 μ4 (upd H4 p (.tup [.ref b, v])) := Stp.lay0 hp
                    have w5 := w4.lay0 (o := .tup [.ref b, v]) hp
                    refine ⟨ts.map fun z => V.ref z.1, hDp, ?_, hin, F4, μ4, st4, ac ++ [(kk, d2)], ts ++ [(p, b)], av ++ [(kk, v)], w5.poke o3.1 o3.2, ((s2.trans s24).trans sp).poke hD0, ((s2'.trans s24).trans sp).poke hD, o3.1, o3.2, ?_, ?_, ?_, repkv_append1 rkv r4, by simp [hlen], go⟩
                    · rw [List.length_map, hlen, sizeLine_eq]; omega
                    · rw [upd_same, List.map_append]; rfl
                    · refine PrT.app (PrT.pokeL hDp (PrT.new hp pt4)) (.cons ⟨?_, ?_⟩ .nil)
                      · rw [upd_ne (Ne.symm hpD)]; exact upd_same
                      · have hbp : b ≠ p := fun q => by rw [← q, hb4] at hp; cases hp
                        have hbD : b ≠ D := fun q => by rw [q, hD4] at hb4; cases hb4
                        rw [upd_ne hbD, upd_ne hbp]; exact hb4
                    · intro z hz
                      rcases List.mem_append.mp hz with hz | hz
                      · exact off4 z hz
                      · rw [List.mem_singleton] at hz
                        subst hz
                        exact ⟨⟨w4.Fnone hp, w4.out hp⟩, ob4⟩
                  · cases go
                · cases go
              · cases go
            · cases go
          · cases go
        · rintro Hc ⟨_, F2, μ2, stc, ac, ts, av, w2, s2, s2', f2, m2', hDc, pt, off, r2, hlen, go⟩
          rw [List.drop_length] at go
          unfold lcGoT at go
          split at go
          · rename_i hck
            have hck := of_decide_eq_true hck
            cases go
            obtain ⟨vs2, ⟨a1, a2⟩, rr⟩ := srcAt w2 (en.step s2) (hJ.step s2') hck
            rw [rr.length]
            refine ⟨a2, D, ts, av, rfl, hDc, pt, fun p hp => ?_⟩
            exact k p (.dT (mergeT [] av)) F2 μ2 _ (w2.lay0 hp) (s2.trans (Stp.lay0 hp)) (fresh_of s2 hp) (w2.Fnone hp) (w2.out hp) upd_same (repKV_mergeT r2 trivial)
          · cases go
      · cases e
    · cases e
  · cases e
section
variable {X : Cx} {e : Expr} {m : ME} {pos : Pos}
def vasT (env : Env) : R → Option (List (List Key × D))
  | .loc i => match env[i]? with | some (.own (.dT xs)) => some xs | _ => none
  | _ => none
def mLVals (mo : ME) : MF := fun env st => match mo env st with
  | some (x, st1) => match vasT env x with
    | some kvs => some (.lst (kvs.map (·.2)), st1)
    | none => none
  | none => none
theorem xflvals {x : Str} {p apos mpos : Pos} (hc : X.calm = true) (hg : Gl X x) (hm : X.mg x = none) (hv : bootBuiltins x = some (.type "list")) (ho : XE X e m)
    (hbase : attributeBase e "values" X.env (eval e X.env) = eval e X.env := by rfl) (hline : (apos.endLine == mpos.line) = true := by rfl)
    (hn : x ≠ "__name__" := by decide) (hdb : (x == ("__debug__" : Str)) = false := by decide)
    (hst : starEach (.Call (.Attribute e "values" apos) [] [] mpos :: []) X.env = (false, eval (.Call (.Attribute e "values" apos) [] [] mpos) X.env) :: starEach [] X.env := by rfl) (hpl : (backTo pos (starEach [] X.env)).any (·.1) = false := by rfl) :
    XF X (.Call (.Name x p) [.Call (.Attribute e "values" apos) [] [] mpos] [] pos) (mLVals m) := by
  obtain ⟨to, po, so⟩ := ho
  refine ⟨_, pe_callTy (call_liVals hc) hg hm hv (pa_cons (pe_bm0 PySem.F.plainAttrs_dict PySem.F.slot_dict_values PySem.F.type_dict_values mt_valsT po hbase hline) pa_nil hst) hn hdb hst hpl, ?_⟩
  intro σ F μ H env st r st' Q w en h k
  unfold mLVals at h
  split at h
  · rename_i x st1 e1
    split at h
    · rename_i kvs e2
      cases h
      refine so σ F μ H env st _ _ _ w en e1 fun v F1 μ1 H1 w1 s1 r1 => ?_
      unfold vasT at e2
      split at e2
      · rename_i i
        split at e2
        · rename_i ys hs
          cases e2
          obtain ⟨a, rfl, so', g1, g2⟩ := r1
          rw [hs] at g1
          cases g1
          obtain ⟨b, u, h3, h4, h5, h6, h7⟩ := (en.step s1).slot i _ _ hs g2
          cases h3
          cases u <;> first | exact h7.elim | skip
          rename_i vs
          refine ⟨.inr (.inr (.inl ⟨rfl, .inr ⟨_, h6⟩⟩)), a, vs, rfl, rfl, h6, fun p hp => ?_⟩
          have hap : a ≠ p := fun q => by rw [← q, h6] at hp; cases hp
          have w2 := w1.lay0 (o := valsO p a) hp
          have s2 : Stp F1 μ1 H1 F1 μ1 (upd H1 p (valsO p a)) := Stp.lay0 hp
          refine ⟨p, a, vs, rfl, upd_same, by rw [upd_ne hap]; exact h6, fun q hq => ?_⟩
          have rr : Reps X.kw F1 μ1 (kvs.map Prod.snd) (vs.map Prod.snd) := (RepKV.split (show RepKV X.kw F1 μ1 kvs vs from h7)).1
          exact k q (.lst (vs.map Prod.snd)) F1 μ1 _ (w2.lay0 hq) ((s1.trans s2).trans (Stp.lay0 hq)) (fresh_of (s1.trans s2) hq) (w2.Fnone hq) (w2.out hq) upd_same rr
        · cases e2
      · cases e2
    · cases h
  · cases h
theorem xfdictLc {ek ev tg iter : Expr} {scope : Scope} {own : List (Str × Nat)} {x : Str} {p lpos tpos pos : Pos} {x1} {mi : MI} {j : Nat} {mk : MF} {me : ME} (hc : X.calm = true) (hu : X.A.units + 65 < cLine) (hN : X.N.Nodup) (hg : Gl X x) (hm : X.mg x = none) (hv : bootBuiltins x = some (.type "dict"))
    (hi : XI X tg iter mi) (ok : BlkOk X.N X.env.scope scope own)
    (hgn : ∀ (s : Shared) (H : Hp) (C : Addr) (cl : List (Str × Addr)) (fp : List Addr), PG (X.blk s H scope (compEnvC scope cl C X.env) fp) tg (gName j))
    (hk : ∀ (s : Shared) (H : Hp) (C : Addr) (cl : List (Str × Addr)) (fp : List Addr), XF (X.blk s H scope (compEnvC scope cl C X.env) fp) ek mk)
    (he : ∀ (s : Shared) (H : Hp) (C : Addr) (cl : List (Str × Addr)) (fp : List Addr), XE (X.blk s H scope (compEnvC scope cl C X.env) fp) ev me) (hj : j ∈ own.map (·.2) := by decide) (hs : ∀ x, foldedSetIterable iter X.env x = pure x := by intro _; rfl)
    (hn : x ≠ "__name__" := by decide) (hdb : (x == ("__debug__" : Str)) = false := by decide)
    (hst : starEach (.ListComp (.Tuple [ek, ev] x1 tpos) [⟨tg, iter, [], 0⟩] scope lpos :: []) X.env = (false, eval (.ListComp (.Tuple [ek, ev] x1 tpos) [⟨tg, iter, [], 0⟩] scope lpos) X.env) :: starEach [] X.env := by rfl) (hpl : (backTo pos (starEach [] X.env)).any (·.1) = false := by rfl)
    (h2 : ∀ Y : PySem.Env, starEach (ek :: [ev]) Y = (false, eval ek Y) :: starEach [ev] Y := by intro _; rfl) (h3 : ∀ Y : PySem.Env, starEach (ev :: []) Y = (false, eval ev Y) :: starEach [] Y := by intro _; rfl) :
    XF X (.Call (.Name x p) [.ListComp (.Tuple [ek, ev] x1 tpos) [⟨tg, iter, [], 0⟩] scope lpos] [] pos) (mDictLc mi j mk me (own.map (·.2))) := by
  obtain ⟨wi, pw, s⟩ := hi
  obtain ⟨tk, hk⟩ : ∃ tk, (∀ (s : Shared) (H : Hp) (C : Addr) (cl : List (Str × Addr)) (fp : List Addr), PE (X.blk s H scope (compEnvC scope cl C X.env) fp) ek tk) ∧ SimF X.kw tk mk := ⟨_, fun s H C cl fp => (hk s H C cl fp).pf, simFOfM⟩
  refine ⟨_, pe_callTy (call_dictT hc hu) hg hm hv (pa_cons (pe_lc hc hN pw ok hgn (fun _ _ _ _ _ => pts_nil) (fun s H C cl fp => pe_tup (pa_cons (hk.1 s H C cl fp) (pa_cons (he s H C cl fp).pe pa_nil (h3 _)) (h2 _))) hs) pa_nil hst) hn hdb hst hpl, simDictLc s hk.2 simOfM hj⟩
end
end Gx

set_option maxHeartbeats 4000000
namespace Gx
open PySem L2 PySem.Spec PyProof.Rows
abbrev setE (w : World) : Obj := { cls := .type "set", dict := none, data := .set #[] 0 (.fresh 0 0 (!w.params.followText "set-order")) }
section
variable {P : Program} {w : World} {A : Around} {E : Value → Shared → Prop}
/-- what set(l) leaves: the set at S, all else kept -/
def SetMade (w : World) (s : Shared) (S : Addr) (ns : List Int) (z : Shared) : Prop :=
  ∃ (g : Heap) (t c : Nat), z = { s with heap := g, toks := t } ∧ SetR w g S (fun j => decide (j ∈ ns)) c ∧ c ≤ ns.length ∧ ∀ b o, b ≠ S → s.heap.get? b = some o → g.get? b = some o
/-- the items of the list are added to the fresh set -/
theorem fill_list {s : Shared} {S l : Addr} {items : Array Value} {ns : List Int} (hA : A.handled = none) (ne : l ≠ S) (fS : s.heap.get? S = some (setE w)) (fl : s.heap.IsList l items) (fi : IntsAre items.toList ns) (fb : ns.length + 1 < scanBound) :
    wpAny (model P w) A.in1 (Builtin.«set.__init__» ⟨[.ref S, .ref l], []⟩) (fun fin z => match fin with
      | .done f => wants (fun r y => r = .none ∧ SetMade w s S ns y) E (.ok f) z
      | .again c => c.quiet = true ∧ codeAny (model P w) A c (wants (fun r y => r = .none ∧ SetMade w s S ns y) E) z)
      (fun e z => wants (fun r y => r = .none ∧ SetMade w s S ns y) E (.error e) z) s := by
  have lt1 : S < s.heap.objs.size := Heap.lt_size fS
  obtain ⟨⟨oc, od, odat, osl⟩, ho, h1, n, h2⟩ := id fl
  have lt2 : l < s.heap.objs.size := Heap.lt_size ho
  dsimp only at h1 h2
  subst h1 h2
  have no1 := F.sub_list_set
  have no2 := F.sub_list_frozenset
  have no3 : (Value.type "list" == Value.type "dict") = false := by decide
  unfold Builtin.«set.__init__» noKeywords Builtin.Frozenset.updateFrom
  generalize eIt : pyIter = It
  wp_walk
  subst eIt
  refine wpAny_pyIter_list fl ?_
  refine wpAny_bind (wpAny_runValue ?_)
  have off : ∀ (b : Addr) (o : Obj), s.heap.get? b = some o → b ≠ s.heap.objs.size := fun b o e => Nat.ne_of_lt (Heap.lt_size e)
  have at_ : ∀ (i : Nat) (v : Value), items[i]? = some v → ∃ k t, ns[i]? = some k ∧ v = .int k t := fun i v e => by
    have q : items.size = ns.length := by have q := IntsAre.length fi; rwa [Array.length_toList] at q
    have hi : i < ns.length := q ▸ (Array.getElem?_eq_some_iff.mp e).1
    obtain ⟨t, e2⟩ := IntsAre.int_at fi i v (by rw [Array.getElem?_toList]; exact e)
    exact ⟨ns[i], t, List.getElem?_eq_getElem hi, by rw [e2, List.getD_eq_getElem?_getD, List.getElem?_eq_getElem hi]; rfl⟩
  have same : items.size = ns.length := by have q := IntsAre.length fi; rwa [Array.length_toList] at q
  have walk := (Walks.list (prog := P) (w := w) (A := A.in1.in1) (by simp [hA]) s.heap.objs.size l (off _ _ ho) items).toS
  refine set_update_ints walk S (by simp only [List.mem_cons, List.not_mem_nil, or_false, not_or]; exact ⟨Nat.ne_of_lt lt1, Ne.symm ne⟩) ns same fb at_ _ 0 _ rfl (Nat.zero_le _) ⟨⟨_, Heap.get?_push_size _ rfl, rfl, rfl⟩, fl.push _⟩ ⟨0, Nat.le_refl 0, setR_new_at (Heap.get?_push_of_some _ fS)⟩ ?_
  rintro ⟨g, gs, dr, tk, os⟩ c mv cl R
  have e1 : gs = s.gens := mv.gens
  have e2 : dr = s.drawn := mv.drawn
  have e3 : os = s.os := mv.os
  subst e1 e2 e3
  refine wpAny_pure (wpAny_pure ⟨rfl, g, tk, c, rfl, R, by rw [← same]; exact cl, fun b o nb e => ?_⟩)
  exact mv.heap b o (by simp only [List.mem_cons, List.not_mem_nil, or_false, not_or]; exact ⟨nb, off _ _ e⟩) (Heap.get?_push_of_some _ e)
/-- set(l) of a list of ints -/
theorem set_of_list {s : Shared} {l : Addr} {items : Array Value} {ns : List Int} {Q : Value → Shared → Prop} (hA : A.handled = none) (fl : s.heap.IsList l items) (fi : IntsAre items.toList ns) (fb : ns.length + 1 < scanBound)
    (fin : ∀ z, SetMade w { s with heap := s.heap.push (setE w) } s.heap.objs.size ns z → Q (.ref s.heap.objs.size) z) : wpAny (model P w) A (call (.type "set") [.ref l]) Q E s := by
  have K := F.called_set
  obtain ⟨mc, mt, chain⟩ := K.mro
  have f1 := K.made
  have f2 := K.sub
  have f3 := K.notType
  have f4 := K.canCreate
  have f5 := F.typeCall_set_1 (.ref l)
  refine wpAny_call (codeAny_of_tree ?_)
  change wpAny _ _ (callAny (.type "set") _) _ _ _
  refine wpAny_pure ⟨Code.quiet_builtin _ (by decide +kernel), codeAny_builtin F.entry_type_call (?_ : wpAny _ _ _ _ _ _)⟩
  rw [Around.under_plain (weight_type_call_type "set" ([.ref l] : List Value) []) rfl]
  repeat any_goals first | assumption | wp_step
  have fS : (s.heap.push (setE w)).get? s.heap.objs.size = some (setE w) := Heap.get?_push_size _ rfl
  have ne : l ≠ s.heap.objs.size := by obtain ⟨o, ho, _⟩ := fl; exact Nat.ne_of_lt (Heap.lt_size ho)
  refine codeAny_mono (code_set_led1 (P := P) (w := w) (.ref l) (E := E) (Q₁ := fun v z => v = .ref s.heap.objs.size ∧ z = { s with heap := s.heap.push (setE w) }) ⟨rfl, rfl⟩) fun r z hz => ?_
  rcases r with e | f
  · exact hz
  cases f <;> first | exact hz.elim | skip
  obtain ⟨rfl, rfl⟩ := hz
  have ty : Shared.TypeIs { s with heap := s.heap.push (setE w) } (.ref s.heap.objs.size) "set" := ⟨_, fS, rfl⟩
  have f6 := K.init.lookup
  have f7 := K.init.bind (.ref s.heap.objs.size)
  repeat any_goals first | assumption | wp_step
  refine codeAny_mono (codeAny_call_builtin (R := wants (fun r y => r = .none ∧ SetMade w { s with heap := s.heap.push (setE w) } s.heap.objs.size ns y) E) K.init.plain F.entry_set_init (check_set_init_1 ty (fill_list (A := A.in1) (by simp [hA]) ne fS (fl.push _) fi fb))) fun r z hz => ?_
  rcases r with e | f
  · exact hz
  cases f <;> first | exact hz.elim | skip
  obtain ⟨rfl, hz⟩ := hz
  repeat any_goals first | assumption | wp_step
  exact fin _ hz
end
section
variable {X : Cx}
/-- set(xs) of a list of ints, few of them -/
def rSetLI (w : World) (K : PySem.W.Frag) : List V → Hp → VK → Prop := fun vs H Q => ∃ (a : Addr) (ns : List Int), vs = [.ref a] ∧ SqL K H a (ns.map V.int) ∧ ns.length < 1000 ∧
  ∀ (p : Addr) (c : Nat), H p = none → c ≤ ns.length → Q (.ref p) (upd H p (SetO w p (fun j => decide (j ∈ ns)) c))
theorem call_setLI (hc : X.calm = true) : CallR X (.type "set") (rSetLI X.w X.kw) := by
  intro pins s σ H vs us Q I r h
  obtain ⟨a, ns, rfl, hs, hn, q⟩ := h
  obtain ⟨its, rv, hl, hz⟩ := I.list hs
  rw [Vals.ref1 r]
  refine set_of_list (ns := ns) (I.ok.hd hc) hl.isList (show IntsAre its.toArray.toList ns by rw [List.toList_toArray]; exact ints_of_vals rv) (by unfold scanBound; omega) fun z hz' => ?_
  obtain ⟨g, t, c, rfl, R, hc', k⟩ := hz'
  have hf : H s.heap.objs.size = none := I.hok.fresh (Nat.le_refl _)
  exact ⟨.ref s.heap.objs.size, upd H s.heap.objs.size (SetO X.w s.heap.objs.size (fun j => decide (j ∈ ns)) c), I.laid (t' := t) (fun b o e => k b o (Nat.ne_of_lt (Heap.lt_size e)) (Heap.get?_push_of_some _ e)) (Nat.le_refl _) (setO_new R), rfl, q _ c hf hc'⟩
end
/-! sorted(set(xs)) -/
def intsD : List D → Option (List Int)
  | [] => some []
  | .int i :: r => (intsD r).map (i :: ·)
  | _ => none
theorem intsD_ok {K : KW} {F : Hp} {μ : List Addr} : ∀ {ds : List D} {ns : List Int} {vs : List V}, intsD ds = some ns → Reps K F μ ds vs → vs = ns.map V.int
  | [], ns, [], h, _ => by cases h; rfl
  | .int i :: r, ns, v :: vs, h, q => by
    unfold intsD at h
    rw [Option.map_eq_some_iff] at h
    obtain ⟨ns', h1, rfl⟩ := h
    have e : v = .int i := q.1
    rw [e, intsD_ok h1 q.2]
    rfl
  | _ :: _, _, [], _, q => q.elim
  | [], _, _ :: _, _, q => q.elim
theorem intsD_dI : ∀ ns : List Int, intsD (ns.map D.int) = some ns
  | [] => rfl
  | n :: ns => by
    show (intsD (ns.map D.int)).map (n :: ·) = _
    rw [intsD_dI ns]; rfl
theorem reps_dI {K : KW} {F : Hp} {μ : List Addr} : ∀ ns : List Int, Reps K F μ (ns.map D.int) (ns.map V.int)
  | [] => trivial
  | n :: ns => ⟨rfl, reps_dI ns⟩
def onceK (l : List Int) (m : Int) : List Int := if m ∈ l then l else l ++ [m]
def ssI (ns : List Int) : List Int := (ns.foldl onceK []).mergeSort fun i j => decide (i ≤ j)
theorem onceK_mem (l : List Int) (m x : Int) : x ∈ onceK l m ↔ x ∈ l ∨ x = m := by
  unfold onceK
  split
  · rename_i h
    exact ⟨.inl, fun q => q.elim id fun e => e ▸ h⟩
  · simp
theorem onceK_nodup {l : List Int} (h : l.Nodup) (m : Int) : (onceK l m).Nodup := by
  unfold onceK
  split
  · exact h
  · rename_i hm
    rw [List.nodup_append]
    exact ⟨h, by simp, fun a ha b hb e => hm (by rw [List.mem_singleton] at hb; rw [← hb, ← e]; exact ha)⟩
theorem once_go : ∀ (ws l : List Int), (∀ x, x ∈ ws.foldl onceK l ↔ x ∈ l ∨ x ∈ ws) ∧ (l.Nodup → (ws.foldl onceK l).Nodup)
  | [], l => ⟨fun x => by simp, id⟩
  | w :: ws, l => by
    obtain ⟨h1, h2⟩ := once_go ws (onceK l w)
    refine ⟨fun x => ?_, fun h => h2 (onceK_nodup h w)⟩
    rw [List.foldl_cons, h1, onceK_mem]
    simp [or_assoc]
theorem ssI_mem (ns : List Int) (x : Int) : x ∈ ssI ns ↔ x ∈ ns := by
  unfold ssI
  rw [(List.mergeSort_perm _ _).mem_iff, (once_go ns []).1]
  simp
theorem ssI_lt (ns : List Int) : (ssI ns).Pairwise (· < ·) := by
  have h1 : (ssI ns).Pairwise (· ≤ ·) := by
    have := List.pairwise_mergeSort (le := fun i j : Int => decide (i ≤ j)) (fun a b c h1 h2 => by simp only [decide_eq_true_eq] at *; omega) (fun a b => by simp only [Bool.or_eq_true, decide_eq_true_eq]; omega) (ns.foldl onceK [])
    exact this.imp fun h => of_decide_eq_true h
  have h2 : (ssI ns).Nodup := (List.mergeSort_perm _ _).nodup_iff.mpr ((once_go ns []).2 List.nodup_nil)
  exact (List.Pairwise.and h1 h2).imp fun h => by have := h.1; have := h.2; omega
theorem ssI_only {ns ks : List Int} (h : ks.Pairwise (· < ·)) (e : ∀ k, k ∈ ks ↔ k ∈ ns) : ks = ssI ns := by
  refine List.Perm.eq_of_pairwise (le := (· < ·)) (fun a b _ _ h1 h2 => by omega) h (ssI_lt ns) ?_
  have nd : ∀ {l : List Int}, l.Pairwise (· < ·) → l.Nodup := fun q => q.imp fun z => by omega
  exact (List.perm_ext_iff_of_nodup (nd h) (nd (ssI_lt ns))).mpr fun x => by rw [e, ssI_mem]
def f1SortSet : Env → Store → R → Option SO := fun env st x => match asL env st x with
  | some xs => match intsD xs with
    | some ns => if ns.length < 64 then some (.lst ((ssI ns).map .int)) else none
    | none => none
  | none => none
section
variable {X : Cx} {e : Expr} {m : ME} {pos : Pos}
theorem xsortset {x y : Str} {p1 p2 mpos : Pos} (hc : X.calm = true) (hg : Gl X x) (hm : X.mg x = none) (hv : bootBuiltins x = some (.builtin "sorted")) (hg2 : Gl X y) (hm2 : X.mg y = none) (hv2 : bootBuiltins y = some (.type "set")) (he : XE X e m)
    (hn : x ≠ "__name__" := by decide) (hdb : (x == ("__debug__" : Str)) = false := by decide) (hn2 : y ≠ "__name__" := by decide) (hdb2 : (y == ("__debug__" : Str)) = false := by decide)
    (hs1 : starEach (e :: []) X.env = (false, eval e X.env) :: starEach [] X.env := by rfl) (hp1 : (backTo mpos (starEach [] X.env)).any (·.1) = false := by rfl)
    (hs2 : starEach (.Call (.Name y p2) [e] [] mpos :: []) X.env = (false, eval (.Call (.Name y p2) [e] [] mpos) X.env) :: starEach [] X.env := by rfl) (hp2 : (backTo pos (starEach [] X.env)).any (·.1) = false := by rfl) :
    XF X (.Call (.Name x p1) [.Call (.Name y p2) [e] [] mpos] [] pos) (m1F m f1SortSet) := by
  obtain ⟨te, pe, s⟩ := he
  refine ⟨_, pe_callB (cr_sortedSet hc) hg hm hv (pa_cons (pe_callTy (call_setLI hc) hg2 hm2 hv2 (pa_cons pe pa_nil hs1) hn2 hdb2 hs1 hp1) pa_nil hs2) hn hdb hs2 hp2, ?_⟩
  intro σ F μ H env st so st' Q w en h k
  unfold m1F at h
  split at h
  · rename_i x st1 e1
    split at h
    · rename_i so' e2
      cases h
      unfold f1SortSet at e2
      split at e2
      · rename_i xs e3
        split at e2
        · rename_i ns e4
          split at e2
          · rename_i hl
            cases e2
            refine s σ F μ H env st _ _ _ w en e1 fun v F1 μ1 H1 w1 s1 r1 => ?_
            obtain ⟨a, vs, rfl, sq, q⟩ := asL_ok w1 (en.step s1) r1 e3
            rw [intsD_ok e4 q] at sq
            refine ⟨a, ns, rfl, sq, by omega, fun p c hp hcl => ?_⟩
            have w2 := w1.lay0 (o := SetO X.w p (fun j => decide (j ∈ ns)) c) hp
            have s2 : Stp F1 μ1 H1 F1 μ1 (upd H1 p (SetO X.w p (fun j => decide (j ∈ ns)) c)) := Stp.lay0 hp
            refine ⟨p, _, c, rfl, upd_same, by omega, fun ks z hk hm _ hz => ?_⟩
            have e5 : ks = ssI ns := ssI_only hk fun k => by rw [hm]; exact decide_eq_true_iff
            subst e5
            exact k z (.lst ((ssI ns).map V.int)) F1 μ1 _ (w2.lay0 hz) ((s1.trans s2).trans (Stp.lay0 hz)) (fresh_of (s1.trans s2) hz) (w2.Fnone hz) (w2.out hz) upd_same (reps_dI (ssI ns))
          · cases e2
        · cases e2
      · cases e2
    · cases h
  · cases h
end
end Gx

set_option maxHeartbeats 4000000
namespace Gx
open PySem L2 PySem.Spec PyProof.Rows PySem.Calls
open PySem.W (AllAlike Sortable dataLe EachIs alike KeepsBut keyH_end dataKind SortsAt sortVals KeyedOut keyedOut_each sorted_of_sort)
/-! ### sorted(xs, key=f), f a def of the text -/
/-- an item: as data, as a value; its key as data, and as the model's data -/
structure Kt where
  d : D
  v : V
  k : D
  p : PyData
section
variable {X : Cx} {f : Addr} {fd : FuncData} {ps : List Str} {n : Nat} {c : MFn}
theorem key_turn (Fo : FnOk X.prog X.w X.kw X.mg X.base CX0 n f fd ps (spM X.kw 1 c)) (hb : Binds X.kw fd ps []) (hr : Room (n + 2) X.A) {t : Kt} {F1 : Hp} {μ1 : List Addr} {H : Hp} {st : Store} (hd : Rep X.kw F1 μ1 t.d t.v) (hc : c [t.d] st = some (t.k, st))
    {pins : List (Addr × Obj)} {σ : L2.St} {H1 : Hp} {s : Shared} {F2 : Hp} {μ2 : List Addr} (I : L2.Inv X pins σ H1 s) (w : Wd X.kw F2 μ2 H1 st) (sp : Stp F1 μ1 H F2 μ2 H1) {x : Value} (hx : RelV t.v x) :
    wpAny (model X.prog X.w) X.A.in1.in1 (call (.ref f) [x]) (fun u z => ∃ H2 F3 μ3 kv, L2.Inv X pins σ H2 z ∧ Wd X.kw F3 μ3 H2 st ∧ Stp F2 μ2 H1 F3 μ3 H2 ∧ Rep X.kw F3 μ3 t.k kv ∧ RelV kv u) (fun _ _ => False) s := by
  have sm : spM X.kw 1 c [t.v] H1 (fun v H' => ∃ F' μ', Wd X.kw F' μ' H' st ∧ Stp F2 μ2 H1 F' μ' H' ∧ Rep X.kw F' μ' t.k v) (fun _ _ _ => False) :=
    ⟨F2, μ2, [t.d], st, t.k, st, w, ⟨sp.rep hd, trivial⟩, rfl, hc, fun v F' μ' H' w' s' r' => ⟨F', μ', w', s', r'⟩⟩
  have ln : [t.v].length = ps.length := Fo.len _ _ _ _ sm
  have b := hb s [x] I.kIn ln
  refine wpAny_call (codeAny_mono (Fo.run X.A.in1.in1 X.stack s H1 ⟨[x], []⟩ [x] [t.v] _ _ hr.in1.in1 I.env0.in1.in1 b (.cons hx .nil) sm) fun r z hq => ?_)
  rcases r with e | fl
  · exact hq.elim
  cases fl <;> first | exact hq.elim | skip
  obtain ⟨v, H2, I2, rv, F', μ', w', s', r'⟩ := I.after hq
  exact ⟨H2, F', μ', v, I2, w', s', r', rv⟩
/-- the key's call, behind the state F1 μ1 H -/
def Turn (X : Cx) (f : Addr) (c : MFn) (F1 : Hp) (μ1 : List Addr) (H : Hp) (st : Store) : Prop :=
  ∀ (t : Kt), Rep X.kw F1 μ1 t.d t.v → c [t.d] st = some (t.k, st) → ∀ (pins : List (Addr × Obj)) (σ : L2.St) (H1 : Hp) (s : Shared) (F2 : Hp) (μ2 : List Addr), L2.Inv X pins σ H1 s → Wd X.kw F2 μ2 H1 st → Stp F1 μ1 H F2 μ2 H1 → ∀ (x : Value), RelV t.v x →
    wpAny (model X.prog X.w) X.A.in1.in1 (call (.ref f) [x]) (fun u z => ∃ H2 F3 μ3 kv, L2.Inv X pins σ H2 z ∧ Wd X.kw F3 μ3 H2 st ∧ Stp F2 μ2 H1 F3 μ3 H2 ∧ Rep X.kw F3 μ3 t.k kv ∧ RelV kv u) (fun _ _ => False) s
theorem turn_def (Fo : FnOk X.prog X.w X.kw X.mg X.base CX0 n f fd ps (spM X.kw 1 c)) (hb : Binds X.kw fd ps []) (hr : Room (n + 2) X.A) {F1 : Hp} {μ1 : List Addr} {H : Hp} {st : Store} : Turn X f c F1 μ1 H st :=
  fun _ hd hc _ _ _ _ _ _ I w sp _ hx => key_turn Fo hb hr hd hc I w sp hx
/-- while the keys are asked -/
def KeyAt (X : Cx) (pins : List (Addr × Obj)) (σ : L2.St) (F1 : Hp) (μ1 : List Addr) (H : Hp) (st : Store) (T : List Kt) (a kS : Addr) (e1 : Nat) (i : Nat) (z : Shared) : Prop :=
  ∃ H1 F2 μ2 kA e kv, L2.Inv X (pins ++ [(a, seqObj "list" #[] e1), (kS, seqObj "list" kA e)]) σ H1 z ∧ Wd X.kw F2 μ2 H1 st ∧ Stp F1 μ1 H F2 μ2 H1 ∧ Reps X.kw F2 μ2 ((T.take i).map (·.k)) kv ∧ Vals kv kA.toList
/-- the key is laid by -/
theorem key_push {pins : List (Addr × Obj)} {σ : L2.St} {H1 : Hp} {s : Shared} {a kS : Addr} {e1 e : Nat} {kA : Array Value} (I : L2.Inv X (pins ++ [(a, seqObj "list" #[] e1), (kS, seqObj "list" kA e)]) σ H1 s) {H0 : Hp} (hne : kS ≠ a) (hfp : FpOk X pins H0 kS) (v : Value) :
    ∃ e2, L2.Inv X (pins ++ [(a, seqObj "list" #[] e1), (kS, seqObj "list" (kA.push v) e2)]) σ H1 { s with heap := s.heap.update kS (Obj.mapSeq (·.push v)) } := by
  have pk := I.pin (kS, seqObj "list" kA e) (by simp)
  have pa := I.pin (a, seqObj "list" #[] e1) (by simp)
  obtain ⟨e2, he2⟩ : ∃ e2, (s.heap.update kS (Obj.mapSeq (·.push v))).get? kS = some (seqObj "list" (kA.push v) e2) := ⟨_, get?_update_seq pk.1 (·.push v)⟩
  have sb := Heap.SameBut.update s.heap kS (Obj.mapSeq (·.push v))
  have I0 : L2.Inv X (pins ++ [(a, seqObj "list" #[] e1)]) σ H1 s := I.pins_of fun p hp => by
    refine I.pin p (List.mem_append_right _ ?_)
    simp only [List.mem_append, List.mem_cons, List.not_mem_nil, or_false] at hp ⊢
    rcases hp with hp | hp
    · exact .inl hp
    · exact .inr (.inl hp)
  have I1 : L2.Inv X (pins ++ [(a, seqObj "list" #[] e1)]) σ H1 { s with heap := s.heap.update kS (Obj.mapSeq (·.push v)) } :=
    I0.turned (t' := s.toks) (fun b o nb eo => (sb.2 b nb).trans eo) pk.2.1 hfp.2.1 hfp.2.2.2.1 hfp.2.2.2.2.1 fun p hp => by
      rcases List.mem_append.mp hp with hp | hp
      · exact hfp.2.2.2.2.2 p (List.mem_append_left _ hp)
      · rcases List.mem_append.mp hp with hp | hp
        · exact hfp.2.2.2.2.2 p (List.mem_append_right _ hp)
        · rw [List.mem_singleton.mp hp]; exact Ne.symm hne
  refine ⟨e2, I1.pins_of fun p hp => ?_⟩
  have hp : p ∈ (pins ++ [(a, seqObj "list" #[] e1)]) ∨ p = (kS, seqObj "list" (kA.push v) e2) := by
    simp only [List.mem_append, List.mem_cons, List.not_mem_nil, or_false] at hp ⊢
    rcases hp with hp | hp | hp
    · exact .inl (.inl hp)
    · exact .inl (.inr hp)
    · exact .inr hp
  rcases hp with hp | rfl
  · exact I1.pin p (List.mem_append_right _ hp)
  · exact ⟨he2, pk.2.1, hfp.2.1, hfp.2.2.1, fun v z => nomatch z⟩
theorem each_under {α β γ : Type} {R : α → γ → Prop} {g : β → γ} : ∀ {us : List α} {xs : List β}, EachIs (fun v b => R v (g b)) us xs → EachIs R us (xs.map g)
  | _, _, .nil => .nil
  | _, _, .cons h t => .cons h (each_under t)
theorem key_rest (hr : Room (n + 2) X.A) {T : List Kt} {its : List Value} {F1 : Hp} {μ1 : List Addr} {H H0 : Hp} {st : Store} (Tn : Turn X f c F1 μ1 H st) {pins : List (Addr × Obj)} {σ : L2.St} {s : Shared} {a kS : Addr} {e1 : Nat} {E : Value → Shared → Prop} {P : PySem.Fin → Shared → Prop}
    (hits : EachIs (fun (v : Value) (t : Kt) => RelV t.v v) its T) (hT : ∀ t ∈ T, Rep X.kw F1 μ1 t.d t.v ∧ c [t.d] st = some (t.k, st)) (hP : toPs dr0 (T.map (·.k)) = some (T.map (·.p))) (hal : AllAlike (T.map (·.p))) (hsk : Sortable (T.map (·.p))) (hdp : ∀ d ∈ T.map (·.p), d.depth ≤ 60)
    (hz : its.length ≤ sizeLine) (hne : kS ≠ a) (hfk : FpOk X pins H0 kS) (h0 : KeyAt X pins σ F1 μ1 H st T a kS e1 0 s)
    (fin : ∀ (z : Shared) (H1 F2 : Hp) (μ2 : List Addr) (h3 : Heap) (tk : Tok) (out : List Value) (m : Nat), L2.Inv X pins σ H1 z → Wd X.kw F2 μ2 H1 st → Stp F1 μ1 H F2 μ2 H1 → H1 a = none → H1 kS = none → (∀ b o, b ≠ a → b ≠ kS → z.heap.get? b = some o → h3.get? b = some o) →
      h3.get? a = some (seqObj "list" out.toArray m) → EachIs (fun (v : Value) (t : Kt) => RelV t.v v) out (T.mergeSort (dataLe false (·.p))) → P (.done (.ret .none)) { z with heap := h3, toks := tk }) :
    wpAny (model X.prog X.w) X.A.in1.in1 (ksk_rest a (.ref f) false its.toArray e1 (.ref kS)) P E s := by
  have hlen : its.length = T.length := hits.length
  unfold ksk_rest
  refine wpAny_bind (wpAny_rule ?_)
  rw [List.forIn_toArray]
  refine wpAny_bind (ksk_fold (fun i z => KeyAt X pins σ F1 μ1 H st T a kS e1 i z) its 0 s h0 ?step ?done)
  case step =>
    rintro j x z hx ⟨H1, F2, μ2, kA, e, kv, I, w, sp, rk, vk⟩
    rw [Nat.zero_add] at rk ⊢
    have hj : j < its.length := (List.getElem?_eq_some_iff.mp hx).1
    have hj2 : j < T.length := by omega
    have htj : T[j]? = some T[j] := List.getElem?_eq_getElem hj2
    have hxt : RelV T[j].v x := hits.zip (x, T[j]) (List.mem_of_getElem? (i := j) (by rw [List.getElem?_zip_eq_some]; exact ⟨hx, htj⟩))
    obtain ⟨q1, q2⟩ := hT T[j] (List.getElem_mem hj2)
    refine wpAny_bind (wpAny_attempt (wpAny_mono (Tn _ q1 q2 _ _ _ _ _ _ I w sp _ hxt) (fun u z2 he => ?_) fun _ _ hF => hF.elim))
    obtain ⟨H2, F3, μ3, y, I2, w2, sp2, ry, ru⟩ := he
    dsimp only
    have nk : z2.heap.get? kS = some (seqObj "list" kA e) := (I2.pin (kS, seqObj "list" kA e) (by simp)).1
    have sz : kA.size ≤ j := by
      have l1 := vk.length
      have l2 := rk.length
      rw [List.length_map, List.length_take] at l2
      have l3 : kA.toList.length = kA.size := by simp
      have l4 := rk.length
      have l5 : kv.length = kA.toList.length := Paired.length vk
      omega
    obtain ⟨e2, I3⟩ := key_push I2 hne hfk u
    refine wpAny_bind (listUpdate_at nk rfl ?_ (by omega) (by rw [Array.size_push]; omega))
    refine wpAny_pure ⟨rfl, H2, F3, μ3, kA.push u, e2, kv ++ [y], I3, w2, sp.trans sp2, ?_, ?_⟩
    · rw [List.take_add_one, htj, Option.toList_some, List.map_append]
      exact (sp2.reps rk).append ⟨ry, trivial⟩
    · rw [Array.toList_push]
      exact vk.append (.cons ru .nil)
  case done =>
    rintro z ⟨H1, F2, μ2, kA, e, kv, I, w, sp, rk, vk⟩
    rw [Nat.zero_add, hlen, List.take_length] at rk
    have nk := I.pin (kS, seqObj "list" kA e) (by simp)
    have na := I.pin (a, seqObj "list" #[] e1) (by simp)
    have hsz : kA.size = its.length := by
      have l1 := vk.length
      have l2 := rk.length
      rw [List.length_map] at l2
      have l3 : kA.toList.length = kA.size := by simp
      have l4 := rk.length
      have l5 : kv.length = kA.toList.length := Paired.length vk
      omega
    obtain ⟨U, u1, u2, u3, u4⟩ := three w (T.map (·.k)) kv (T.map (·.p)) rk hP
    have ev := (each_vals I (U.map fun t => (t.2.1, t.2.2)) kA.toList (by rw [List.map_map]; rw [← u2] at vk; exact vk) (fun y hy => by
      obtain ⟨t, ht, rfl⟩ := List.mem_map.mp hy
      exact (u4 t ht).2)).2
    have hk' : EachIs (fun (v : Value) (d : PyData) => ∃ as, Reads z.heap v d as) kA.toList (T.map (·.p)) := by
      have := each_under (R := fun (v : Value) (d : PyData) => ∃ as, Reads z.heap v d as) (g := fun b : V × PyData => b.2) ev
      rw [List.map_map] at this
      rw [← u3]
      exact this
    refine wpAny_bind (listItems_at nk.1 rfl ?_)
    refine keyH_end (κ := dataKind z.heap (T.map (·.p))) (h₁ := PySem.W.hideAll z.heap [kS]) (fun b o _ eo => PySem.W.of_hideAll _ eo) (PySem.W.hideAll_none _ (by simp)) nk.1 na.1 hne (SortsAt.data hk' hal hsk (fun d hd => by
      have := hr.in1.in1.units
      have := hdp d hd
      omega)) hsz hz fun h3 tk m k3 n3 => ?_
    refine fin z H1 F2 μ2 h3 tk _ m (I.pins_of fun p hp => I.pin p (List.mem_append_right _ (List.mem_append_left _ hp))) w sp na.2.1 nk.2.1 (fun b o nb nk' eo => k3 b o nb (PySem.W.hideAll_get _ eo (by simpa using nk'))) n3 ?_
    exact keyedOut_each (fun t : Kt => t.p) ⟨z.heap, kA.toList, hal, rfl, hk'⟩ hits
theorem each_of_vals : ∀ {T : List Kt} {us : List Value}, Vals (T.map (·.v)) us → EachIs (fun (v : Value) (t : Kt) => RelV t.v v) us T
  | [], us, h => by cases h; exact .nil
  | t :: T, us, h => by
    rw [List.map_cons] at h
    cases h with
    | cons a b => exact .cons a (each_of_vals b)
theorem vals_of_each : ∀ {T : List Kt} {us : List Value}, EachIs (fun (v : Value) (t : Kt) => RelV t.v v) us T → Vals (T.map (·.v)) us
  | _, _, .nil => .nil
  | _, _, .cons a b => .cons a (vals_of_each b)
/-- the sorted list, behind the sort -/
theorem sort_done {pins : List (Addr × Obj)} {σ : L2.St} {H1 H0 : Hp} {z : Shared} {a kS : Addr} {h3 : Heap} {tk : Tok} {out : List Value} {m : Nat} {ys : List V} (I : L2.Inv X pins σ H1 z) (nA : H1 a = none) (nK : H1 kS = none) (fa : FpOk X pins H0 a) (fk : FpOk X pins H0 kS)
    (k3 : ∀ b o, b ≠ a → b ≠ kS → z.heap.get? b = some o → h3.get? b = some o) (n3 : h3.get? a = some (seqObj "list" out.toArray m)) (hv : Vals ys out) (hl : ys.length ≤ sizeLine) :
    L2.Inv X pins σ (upd H1 a (.lst ys)) { z with heap := h3, toks := tk } := by
  have nb : ∀ {b : Addr} {u : HO}, H1 b = some u → b ≠ a ∧ b ≠ kS := fun e => ⟨(fun q => by rw [q, nA] at e; cases e), (fun q => by rw [q, nK] at e; cases e)⟩
  have ch2 : ∀ {b : Addr}, b ∉ [a, kS] → b ≠ a ∧ b ≠ kS := fun h => ⟨fun q => h (by simp [q]), fun q => h (by simp [q])⟩
  have up : ∀ {b : Addr} {u : HO}, H1 b = some u → upd H1 a (.lst ys) b = some u := fun e => by rw [upd_ne (nb e).1]; exact e
  refine I.call (ch := [a, kS]) (g' := z.gens) (d' := z.drawn) (t' := tk) ⟨fun b o e n _ hx => k3 b o (ch2 hx).1 (ch2 hx).2 e, fun b o e n _ hx => ⟨o.slots, k3 b o (ch2 hx).1 (ch2 hx).2 e⟩, fun b o e n hx => by rw [upd_ne (ch2 hx).1]; exact n,
    fun b o e hx => ⟨o, k3 b o (ch2 hx).1 (ch2 hx).2 e⟩, fun b xs e => up e, fun b o u e => up e, fun b qs e => ⟨#[], by rw [up e]; simp⟩⟩ ?_ I.bare ?_
  · intro b u e
    by_cases q : b = a
    · subst q
      rw [upd_same] at e
      cases e
      exact ⟨hl, out, m, hv, n3⟩
    · rw [upd_ne q] at e
      refine (I.hok b u e).stay (fun d v hc r => k3 d v ?_ ?_ r) (fun _ r => up r) fun _ _ r => up r
      · rcases hc with rfl | hc
        · exact q
        · exact (nb hc).1
      · rcases hc with rfl | hc
        · exact (nb e).2
        · exact (nb hc).2
  · intro b hb
    simp only [List.mem_cons, List.not_mem_nil, or_false] at hb
    rcases hb with rfl | rfl
    · exact ⟨fa.2.2.2.1, fa.2.1, fa.2.2.2.2.1, fa.2.2.2.2.2⟩
    · exact ⟨fk.2.2.2.1, fk.2.1, fk.2.2.2.2.1, fk.2.2.2.2.2⟩
def rSortK (X : Cx) (c : MFn) : List V → List V → Hp → VK → Prop := fun xs zs H Q => ∃ (a f : Addr) (T : List Kt) (F1 : Hp) (μ1 : List Addr) (st : Store), xs = [.ref a] ∧ zs = [.ref f] ∧ Turn X f c F1 μ1 H st ∧ Wd X.kw F1 μ1 H st ∧ SqL X.kw H a (T.map (·.v)) ∧
  (∀ t ∈ T, Rep X.kw F1 μ1 t.d t.v ∧ c [t.d] st = some (t.k, st)) ∧ toPs dr0 (T.map (·.k)) = some (T.map (·.p)) ∧ AllAlike (T.map (·.p)) ∧ Sortable (T.map (·.p)) ∧ (∀ d ∈ T.map (·.p), d.depth ≤ 60) ∧
  ∀ F2 μ2 H2 p, Wd X.kw F2 μ2 H2 st → Stp F1 μ1 H F2 μ2 H2 → H2 p = none → H p = none → Q (.ref p) (upd H2 p (.lst ((T.mergeSort (dataLe false (·.p))).map (·.v))))
theorem call_sortK (hr : Room (n + 2) X.A) : CallRK X (.builtin "sorted") [Str.ofString "key"] (rSortK X c) := by
  intro pins s σ H xs zs us ws Q I r rz h
  obtain ⟨a0, f, T, F1, μ1, st, rfl, rfl, Tn, w, sq, hT, hP, hal, hsk, hdp, q⟩ := h
  obtain rfl := Vals.ref1 r
  obtain rfl := Vals.ref1 rz
  obtain ⟨its, rv, hl, hz0⟩ := I.list sq
  have hits := each_of_vals rv
  have hz : its.length ≤ sizeLine := by rw [hits.length, ← List.length_map (f := fun t : Kt => t.v)]; exact hz0
  refine sorted_of_sort (vs := its) hl.isList hz (ksk_s1 _ _) (fun _ => ksk_l1 _ _) fun E' => ?_
  show wpAny _ _ (Builtin.«list.sort» ⟨[.ref (s.heap.objs.size + 1)], [(Str.ofString "key", .ref f)]⟩) _ _ _
  rw [ksk_t1]
  have ho := PySem.W.copyHeap_at s.heap its
  generalize ha : s.heap.objs.size + 1 = a at ho ⊢
  have la : s.heap.objs.size ≤ a := by omega
  obtain ⟨e1, ho1⟩ : ∃ e1, ((PySem.W.copyHeap s.heap its).update a (Obj.mapSeq fun _ => (#[] : Array Value))).get? a = some (seqObj "list" #[] e1) := ⟨_, get?_update_seq ho fun _ => #[]⟩
  have sb := Heap.SameBut.update (PySem.W.copyHeap s.heap its) a (Obj.mapSeq fun _ => (#[] : Array Value))
  unfold ksk_tree
  refine wpAny_bind (listItems_at ho rfl ?_)
  refine wpAny_bind (listUpdate_at ho rfl ?_ (by rw [List.size_toArray]; exact hz) (Nat.zero_le _))
  refine wpAny_bind (seqEpoch_at ho1 rfl ?_)
  refine wpAny_bind (wpAny_newTuple ?_ (by show its.length ≤ _; exact hz))
  refine wpAny_bind (wpAny_newList ?_ (Nat.zero_le _))
  refine wpAny_holding ?_
  have off : ∀ b o, s.heap.get? b = some o → b ≠ a := fun b o e => Nat.ne_of_lt (Nat.lt_of_lt_of_le (Heap.lt_size e) la)
  have la2 : a < ((PySem.W.copyHeap s.heap its).update a (Obj.mapSeq fun _ => (#[] : Array Value))).objs.size := Heap.lt_size ho1
  generalize hg : ((PySem.W.copyHeap s.heap its).update a (Obj.mapSeq fun _ => (#[] : Array Value))).push (seqObj "tuple" its.toArray 0) = g
  have g1 : g.get? a = some (seqObj "list" #[] e1) := by rw [← hg]; exact Heap.get?_push_of_some _ ho1
  have gk : ∀ b o, s.heap.get? b = some o → g.get? b = some o := fun b o e => by
    rw [← hg]; exact Heap.get?_push_of_some _ ((sb.2 b (off b o e)).trans (PySem.W.copyHeap_old e))
  have lk : a < g.objs.size := Heap.lt_size g1
  have I1 : L2.Inv X pins σ H { s with heap := g.push (seqObj "list" #[] 0) } := I.kept (t' := s.toks) fun b o e => Heap.get?_push_of_some _ (gk b o e)
  have fa : FpOk X pins H a := I.fpOk la (I.hok.fresh la)
  have fk : FpOk X pins H g.objs.size := I.fpOk (Nat.le_trans la (Nat.le_of_lt lk)) (I.hok.fresh (Nat.le_trans la (Nat.le_of_lt lk)))
  have I2 : L2.Inv X (pins ++ [(a, seqObj "list" #[] e1), (g.objs.size, seqObj "list" #[] 0)]) σ H { s with heap := g.push (seqObj "list" #[] 0) } := I1.pins_of fun p hp => by
    simp only [List.mem_append, List.mem_cons, List.not_mem_nil, or_false] at hp
    rcases hp with hp | rfl | rfl
    · exact I1.pin p (List.mem_append_right _ hp)
    · exact ⟨Heap.get?_push_of_some _ g1, fa.1, fa.2.1, fa.2.2.1, fun v q => nomatch q⟩
    · exact ⟨Heap.get?_push_size _ rfl, fk.1, fk.2.1, fk.2.2.1, fun v q => nomatch q⟩
  refine key_rest hr Tn hits hT hP hal hsk hdp hz (Nat.ne_of_gt lk) fk ⟨H, F1, μ1, #[], 0, [], I2, w, Stp.refl, trivial, .nil⟩ fun z H1 F2 μ2 h3 tk out m Iz wz spz nA nK k3 n3 ev => ⟨rfl, ?_⟩
  refine ⟨.ref a, _, sort_done Iz nA nK fa fk k3 n3 (vals_of_each ev) ?_, rfl, q F2 μ2 H1 a wz spz nA (I.hok.fresh la)⟩
  rw [List.length_map, List.length_mergeSort, ← hits.length]
  exact hz
end
def keysM (c : MFn) (st : Store) : List D → Option (List D)
  | [] => some []
  | d :: ds => match c [d] st with
    | some (k, st') => if st' = st then (keysM c st ds).map (k :: ·) else none
    | none => none
def mSortK (m : ME) (c : MFn) : MF := fun env st => match m env st with
  | some (x, st1) => match asL env st1 x with
    | some ds => match keysM c st1 ds with
      | some ks => match toPs dr0 ks with
        | some ps => if sortOk ps then some (.lst (((ds.zip ps).mergeSort (dataLe false (·.2))).map (·.1)), st1) else none
        | none => none
      | none => none
    | none => none
  | none => none
theorem four {K : KW} {F : Hp} {μ : List Addr} {c : MFn} {st : Store} : ∀ (ds : List D) (vs : List V) (ks : List D) (ps : List PyData), Reps K F μ ds vs → keysM c st ds = some ks → toPs dr0 ks = some ps →
    ∃ T : List Kt, T.map (·.d) = ds ∧ T.map (·.v) = vs ∧ T.map (·.k) = ks ∧ T.map (·.p) = ps ∧ ∀ t ∈ T, Rep K F μ t.d t.v ∧ c [t.d] st = some (t.k, st)
  | [], [], ks, ps, _, h1, h2 => by
    cases h1
    simp only [toPs] at h2
    cases h2
    exact ⟨[], rfl, rfl, rfl, rfl, fun _ h => nomatch h⟩
  | d :: ds, v :: vs, ks, ps, r, h1, h2 => by
    unfold keysM at h1
    split at h1
    · rename_i k st' e
      split at h1
      · rename_i es
        subst es
        rw [Option.map_eq_some_iff] at h1
        obtain ⟨ks', h1, rfl⟩ := h1
        simp only [toPs] at h2
        split at h2
        · rename_i p e2
          rw [Option.map_eq_some_iff] at h2
          obtain ⟨ps', h2, rfl⟩ := h2
          obtain ⟨T, t1, t2, t3, t4, t5⟩ := four ds vs ks' ps' r.2 h1 h2
          refine ⟨⟨d, v, k, p⟩ :: T, by simp [t1], by simp [t2], by simp [t3], by simp [t4], fun t ht => ?_⟩
          rcases List.mem_cons.mp ht with rfl | ht
          · exact ⟨r.1, e⟩
          · exact t5 t ht
        · cases h2
      · cases h1
    · cases h1
  | [], _ :: _, _, _, r, _, _ => r.elim
  | _ :: _, [], _, _, r, _, _ => r.elim
theorem reps_kt {K : KW} {F : Hp} {μ : List Addr} : ∀ T : List Kt, (∀ t ∈ T, Rep K F μ t.d t.v) → Reps K F μ (T.map (·.d)) (T.map (·.v))
  | [], _ => trivial
  | t :: T, h => ⟨h t (by simp), reps_kt T fun x hx => h x (by simp [hx])⟩
section
variable {X : Cx} {e : Expr} {m : ME} {pos : Pos}
theorem xsortkey {x g : Str} {p p2 kpos : Pos} {j k : Nat} {c : MFn} (F : Fn X.prog X.w X.kw X.mg X.base k g 1 c) (hr : Room j X.A) (hkj : k + 2 ≤ j) (hgg : Gl X g) (hg : Gl X x) (hm : X.mg x = none) (hv : bootBuiltins x = some (.builtin "sorted")) (ha : XE X e m)
    (hd : (g == ("__debug__" : Str)) = false := by decide) (hn : x ≠ "__name__" := by decide) (hdb : (x == ("__debug__" : Str)) = false := by decide)
    (he : starEach (e :: []) X.env = (false, eval e X.env) :: starEach [] X.env := by rfl) (he2 : backTo pos (starEach (e :: []) X.env) = (false, eval e X.env) :: backTo pos (starEach [] X.env) := by rfl) (hpl : (backTo pos (starEach (e :: []) X.env)).any (·.1) = false := by rfl)
    (hall : (backToKw pos (keywordEach [⟨some "key", .Name g p2, kpos⟩] X.env)).all (·.1.isSome) = true := by rfl) (hnone : (backToKw pos (keywordEach [⟨some "key", .Name g p2, kpos⟩] X.env)).any (·.1.isNone) = false := by rfl)
    (hks : (backToKw pos (keywordEach [⟨some "key", .Name g p2, kpos⟩] X.env)).filterMap (·.1) = [Str.ofString "key"] := by rfl) :
    XF X (.Call (.Name x p) [e] [⟨some "key", .Name g p2, kpos⟩] pos) (mSortK m c) := by
  obtain ⟨f, fd, ps, Fo, hmg, _, hb⟩ := F
  obtain ⟨t, pe, s⟩ := ha
  refine ⟨_, pe_callBK (call_sortK (c := c) (hr.mono hkj)) hg hm hv (pa_cons pe pa_nil he) (pk_cons (pe_glob (v := .ref f) hgg hmg rfl hd) pk_nil) hn hdb he2 hpl hall hnone hks, ?_⟩
  intro σ F μ H env st so st' Q w en h kk
  unfold mSortK at h
  split at h
  · rename_i x st1 e1
    split at h
    · rename_i ds e2
      split at h
      · rename_i ks e3
        split at h
        · rename_i qs e4
          split at h
          · rename_i hso
            cases h
            refine s σ F μ H env st _ _ _ w en e1 fun v F1 μ1 H1 w1 s1 r1 => ?_
            obtain ⟨a, vs, rfl, sq, q⟩ := asL_ok w1 (en.step s1) r1 e2
            obtain ⟨T, t1, t2, t3, t4, t5⟩ := four ds vs ks qs q e3 e4
            obtain ⟨hal, hsk, hdp⟩ := sortOk_ok hso
            refine ⟨a, f, T, F1, μ1, _, rfl, rfl, turn_def Fo hb (hr.mono hkj), w1, by rw [t2]; exact sq, t5, by rw [t3, t4]; exact e4, by rw [t4]; exact hal, by rw [t4]; exact hsk, by rw [t4]; exact hdp, fun F2 μ2 H2 z w2 s2 hz hz1 => ?_⟩
            have z1 : ds.zip qs = T.map fun t => (t.d, t.p) := by rw [← t1, ← t4]; exact zip_map _ _ T
            have z2 : ((ds.zip qs).mergeSort (dataLe false (·.2))).map (·.1) = (T.mergeSort (dataLe false (·.p))).map (·.d) := by
              rw [z1, ← List.map_mergeSort (f := fun t : Kt => (t.d, t.p)) (r := dataLe false (·.p)) (fun _ _ _ _ => rfl), List.map_map]
              rfl
            have rr : Reps X.kw F2 μ2 ((T.mergeSort (dataLe false (·.p))).map (·.d)) ((T.mergeSort (dataLe false (·.p))).map (·.v)) :=
              reps_kt _ fun t ht => s2.rep (t5 t ((List.mergeSort_perm _ _).mem_iff.mp ht)).1
            rw [z2] at kk
            exact kk z (.lst _) F2 μ2 _ (w2.lay0 hz) ((s1.trans s2).trans (Stp.lay0 hz)) (fresh_of (s1.trans s2) hz) (w2.Fnone hz) (w2.out hz) upd_same rr
          · cases h
        · cases h
      · cases h
    · cases h
  · cases h
end
end Gx

set_option maxHeartbeats 4000000
namespace Gx
open PySem L2 PySem.Spec PyProof.Rows PySem.Calls LamX
open PySem.W (AllAlike Sortable dataLe EachIs)
/-! ### sorted(xs, key=lambda x: ..), a lambda that captures nothing -/
/-- the lambda's object -/
def LamO (q : Str) (params : Arguments) (body : Expr) (scope : Scope) (c f : Addr) : HO := .ext fun h => ∃ (pm ctv : Value), h.get? f = some (PySem.W.kla_obj "<lambda>" q params body scope [] pm c ctv)
structure LamStep (H : Hp) (P : Addr) (q : Str) (lo : Addr → Addr → HO) (ps : Array Value) (f c' : Addr) (ps' : Array Value) (H1 : Hp) : Prop where
  keep : ∀ b o, b ≠ P → H b = some o → H1 b = some o
  tab : H1 P = some (.tbl ps')
  tri : TriplesOk ps'.toList
  am : ∀ (pos : Pos) (cv : Value), codeAmong pos ps'.toList = some cv → codeAmong pos ps.toList = some cv ∨ cv = .ref c'
  cc : H c' = none ∨ ∃ pos, codeAmong pos ps.toList = some (.ref c')
  nf : H f = none
  fc : f ≠ c'
  of : H1 f = some (lo c' f)
  oc : H1 c' = some (CodeO c' q)
theorem cloFrom_nil (cells : List (Str × Addr)) : ∀ (names : List (Str × NameKind)) (acc : List (Str × Addr)), (∀ y ∈ names, y.2 ≠ .free) → cloFrom cells names acc = acc
  | [], _, _ => rfl
  | (n, k) :: r, acc, h => by
    have hk : k ≠ .free := h (n, k) (by simp)
    unfold cloFrom
    rw [if_neg (by simpa using hk)]
    exact cloFrom_nil cells r acc fun y hy => h y (by simp [hy])
section
variable {X : Cx} {pins : List (Addr × Obj)} {σ : L2.St} {H : Hp} {s : Shared}
theorem inv_lam {q : Str} {params : Arguments} {body : Expr} {scope : Scope} {c : Addr} {t' : Nat} {pm ctv : Value} (I : L2.Inv X pins σ H s) :
    L2.Inv X pins σ (upd H s.heap.objs.size (LamO q params body scope c s.heap.objs.size)) { s with heap := s.heap.push (PySem.W.kla_obj "<lambda>" q params body scope [] pm c ctv), toks := t' } := by
  refine I.laid (a := s.heap.objs.size) (fun b u e => Heap.get?_push_of_some _ e) (Nat.le_refl _) ?_
  have e : (s.heap.push (PySem.W.kla_obj "<lambda>" q params body scope [] pm c ctv)).get? s.heap.objs.size = some (PySem.W.kla_obj "<lambda>" q params body scope [] pm c ctv) := Heap.get?_push_size _ rfl
  exact ⟨⟨pm, ctv, e⟩, ⟨_, e⟩, fun h1 h2 ⟨pm, ctv, z⟩ st => ⟨pm, ctv, st _ z⟩⟩
theorem lam_make3 {c P : Addr} {q : Str} {ps : Array Value} {params : Arguments} {body : Expr} {scope : Scope} {pos : Pos} {E : Value → Shared → Prop} {Q : Value → Shared → Prop} (I : L2.Inv X pins σ H s) (TB : TabB X.base X.mg c P) (hcode : X.env.code = .ref c) (hq : X.env.qual ++ "<lambda>" = q)
    (hP : H P = some (.tbl ps)) (ht : TriplesOk ps.toList) (ha : ∀ (pos : Pos) (cv : Value), codeAmong pos ps.toList = some cv → ∃ c, cv = .ref c ∧ H c = some (CodeO c q)) (hdef : defaultsOf params X.env = ([], [])) (hnof : ∀ y ∈ scope.names, y.2 ≠ .free)
    (h : ∀ (f c' : Addr) (ps' : Array Value) (H1 : Hp) (s' : Shared), L2.Inv X pins σ H1 s' → LamStep H P q (LamO q params body scope) ps f c' ps' H1 → Q (.ref f) s') :
    wpAny (model X.prog X.w) X.A (eval (.Lambda params body scope pos) X.env) Q E s := by
  refine PySem.W.kla_eval hdef ?_
  rw [hq]
  have hcl : closureFor scope X.env = pure [] := by
    rw [closure_ok fun y hy e => absurd e (hnof y hy), cloFrom_nil _ _ _ hnof]
  have bP : s.heap.BuiltinsAt X.mg P := TB.bm.keeps I.bk
  have hP' : s.heap.get? P = some { cls := .none, data := .fields ps } := I.hok P _ hP
  cases hc : codeAmong pos ps.toList with
  | none =>
    refine PySem.W.kla_makeFunction (mg := X.mg) (c := c) (P := P) (ps := ps) hcl I.ok.glob (I.mod.glob.keeps I.bk) hcode (TB.code.keeps I.bk) hP' ht hc TB.gP bP fun c' ctv h' tk hx hge hlt hrec htb => ?_
    obtain ⟨c2, oc, vs, t, e2, hoc, hd, hv⟩ := hrec
    cases e2
    have nC : H c' = none := I.hok.fresh hge
    have I1 := inv_table (t' := tk) (more := #[rawInt pos.line, rawInt pos.col, .ref c']) (h' := h') I hP (fun b o hb e => hx b o hb e) htb hge ⟨oc, vs, t, hoc, hd, hv⟩
    have I2 := inv_lam (q := q) (params := params) (body := body) (scope := scope) (c := c') (t' := tk) (pm := (X.mg "__name__").getD .none) (ctv := ctv) I1
    have hsz : s.heap.objs.size ≤ h'.objs.size := Nat.le_trans hge (Nat.le_of_lt hlt)
    have nF : H h'.objs.size = none := I.hok.fresh hsz
    have nPc : P ≠ c' := ne_of_none hP nC
    have nPf : P ≠ h'.objs.size := ne_of_none hP nF
    have ncf : c' ≠ h'.objs.size := Nat.ne_of_lt hlt
    refine h h'.objs.size c' (ps ++ #[rawInt pos.line, rawInt pos.col, .ref c']) _ _ I2 ⟨fun b o hb e => ?_, ?_, ?_, fun p' cv hcv => ?_, .inl nC, nF, Ne.symm ncf, upd_same, ?_⟩
    · rw [upd_ne (ne_of_none e nF), upd_ne (ne_of_none e nC), upd_ne hb]; exact e
    · rw [upd_ne nPf, upd_ne nPc, upd_same]
    · have eL : (ps ++ #[rawInt pos.line, rawInt pos.col, .ref c']).toList = ps.toList ++ [rawInt pos.line, rawInt pos.col, .ref c'] := by simp
      rw [eL]; exact PySem.TriplesOk_snoc _ _ _ _ ht
    · have eL : (ps ++ #[rawInt pos.line, rawInt pos.col, .ref c']).toList = ps.toList ++ [rawInt pos.line, rawInt pos.col, .ref c'] := by simp
      rw [eL] at hcv
      exact among_app _ ht hcv
    · rw [upd_ne ncf, upd_same]
  | some cv =>
    obtain ⟨c', e, hco⟩ := ha pos cv hc
    subst e
    refine PySem.W.kla_makeFunctionHit (mg := X.mg) (c := c) (P := P) (ps := ps) hcl I.ok.glob (I.mod.glob.keeps I.bk) hcode (TB.code.keeps I.bk) hP' ht hc bP fun ctv h' tk hx hsz => ?_
    have I1 : L2.Inv X pins σ H { s with heap := h', toks := tk } := I.kept hx
    have I2 := inv_lam (q := q) (params := params) (body := body) (scope := scope) (c := c') (t' := tk) (pm := (X.mg "__name__").getD .none) (ctv := ctv) I1
    have nF : H h'.objs.size = none := I1.hok.fresh (Nat.le_refl _)
    refine h h'.objs.size c' ps _ _ I2 ⟨fun b o hb e => ?_, ?_, ht, fun p' cv hcv => .inl hcv, .inr ⟨pos, hc⟩, nF, Ne.symm (ne_of_none hco nF), upd_same, ?_⟩
    · rw [upd_ne (ne_of_none e nF)]; exact e
    · rw [upd_ne (ne_of_none hP nF)]; exact hP
    · rw [upd_ne (ne_of_none hco nF)]; exact hco
end
def tLam (P : Addr) (q : Str) (lo : Addr → Addr → HO) : TE := fun _ H Q => ∃ ps : Array Value, H P = some (.tbl ps) ∧ TriplesOk ps.toList ∧ (∀ (pos : Pos) (cv : Value), codeAmong pos ps.toList = some cv → ∃ c, cv = .ref c ∧ H c = some (CodeO c q)) ∧
  ∀ (f c' : Addr) (ps' : Array Value) (H1 : Hp), LamStep H P q lo ps f c' ps' H1 → Q (.ref f) H1
theorem pe_lam {X : Cx} {c P : Addr} {q : Str} {params : Arguments} {body : Expr} {scope : Scope} {pos : Pos} (TB : TabB X.base X.mg c P) (hcode : X.env.code = .ref c) (hq : X.env.qual ++ "<lambda>" = q) (hdef : defaultsOf params X.env = ([], [])) (hnof : ∀ y ∈ scope.names, y.2 ≠ .free) :
    PE X (.Lambda params body scope pos) (tLam P q (LamO q params body scope)) := by
  refine ⟨fun pins s σ H Q I h => ?_⟩
  obtain ⟨ps, hP, ht, ha, k⟩ := h
  exact lam_make3 I TB hcode hq hP ht ha hdef hnof fun f c' ps' H1 s' I1 L => ⟨.ref f, H1, I1, rfl, k f c' ps' H1 L⟩
section
variable {K : KW} {F : Hp} {μ : List Addr} {H H1 : Hp} {st : Store} {P : Addr} {q : Str} {lo : Addr → Addr → HO} {ps ps' : Array Value} {f c' : Addr} {j : Nat}
theorem tab_at (w : Wd K F μ H st) (h : st[j]? = some (.tab j P q)) : ∃ ps, H P = some (.tbl ps) ∧ TriplesOk ps.toList ∧ (∀ (pos : Pos) (cv : Value), codeAmong pos ps.toList = some cv → ∃ c, cv = .ref c ∧ F c = some (CodeO c q)) ∧ μ[j]? = some P := by
  have hj : j < μ.length := by rw [w.len]; exact (List.getElem?_eq_some_iff.mp h).1
  obtain ⟨o, h1, h2⟩ := w.obj j _ _ h (List.getElem?_eq_getElem hj)
  cases o <;> first | exact h2.elim | skip
  obtain ⟨a, b, c⟩ := h2
  have e : μ[j] = P := by
    rw [List.getElem?_eq_getElem hj] at a
    exact Option.some.inj a
  rw [e] at h1
  exact ⟨_, h1, b, c, a⟩
theorem wd_lam (w : Wd K F μ H st) (h : st[j]? = some (.tab j P q)) (hP : H P = some (.tbl ps)) (L : LamStep H P q lo ps f c' ps' H1) :
    ∃ F1, Wd K F1 μ H1 st ∧ Stp F μ H F1 μ H1 ∧ F1 f = some (lo c' f) ∧ F1 c' = some (CodeO c' q) := by
  obtain ⟨ps0, h1, h2, h3, h4⟩ := tab_at w h
  rw [hP] at h1; cases h1
  have hj : j < st.length := (List.getElem?_eq_some_iff.mp h).1
  have memP : P ∈ μ := List.mem_of_getElem? h4
  have FP : F P = none := w.nf P memP
  have nf : F f = none := w.Fnone L.nf
  have mem : ∀ a ∈ μ, H a ≠ none := fun a ha e => by
    exact w.out e ha
  have nfμ : f ∉ μ := fun z => mem f z L.nf
  have hc : F c' = none ∧ H c' = none ∨ F c' = some (CodeO c' q) := by
    rcases L.cc with z | ⟨pos, z⟩
    · exact .inl ⟨w.Fnone z, z⟩
    · obtain ⟨c0, e0, e1⟩ := h3 _ _ z
      cases e0
      exact .inr e1
  have ncμ : c' ∉ μ := fun z => by
    rcases hc with ⟨_, e⟩ | e
    · exact mem c' z e
    · rw [w.nf c' z] at e; cases e
  have ext : ∀ b o, F b = some o → upd (upd F c' (CodeO c' q)) f (lo c' f) b = some o := fun b o e => by
    rw [upd_ne (ne_of_none e nf)]
    by_cases hb : b = c'
    · subst hb
      rw [upd_same]
      rcases hc with ⟨z, _⟩ | z
      · rw [z] at e; cases e
      · rw [z] at e; exact e
    · rw [upd_ne hb]; exact e
  have nP : ∀ b o, F b = some o → b ≠ P := fun b o e z => by rw [z, FP] at e; cases e
  refine ⟨upd (upd F c' (CodeO c' q)) f (lo c' f), ⟨fun b o e => ?_, w.len, w.nd, fun a ha => ?_, fun n so a e1 e2 => ?_⟩, ⟨ext, ⟨[], by simp, by simp⟩, fun a o e ha => L.keep a o (fun z => ha (z ▸ memP)) e, fun a ha => ?_, fun a ha => ?_, fun a od u e => L.keep a _ (fun z => by rw [z, hP] at e; cases e) e⟩, upd_same, ?_⟩
  · by_cases hb : b = f
    · subst hb; rw [upd_same] at e; cases e; exact L.of
    · rw [upd_ne hb] at e
      by_cases hb2 : b = c'
      · subst hb2; rw [upd_same] at e; cases e; exact L.oc
      · rw [upd_ne hb2] at e
        exact L.keep b o (nP b o e) (w.sub _ _ e)
  · rw [upd_ne (fun z : a = f => nfμ (z ▸ ha)), upd_ne (fun z : a = c' => ncμ (z ▸ ha))]
    exact w.nf a ha
  · by_cases hn : n = j
    · subst hn
      rw [h] at e1; cases e1
      rw [h4] at e2; cases e2
      refine ⟨_, L.tab, h4, L.tri, fun pos cv hcv => ?_⟩
      rcases L.am pos cv hcv with z | z
      · obtain ⟨c0, e0, e1⟩ := h3 _ _ z
        exact ⟨c0, e0, ext _ _ e1⟩
      · exact ⟨c', z, by rw [upd_ne (Ne.symm L.fc), upd_same]⟩
    · obtain ⟨u, g1, g2⟩ := w.obj n so a e1 e2
      refine ⟨u, L.keep a u (fun z => ?_) g1, SORep.mono ext (fun _ _ e => e) _ _ g2⟩
      subst z
      refine hn ?_
      have l1 := (List.getElem?_eq_some_iff.mp e2)
      have l2 := (List.getElem?_eq_some_iff.mp h4)
      obtain ⟨l1, q1⟩ := l1
      obtain ⟨l2, q2⟩ := l2
      exact (List.getElem_inj w.nd).mp (q1.trans q2.symm)
  · cases z : H a with
    | none => exact absurd z ha
    | some o =>
      by_cases hb : a = P
      · subst hb; rw [L.tab]; simp
      · rw [L.keep a o hb z]; simp
  · by_cases hb : a = f
    · subst hb; exact .inr L.nf
    · rw [upd_ne hb] at ha
      by_cases hb2 : a = c'
      · subst hb2
        rcases hc with ⟨_, z⟩ | z
        · exact .inr z
        · exact .inl (by rw [z]; simp)
      · rw [upd_ne hb2] at ha
        exact .inl ha
  · rw [upd_ne (Ne.symm L.fc), upd_same]
end
def mLamFn (n : Nat) (m : ME) : MFn := fun ds st => match m (ds.map .val ++ List.replicate (n - ds.length) .none) st with
  | some (.d d, st1) => some (d, st1)
  | _ => none
section
variable {P : Program} {w : World} {K : PySem.W.Frag} {mg : Str → Option Value} {base : Heap} {N ps : List Str} {q : Str} {params : Arguments} {body : Expr} {scope : Scope} {m : ME} {k : Nat}
/-- what a lambda's body does -/
def LamBody (P : Program) (w : World) (K : PySem.W.Frag) (mg : Str → Option Value) (base : Heap) (N : List Str) (q : Str) (scope : Scope) (k : Nat) (body : Expr) (m : ME) : Prop :=
  ∀ (cdv : Value) (f : Addr) (A : Around) (outer : List PySem.Env) (sh : Shared) (H : Hp) (E : L2.XK), Room k (A.deeper (PyProof.Rows.envOfC q scope sh.heap.objs.size f cdv)) → XE (cxOf CX0 P w K mg base N q scope f cdv A outer sh H E).nox body m
theorem lam_run (S : FnScope N ps scope) (hbind : ∀ (pm cv ctv : Value) (us : List Value), us.length = ps.length → bindArgs (PySem.W.kla_fn "<lambda>" q params body scope [] pm cv ctv) ⟨us, []⟩ = pure (ps.zip us)) (hb : LamBody P w K mg base N q scope k body m)
    {A : Around} {outer : List PySem.Env} {s : Shared} {H : Hp} {us : List Value} {vs : List V} {Q : VK} {E : L2.XK} {f c' : Addr} (hr : Room (k + 1) A) (e0 : Env0 P w K mg base A outer s H) (hf : H f = some (LamO q params body scope c' f)) (hc : H c' = some (CodeO c' q)) (r : Vals vs us)
    (sp : spM ⟨K, w⟩ ps.length (mLamFn N.length m) vs H Q E) : codeAny (model P w) A (.call (.ref f) ⟨us, []⟩) (CR CX0 outer P w H s Q E) s := by
  have lim : s.heap.NoLimit := e0.mod.nolimit.keeps fun b o e => (e0.bs b o e).1
  obtain ⟨⟨pm, ctv, of⟩, _, _⟩ := e0.hok f _ hf
  obtain ⟨⟨oc, vo, t, hoc, hd, hv⟩, _, _⟩ := e0.hok c' _ hc
  obtain ⟨F, μ, ds, st, d, st', wd, rp, hl, e, kk⟩ := sp
  have hlv : vs.length = ps.length := by rw [← rp.length]; exact hl
  have hlu : us.length = ps.length := by rw [← r.length]; exact hlv
  have hkind : ∀ y ∈ ps.zip us, scope.names.lookup y.1 = some .local ∨ (scope.names.lookup y.1 = some .cell ∧ ((cellsFrom (s.heap.objs.size + 1) scope.names []).lookup y.1).isSome = true) := fun ⟨n, v⟩ hy => by
    rcases S.par n (List.of_mem_zip hy).1 with q | q
    · exact .inl q
    · exact .inr ⟨q, PySem.W.cellsFrom_some _ _ _ (.inl q)⟩
  refine PySem.W.kla_callFunE hr.depth of rfl S.co S.gen rfl ⟨c', oc, vo, t, rfl, hoc, hd, hv⟩ ?_
  rw [hbind _ _ _ _ hlu]
  refine wpAny_pure (wpAny_newFunctionEnv_cells S.kind hkind fun env he s1 x => ?_)
  subst he
  refine ⟨lim.keeps x.toInCall.keep, ?_⟩
  have I : L2.Inv (cxOf CX0 P w K mg base N q scope f (.ref c') A outer s H E) [] (L2.start N vs) H s1 := inv_start S hr.hd e0 hlv r x
  obtain ⟨tt, pe, sm⟩ := hb (.ref c') f A outer s H E (hr.deeper _)
  unfold mLamFn at e
  split at e
  · rename_i d1 st1 e1
    cases e
    have so := start_ok (N := N) wd rp
    have hq := sm _ _ _ _ _ _ _ _ (fun v H' => Q v H') so.wd so.en e1 fun v F' μ' H' w' s' r' => kk v F' μ' H' w' s' r'
    refine PySem.W.kla_codeExpr (wpAny_mono (pe.nox.run [] s1 _ H _ I hq) (fun u s' hs => ?_) fun e s' hs => hs)
    obtain ⟨v, H', J, rv, qq⟩ := hs
    exact ⟨v, H', J.os, J.bare, J.base, J.hok, rv, qq⟩
  · cases e
end
section
variable {X : Cx} {N ps : List Str} {q : Str} {params : Arguments} {body : Expr} {scope : Scope} {m : ME} {k : Nat} {f c' : Addr}
theorem turn_lam {a : Str} (S : FnScope N [a] scope) (hbind : ∀ (pm cv ctv : Value) (us : List Value), us.length = 1 → bindArgs (PySem.W.kla_fn "<lambda>" q params body scope [] pm cv ctv) ⟨us, []⟩ = pure ([a].zip us)) (hb : LamBody X.prog X.w X.kw X.mg X.base N q scope k body m) (hr : Room (k + 3) X.A)
    {F1 : Hp} {μ1 : List Addr} {H : Hp} {st : Store} (hf : F1 f = some (LamO q params body scope c' f)) (hc : F1 c' = some (CodeO c' q)) : Turn X f (mLamFn N.length m) F1 μ1 H st := by
  intro t hd hcc pins σ H1 s F2 μ2 I w sp x hx
  have sm : spM X.kw 1 (mLamFn N.length m) [t.v] H1 (fun v H' => ∃ F' μ', Wd X.kw F' μ' H' st ∧ Stp F2 μ2 H1 F' μ' H' ∧ Rep X.kw F' μ' t.k v) (fun _ _ _ => False) :=
    ⟨F2, μ2, [t.d], st, t.k, st, w, ⟨sp.rep hd, trivial⟩, rfl, hcc, fun v F' μ' H' w' s' r' => ⟨F', μ', w', s', r'⟩⟩
  refine wpAny_call (codeAny_mono (lam_run (ps := [a]) (outer := X.stack) S hbind hb hr.in1.in1 I.env0.in1.in1 (w.sub _ _ (sp.fF _ _ hf)) (w.sub _ _ (sp.fF _ _ hc)) (.cons hx .nil) sm) fun r z hq => ?_)
  rcases r with e | fl
  · exact hq.elim
  cases fl <;> first | exact hq.elim | skip
  obtain ⟨v, H2, I2, rv, F', μ', w', s', r'⟩ := I.after hq
  exact ⟨H2, F', μ', v, I2, w', s', r', rv⟩
end
def mSortL (j : Nat) (P : Addr) (q : Str) (m : ME) (c : MFn) : MF := fun env st => match m env st with
  | some (x, st1) => match st1[j]? with
    | some o => if o = .tab j P q then match asL env st1 x with
      | some ds => match keysM c st1 ds with
        | some ks => match toPs dr0 ks with
          | some ps => if sortOk ps then some (.lst (((ds.zip ps).mergeSort (dataLe false (·.2))).map (·.1)), st1) else none
          | none => none
        | none => none
      | none => none
      else none
    | none => none
  | none => none
section
variable {X : Cx} {e : Expr} {m : ME} {pos : Pos}
theorem xsortlam {x a : Str} {p lpos kpos : Pos} {i j : Nat} {c P : Addr} {q : Str} {N : List Str} {params : Arguments} {body : Expr} {scope : Scope} {mb : ME} (TB : TabB X.base X.mg c P) (hcode : X.env.code = .ref c) (hq : X.env.qual ++ "<lambda>" = q) (hdef : defaultsOf params X.env = ([], []))
    (S : FnScope N [a] scope) (hbind : ∀ (pm cv ctv : Value) (us : List Value), us.length = 1 → bindArgs (PySem.W.kla_fn "<lambda>" q params body scope [] pm cv ctv) ⟨us, []⟩ = pure ([a].zip us)) (hb : LamBody X.prog X.w X.kw X.mg X.base N q scope 0 body mb)
    (hr : Room i X.A) (hkj : 3 ≤ i) (hg : Gl X x) (hm : X.mg x = none) (hv : bootBuiltins x = some (.builtin "sorted")) (ha : XE X e m)
    (hd : (x == ("__debug__" : Str)) = false := by decide) (hn : x ≠ "__name__" := by decide)
    (he : starEach (e :: []) X.env = (false, eval e X.env) :: starEach [] X.env := by rfl) (he2 : backTo pos (starEach (e :: []) X.env) = (false, eval e X.env) :: backTo pos (starEach [] X.env) := by rfl) (hpl : (backTo pos (starEach (e :: []) X.env)).any (·.1) = false := by rfl)
    (hall : (backToKw pos (keywordEach [⟨some "key", .Lambda params body scope lpos, kpos⟩] X.env)).all (·.1.isSome) = true := by rfl) (hnone : (backToKw pos (keywordEach [⟨some "key", .Lambda params body scope lpos, kpos⟩] X.env)).any (·.1.isNone) = false := by rfl)
    (hks : (backToKw pos (keywordEach [⟨some "key", .Lambda params body scope lpos, kpos⟩] X.env)).filterMap (·.1) = [Str.ofString "key"] := by rfl) :
    XF X (.Call (.Name x p) [e] [⟨some "key", .Lambda params body scope lpos, kpos⟩] pos) (mSortL j P q m (mLamFn N.length mb)) := by
  obtain ⟨t, pe, s⟩ := ha
  refine ⟨_, pe_callBK (call_sortK (n := 0) (c := mLamFn N.length mb) (hr.mono (by omega))) hg hm hv (pa_cons pe pa_nil he) (pk_cons (pe_lam TB hcode hq hdef S.nofree) pk_nil) hn hd he2 hpl hall hnone hks, ?_⟩
  intro σ F μ H env st so st' Q w en h kk
  unfold mSortL at h
  split at h
  · rename_i x st1 e1
    split at h
    · rename_i o eo
      split at h
      · rename_i ho
        subst ho
        split at h
        · rename_i ds e2
          split at h
          · rename_i ks e3
            split at h
            · rename_i qs e4
              split at h
              · rename_i hso
                cases h
                refine s σ F μ H env st _ _ _ w en e1 fun v F1 μ1 H1 w1 s1 r1 => ?_
                obtain ⟨tps, g1, g2, g3, g4⟩ := tab_at w1 eo
                refine ⟨tps, g1, g2, fun pos cv hcv => ?_, fun f c' ps' H2 L => ?_⟩
                · obtain ⟨c0, z1, z2⟩ := g3 pos cv hcv
                  exact ⟨c0, z1, w1.sub _ _ z2⟩
                obtain ⟨F2, w2, s2, lf, lc⟩ := wd_lam w1 eo g1 L
                obtain ⟨a, vs, rfl, sq, q⟩ := asL_ok w2 ((en.step s1).step s2) (r1.step s2) e2
                obtain ⟨T, t1, t2, t3, t4, t5⟩ := four ds vs ks qs q e3 e4
                obtain ⟨hal, hsk, hdp⟩ := sortOk_ok hso
                refine ⟨a, f, T, F2, μ1, _, rfl, rfl, turn_lam S hbind hb (hr.mono (by omega)) lf lc, w2, by rw [t2]; exact sq, t5, by rw [t3, t4]; exact e4, by rw [t4]; exact hal, by rw [t4]; exact hsk, by rw [t4]; exact hdp, fun F3 μ3 H3 z w3 s3 hz hz1 => ?_⟩
                have z1 : ds.zip qs = T.map fun t => (t.d, t.p) := by rw [← t1, ← t4]; exact zip_map _ _ T
                have z2 : ((ds.zip qs).mergeSort (dataLe false (·.2))).map (·.1) = (T.mergeSort (dataLe false (·.p))).map (·.d) := by
                  rw [z1, ← List.map_mergeSort (f := fun t : Kt => (t.d, t.p)) (r := dataLe false (·.p)) (fun _ _ _ _ => rfl), List.map_map]
                  rfl
                have rr : Reps X.kw F3 μ3 ((T.mergeSort (dataLe false (·.p))).map (·.d)) ((T.mergeSort (dataLe false (·.p))).map (·.v)) :=
                  reps_kt _ fun t ht => s3.rep (t5 t ((List.mergeSort_perm _ _).mem_iff.mp ht)).1
                rw [z2] at kk
                have s12 := s1.trans (s2.trans s3)
                exact kk z (.lst _) F3 μ3 _ (w3.lay0 hz) (s12.trans (Stp.lay0 hz)) (fresh_of s12 hz) (w3.Fnone hz) (w3.out hz) upd_same rr
              · cases h
            · cases h
          · cases h
        · cases h
      · cases h
    · cases h
  · cases h
end
end Gx

set_option maxHeartbeats 4000000
namespace Gx
open PySem L2 PySem.Spec PyProof.Rows PySem.Calls LamX
/-! ### a law whose def makes a lambda: its table of code objects is the store's first object -/
theorem law_spT {K : KW} {H : Hp} {a P : Addr} {q : Str} {ns : List Int} {m : MFn} (hP : H P = some (.tbl #[])) (hS : SqL K H a (ns.map V.int)) (h : ∃ st, m [.lst (ns.map .int)] [.tab 0 P q] = some (.bl true, st)) : spM K 1 m [.ref a] H (fun v _ => v = .bl true) fun _ _ _ => False := by
  obtain ⟨st, h⟩ := h
  refine ⟨fun b => if b = P then none else H b, [P], [.lst (ns.map .int)], [.tab 0 P q], _, st, ⟨fun b o e => ?_, rfl, by simp, fun b hb => ?_, fun n so b e1 e2 => ?_⟩, ⟨⟨a, _, rfl, ?_, Reps.of_ints ns⟩, trivial⟩, rfl, h, fun v F' μ' H' _ _ r => r⟩
  · split at e
    · cases e
    · exact e
  · rw [List.mem_singleton] at hb
    rw [if_pos hb]
  · cases n with
    | zero =>
      simp only [List.getElem?_cons_zero, Option.some.injEq] at e1 e2
      subst e1; subst e2
      refine ⟨_, hP, rfl, trivial, fun pos cv hc => ?_⟩
      simp [codeAmong] at hc
    | succ n => simp at e1
  · rcases hS with hS | hS
    · have hne : a ≠ P := fun z => by
        subst z
        rcases hS with z | ⟨o, z⟩ <;> (rw [hP] at z; cases z)
      rcases hS with z | ⟨o, z⟩
      · exact .inl (.inl ((if_neg hne).trans z))
      · exact .inl (.inr ⟨o, (if_neg hne).trans z⟩)
    · exact .inr hS
theorem xfnC {P : Program} {w : World} {K : PySem.W.Frag} {mg : Str → Option Value} {base : Heap} {x qual : Str} {s : Stmt} {f c : Addr} {fd : FuncData} {N ps : List Str} {k : Nat} {body : MS} (F : Fun K x qual s f fd) (hc : fd.code = .ref c) (S : FnScope N ps (defScope s))
    (hb : ∀ (A : Around) (outer : List PySem.Env) (sh : Shared) (H : Hp) (E : L2.XK), Room k (A.deeper (PyProof.Rows.envOfC qual (defScope s) sh.heap.objs.size f (.ref c))) → XSs (cxOf CX0 P w K mg base N qual (defScope s) f (.ref c) A outer sh H E).nox (defBody s) body) :
    FnOk P w K mg base CX0 (k + 1) f fd ps (spM ⟨K, w⟩ ps.length (mFn N.length body)) := by
  obtain ⟨⟨oc, od, kV, doc, pm, an, cdv, ct, osl, rfl, lk, hcd⟩, kp⟩ := F
  have hc : cdv = .ref c := hc
  subst hc
  refine fn_of lk hcd S (fun vs H Q E h => ?_) fun A outer sh H vs Q E hr h => ?_
  · obtain ⟨F, μ, ds, st, d, st', w, r, hl, _⟩ := h
    rw [← r.length]; exact hl
  · obtain ⟨F, μ, ds, st, d, st', w, r, hl, e, kk⟩ := h
    obtain ⟨t, p, q⟩ := hb A outer sh H E hr
    refine ⟨t, p.nox, ?_⟩
    unfold mFn at e
    cases e1 : body (ds.map .val ++ List.replicate (N.length - ds.length) .none) st with
    | none => rw [e1] at e; cases e
    | some z =>
      obtain ⟨fl, env1, st1⟩ := z
      rw [e1] at e
      refine q F μ H F μ _ F μ H _ st _ _ (start_ok w r) e1 ?_
      cases fl with
      | nx => cases e; exact fun σ F' μ' H' o => kk .non F' μ' H' o.wd o.stp rfl
      | rt d => cases e; exact kk
      | bk => cases e
      | ct => cases e
theorem law_walkT {l : PySem.W.OpenLaw} {n k : Nat} {q : Program} {qn : Str} {loose : List Str} {XP : (Str → Option Value) → Heap → Prop} {YP : World → Heap → Prop} {d : DefRec} {K : Params → PySem.W.Frag} {x : Str} {m : Addr → MFn}
    (hn : l.most = some n) (hn2 : n ≤ sizeLine) (hdf : d.params.defaults = []) (hr : Room k callerA) (hY : ∀ (w : World) (h : Heap), YP w h → (K w.params).In h)
    (F : ∀ (w : World) (mg : Str → Option Value) (fa : Addr) (h : Heap), YP w h → (K w.params).In h → h.Ns mainGlobals mg → mg d.name = some (.ref fa) →
      ∃ (c P : Addr) (fd : FuncData), h.get? P = some { cls := .none, data := .fields #[] } ∧ (K w.params).lookup P = none ∧ PySem.W.CodeHd h c P ∧ (∀ (s : Shared) (u : Value), BindsTo s fd ⟨[u], []⟩ [(x, u)]) ∧ ∀ base : Heap, (K w.params).In base → base.Ns mainGlobals mg → TabB base mg c P → FnOk l.prog w (K w.params) mg base CX0 k fa fd [x] (spM ⟨K w.params, w⟩ 1 (m P)))
    (hm : ∀ (P : Addr) (ns : List Int), ns.length ≤ n → (∀ z ∈ ns, Builtin.Int.intBits z ≤ 1048576) → ∃ st, m P [.lst (ns.map .int)] [.tab 0 P qn] = some (.bl true, st)) :
    PySem.W.WalkO q loose XP YP l.row.toRowW d [] (fun f vs => PySem.call f vs) := by
  refine walk_ofTs (x := x) (CX := fun _ => CX0) hn hn2 hdf hr hY (fun w mg fa h Y KX G hmg => ?_) fun _ _ _ _ _ z => z
  obtain ⟨c, P, fd, h1, h2, h3, h4, h5⟩ := F w mg fa h Y KX G hmg
  exact ⟨fd, [(c, P)], spM ⟨K w.params, w⟩ 1 (m P), by simpa using h1, by simpa using h2, by simpa using h3, h4, fun H a ns hl hb hT hS => law_spT (hT (c, P) (by simp)) hS (hm P ns hl hb), fun base hK hG hTB => h5 base hK hG (hTB (c, P) (by simp))⟩
end Gx

set_option maxHeartbeats 4000000
namespace Gx
open PySem L2
/-! ### for k in d, d a dict of the store that stays while the loop runs -/
def kyD : Key → D
  | .inl i => .int i
  | .inr x => .str x
def noOwn (env : Env) : Bool := env.all fun s => match s with | .own _ => false | _ => true
def mForK (mi : ME) (g : MG) (body : MS) : MS := fun env st => match mi env st with
  | some (.d (.ref n), _) => match st[n]? with
    | some (.dK kvs) => match mi env (st.set n (.dF kvs)) with
      | some (.d (.ref m), st3) => if m = n ∧ st3 = st.set n (.dF kvs) ∧ noOwn env = true then
          match forGo g body (fun _ st => decide (st[n]? = some (.dF kvs))) (kvs.map fun p => kyD p.1) env (st.set n (.dF kvs)) with
          | some (f, env', st') => if st'[n]? = some (.dF kvs) then some (f, env', st'.set n (.dK kvs)) else none
          | none => none
        else none
      | _ => none
    | _ => none
  | _ => none
section
variable {K : KW} {F0 Fg F F2 : Hp} {μ0 μg μ μ2 : List Addr} {H0 H H2 : Hp} {env env2 : Env} {σ σ2 : L2.St} {st st2 : Store} {n : Nat} {a : Addr} {kvs : List (Key × D)} {qs : List (Key × V)} {od : Obj}
theorem noOwn_at (no : noOwn env = true) (i : Nat) (so : SO) : env[i]? ≠ some (.own so) := fun e => by
  unfold noOwn at no
  have := List.all_eq_true.mp no _ (List.mem_of_getElem? e)
  cases this
theorem lock_wd (w : Wd K F μ H st) (hn : st[n]? = some (.dK kvs)) (hm : μ[n]? = some a) (rk : RepKV K F μ kvs qs) : Wd K F μ (upd H a (.frz od (.dK qs))) (st.set n (.dF kvs)) :=
  w.put (List.getElem?_eq_some_iff.mp hn).1 hm (so := .dF kvs) (u := .frz od (.dK qs)) rk
theorem lock_ok (o : SOk K F0 μ0 H0 Fg μg F μ H env σ st) (no : noOwn env = true) (hn : st[n]? = some (.dK kvs)) (hm : μ[n]? = some a) (rk : RepKV K F μ kvs qs) (od : Obj) :
    SOk K F μ (upd H a (.frz od (.dK qs))) F μ F μ (upd H a (.frz od (.dK qs))) env σ (st.set n (.dF kvs)) := by
  refine ⟨lock_wd o.wd hn hm rk, ⟨o.en.len, fun i s v e1 e2 => ?_, fun i j b hij h1 h2 => ?_⟩, Stp.refl, fun i b h => ?_, Gr.refl⟩
  · have h := o.en.slot i s v e1 e2
    cases s with
    | none => trivial
    | val d => exact h
    | own so => exact absurd e1 (noOwn_at no i so)
  · obtain ⟨so, h1, _⟩ := h1
    exact absurd h1 (noOwn_at no i so)
  · obtain ⟨so, h1, _⟩ := h
    exact absurd h1 (noOwn_at no i so)
theorem stp_unlock (hm : μ[n]? = some a) (hH : H a = some (.dK qs)) (nF : F a = none) (s : Stp F μ (upd H a (.frz od (.dK qs))) F2 μ2 H2) : Stp F μ H F2 μ2 (upd H2 a (.dK qs)) := by
  have ham : a ∈ μ := List.mem_of_getElem? hm
  have old : ∀ b, upd H a (.frz od (.dK qs)) b = none → H b = none := fun b e => by
    by_cases q : b = a
    · subst q; rw [upd_same] at e; cases e
    · rw [upd_ne q] at e; exact e
  obtain ⟨ex, e1, e2⟩ := s.fm
  refine ⟨s.fF, ⟨ex, e1, fun b hb => old b (e2 b hb)⟩, fun b o e hb => ?_, fun b hb => ?_, fun b hb => ?_, fun b ob u e => ?_⟩
  · have q : b ≠ a := fun q => hb (q ▸ ham)
    rw [upd_ne q]
    exact s.frame b o (by rw [upd_ne q]; exact e) hb
  · by_cases q : b = a
    · subst q; rw [upd_same]; simp
    · rw [upd_ne q]
      exact s.live b (by rw [upd_ne q]; exact hb)
  · rcases s.newF b hb with z | z
    · exact .inl z
    · exact .inr (old b z)
  · have q : b ≠ a := fun q => by subst q; rw [hH] at e; cases e
    rw [upd_ne q]
    exact s.frz b ob u (by rw [upd_ne q]; exact e)
theorem unlock_ok (o : SOk K F0 μ0 H0 Fg μg F μ H env σ st) (hm : μ[n]? = some a) (hH : H a = some (.dK qs)) (rk : RepKV K F μ kvs qs) (q : SOk K F μ (upd H a (.frz od (.dK qs))) F μ F2 μ2 H2 env2 σ2 st2) (hst : st2[n]? = some (.dF kvs)) :
    SOk K F0 μ0 H0 Fg μg F2 μ2 (upd H2 a (.dK qs)) env2 σ2 (st2.set n (.dK kvs)) := by
  have nF : F a = none := o.wd.nf a (List.mem_of_getElem? hm)
  have s := stp_unlock hm hH nF q.stp
  have hm2 := q.stp.pre n a hm
  have ham2 : a ∈ μ2 := List.mem_of_getElem? hm2
  refine ⟨q.wd.put (List.getElem?_eq_some_iff.mp hst).1 hm2 (so := .dK kvs) (u := .dK qs) (RepKV.mono q.stp.fF q.stp.pre _ _ rk), ⟨q.en.len, fun i s v e1 e2 => ?_, q.en.sep⟩, o.stp.trans s, fun i b h => ?_, o.gr.trans s.gr⟩
  · have h := q.en.slot i s v e1 e2
    cases s with
    | none => trivial
    | val d => exact h
    | own so =>
      obtain ⟨x, u, h1, h2, h3, h4, h5⟩ := h
      exact ⟨x, u, h1, h2, h3, by rw [upd_ne (fun z : x = a => h3 (by rw [z]; exact ham2))]; exact h4, h5⟩
  · have h1 := q.own0 i b h
    have h2 : H b = none := by
      by_cases z : b = a
      · subst z; rw [upd_same] at h1; cases h1
      · rw [upd_ne z] at h1; exact h1
    exact Classical.byContradiction fun c => o.stp.live b c h2
theorem repKV_at : ∀ {ps : List (Key × D)} {qs : List (Key × V)} {i : Nat} {k : Key} {v : V}, RepKV K F μ ps qs → qs[i]? = some (k, v) → ∃ d, ps[i]? = some (k, d)
  | [], [], i, k, v, _, e => by simp at e
  | p :: ps, q :: qs, 0, k, v, r, e => by
    simp at e
    subst e
    exact ⟨p.2, by simp; exact Prod.ext r.1 rfl⟩
  | p :: ps, q :: qs, i + 1, k, v, r, e => by
    obtain ⟨d, h⟩ := repKV_at (i := i) r.2.2 (by simpa using e)
    exact ⟨d, by simpa using h⟩
  | [], _ :: _, _, _, _, r, _ => r.elim
  | _ :: _, [], _, _, _, r, _ => r.elim
theorem repKV_len : ∀ {ps : List (Key × D)} {qs : List (Key × V)}, RepKV K F μ ps qs → ps.length = qs.length
  | [], [], _ => rfl
  | p :: ps, q :: qs, r => by simp [repKV_len r.2.2]
  | [], _ :: _, r => r.elim
  | _ :: _, [], r => r.elim
end
theorem simForK {K : KW} {te : TE} {mi : ME} {g : TG} {mg : MG} {tb : TS} {mb : MS} (hi : SimE K te mi) (hg : SimG K g mg) (hb : SimS K tb mb) : SimS K (tLock (tFor (iKeys te) g tb)) (mForK mi mg mb) := by
  intro F0 μ0 H0 Fg μg σ F μ H env st out D o e k
  unfold mForK at e
  split at e
  · rename_i n st1 e1
    split at e
    · rename_i kvs hn
      split at e
      · rename_i m st3 e3
        split at e
        · rename_i hc
          obtain ⟨rfl, rfl, no⟩ := hc
          split at e
          · rename_i f envL stL eL
            split at e
            · rename_i hst
              have e := Option.some.inj e
              subst e
              have hlt : m < μ.length := by rw [o.wd.len]; exact (List.getElem?_eq_some_iff.mp hn).1
              have hm : μ[m]? = some μ[m] := List.getElem?_eq_getElem hlt
              generalize μ[m] = a at hm
              obtain ⟨u, hH, ru⟩ := o.wd.obj m _ a hn hm
              cases u <;> first | exact ru.elim | skip
              rename_i qs
              have rk : RepKV K F μ kvs qs := ru
              have nF : F a = none := o.wd.nf a (List.mem_of_getElem? hm)
              refine ⟨a, .dK qs, hH, trivial, fun od => ?_⟩
              have oL := lock_ok o no hn hm rk od
              generalize hD : (⟨fun σ' H' => H' a = some (.frz od (.dK qs)) ∧ D.nx σ' (upd H' a (.dK qs)), fun v H' => H' a = some (.frz od (.dK qs)) ∧ D.rt v (upd H' a (.dK qs)), fun σ' H' => H' a = some (.frz od (.dK qs)) ∧ D.bk σ' (upd H' a (.dK qs)), fun σ' H' => H' a = some (.frz od (.dK qs)) ∧ D.ct σ' (upd H' a (.dK qs))⟩ : Ends) = D'
              have fz : ∀ {F2 : Hp} {μ2 : List Addr} {H2 : Hp}, Stp F μ (upd H a (.frz od (.dK qs))) F2 μ2 H2 → H2 a = some (.frz od (.dK qs)) := fun s => s.frz a od _ upd_same
              have kL : Post K F μ (upd H a (.frz od (.dK qs))) F μ D' (f, envL, stL) := by
                subst hD
                cases f with
                | nx => exact fun σ2 F2 μ2 H2 q => ⟨fz q.stp, k σ2 F2 μ2 _ (unlock_ok o hm hH rk q hst)⟩
                | bk => exact fun σ2 F2 μ2 H2 q => ⟨fz q.stp, k σ2 F2 μ2 _ (unlock_ok o hm hH rk q hst)⟩
                | ct => exact fun σ2 F2 μ2 H2 q => ⟨fz q.stp, k σ2 F2 μ2 _ (unlock_ok o hm hH rk q hst)⟩
                | rt d =>
                  exact fun v F2 μ2 H2 w s r => ⟨fz s, k v F2 μ2 _ (w.put (List.getElem?_eq_some_iff.mp hst).1 (s.pre m a hm) (so := .dK kvs) (u := .dK qs) (RepKV.mono s.fF s.pre _ _ rk)) (o.stp.trans (stp_unlock hm hH nF s)) r⟩
              clear k hD
              generalize hHL : upd H a (.frz od (.dK qs)) = HL at oL kL fz ⊢
              have hlen := repKV_len rk
              refine hi σ F μ HL env _ _ _ _ oL.wd oL.en e3 fun v F1 μ1 H1 w1 s1 r1 => ?_
              obtain ⟨a', rfl, hm1⟩ := r1
              have ea : a' = a := Option.some.inj (hm1.symm.trans (s1.pre m a hm))
              subst ea
              have o1 := oL.step w1 s1
              refine ⟨a', od, rfl, .inl ⟨qs, fz s1, ?_⟩⟩
              refine ⟨fun i z σ' H' => z = qs.length - i ∧ i ≤ qs.length ∧ ∃ F2 μ2 env2 st2, SOk K F μ HL F μ F2 μ2 H' env2 σ' st2 ∧ forGo mg mb (fun _ st => decide (st[m]? = some (.dF kvs))) ((kvs.map fun p => kyD p.1).drop i) env2 st2 = some (f, envL, stL),
                ⟨qs.length, by simp, Nat.zero_le _, F1, μ1, env, _, o1, by simpa using eL⟩, ?_⟩
              rintro i z σ' H' ⟨rfl, hi', F2, μ2, env2, st2, o2, go⟩
              have hfz := fz o2.stp
              by_cases hlt2 : i < qs.length
              · have hi2 : i < (kvs.map fun p => kyD p.1).length := by rw [List.length_map]; omega
                rw [List.drop_eq_getElem_cons hi2] at go
                unfold forGo at go
                split at go
                · refine .inr ⟨⟨hfz, hlt2⟩, fun σ3 H3 => ∃ F3 μ3 env3 st3, SOk K F μ HL F μ F3 μ3 H3 env3 σ3 st3 ∧ forGo mg mb (fun _ st => decide (st[m]? = some (.dF kvs))) ((kvs.map fun p => kyD p.1).drop (i + 1)) env3 st3 = some (f, envL, stL),
                    fun σ3 H3 ⟨F3, μ3, env3, st3, q1, q3⟩ => ⟨qs.length - (i + 1), by omega, rfl, hlt2, F3, μ3, env3, st3, q1, q3⟩, fun x H3 y => ?_⟩
                  obtain ⟨eH, kk, vv, ex, rfl⟩ := y
                  subst eH
                  obtain ⟨dd, ed⟩ := repKV_at rk ex
                  have ed' : (kvs.map fun p => kyD p.1)[i] = kyD kk := by
                    have := List.getElem?_eq_getElem hi2
                    rw [List.getElem?_map, ed] at this
                    exact (Option.some.inj this).symm
                  rw [ed'] at go
                  have rd : Rep K F2 μ2 (kyD kk) (kV kk) := by cases kk <;> rfl
                  split at go
                  · rename_i env3 e3
                    refine hg F μ HL F μ σ' F2 μ2 H3 env2 st2 _ _ env3 _ o2 rd e3 fun σ3 o3 => ?_
                    cases e4 : mb env3 st2 with
                    | none => rw [e4] at go; cases go
                    | some z =>
                      obtain ⟨f4, env4, st4⟩ := z
                      rw [e4] at go
                      refine hb F μ HL F μ σ3 F2 μ2 H3 env3 st2 _ _ o3 e4 ?_
                      cases f4 with
                      | nx => exact fun σ5 F5 μ5 H5 q => ⟨F5, μ5, env4, st4, q, go⟩
                      | ct => exact fun σ5 F5 μ5 H5 q => ⟨F5, μ5, env4, st4, q, go⟩
                      | bk =>
                        cases go
                        exact fun σ5 F5 μ5 H5 q => kL σ5 F5 μ5 H5 q
                      | rt d =>
                        cases go
                        exact kL
                  · cases go
                · cases go
              · have hi2 : i = qs.length := by omega
                subst hi2
                rw [List.drop_of_length_le (by rw [List.length_map]; omega)] at go
                unfold forGo at go
                split at go
                · cases go
                  exact .inl ⟨⟨hfz, Nat.le_refl _⟩, kL σ' F2 μ2 H' o2⟩
                · cases go
            · cases e
          · cases e
        · cases e
      · cases e
    · cases e
  · cases e
section
variable {X : Cx} {pos : Pos}
theorem xforK {tg iter : Expr} {sb : List Stmt} {mi : ME} {mg : MG} {mb : MS} (hp : PassesOwn (model X.prog X.w) X.A X.env X.xe) (hc : X.calm = true) (hi : XE X iter mi) (hg : XG X tg mg) (hb : XSs X sb mb) (hs : ∀ x, foldedSetIterable iter X.env x = pure x := by intro _; rfl) :
    XS X (.For tg iter sb [] pos) (mForK mi mg mb) := by
  obtain ⟨wi, p, q⟩ := hi
  obtain ⟨g, p', q'⟩ := hg
  obtain ⟨t, p2, q2⟩ := hb
  exact ⟨_, ps_lock (ps_for hp hc (pi_keys p) p' p2 hs), simForK q q' q2⟩
end
end Gx

set_option maxHeartbeats 4000000
namespace L2
open PySem PySem.Spec PyProof.Rows
open PySem.W (EqTree)
/-! ### == of dicts that hold dicts and lists: the same one, or two that differ -/
section
variable {prog : Program} {w : World} {A : Around} {E : Value → Shared → Prop} {s : Shared}
theorem ne_dictsT {κ : Type} [DecidableEq κ] {knd : KeyKind prog w κ} {n : Nat} {a b : Addr} {ka kb : List (κ × Value)} {e : κ → Bool} {Q : Value → Shared → Prop} (ha : (a == sysModules) = false) (hb : (b == sysModules) = false)
    (da : s.heap.DictOf knd a ka) (db : s.heap.DictOf knd b kb) (t : ∀ k v y, (k, v) ∈ ka → valueAt kb k = some y → EqTree prog w s n v y (e k)) (hu : A.units + (n + 1) < cLine)
    (h : Q (.bool (!(ka.length == kb.length && ka.all fun p => (valueAt kb p.1).isSome && e p.1))) s) : wpAny (model prog w) A (compareOp .NotEq (.ref a) (.ref b)) Q E s := by
  refine wpAny_richCompare_same_room (op := .NotEq) da.typeIs db.typeIs PySem.F.slot_dict_ne (wpAny_call_entry PySem.F.slot_dict_ne da.typeIs PySem.F.entry_dict_ne ?_ (PySem.F.args_dict_ne_2 _ _)) (by omega)
  show wpAny _ _ (Builtin.Dict.dictSlotArgs "__ne__" ⟨[.ref a, .ref b], []⟩ >>= _) _ _ s
  refine wpAny_bind ?_
  unfold Builtin.Dict.dictSlotArgs
  refine wpAny_bind (wpAny_notOrdered_dict da.typeIs ?_)
  show wpAny _ _ (pure (Value.ref a, Value.ref b)) _ _ s
  refine wpAny_pure ?_
  refine wpAny_bind (wpAny_isInstance (T := "dict") db.typeIs PySem.F.sub_dict_dict ?_)
  simp only [Bool.not_true, Bool.false_eq_true, if_false]
  refine wpAny_bind (wpAny_pure (wpAny_bind (wpAny_pure ?_)))
  refine wpAny_bind (PySem.W.keq_samePairsIn ha hb da db (fun _ => PySem.W.KeqHitsIn.of _ fun k v y hm hv => (t k v y hm hv).at A.in1 (by show A.units + 1 + _ < cLine; omega)) ?_)
  refine wpAny_pure ⟨_, rfl, ?_, ?_⟩
  · exact fun x => nomatch x
  · generalize (ka.length == kb.length && ka.all fun p => (valueAt kb p.1).isSome && e p.1) = z at h ⊢
    cases z <;> exact h
end
/-- plain data -/
def DataV (K : PySem.W.Frag) (H : Hp) (x : V) : Prop := ∃ d, Dp K H x d ∧ SeqAt.shaped d = true
/-- two values that may be compared: plain data, or dicts of plain data -/
def CmpV (K : PySem.W.Frag) (H : Hp) (x y : V) : Prop := (DataV K H x ∧ DataV K H y) ∨ ∃ a b ks ls, x = .ref a ∧ y = .ref b ∧ Rd H a (.dK ks) ∧ Rd H b (.dK ls) ∧ (∀ p ∈ ks, DataV K H p.2) ∧ ∀ p ∈ ls, DataV K H p.2
theorem nodup_val {κ : Type} : ∀ {l : List (κ × Value)} {k : κ} {v u : Value}, (l.map (·.1)).Nodup → (k, v) ∈ l → (k, u) ∈ l → v = u
  | p :: l, k, v, u, h, h1, h2 => by
    rw [List.map_cons, List.nodup_cons] at h
    rcases List.mem_cons.mp h1 with e1 | h1 <;> rcases List.mem_cons.mp h2 with e2 | h2
    · rw [← e1] at e2; exact (congrArg Prod.snd e2).symm
    · exact absurd (List.mem_map.mpr ⟨_, h2, by rw [← e1]⟩) h.1
    · exact absurd (List.mem_map.mpr ⟨_, h1, by rw [← e2]⟩) h.1
    · exact nodup_val h.2 h1 h2
theorem exists_e {κ : Type} {l : List (κ × Value)} (nd : (l.map (·.1)).Nodup) {P : κ → Value → Bool → Prop} (h : ∀ k v, (k, v) ∈ l → ∃ b, P k v b) : ∃ e : κ → Bool, ∀ k v, (k, v) ∈ l → P k v (e k) := by
  classical
  refine ⟨fun k => if hk : ∃ b, ∃ v, (k, v) ∈ l ∧ P k v b then Classical.choose hk else false, fun k v hm => ?_⟩
  have hk : ∃ b, ∃ v, (k, v) ∈ l ∧ P k v b := by
    obtain ⟨b, hb⟩ := h k v hm
    exact ⟨b, v, hm, hb⟩
  dsimp only
  rw [dif_pos hk]
  obtain ⟨v', hm', hp⟩ := Classical.choose_spec hk
  rw [nodup_val nd hm hm']
  exact hp
section
variable {X : Cx} {pins : List (Addr × Obj)} {σ : St} {H : Hp} {s : Shared}
theorem tree_data (I : Inv X pins σ H s) {x y : V} {v u : Value} {n : Nat} (hn : 64 ≤ n) (hx : DataV X.K H x) (hy : DataV X.K H y) (rx : RelV x v) (ry : RelV y u) : ∃ b, EqTree X.prog X.w s n v u b := by
  obtain ⟨d, d1, d2⟩ := hx
  obtain ⟨e, e1, e2⟩ := hy
  obtain ⟨as, r1⟩ := Dp.reads I d _ _ d1 rx
  obtain ⟨bs, r2⟩ := Dp.reads I e _ _ e1 ry
  exact ⟨_, .leaf fun A hu => SeqAt.eqAt_reads d e A s v u as bs r1 r2 (SeqAt.canLay_of_shaped d2) (SeqAt.canLay_of_shaped e2) (SeqAt.room_of_shaped d2 (by omega))⟩
theorem kv_mem : ∀ {ks : List (Key × V)} {va : List (Key × Value)} {k : Key} {v : Value}, KV ks va → (k, v) ∈ va → ∃ x, (k, x) ∈ ks ∧ RelV x v
  | ks, va, k, v, h, hm => by
    unfold KV at h
    induction h with
    | nil => cases hm
    | @cons p q ps qs h t ih =>
      rcases List.mem_cons.mp hm with e | hm
      · subst e
        refine ⟨p.2, ?_, h.2⟩
        have e1 : p.1 = k := h.1
        rw [← e1]
        exact List.mem_cons_self
      · obtain ⟨x, h1, h2⟩ := ih hm
        exact ⟨x, List.mem_cons_of_mem _ h1, h2⟩
theorem kv_at {ls : List (Key × V)} {vb : List (Key × Value)} (r : KV ls vb) {k : Key} {y : Value} (h : valueAt vb k = some y) : ∃ x, valV ls k = some x ∧ RelV x y := by
  have q := r.val k
  rw [h] at q
  cases e : valV ls k with
  | none => rw [e] at q; exact q.elim
  | some x => rw [e] at q; exact ⟨x, rfl, q⟩
theorem tree_cmp (I : Inv X pins σ H s) {x y : V} {v u : Value} (c : CmpV X.K H x y) (rx : RelV x v) (ry : RelV y u) : ∃ b, EqTree X.prog X.w s 65 v u b := by
  rcases c with ⟨hx, hy⟩ | ⟨a, b, ks, ls, rfl, rfl, ea, eb, hk, hl⟩
  · exact tree_data I (by decide) hx hy rx ry
  · obtain rfl : v = Value.ref a := rx
    obtain rfl : u = Value.ref b := ry
    by_cases hab : a = b
    · subst hab
      exact ⟨_, .same⟩
    obtain ⟨_, ya, va, ra, da⟩ := dk_rd I.hok ea
    obtain ⟨_, yb, vb, rb, db⟩ := dk_rd I.hok eb
    have nd : (va.map (·.1)).Nodup := by obtain ⟨_, _, _, _, _, _, _, _, h⟩ := da; exact h
    obtain ⟨e, he⟩ := exists_e (P := fun k v b => ∀ y, valueAt vb k = some y → EqTree X.prog X.w s 64 v y b) nd fun k v hm => by
      obtain ⟨x, hx, rx⟩ := kv_mem ra hm
      cases hv : valueAt vb k with
      | none => exact ⟨false, fun y q => by cases q⟩
      | some y =>
        obtain ⟨z, hz, rz⟩ := kv_at rb hv
        obtain ⟨b, t⟩ := tree_data I (n := 64) (Nat.le_refl _) (hk _ hx) (by
          obtain ⟨k', h1, h2⟩ : ∃ k', (k', z) ∈ ls ∧ True := by
            unfold valV at hz
            rw [Option.map_eq_some_iff] at hz
            obtain ⟨p, h1, rfl⟩ := hz
            exact ⟨p.1, List.mem_of_find?_eq_some h1, trivial⟩
          exact hl _ h1) rx rz
        exact ⟨b, fun y' q => by cases q; exact t⟩
    exact ⟨_, .dicts hab ya yb da db fun k v y hm hv => he k v hm y hv⟩
/-- two dicts that differ -/
def DctDiff (K : PySem.W.Frag) (H : Hp) (x y : V) : Prop := ∃ a b ks ls, x = .ref a ∧ y = .ref b ∧ Rd H a (.dK ks) ∧ Rd H b (.dK ls) ∧ (ks.length ≠ ls.length ∨ ((∃ k0 i j, (k0, V.int i) ∈ ks ∧ valV ls k0 = some (.int j) ∧ i ≠ j) ∧ ∀ p ∈ ks, ∀ u, valV ls p.1 = some u → CmpV K H p.2 u))
/-- one dict -/
def DctIs (H : Hp) (x y : V) : Prop := ∃ a ks, x = .ref a ∧ y = .ref a ∧ Rd H a (.dK ks)
theorem diff_tree (I : Inv X pins σ H s) {ks ls : List (Key × V)} {va vb : List (Key × Value)} (ra : KV ks va) (rb : KV ls vb) (nd : (va.map (·.1)).Nodup) (hc : (∃ k0 i j, (k0, V.int i) ∈ ks ∧ valV ls k0 = some (.int j) ∧ i ≠ j) ∧ ∀ p ∈ ks, ∀ u, valV ls p.1 = some u → CmpV X.K H p.2 u) :
    ∃ e : Key → Bool, (∀ k v y, (k, v) ∈ va → valueAt vb k = some y → EqTree X.prog X.w s 65 v y (e k)) ∧ (va.all fun p => (valueAt vb p.1).isSome && e p.1) = false := by
  obtain ⟨⟨k0, i, j, hk0, hv0, hij⟩, hc⟩ := hc
  obtain ⟨e, he⟩ := exists_e (P := fun k v b => (∀ y, valueAt vb k = some y → EqTree X.prog X.w s 65 v y b) ∧ (k = k0 → b = false)) nd fun k v hm => by
    obtain ⟨x, hx, rx⟩ := kv_mem ra hm
    by_cases hk : k = k0
    · subst hk
      refine ⟨false, fun y hy => ?_, fun _ => rfl⟩
      obtain ⟨z, hz, rz⟩ := kv_at rb hy
      rw [hv0] at hz
      cases hz
      -- the value at k0
      have hxi : ∃ vi, (k, vi) ∈ va ∧ RelV (.int i) vi := by
        clear hm hx rx hy rz
        unfold KV at ra
        induction ra with
        | nil => cases hk0
        | @cons p q ps qs h t ih =>
          rcases List.mem_cons.mp hk0 with e | hk0'
          · refine ⟨q.2, ?_, ?_⟩
            · have e1 : p.1 = q.1 := h.1
              have : q.1 = k := by rw [← e1, ← e]
              rw [← this]; exact List.mem_cons_self
            · have := h.2; rw [← e] at this; exact this
          · rw [List.map_cons, List.nodup_cons] at nd
            obtain ⟨vi, h1, h2⟩ := ih nd.2 (fun p hp => hc p (List.mem_cons_of_mem _ hp)) hk0'
            exact ⟨vi, List.mem_cons_of_mem _ h1, h2⟩
      obtain ⟨vi, hvi, ri⟩ := hxi
      have ev : v = vi := nodup_val nd hm hvi
      subst ev
      obtain ⟨t1, rfl⟩ := ri
      obtain ⟨t2, rfl⟩ := rz
      refine .leaf fun A hu => ?_
      have : SeqAt.EqAt A s (.int i t1) (.int j t2) (i == j) := SeqAt.EqAt.int_int _ _ _ _
      rw [show (i == j) = false from beq_eq_false_iff_ne.mpr hij] at this
      exact this
    · cases hv : valueAt vb k with
      | none => exact ⟨false, (fun y q => by cases q), fun q => absurd q hk⟩
      | some y =>
        obtain ⟨z, hz, rz⟩ := kv_at rb hv
        obtain ⟨b, t⟩ := tree_cmp I (hc _ hx z hz) rx rz
        exact ⟨b, (fun y' q => by cases q; exact t), fun q => absurd q hk⟩
  refine ⟨e, fun k v y hm hv => (he k v hm).1 y hv, ?_⟩
  rw [List.all_eq_false]
  have hxi : ∃ vi, (k0, vi) ∈ va := by
    clear he nd hc hv0
    unfold KV at ra
    induction ra with
    | nil => cases hk0
    | @cons p q ps qs h t ih =>
      rcases List.mem_cons.mp hk0 with e | hk0'
      · have e1 : p.1 = q.1 := h.1
        have : q.1 = k0 := by rw [← e1, ← e]
        exact ⟨q.2, by rw [← this]; exact List.mem_cons_self⟩
      · obtain ⟨vi, h1⟩ := ih hk0'
        exact ⟨vi, List.mem_cons_of_mem _ h1⟩
  obtain ⟨vi, hvi⟩ := hxi
  refine ⟨(k0, vi), hvi, ?_⟩
  dsimp only
  rw [(he k0 vi hvi).2 rfl]
  simp
theorem op_dctDiff (hu : X.A.units + 66 < cLine) (neg : Bool) : OpR X (compareOp (if neg then .NotEq else .Eq)) (fun x y H Q => DctDiff X.K H x y ∧ Q (.bl neg) H) := by
  intro pins s σ H x y v u Q I rx ry h
  obtain ⟨⟨a, b, ks, ls, rfl, rfl, ea, eb, hc⟩, q⟩ := h
  obtain rfl : v = Value.ref a := rx
  obtain rfl : u = Value.ref b := ry
  obtain ⟨_, ya, va, ra, da⟩ := dk_rd I.hok ea
  obtain ⟨_, yb, vb, rb, db⟩ := dk_rd I.hok eb
  have la : va.length = ks.length := ra.length.symm
  have lb : vb.length = ls.length := rb.length.symm
  have nd : (va.map (·.1)).Nodup := by obtain ⟨_, _, _, _, _, _, _, _, h⟩ := da; exact h
  rcases hc with hl | hc
  · have hne : (va.length == vb.length) = false := beq_eq_false_iff_ne.mpr (by omega)
    cases neg
    · exact PySem.W.keq_eq (knd := mixKind X.prog X.w) (r := true) ya yb da db (by omega) (fun z => absurd z (by omega)) (fin_bl I q (by simp [hne]))
    · exact PySem.W.keq_ne (knd := mixKind X.prog X.w) (r := true) ya yb da db (by omega) (fun z => absurd z (by omega)) (fin_bl I q (by simp [hne]))
  · obtain ⟨e, he, hall⟩ := diff_tree I ra rb nd hc
    cases neg
    · exact PySem.W.eq_dictsT (knd := mixKind X.prog X.w) ya yb da db he (by omega) (fin_bl I q (by rw [hall]; simp))
    · exact ne_dictsT (knd := mixKind X.prog X.w) ya yb da db he (by omega) (fin_bl I q (by rw [hall]; simp))
theorem op_dctIs (hu : X.A.units + 66 < cLine) (neg : Bool) : OpR X (compareOp (if neg then .NotEq else .Eq)) (fun x y H Q => DctIs H x y ∧ Q (.bl (!neg)) H) := by
  intro pins s σ H x y v u Q I rx ry h
  obtain ⟨⟨a, ks, rfl, rfl, ea⟩, q⟩ := h
  obtain rfl : v = Value.ref a := rx
  obtain rfl : u = Value.ref a := ry
  obtain ⟨_, ya, va, ra, da⟩ := dk_rd I.hok ea
  have nd : (va.map (·.1)).Nodup := by obtain ⟨_, _, _, _, _, _, _, _, h⟩ := da; exact h
  have he : ∀ k v y, (k, v) ∈ va → valueAt va k = some y → EqTree X.prog X.w s 1 v y true := fun k v y hm hv => by
    obtain ⟨i, hi⟩ := List.getElem?_of_mem hm
    have := valueAt_of_get nd hi
    rw [hv] at this
    cases this
    exact .same
  have hall : (va.all fun p => (valueAt va p.1).isSome && true) = true := by
    rw [List.all_eq_true]
    rintro ⟨k, v⟩ hm
    obtain ⟨i, hi⟩ := List.getElem?_of_mem hm
    simp [valueAt_of_get nd hi]
  cases neg
  · exact PySem.W.eq_dictsT (knd := mixKind X.prog X.w) (e := fun _ => true) ya ya da da he (by omega) (fin_bl I q (by rw [hall]; simp))
  · exact ne_dictsT (knd := mixKind X.prog X.w) (e := fun _ => true) ya ya da da he (by omega) (fin_bl I q (by rw [hall]; simp))
end
end L2

set_option maxHeartbeats 4000000
namespace Gx
open PySem L2
/-! ### == of dicts: one, two of different lengths, two that differ at a number -/
def dataOk (st : Store) (d : D) : Bool := match toP (dr2 st) d with | some p => SeqAt.shaped p | none => false
def cmpD (st : Store) (d u : D) : Bool := (dataOk st d && dataOk st u) || (match d, u with
  | .ref n, .ref m => match st[n]?, st[m]? with
    | some (.dK ks), some (.dK ls) => (ks.all fun p => dataOk st p.2) && ls.all fun p => dataOk st p.2
    | _, _ => false
  | _, _ => false)
def cmpAt (st : Store) (ls : List (Key × D)) (p : Key × D) : Bool := match valD ls p.1 with | some u => cmpD st p.2 u | none => true
def difAt (ls : List (Key × D)) (p : Key × D) : Bool := match p.2, valD ls p.1 with | .int i, some (.int j) => decide (i ≠ j) | _, _ => false
def f2Dq (neg : Bool) : Env → Store → R → R → Option (R × Store) := fun env st x y => match x, y with
  | .d (.ref n), .d (.ref m) => match asK env st x, asK env st y with
    | some ks, some ls => if n = m then some (.d (.bl (!neg)), st)
        else if ks.length ≠ ls.length then some (.d (.bl neg), st)
        else if ks.any (difAt ls) = true ∧ ks.all (cmpAt st ls) = true then some (.d (.bl neg), st) else none
    | _, _ => none
  | .d (.ref _), .d (.dct as bs) => match asK env st x with
    | some ks => if ks.length ≠ (as.zip bs).length then some (.d (.bl neg), st) else none
    | none => none
  | _, _ => none
section
variable {K : KW} {F : Hp} {μ : List Addr} {H : Hp} {st : Store} {env : Env} {σ : L2.St}
theorem dataOk_ok (w : Wd K F μ H st) {d : D} {v : V} (r : Rep K F μ d v) (h : dataOk st d = true) : DataV K H v := by
  unfold dataOk at h
  split at h
  · rename_i p e
    exact ⟨p, toP_ok w (dr2_ok w) _ _ _ r e, h⟩
  · cases h
theorem cmpD_ok (w : Wd K F μ H st) {d u : D} {v y : V} (r : Rep K F μ d v) (r2 : Rep K F μ u y) (h : cmpD st d u = true) : CmpV K H v y := by
  unfold cmpD at h
  rw [Bool.or_eq_true, Bool.and_eq_true] at h
  rcases h with h | h
  · exact .inl ⟨dataOk_ok w r h.1, dataOk_ok w r2 h.2⟩
  · split at h
    · rename_i n m
      split at h
      · rename_i ks ls e1 e2
        rw [Bool.and_eq_true] at h
        obtain ⟨a, rfl, ha⟩ := r
        obtain ⟨b, rfl, hb⟩ := r2
        obtain ⟨o, h1, h2⟩ := w.obj n _ a e1 ha
        cases o <;> first | exact h2.elim | skip
        obtain ⟨o, h3, h4⟩ := w.obj m _ b e2 hb
        cases o <;> first | exact h4.elim | skip
        refine .inr ⟨a, b, _, _, rfl, rfl, .of h1, .of h3, fun q hq => ?_, fun q hq => ?_⟩
        · obtain ⟨p, hp, _, hr⟩ := repKV_mem h2 q hq
          exact dataOk_ok w hr (List.all_eq_true.mp h.1 p hp)
        · obtain ⟨p, hp, _, hr⟩ := repKV_mem h4 q hq
          exact dataOk_ok w hr (List.all_eq_true.mp h.2 p hp)
      · cases h
    · cases h
theorem repKV_mem2 {κ : Type} : ∀ {ps : List (κ × D)} {qs : List (κ × V)}, RepKV K F μ ps qs → ∀ p ∈ ps, ∃ q ∈ qs, p.1 = q.1 ∧ Rep K F μ p.2 q.2
  | [], [], _, q, h => by cases h
  | p :: ps, q :: qs, h, z, hz => by
    rcases List.mem_cons.mp hz with rfl | hz
    · exact ⟨q, by simp, h.1, h.2.1⟩
    · obtain ⟨y, h1, h2⟩ := repKV_mem2 h.2.2 z hz
      exact ⟨y, by simp [h1], h2⟩
  | [], _ :: _, h, _, _ => h.elim
  | _ :: _, [], h, _, _ => h.elim
theorem sim2Dq {neg : Bool} : Sim2 K (fun x y H Q => (DctIs H x y ∧ Q (.bl (!neg)) H) ∨ (DctDiff K H x y ∧ Q (.bl neg) H)) (f2Dq neg) := by
  intro σ F μ H env st x y v u z st' Q w en rx ry h k
  unfold f2Dq at h
  split at h
  · rename_i n m
    split at h
    · rename_i ks ls e1 e2
      obtain ⟨a, vs, rfl, sa, qa⟩ := asK_ok w en rx e1
      obtain ⟨b, us, rfl, sb, qb⟩ := asK_ok w en ry e2
      split at h
      · rename_i hnm
        cases h
        obtain ⟨a', ea, ha⟩ := rx
        obtain ⟨b', eb, hb⟩ := ry
        cases ea; cases eb
        rw [hnm, hb] at ha
        cases ha
        exact .inl ⟨⟨_, vs, rfl, rfl, sa⟩, k _ F μ H w Stp.refl rfl⟩
      · split at h
        · rename_i hl
          cases h
          refine .inr ⟨⟨a, b, vs, us, rfl, rfl, sa, sb, .inl ?_⟩, k _ F μ H w Stp.refl rfl⟩
          rw [← RepKV.length qa, ← RepKV.length qb]; exact hl
        · split at h
          · rename_i hc
            cases h
            refine .inr ⟨⟨a, b, vs, us, rfl, rfl, sa, sb, .inr ⟨?_, fun q hq y hy => ?_⟩⟩, k _ F μ H w Stp.refl rfl⟩
            · obtain ⟨p, hp, hd⟩ := List.any_eq_true.mp hc.1
              unfold difAt at hd
              split at hd
              · rename_i i j e3 e4
                obtain ⟨q, hq, hk, hr⟩ := repKV_mem2 qa p hp
                rw [e3] at hr
                have hr : q.2 = .int i := hr
                obtain ⟨y, hy, ry⟩ := (RepKV.val p.1 qb).1 _ e4
                have ry : y = .int j := ry
                subst ry
                exact ⟨p.1, i, j, by rw [← hr, hk]; exact hq, hy, of_decide_eq_true hd⟩
              · cases hd
            · obtain ⟨p, hp, hk, hr⟩ := repKV_mem qa q hq
              have hcm := List.all_eq_true.mp hc.2 p hp
              unfold cmpAt at hcm
              have hv := RepKV.val p.1 qb
              split at hcm
              · rename_i d e5
                obtain ⟨y', hy', ry'⟩ := hv.1 d e5
                rw [hk, hy] at hy'
                cases hy'
                exact cmpD_ok w hr ry' hcm
              · rename_i e5
                have := hv.2 e5
                rw [hk, hy] at this
                cases this
          · cases h
    · cases h
  · rename_i n as bs
    split at h
    · rename_i ks e1
      split at h
      · rename_i hl
        cases h
        obtain ⟨a, vs, rfl, sa, qa⟩ := asK_ok w en rx e1
        obtain ⟨b, us, rfl, sb, qb⟩ := asK_ok (r := .d (.dct as bs)) (xs := as.zip bs) w en ry rfl
        refine .inr ⟨⟨a, b, vs, us, rfl, rfl, sa, sb, .inl ?_⟩, k _ F μ H w Stp.refl rfl⟩
        rw [← RepKV.length qa, ← RepKV.length qb]; exact hl
      · cases h
    · cases h
  · cases h
end
theorem op_dq {X : Cx} (hu : X.A.units + 66 < cLine) (neg : Bool) : OpR X (compareOp (if neg then .NotEq else .Eq)) (fun x y H Q => (DctIs H x y ∧ Q (.bl (!neg)) H) ∨ (DctDiff X.kw H x y ∧ Q (.bl neg) H)) := OpR.or (op_dctIs hu neg) (op_dctDiff hu neg)
theorem kEqM {X : Cx} (hu : X.A.units + 66 < cLine) : CmpK X .Eq (fOr (fOr (f2Eq false) (f2EqK false)) (f2Dq false)) := ⟨_, OpR.or (OpR.or (op_eqD (by omega)) (op_eqDct (by omega))) (op_dq hu false), (sim2EqD.or sim2EqK).or sim2Dq⟩
theorem kNeM {X : Cx} (hu : X.A.units + 66 < cLine) : CmpK X .NotEq (fOr (fOr (f2Eq true) (f2EqK true)) (f2Dq true)) := ⟨_, OpR.or (OpR.or (op_neD (by omega)) (op_neDct (by omega))) (op_dq hu true), (sim2NeD.or sim2NeK).or sim2Dq⟩
theorem hu66 {A : Around} {k : Nat} (hr : Room k A) : A.units + 66 < cLine := by
  have h := hr.un
  omega
/-! ### >= of data -/
def notNone : PySem.PyData → Bool
  | .none => false
  | _ => true
def f2GeD : Env → Store → R → R → Option (R × Store) := fun _ st x y => match x, y with
  | .d d, .d u => match toP dr0 d, toP dr0 u with
    | some p, some q => if PySem.W.alike p q = true ∧ notNone p = true ∧ p.depth ≤ 60 then some (.d (.bl (!PySem.W.dataLt p q)), st) else none
    | _, _ => none
  | _, _ => none
def rGeD (K : KW) : R2 := fun x y H Q => ∃ d e, Dp K H x d ∧ Dp K H y e ∧ PySem.W.alike d e = true ∧ d ≠ .none ∧ d.depth ≤ 60 ∧ Q (.bl (!PySem.W.dataLt d e)) H
theorem op_geD {X : Cx} (hu : X.A.units + 65 < cLine) : OpR X (compareOp .GtE) (rGeD X.kw) := by
  intro pins s σ H x y v u Q I rx ry h
  obtain ⟨d, e, hd, he, ha, hn, hz, q⟩ := h
  obtain ⟨as, r1⟩ := Dp.reads I d _ _ hd rx
  obtain ⟨bs, r2⟩ := Dp.reads I e _ _ he ry
  exact PySem.W.ge_data r1 r2 ha hn (by omega) ⟨.bl _, H, I, rfl, q⟩
theorem sim2GeD {K : KW} : Sim2 K (rGeD K) f2GeD := by
  intro σ F μ H env st x y v u z st' Q w en rx ry h k
  unfold f2GeD at h
  split at h
  · rename_i d e
    split at h
    · rename_i p q e1 e2
      split at h
      · rename_i hc
        cases h
        exact ⟨p, q, toP_ok (dr := dr0) w (fun _ _ _ _ h => by cases h) _ _ _ rx e1, toP_ok (dr := dr0) w (fun _ _ _ _ h => by cases h) _ _ _ ry e2, hc.1, (fun q => by rw [q] at hc; cases hc.2.1), hc.2.2, k _ F μ H w Stp.refl rfl⟩
      · cases h
    · cases h
  · cases h
theorem kGeD {X : Cx} (hu : X.A.units + 65 < cLine) : CmpK X .GtE (fOr (f2I (fun _ _ => true) fun i j => .bl (decide (j ≤ i))) f2GeD) :=
  ⟨_, OpR.or op_ge (op_geD hu), (sim2I0 (g := fun i j => .bl (decide (j ≤ i))) (g' := fun i j => .bl (decide (j ≤ i))) fun _ _ _ _ => rfl).or sim2GeD⟩
/-! ### max(xs) -/
def f1Max : Env → Store → R → Option (R × Store) := fun env st x => match asL env st x with
  | some xs => match numsOf xs with
    | some is => match is.max? with
      | some j => some (.d (.int j), st)
      | none => none
    | none => none
  | none => none
section
variable {X : Cx} {e : Expr} {m : ME} {pos : Pos}
theorem xmax1 (hc : X.calm = true) {x : Str} {p : Pos} (hg : Gl X x) (hm : X.mg x = none) (hv : bootBuiltins x = some (.builtin "max")) (ha : XE X e m) (hn : x ≠ "__name__" := by decide)
    (hdb : (x == ("__debug__" : Str)) = false := by decide) (he : starEach (e :: []) X.env = (false, eval e X.env) :: starEach [] X.env := by rfl) (hpl : (backTo pos (starEach [] X.env)).any (·.1) = false := by rfl) : XE X (.Call (.Name x p) [e] [] pos) (m1 m f1Max) := by
  refine xcallB (cr_max hc) ?_ hg hm hv ha hn hdb he hpl
  intro σ F μ H env st x v z st' Q w en rx h k
  unfold f1Max at h
  split at h
  · rename_i xs e1
    split at h
    · rename_i is e2
      split at h
      · rename_i j e3
        cases h
        obtain ⟨a, vs, rfl, sq, q⟩ := asL_ok w en rx e1
        rw [numsOf_ok e2] at q
        rw [q.ints] at sq
        rw [List.max?_eq_some_iff] at e3
        refine ⟨a, is, rfl, sq, List.length_pos_of_mem e3.1, fun m hm1 hm2 => ?_⟩
        have : m = j := by
          have h3 := hm2 j e3.1
          have h4 := e3.2 m hm1
          omega
        rw [this]
        exact k _ F μ H w Stp.refl rfl
      · cases h
    · cases h
  · cases h
end
end Gx

set_option maxHeartbeats 4000000
namespace L2
open PySem PySem.Spec PyProof.Rows
/-- e.f as a target -/
def gAttr (K : PySem.W.Frag) (to : TE) (f : Str) : TG := fun v σ H Q => to σ H fun o H1 => ∃ a C dx fs, o = .ref a ∧ H1 a = some (.ins C dx fs) ∧ Cls K C ∧ NoAttr K C f ∧ fs.length < 1000 ∧ Q σ (upd H1 a (.ins C dx (putF f v fs)))
theorem pg_attr {X : Cx} {o : Expr} {f : Str} {pos : Pos} {to : TE} (ho : PE X o to)
    (ha : ∀ v, assign (.Attribute o f pos) X.env v = (do
      let ov ← holding [v] (eval o X.env)
      standAt pos.atName
      holding [v, ov] (setAttr ov f v)
      release [v, ov] []) := by intro _; rfl) : PG X (.Attribute o f pos) (gAttr X.K to f) := by
  refine ⟨fun pins s σ H v u Q I r h => ?_⟩
  rw [ha]
  refine wpAny_bind (wpAny_holding (thn (ho.run pins s σ H _ I h) fun ov s1 ⟨x, H1, I1, r1, a, C, dx, fs, ex, ea, c, n, l, q1⟩ => ?_))
  subst ex
  obtain rfl : ov = Value.ref a := r1
  refine wpAny_bind (wpAny_standAt (wpAny_bind (wpAny_holding (setattr_ok I1 ea c n l r fun s3 I3 => ?_))))
  exact wpAny_release ⟨σ, _, I3, q1⟩
end L2
namespace Gx
open PySem L2
/-! ### own classes -/
structure ClsF (K : PySem.W.Frag) (mg : Str → Option Value) (nm : Str) (fl : List Str) : Prop where
  ex : ∃ C, PySem.W.nsIn K mainGlobals nm = some (some (.ref C)) ∧ mg nm = some (.ref C) ∧ Cls K C ∧ ∀ f ∈ fl, NoAttr K C f
abbrev CTab := List (Str × List Str)
def ClsT (K : PySem.W.Frag) (mg : Str → Option Value) (tab : CTab) : Prop := ∀ p ∈ tab, ClsF K mg p.1 p.2
def inTab (tab : CTab) (nm f : Str) : Bool := tab.any fun p => decide (p.1 = nm) && decide (f ∈ p.2)
theorem ClsT.at {K : PySem.W.Frag} {mg : Str → Option Value} {tab : CTab} (T : ClsT K mg tab) {nm f : Str} (h : inTab tab nm f = true) : ∃ C, PySem.W.nsIn K mainGlobals nm = some (some (.ref C)) ∧ Cls K C ∧ NoAttr K C f := by
  unfold inTab at h
  obtain ⟨p, hp, h⟩ := List.any_eq_true.mp h
  simp only [Bool.and_eq_true, decide_eq_true_eq] at h
  obtain ⟨C, h1, _, h2, h3⟩ := (T p hp).ex
  rw [h.1] at h1
  exact ⟨C, h1, h2, h3 f h.2⟩
def putFD (f : Str) (v : D) : List (Str × D) → List (Str × D)
  | [] => [(f, v)]
  | (g, x) :: r => if g = f then (g, v) :: r else (g, x) :: putFD f v r
section
variable {K : KW} {F : Hp} {μ : List Addr} {H : Hp} {st : Store}
theorem RepKV.lookup {f : Str} : ∀ {ps : List (Str × D)} {qs : List (Str × V)}, RepKV K F μ ps qs → (∀ d, ps.lookup f = some d → ∃ v, qs.lookup f = some v ∧ Rep K F μ d v) ∧ (ps.lookup f = none → qs.lookup f = none)
  | [], [], _ => ⟨fun d h => by simp at h, fun _ => rfl⟩
  | (a, d) :: ps, (b, v) :: qs, r => by
    obtain ⟨h1, h2⟩ := RepKV.lookup (f := f) r.2.2
    have e : a = b := r.1
    subst e
    rw [List.lookup_cons, List.lookup_cons]
    cases f == a with
    | true => exact ⟨fun x h => ⟨v, rfl, by cases h; exact r.2.1⟩, fun h => by cases h⟩
    | false => exact ⟨h1, h2⟩
  | [], _ :: _, r => r.elim
  | _ :: _, [], r => r.elim
theorem RepKV.putF {f : Str} {d : D} {v : V} (h : Rep K F μ d v) : ∀ {ps : List (Str × D)} {qs : List (Str × V)}, RepKV K F μ ps qs → RepKV K F μ (putFD f d ps) (L2.putF f v qs)
  | [], [], _ => ⟨rfl, h, trivial⟩
  | (a, x) :: ps, (b, y) :: qs, r => by
    have e : a = b := r.1
    subst e
    unfold putFD L2.putF
    split
    · exact ⟨rfl, h, r.2.2⟩
    · exact ⟨rfl, r.2.1, RepKV.putF h r.2.2⟩
  | [], _ :: _, r => r.elim
  | _ :: _, [], r => r.elim
theorem ins_at (w : Wd K F μ H st) {n : Nat} {a : Addr} {nm : Str} {fs : List (Str × D)} (h : st[n]? = some (.ins nm fs)) (hm : μ[n]? = some a) : ∃ C dx qs, H a = some (.ins C dx qs) ∧ PySem.W.nsIn K mainGlobals nm = some (some (.ref C)) ∧ RepKV K F μ fs qs := by
  obtain ⟨o, h1, h2⟩ := w.obj n _ a h hm
  cases o <;> first | exact h2.elim | skip
  exact ⟨_, _, _, h1, h2.1, h2.2⟩
end
section
variable {X : Cx} {e o : Expr} {m mo mv : ME} {pos pos' : Pos} {tab : CTab} {f : Str}
/-- e.f -/
def mFld (tab : CTab) (f : Str) (m : ME) : ME := fun env st => match m env st with
  | some (.d (.ref n), st1) => match st1[n]? with
    | some (.ins nm fs) => if inTab tab nm f = true then match fs.lookup f with | some d => some (.d d, st1) | none => none else none
    | _ => none
  | _ => none
theorem xfld (T : ClsT X.kw X.mg tab) (he : XE X e m) (hb : attributeBase e f X.env (eval e X.env) = eval e X.env := by rfl) : XE X (.Attribute e f pos) (mFld tab f m) := by
  obtain ⟨t, pe, s⟩ := he
  refine ⟨_, pe_fld pe hb, ?_⟩
  intro σ F μ H env st r st' Q w en h k
  unfold mFld at h
  split at h
  · rename_i n st1 e1
    split at h
    · rename_i nm fs e2
      split at h
      · rename_i ht
        split at h
        · rename_i d e3
          cases h
          refine s σ F μ H env st _ _ _ w en e1 fun v F1 μ1 H1 w1 s1 r1 => ?_
          obtain ⟨a, rfl, hm⟩ := r1
          obtain ⟨C, dx, qs, h1, h2, h3⟩ := ins_at w1 e2 hm
          obtain ⟨C', g1, g2, g3⟩ := T.at ht
          rw [g1] at h2
          cases h2
          obtain ⟨v, hv, rv⟩ := (RepKV.lookup h3).1 d e3
          exact ⟨a, C, dx, qs, v, rfl, h1, g2, g3, hv, k v F1 μ1 H1 w1 s1 rv⟩
        · cases h
      · cases h
    · cases h
  · cases h
/-- o.f = v -/
def setFl (tab : CTab) (f : Str) (n : Nat) (d : D) (st : Store) : Option Store := match st[n]? with
  | some (.ins nm fs) => if inTab tab nm f = true ∧ fs.length < 900 then some (st.set n (.ins nm (putFD f d fs))) else none
  | _ => none
theorem setFl_ok {K : KW} {mg : Str → Option Value} {F : Hp} {μ : List Addr} {H : Hp} {st st' : Store} {n : Nat} {a : Addr} {d : D} {v : V} (T : ClsT K mg tab) (w : Wd K F μ H st) (hm : μ[n]? = some a) (r : Rep K F μ d v) (h : setFl tab f n d st = some st') :
    ∃ C dx fs, H a = some (.ins C dx fs) ∧ Cls K C ∧ NoAttr K C f ∧ fs.length < 1000 ∧ Wd K F μ (upd H a (.ins C dx (putF f v fs))) st' ∧ Stp F μ H F μ (upd H a (.ins C dx (putF f v fs))) ∧ ∀ nm fs, st[n]? = some (.ins nm fs) → PySem.W.nsIn K mainGlobals nm = some (some (.ref C)) := by
  unfold setFl at h
  split at h
  · rename_i nm fs e2
    split at h
    · rename_i ht
      cases h
      obtain ⟨C, dx, qs, h1, h2, h3⟩ := ins_at w e2 hm
      obtain ⟨C', g1, g2, g3⟩ := T.at ht.1
      rw [g1] at h2
      have h2 := Value.ref.inj (Option.some.inj (Option.some.inj h2))
      subst h2
      have hl := RepKV.length h3
      refine ⟨_, dx, qs, h1, g2, g3, by omega, w.put (List.getElem?_eq_some_iff.mp e2).1 hm (so := .ins nm (putFD f d fs)) (u := .ins _ dx (putF f v qs)) ⟨g1, RepKV.putF r h3⟩, Stp.put w (List.mem_of_getElem? hm) (fun od u z => by rw [h1] at z; cases z), fun nm' fs' z => by rw [e2] at z; cases z; exact g1⟩
    · cases h
  · cases h
def mStF (tab : CTab) (f : Str) (mo mv : ME) : MS := fun env st => match mv env st with
  | some (.d v, st1) => match mo env st1 with
    | some (.d (.ref n), st2) => match setFl tab f n v st2 with
      | some st3 => some (.nx, env, st3)
      | none => none
    | _ => none
  | _ => none
theorem xstf (T : ClsT X.kw X.mg tab) (ho : XE X o mo) (hv : XE X e mv) (hs : swapsWith e (some (.Attribute o f pos')) pos.line X.env = pure false := by rfl) : XS X (.Assign [.Attribute o f pos'] e pos) (mStF tab f mo mv) := by
  obtain ⟨to, po, so⟩ := ho
  obtain ⟨tv, pv, sv⟩ := hv
  refine ⟨_, ps_fld po pv hs, ?_⟩
  intro F0 μ0 H0 Fg μg σ F μ H env st out D oo h k
  unfold mStF at h
  split at h
  · rename_i v st1 e1
    split at h
    · rename_i n st2 e2
      split at h
      · rename_i st3 e3
        cases h
        refine sv σ F μ H env st _ _ _ oo.wd oo.en e1 fun vv F1 μ1 H1 w1 s1 r1 => ?_
        refine so σ F1 μ1 H1 env st1 _ _ _ w1 (oo.en.step s1) e2 fun ov F2 μ2 H2 w2 s2 r2 => ?_
        obtain ⟨a, rfl, hm⟩ := r2
        obtain ⟨C, dx, fs, h1, h2, h3, h4, w3, s3, _⟩ := setFl_ok T w2 hm (s2.rep r1) e3
        exact ⟨a, C, dx, fs, rfl, h1, h2, h3, h4, k σ F2 μ2 _ (((oo.step w1 s1).step w2 s2).step w3 s3)⟩
      · cases h
    · cases h
  · cases h
/-- o.f += e, ints -/
def mAugF (tab : CTab) (g : Int → Int → Int) (f : Str) (mo mv : ME) : MS := fun env st => match mFld tab f mo env st with
  | some (.d (.int i), st1) => match mo env st with
    | some (.d (.ref n), st1') => if st1' = st1 then match mv env st1 with
        | some (.d (.int j), st2) => if st2 = st1 then match setFl tab f n (.int (g i j)) st2 with
          | some st3 => some (.nx, env, st3)
          | none => none else none
        | _ => none
      else none
    | _ => none
  | _ => none
theorem xaugf {op : Operator} {g : Int → Int → Int} {tpos : Pos} {rd : V → V → Hp → VK → Prop} (hop : InOp X op rd) (hrd : ∀ i j H Q, Q (.int (g i j)) H → rd (.int i) (.int j) H Q) (T : ClsT X.kw X.mg tab) (ho : XE X o mo) (hv : XE X e mv) : XS X (.AugAssign (.Attribute o f tpos) op e pos) (mAugF tab g f mo mv) := by
  obtain ⟨to, po, so⟩ := ho
  obtain ⟨tv, pv, sv⟩ := hv
  refine ⟨_, ps_fldaug po pv hop, ?_⟩
  intro F0 μ0 H0 Fg μg σ F μ H env st out D oo h k
  unfold mAugF at h
  split at h
  · rename_i i st1 e0
    split at h
    · rename_i n st1' e1
      split at h
      · rename_i hst
        subst hst
        split at h
        · rename_i j st2 e2
          split at h
          rotate_left
          · cases h
          rename_i hst2
          subst hst2
          split at h
          · rename_i st3 e3
            cases h
            unfold mFld at e0
            rw [e1] at e0
            dsimp only at e0
            split at e0
            · rename_i nm fs ei
              split at e0
              · rename_i ht
                split at e0
                · rename_i d ed
                  cases e0
                  refine so σ F μ H env st _ _ _ oo.wd oo.en e1 fun ov F1 μ1 H1 w1 s1 r1 => ?_
                  obtain ⟨a, rfl, hm⟩ := r1
                  obtain ⟨C, dx, qs, h1, h2, h3⟩ := ins_at w1 ei hm
                  obtain ⟨C', g1, g2, g3⟩ := T.at ht
                  rw [g1] at h2
                  cases h2
                  obtain ⟨v, hv, rv⟩ := (RepKV.lookup h3).1 _ ed
                  have rv : v = .int i := rv
                  subst rv
                  refine ⟨a, C, dx, qs, .int i, rfl, h1, g2, g3, hv, ?_⟩
                  refine sv σ F1 μ1 H1 env _ _ _ _ w1 (oo.en.step s1) e2 fun y F2 μ2 H2 w2 s2 r2 => ?_
                  have r2 : y = .int j := r2
                  subst r2
                  refine hrd i j H2 _ ?_
                  obtain ⟨C2, dx2, fs2, q1, q2, q3, q4, w3, s3, q5⟩ := setFl_ok (v := .int (g i j)) T w2 (s2.pre n a hm) (show Rep X.kw F2 μ2 (.int (g i j)) (.int (g i j)) from rfl) e3
                  -- the class is the same
                  have hC : C2 = C := by
                    have z := q5 _ _ ei
                    rw [g1] at z
                    exact (Value.ref.inj (Option.some.inj (Option.some.inj z))).symm
                  subst hC
                  exact ⟨dx2, fs2, q1, q4, k σ F2 μ2 _ (((oo.step w1 s1).step w2 s2).step w3 s3)⟩
                · cases e0
              · cases e0
            · cases e0
          · cases h
        · cases h
      · cases h
    · cases h
  · cases h
end
end Gx

set_option maxHeartbeats 4000000
namespace Gx
open PySem L2
/-! ### methods, new instances -/
structure Mth (P : Program) (w : World) (K : PySem.W.Frag) (mg : Str → Option Value) (base : Heap) (k : Nat) (nm m : Str) (n : Nat) (c : MFn) : Prop where
  h : ∃ C f fd ps, PySem.W.nsIn K mainGlobals nm = some (some (.ref C)) ∧ Cls K C ∧ Meth K C m f ∧ FnOk P w K mg base CX0 k f fd ps (spM ⟨K, w⟩ n c) ∧ Binds K fd ps []
structure Mkr (P : Program) (w : World) (K : PySem.W.Frag) (mg : Str → Option Value) (base : Heap) (k : Nat) (nm : Str) (n : Nat) (c : MFn) : Prop where
  h : ∃ C f fd ps, PySem.W.nsIn K mainGlobals nm = some (some (.ref C)) ∧ mg nm = some (.ref C) ∧ Mk K C f ∧ FnOk P w K mg base CX0 k f fd ps (spM ⟨K, w⟩ n c) ∧ Binds K fd ps []
def mMeth (nm m : Str) (c : MFn) (mo : ME) (ma : MA) : ME := fun env st => match mo env st with
  | some (.d (.ref n), st1) => match st1[n]? with
    | some (.ins nm' fs) => if nm' = nm ∧ fs.lookup m = none then match ma env st1 with
        | some (ds, st2) => match c (.ref n :: ds) st2 with
          | some (d, st3) => some (.d d, st3)
          | none => none
        | none => none
      else none
    | _ => none
  | _ => none
def mMake (nm : Str) (c : MFn) (ma : MA) : ME := fun env st => match ma env st with
  | some (ds, st1) => match c (.ref st1.length :: ds) (st1 ++ [.ins nm []]) with
    | some (.non, st2) => some (.d (.ref st1.length), st2)
    | _ => none
  | none => none
section
variable {X : Cx}
theorem simMeth {K : KW} {nm m : Str} {n : Nat} {c : MFn} {to : TE} {mo : ME} {ta : TA} {ma : MA} {C : Addr} {E : L2.XK} (hC : PySem.W.nsIn K mainGlobals nm = some (some (.ref C))) (ho : SimE K to mo) (ha : SimA K ta ma) (hn : ∀ env st ds st1, ma env st = some (ds, st1) → ds.length = n) :
    SimE K (tMeth C m (spM K (n + 1) c) [] E to ta) (mMeth nm m c mo ma) := by
  intro σ F μ H env st r st' Q w en h k
  unfold mMeth at h
  split at h
  · rename_i i st1 e1
    split at h
    · rename_i nm' fs e2
      split at h
      · rename_i hc
        obtain ⟨rfl, hl⟩ := hc
        split at h
        · rename_i ds st2 e3
          split at h
          · rename_i d st3 e4
            cases h
            refine ho σ F μ H env st _ _ _ w en e1 fun v F1 μ1 H1 w1 s1 r1 => ?_
            have r1' := r1
            obtain ⟨a, rfl, hm⟩ := r1
            obtain ⟨C', dx, qs, h1, h2, h3⟩ := ins_at w1 e2 hm
            rw [hC] at h2
            cases h2
            refine ⟨a, dx, qs, rfl, h1, (RepKV.lookup h3).2 hl, ?_⟩
            refine ha σ F1 μ1 H1 env st1 ds st2 _ w1 (en.step s1) e3 fun vs F2 μ2 H2 w2 s2 r2 => ?_
            rw [List.append_nil]
            refine ⟨F2, μ2, .ref i :: ds, st2, d, st', w2, ⟨⟨a, rfl, s2.pre _ _ hm⟩, r2⟩, by simp [hn _ _ _ _ e3], e4, fun v F' μ' H' w' s' r' => k v F' μ' H' w' ((s1.trans s2).trans s') r'⟩
          · cases h
        · cases h
      · cases h
    · cases h
  · cases h
theorem xmth {nm m : Str} {o e : Expr} {es : List Expr} {apos pos : Pos} {j k n : Nat} {c : MFn} {mo : ME} {ma : MA} {pl : Sem Bool} (M : Mth X.prog X.w X.kw X.mg X.base k nm m (n + 1) c) (hr : Room j X.A) (hkj : k ≤ j) (ho : XE X o mo) (ha : XA X (e :: es) ma) (hn : ∀ env st ds st1, ma env st = some (ds, st1) → ds.length = n)
    (hst : starEach (e :: es) X.env = (false, eval e X.env) :: starEach es X.env := by rfl) (hpl : (backTo pos (starEach es X.env)).any (·.1) = false := by rfl)
    (ht : eval (.Call (.Attribute o m apos) (e :: es) [] pos) X.env = (do
      let ov ← eval o X.env
      standAt apos.atName
      let (f, first) ← holding [ov] (getMethod ov m pl)
      callWith pos f first (backTo pos (starEach (e :: es) X.env)) (backToKw pos (keywordEach [] X.env))) := by rfl) : XE X (.Call (.Attribute o m apos) (e :: es) [] pos) (mMeth nm m c mo ma) := by
  obtain ⟨C, f, fd, ps, h1, h2, h3, h4, h5⟩ := M
  obtain ⟨to, po, so⟩ := ho
  obtain ⟨ta, pa, sa⟩ := ha
  exact ⟨_, pe_meth po h2 h3 h4 (hr.mono hkj) h5 .nil pass0 pa hst hpl ht, simMeth h1 so sa hn⟩
theorem xmth0 {nm m : Str} {o : Expr} {apos pos : Pos} {j k : Nat} {c : MFn} {mo : ME} {pl : Sem Bool} (M : Mth X.prog X.w X.kw X.mg X.base k nm m 1 c) (hr : Room j X.A) (hkj : k ≤ j) (ho : XE X o mo)
    (ht : eval (.Call (.Attribute o m apos) [] [] pos) X.env = (do
      let ov ← eval o X.env
      standAt apos.atName
      let (f, first) ← holding [ov] (getMethod ov m pl)
      callWith pos f first (backTo pos (starEach [] X.env)) (backToKw pos (keywordEach [] X.env))) := by rfl) : XE X (.Call (.Attribute o m apos) [] [] pos) (mMeth nm m c mo mNil) := by
  obtain ⟨C, f, fd, ps, h1, h2, h3, h4, h5⟩ := M
  obtain ⟨to, po, so⟩ := ho
  exact ⟨_, pe_meth0 po h2 h3 h4 (hr.mono hkj) h5 .nil pass0 ht, simMeth (n := 0) h1 so simNil len_nil⟩
theorem simMake {K : KW} {nm : Str} {n : Nat} {c : MFn} {ta : TA} {ma : MA} {C : Addr} {E : L2.XK} (hC : PySem.W.nsIn K mainGlobals nm = some (some (.ref C))) (ha : SimA K ta ma) (hn : ∀ env st ds st1, ma env st = some (ds, st1) → ds.length = n) :
    SimE K (tMake C (spM K (n + 1) c) [] E ta) (mMake nm c ma) := by
  intro σ F μ H env st r st' Q w en h k
  unfold mMake at h
  split at h
  · rename_i ds st1 e1
    split at h
    · rename_i st2 e2
      cases h
      refine ha σ F μ H env st ds st1 _ w en e1 fun vs F1 μ1 H1 w1 s1 r1 => ?_
      intro x dx hx hdx hne
      rw [List.append_nil]
      have hx2 : upd H1 dx (HO.own x) x = none := by rw [upd_ne (Ne.symm hne)]; exact hx
      have w2 := w1.lay0 (o := .own x) hdx
      have s2 := Stp.lay0 (F := F1) (μ := μ1) (o := HO.own x) hdx
      have w3 := w2.lay0 (o := .ins C dx []) hx2
      have s3 := Stp.lay0 (F := F1) (μ := μ1) (o := HO.ins C dx []) hx2
      have w4 := w3.alloc (p := x) (o := .ins C dx []) (so := .ins nm []) upd_same (w1.Fnone hx) (w1.out hx) ⟨hC, trivial⟩
      have s4 := (s2.trans s3).alloc (p := x) hx
      have hlen : μ1.length = st1.length := w1.len
      have hat : (μ1 ++ [x])[st1.length]? = some x := by rw [← hlen]; simp
      refine ⟨F1, μ1 ++ [x], .ref st1.length :: ds, _, .non, _, w4, ⟨⟨x, rfl, hat⟩, s4.reps r1⟩, by simp [hn _ _ _ _ e1], e2, fun v F' μ' H' w' s' r' => ⟨r', ?_⟩⟩
      exact k (.ref x) F' μ' H' w' ((s1.trans s4).trans s') ⟨x, rfl, s'.pre _ _ hat⟩
    · cases h
  · cases h
theorem xmake {nm : Str} {e : Expr} {es : List Expr} {p pos : Pos} {j k n : Nat} {c : MFn} {ma : MA} (M : Mkr X.prog X.w X.kw X.mg X.base k nm (n + 1) c) (hr : Room j X.A) (hkj : k + 1 ≤ j) (hg : Gl X nm) (ha : XA X (e :: es) ma) (hn : ∀ env st ds st1, ma env st = some (ds, st1) → ds.length = n)
    (hdb : (nm == ("__debug__" : Str)) = false := by decide) (he : starEach (e :: es) X.env = (false, eval e X.env) :: starEach es X.env := by rfl) (hpl : (backTo pos (starEach es X.env)).any (·.1) = false := by rfl) : XE X (.Call (.Name nm p) (e :: es) [] pos) (mMake nm c ma) := by
  obtain ⟨C, f, fd, ps, h1, h2, h3, h4, h5⟩ := M
  obtain ⟨ta, pa, sa⟩ := ha
  exact ⟨_, pe_make h3 h4 (hr.mono hkj) hg h2 h5 .nil pass0 pa hdb he hpl, simMake h1 sa hn⟩
theorem xmake0 {nm : Str} {p pos : Pos} {j k : Nat} {c : MFn} (M : Mkr X.prog X.w X.kw X.mg X.base k nm 1 c) (hr : Room j X.A) (hkj : k + 1 ≤ j) (hg : Gl X nm) (hdb : (nm == ("__debug__" : Str)) = false := by decide) : XE X (.Call (.Name nm p) [] [] pos) (mMake nm c mNil) := by
  obtain ⟨C, f, fd, ps, h1, h2, h3, h4, h5⟩ := M
  exact ⟨_, pe_make0 h3 h4 (hr.mono hkj) hg h2 h5 .nil pass0 hdb, simMake (n := 0) h1 simNil len_nil⟩
end
end Gx

set_option maxHeartbeats 4000000
namespace Gx
open PySem L2 PySem.Spec PyProof.Rows
/-! ### d.pop(k), d.clear(), d.setdefault(k, v), list(d) -/
def dropD (kvs : List (Key × D)) (k : Key) : List (Key × D) := kvs.filter fun kv => decide (kv.1 ≠ k)
section
variable {K : KW} {F : Hp} {μ : List Addr} {H : Hp} {st : Store}
theorem RepKV.drop (k : Key) : ∀ {ps : List (Key × D)} {qs : List (Key × V)}, RepKV K F μ ps qs → RepKV K F μ (dropD ps k) (dropK qs k)
  | [], [], _ => trivial
  | (a, x) :: ps, (b, y) :: qs, r => by
    have e : a = b := r.1
    subst e
    unfold dropD dropK
    rw [List.filter_cons, List.filter_cons]
    by_cases h : a = k
    · simp only [ne_eq, h, not_true_eq_false, decide_false, Bool.false_eq_true, if_false]
      exact RepKV.drop k r.2.2
    · simp only [ne_eq, h, not_false_eq_true, decide_true, if_true]
      exact ⟨rfl, r.2.1, RepKV.drop k r.2.2⟩
  | [], _ :: _, r => r.elim
  | _ :: _, [], r => r.elim
theorem dK_at (w : Wd K F μ H st) {n : Nat} {a : Addr} {kvs : List (Key × D)} (h : st[n]? = some (.dK kvs)) (hm : μ[n]? = some a) : ∃ qs, H a = some (.dK qs) ∧ RepKV K F μ kvs qs := by
  obtain ⟨o, h1, h2⟩ := w.obj n _ a h hm
  cases o <;> first | exact h2.elim | skip
  exact ⟨_, h1, h2⟩
end
def mPopK (mo mk : ME) : ME := fun env st => match mo env st with
  | some (.d (.ref n), st1) => match st1[n]? with
    | some (.dK _) => match mk env st1 with
      | some (.d k, st2) => match st2[n]? with
        | some (.dK kvs) => match keyOf k with
          | some kk => match valD kvs kk with
            | some d => some (.d d, st2.set n (.dK (dropD kvs kk)))
            | none => none
          | none => none
        | _ => none
      | _ => none
    | _ => none
  | _ => none
def mClear (mo : ME) : ME := fun env st => match mo env st with
  | some (.d (.ref n), st1) => match st1[n]? with
    | some (.dK _) => some (.d .non, st1.set n (.dK []))
    | _ => none
  | _ => none
def mSetd (mo mk mv : ME) : ME := fun env st => match mo env st with
  | some (.d (.ref n), st1) => match st1[n]? with
    | some (.dK _) => match mk env st1 with
      | some (.d k, st2) => match mv env st2 with
        | some (.d v, st3) => match st3[n]? with
          | some (.dK kvs) => match keyOf k with
            | some kk => if kvs.length < 16000000 then match valD kvs kk with
                | some d => some (.d d, st3)
                | none => some (.d v, st3.set n (.dK (putD kvs kk v)))
              else none
            | none => none
          | _ => none
        | _ => none
      | _ => none
    | _ => none
  | _ => none
section
variable {X : Cx} {a b c e : Expr} {ma mb mc m : ME} {pos apos : Pos}
theorem xpopK (ho : XE X a ma) (hk : XE X b mb) (m : M1 X a "pop" apos b pos) : XE X (.Call (.Attribute a "pop" apos) [b] [] pos) (mPopK ma mb) := by
  obtain ⟨ta, pa, sa⟩ := ho
  obtain ⟨tb, pb, sb⟩ := hk
  refine ⟨_, pe_dpop1 pa pb m, ?_⟩
  intro σ F μ H env st r st' Q w en h k
  unfold mPopK at h
  split at h
  · rename_i n st1 e1
    split at h
    · rename_i kvs0 e2
      split at h
      · rename_i dk st2 e3
        split at h
        · rename_i kvs e4
          split at h
          · rename_i kk e5
            split at h
            · rename_i d e6
              cases h
              refine sa σ F μ H env st _ _ _ w en e1 fun v F1 μ1 H1 w1 s1 r1 => ?_
              obtain ⟨p, rfl, hm⟩ := r1
              obtain ⟨qs0, h1, _⟩ := dK_at w1 e2 hm
              refine ⟨p, rfl, .inl ⟨qs0, .of h1⟩, ?_⟩
              refine sb σ F1 μ1 H1 env st1 _ _ _ w1 (en.step s1) e3 fun vk F2 μ2 H2 w2 s2 r2 => ?_
              have hm2 := s2.pre _ _ hm
              obtain ⟨qs, h2, r3⟩ := dK_at w2 e4 hm2
              obtain ⟨v', hv, rv⟩ := (RepKV.val kk r3).1 d e6
              have s3 := Stp.put (K := X.kw) (F := F2) (st := st2) (u := .dK (dropK qs kk)) w2 (List.mem_of_getElem? hm2) fun od v z => by rw [h2] at z; cases z
              exact ⟨qs, kk, v', h2, keyOf_ok e5 r2, hv, k v' F2 μ2 _ (w2.put (List.getElem?_eq_some_iff.mp e4).1 hm2 (so := .dK (dropD kvs kk)) (RepKV.drop kk r3)) ((s1.trans s2).trans s3) rv⟩
            · cases h
          · cases h
        · cases h
      · cases h
    · cases h
  · cases h
theorem xclear (ho : XE X a ma) (hbase : attributeBase a "clear" X.env (eval a X.env) = eval a X.env := by rfl) (hline : (apos.endLine == pos.line) = true := by rfl) : XE X (.Call (.Attribute a "clear" apos) [] [] pos) (mClear ma) := by
  obtain ⟨ta, pa, sa⟩ := ho
  refine ⟨_, pe_dclear pa hbase hline, ?_⟩
  intro σ F μ H env st r st' Q w en h k
  unfold mClear at h
  split at h
  · rename_i n st1 e1
    split at h
    · rename_i kvs0 e2
      cases h
      refine sa σ F μ H env st _ _ _ w en e1 fun v F1 μ1 H1 w1 s1 r1 => ?_
      obtain ⟨p, rfl, hm⟩ := r1
      obtain ⟨qs, h1, _⟩ := dK_at w1 e2 hm
      have s3 := Stp.put (K := X.kw) (F := F1) (st := st1) (u := .dK []) w1 (List.mem_of_getElem? hm) fun od v z => by rw [h1] at z; cases z
      exact ⟨.inr (.inr (.inl ⟨rfl, .inl ⟨qs, h1⟩⟩)), p, qs, rfl, rfl, h1, k .non F1 μ1 _ (w1.put (List.getElem?_eq_some_iff.mp e2).1 hm (so := .dK []) trivial) (s1.trans s3) rfl⟩
    · cases h
  · cases h
theorem xsetd (ho : XE X a ma) (hk : XE X b mb) (hv : XE X c mc) (m : M2 X a "setdefault" apos b c pos) : XE X (.Call (.Attribute a "setdefault" apos) [b, c] [] pos) (mSetd ma mb mc) := by
  obtain ⟨ta, pa, sa⟩ := ho
  obtain ⟨tb, pb, sb⟩ := hk
  obtain ⟨tc, pc, sc⟩ := hv
  refine ⟨_, pe_dsetd pa pb pc m, ?_⟩
  intro σ F μ H env st r st' Q w en h k
  unfold mSetd at h
  split at h
  · rename_i n st1 e1
    split at h
    · rename_i kvs0 e2
      split at h
      · rename_i dk st2 e3
        split at h
        · rename_i dv st3 e3'
          split at h
          · rename_i kvs e4
            split at h
            · rename_i kk e5
              split at h
              · rename_i hl
                refine sa σ F μ H env st _ _ _ w en e1 fun v F1 μ1 H1 w1 s1 r1 => ?_
                obtain ⟨p, rfl, hm⟩ := r1
                obtain ⟨qs0, h1, _⟩ := dK_at w1 e2 hm
                refine ⟨p, rfl, .inl ⟨qs0, .of h1⟩, ?_⟩
                refine sb σ F1 μ1 H1 env st1 _ _ _ w1 (en.step s1) e3 fun vk F2 μ2 H2 w2 s2 r2 => ?_
                refine sc σ F2 μ2 H2 env st2 _ _ _ w2 ((en.step s1).step s2) e3' fun vv F3 μ3 H3 w3 s3 r3 => ?_
                have hm3 := s3.pre _ _ (s2.pre _ _ hm)
                obtain ⟨qs, h2, r4⟩ := dK_at w3 e4 hm3
                refine ⟨qs, kk, h2, keyOf_ok e5 r2, by rw [← RepKV.length r4, sizeLine_eq]; omega, fun v hv => ?_, fun hv => ?_⟩
                · split at h
                  · rename_i d e6
                    cases h
                    obtain ⟨v', hv', rv⟩ := (RepKV.val kk r4).1 d e6
                    rw [hv] at hv'
                    cases hv'
                    exact k v F3 μ3 H3 w3 ((s1.trans s2).trans s3) rv
                  · rename_i e6
                    rw [(RepKV.val kk r4).2 e6] at hv
                    cases hv
                · split at h
                  · rename_i d e6
                    obtain ⟨v', hv', rv⟩ := (RepKV.val kk r4).1 d e6
                    rw [hv] at hv'
                    cases hv'
                  · cases h
                    have s4 := Stp.put (K := X.kw) (F := F3) (st := st3) (u := .dK (putK qs kk vv)) w3 (List.mem_of_getElem? hm3) fun od v z => by rw [h2] at z; cases z
                    exact k vv F3 μ3 _ (w3.put (List.getElem?_eq_some_iff.mp e4).1 hm3 (so := .dK (putD kvs kk dv)) (RepKV.put kk r3 r4)) (((s1.trans s2).trans s3).trans s4) r3
              · cases h
            · cases h
          · cases h
        · cases h
      · cases h
    · cases h
  · cases h
def f1ListK : Env → Store → R → Option SO := fun env st x => match asK env st x with | some kvs => some (.lst (kvs.map fun p => kyD p.1)) | none => none
theorem Reps.keys {K : KW} {F : Hp} {μ : List Addr} : ∀ {ps : List (Key × D)} {qs : List (Key × V)}, RepKV K F μ ps qs → Reps K F μ (ps.map fun p => kyD p.1) (qs.map fun q => kV q.1)
  | [], [], _ => trivial
  | (a, x) :: ps, (b, y) :: qs, r => by
    have e : a = b := r.1
    subst e
    refine ⟨?_, Reps.keys r.2.2⟩
    cases a <;> exact rfl
  | [], _ :: _, r => r.elim
  | _ :: _, [], r => r.elim
theorem xflistK {x : Str} {p : Pos} (hc : X.calm = true) (hg : Gl X x) (hm : X.mg x = none) (hv : bootBuiltins x = some (.type "list")) (ha : XE X e m) (hn : x ≠ "__name__" := by decide)
    (hdb : (x == ("__debug__" : Str)) = false := by decide) (he : starEach (e :: []) X.env = (false, eval e X.env) :: starEach [] X.env := by rfl) (hpl : (backTo pos (starEach [] X.env)).any (·.1) = false := by rfl) : XF X (.Call (.Name x p) [e] [] pos) (m1F m f1ListK) := by
  obtain ⟨t, pe, s⟩ := ha
  refine ⟨_, pe_callTy (call_listD hc) hg hm hv (pa_cons pe pa_nil he) hn hdb he hpl, ?_⟩
  intro σ F μ H env st so st' Q w en h k
  unfold m1F at h
  split at h
  · rename_i x st1 e1
    split at h
    · rename_i so' e2
      cases h
      unfold f1ListK at e2
      split at e2
      · rename_i xs e3
        cases e2
        refine s σ F μ H env st _ _ _ w en e1 fun v F1 μ1 H1 w1 s1 r1 => ?_
        obtain ⟨a, vs, rfl, sq, q⟩ := asK_ok w1 (en.step s1) r1 e3
        exact ⟨a, vs, rfl, sq, fun p hp => k p (.lst (vs.map fun (q : Key × V) => kV q.1)) F1 μ1 _ (w1.lay0 hp) (s1.trans (Stp.lay0 hp)) (fresh_of s1 hp) (w1.Fnone hp) (w1.out hp) upd_same (Reps.keys q)⟩
      · cases e2
    · cases h
  · cases h
/-! ### the truth of a list -/
def mTestL (m : ME) : MT := fun env st => match m env st with
  | some (r, st1) => match asL env st1 r with
    | some xs => some (!xs.isEmpty, st1)
    | none => none
  | none => none
theorem xtvL (h : XE X e m) (he : ∀ whole, isTrue e X.env whole = (do let v ← whole; standAt e.pos; holding [v] (truthy v)) := by intro _; rfl) : XT X e (mTestL m) := by
  obtain ⟨t, p, s⟩ := h
  refine ⟨_, pt_truth p he, ?_⟩
  intro σ F μ H env st b st' Q w en e k
  unfold mTestL at e
  split at e
  · rename_i r st1 e1
    split at e
    · rename_i xs e2
      cases e
      refine s σ F μ H env st _ _ _ w en e1 fun v F1 μ1 H1 w1 s1 r1 => ?_
      obtain ⟨a, vs, rfl, sq, q⟩ := asL_ok w1 (en.step s1) r1 e2
      refine ⟨_, .inl ⟨vs, sq, rfl⟩, ?_⟩
      have hl := q.length
      have : (!vs.isEmpty) = !xs.isEmpty := by cases xs <;> cases vs <;> simp_all
      rw [this]
      exact k F1 μ1 H1 w1 s1
    · cases e
  · cases e
/-! ### self.a, self.b = e -/
def mAsgF2 (tab : CTab) (f1 : Str) (o1 : ME) (f2 : Str) (o2 : ME) (me : ME) : MS := fun env st => match me env st with
  | some (.d (.tup [d1, d2]), st1) => match o1 env st1 with
    | some (.d (.ref n), st2) => match setFl tab f1 n d1 st2 with
      | some st3 => match o2 env st3 with
        | some (.d (.ref m), st4) => match setFl tab f2 m d2 st4 with
          | some st5 => some (.nx, env, st5)
          | none => none
        | _ => none
      | none => none
    | _ => none
  | _ => none
theorem xasgF2 {o1 o2 : Expr} {m1 m2 : ME} {tab : CTab} {f1 f2 : Str} {p1 p2 tp : Pos} {kk : Nat} (T : ClsT X.kw X.mg tab) (hc : X.calm = true) (h1 : XE X o1 m1) (h2 : XE X o2 m2) (he : XE X e m)
    (hs : swapsWithSole [.Tuple [.Attribute o1 f1 p1, .Attribute o2 f2 p2] kk tp] e pos.line X.env = pure false := by rfl) (hw : swappedStores [.Tuple [.Attribute o1 f1 p1, .Attribute o2 f2 p2] kk tp] e X.env = pure none := by rfl) : XS X (.Assign [.Tuple [.Attribute o1 f1 p1, .Attribute o2 f2 p2] kk tp] e pos) (mAsgF2 tab f1 m1 f2 m2 m) := by
  obtain ⟨t1, q1, s1⟩ := h1
  obtain ⟨t2, q2, s2⟩ := h2
  obtain ⟨te, qe, se⟩ := he
  refine ⟨_, ps_asg qe (pg_tup (n := 2) hc (pgs_cons (pg_attr q1) (pgs_cons (pg_attr q2) pgs_nil)) rfl rfl) hs hw rfl, ?_⟩
  intro F0 μ0 H0 Fg μg σ F μ H env st out D o h k
  unfold mAsgF2 at h
  split at h
  · rename_i d1 d2 st1 e0
    split at h
    · rename_i n st2 e1
      split at h
      · rename_i st3 e2
        split at h
        · rename_i m st4 e3
          split at h
          · rename_i st5 e4
            cases h
            refine se σ F μ H env st _ _ _ o.wd o.en e0 fun v F1 μ1 H1 w1 z1 r1 => ?_
            have o1' := o.step w1 z1
            obtain ⟨a, vs, rfl, sq, rr⟩ := r1
            match vs, rr with
            | [v1, v2], ⟨rv1, rv2, _⟩ =>
            refine ⟨a, [v1, v2], rfl, SqT.mono w1.sub sq, rfl, v1, [v2], rfl, ?_⟩
            refine s1 σ F1 μ1 H1 env st1 _ _ _ w1 o1'.en e1 fun ov F2 μ2 H2 w2 z2 r2 => ?_
            obtain ⟨a1, rfl, hm⟩ := r2
            obtain ⟨C, dx, fs, g1, g2, g3, g4, w3, z3, _⟩ := setFl_ok T w2 hm (z2.rep rv1) e2
            refine ⟨a1, C, dx, fs, rfl, g1, g2, g3, g4, v2, [], rfl, ?_⟩
            have o3 := (o1'.step w2 z2).step w3 z3
            refine s2 σ F2 μ2 _ env st3 _ _ _ w3 o3.en e3 fun ov F4 μ4 H4 w4 z4 r4 => ?_
            obtain ⟨a2, rfl, hm2⟩ := r4
            obtain ⟨C', dx', fs', g1', g2', g3', g4', w5, z5, _⟩ := setFl_ok T w4 hm2 (z4.rep (z3.rep (z2.rep rv2))) e4
            exact ⟨a2, C', dx', fs', rfl, g1', g2', g3', g4', rfl, k σ F4 μ4 _ ((o3.step w4 z4).step w5 z5)⟩
          · cases h
        · cases h
      · cases h
    · cases h
  · cases h
/-! ### d[t[:n]] = v -/
def mKf (m : MF) : MK := fun env st => match m env st with
  | some (.tup ds, st1) => (keysOf ds).map fun ks => (ks, st1)
  | _ => none
theorem xkf {m : MF} (h : XF X e m) : XK X e (mKf m) := by
  obtain ⟨t, p, s⟩ := h
  refine ⟨_, p, ?_⟩
  intro σ F μ H env st ks st' Q w en e k
  unfold mKf at e
  split at e
  · rename_i ds st1 e1
    rw [Option.map_eq_some_iff] at e
    obtain ⟨ks', hk, e⟩ := e
    cases e
    refine s σ F μ H env st _ _ _ w en e1 fun a u F1 μ1 H1 w1 s1 h0 f1 m1 h1 r1 => ?_
    cases u <;> first | exact r1.elim | skip
    refine k a F1 μ1 H1 w1 s1 ?_ m1
    rw [h1, keysOf_ok r1 hk]
  · cases e
/-! ### {t[:n]: v for t in iter}, nothing in iter -/
def mDc0T (mi : MI) : MF := fun env st => match mi env st with
  | some (src, st1) => if srcItems env st1 src = some [] then some (.dT [], st1) else none
  | none => none
theorem dT_of_dK {pins : List (Addr × Obj)} {s : Shared} {σ : L2.St} {H : Hp} {a : Addr} (I : Inv X pins σ H s) (h : H a = some (.dK [])) : Inv X pins σ (upd H a (.dT [])) s := by
  obtain ⟨z, hd, vs, rel, dd⟩ := dk_of I.hok h
  cases rel
  obtain ⟨o, es, ep, h1, h2, h3, h4, h5, h6⟩ := dd
  have he : es.toList = [] := by cases q : es.toList with
    | nil => rfl
    | cons x xs => rw [q] at h5; cases h5
  exact d_write (t' := s.toks) I (by rw [h]; exact True.intro) (Heap.SameBut.refl a s.heap) ⟨o, h1⟩ ⟨Nat.zero_le _, hd, [], .nil, o, es, ep, h1, h2, h3, by rw [he]; rfl, List.nodup_nil⟩
theorem pe_none : PE X e (fun _ _ _ => False) := ⟨fun _ _ _ _ _ _ h => h.elim⟩
theorem pg_none : PG X e (fun _ _ _ _ => False) := ⟨fun _ _ _ _ _ _ _ _ _ h => h.elim⟩
def tDcT (t : TE) : TE := fun σ H Q => t σ H fun v H' => ∃ a, v = .ref a ∧ H' a = some (.dK []) ∧ Q v (upd H' a (.dT []))
theorem pe_dcT {t : TE} (h : PE X e t) : PE X e (tDcT t) := by
  refine ⟨fun pins s σ H Q I q => ?_⟩
  refine thn (h.run pins s σ H _ I q) fun u s1 ⟨x, H1, I1, rx, a, ex, hd, q1⟩ => ?_
  exact ⟨x, _, dT_of_dK I1 hd, rx, q1⟩
theorem xdc0T {kx vx tg iter : Expr} {scope : Scope} {own : List (Str × Nat)} {pos : Pos} {mi : MI} (hc : X.calm = true) (hN : X.N.Nodup) (hi : XI X tg iter mi) (ok : BlkOk X.N X.env.scope scope own) (hs : ∀ x, foldedSetIterable iter X.env x = pure x := by intro _; rfl) :
    XF X (.DictComp kx vx [⟨tg, iter, [], 0⟩] scope pos) (mDc0T mi) := by
  obtain ⟨wi, p, s⟩ := hi
  refine ⟨_, pe_dcT (pe_dc hc hN p ok (g := fun _ _ _ _ => False) (fun _ _ _ _ _ => pg_none) (fun _ _ _ _ _ => pts_nil) (tk := fun _ _ _ => False) (fun _ _ _ _ _ => pe_none) (tv := fun _ _ _ => False) (fun _ _ _ _ _ => pe_none) hs), ?_⟩
  intro σ F μ H env st so st' Q w en e k
  unfold mDc0T at e
  split at e
  · rename_i src st1 e1
    split at e
    · rename_i hz
      cases e
      refine s σ F μ H env st src st' _ w en e1 fun J F1 μ1 H1 w1 s1 hJ D hD => ?_
      obtain ⟨vs2, ⟨a1, a2⟩, rr⟩ := srcAt w1 (en.step s1) hJ hz
      cases vs2 with
      | cons _ _ => exact rr.elim
      | nil =>
      refine ⟨fun i m Hc => i = 0 ∧ Hc = upd H1 D (.dK []), ⟨0, rfl, rfl⟩, ?_⟩
      rintro i m Hc ⟨rfl, rfl⟩
      refine .inl ?_
      have w2 := w1.lay0 (o := .dK []) hD
      have hJ2 := hJ.step (Stp.lay0 (F := F1) (μ := μ1) (o := HO.dK []) hD)
      obtain ⟨vs3, ⟨b1, b2⟩, rr3⟩ := srcAt w2 ((en.step s1).step (Stp.lay0 (o := HO.dK []) hD)) hJ2 hz
      cases vs3 with
      | cons _ _ => exact rr3.elim
      | nil =>
      refine ⟨b2, D, rfl, upd_same, ?_⟩
      have hu : upd (upd H1 D (.dK [])) D (.dT []) = upd H1 D (.dT []) := by
        funext x
        by_cases q : x = D
        · subst q; rw [upd_same, upd_same]
        · rw [upd_ne q, upd_ne q, upd_ne q]
      rw [hu]
      exact k D (.dT []) F1 μ1 _ (w1.lay0 hD) (s1.trans (Stp.lay0 hD)) (fresh_of s1 hD) (w1.Fnone hD) (w1.out hD) upd_same trivial
    · cases e
  · cases e
end
/-! ### list(d.values()), d a dict with tuple keys in the store -/
def mLValsS (mo : ME) : MF := fun env st => match mo env st with
  | some (.d (.ref n), st1) => match st1[n]? with
    | some (.dT kvs) => some (.lst (kvs.map (·.2)), st1)
    | _ => none
  | _ => none
theorem xflvalsS {X : Cx} {e : Expr} {m : ME} {pos : Pos} {x : Str} {p apos mpos : Pos} (hc : X.calm = true) (hg : Gl X x) (hm : X.mg x = none) (hv : bootBuiltins x = some (.type "list")) (ho : XE X e m)
    (hbase : attributeBase e "values" X.env (eval e X.env) = eval e X.env := by rfl) (hline : (apos.endLine == mpos.line) = true := by rfl)
    (hn : x ≠ "__name__" := by decide) (hdb : (x == ("__debug__" : Str)) = false := by decide)
    (hst : starEach (.Call (.Attribute e "values" apos) [] [] mpos :: []) X.env = (false, eval (.Call (.Attribute e "values" apos) [] [] mpos) X.env) :: starEach [] X.env := by rfl) (hpl : (backTo pos (starEach [] X.env)).any (·.1) = false := by rfl) :
    XF X (.Call (.Name x p) [.Call (.Attribute e "values" apos) [] [] mpos] [] pos) (mLValsS m) := by
  obtain ⟨to, po, so⟩ := ho
  refine ⟨_, pe_callTy (call_liVals hc) hg hm hv (pa_cons (pe_bm0 PySem.F.plainAttrs_dict PySem.F.slot_dict_values PySem.F.type_dict_values mt_valsT po hbase hline) pa_nil hst) hn hdb hst hpl, ?_⟩
  intro σ F μ H env st r st' Q w en h k
  unfold mLValsS at h
  split at h
  · rename_i n st1 e1
    split at h
    · rename_i kvs e2
      cases h
      refine so σ F μ H env st _ _ _ w en e1 fun v F1 μ1 H1 w1 s1 r1 => ?_
      obtain ⟨a, rfl, hm⟩ := r1
      obtain ⟨u, h6, h7⟩ := w1.obj n _ a e2 hm
      cases u <;> first | exact h7.elim | skip
      rename_i vs
      refine ⟨.inr (.inr (.inl ⟨rfl, .inr ⟨_, h6⟩⟩)), a, vs, rfl, rfl, h6, fun p hp => ?_⟩
      have hap : a ≠ p := fun q => by rw [← q, h6] at hp; cases hp
      have w2 := w1.lay0 (o := valsO p a) hp
      have s2 : Stp F1 μ1 H1 F1 μ1 (upd H1 p (valsO p a)) := Stp.lay0 hp
      refine ⟨p, a, vs, rfl, upd_same, by rw [upd_ne hap]; exact h6, fun q hq => ?_⟩
      have rr : Reps X.kw F1 μ1 (kvs.map Prod.snd) (vs.map Prod.snd) := (RepKV.split (show RepKV X.kw F1 μ1 kvs vs from h7)).1
      exact k q (.lst (vs.map Prod.snd)) F1 μ1 _ (w2.lay0 hq) ((s1.trans s2).trans (Stp.lay0 hq)) (fresh_of (s1.trans s2) hq) (w2.Fnone hq) (w2.out hq) upd_same rr
    · cases h
  · cases h
/-! ### code that the proof never comes to -/
def mNever : MS := fun _ _ => none
theorem xnev {X : Cx} {s : Stmt} : XS X s mNever := xnever
theorem xss_nev {X : Cx} {l : List Stmt} : XSs X l mNever := ⟨_, pss_never, fun _ _ _ _ _ _ _ _ _ _ _ _ _ _ e _ => by cases e⟩
end Gx

set_option maxHeartbeats 4000000
namespace Gx
open PySem L2 PySem.Spec PyProof.Rows PySem.Calls
/-! ### the head in one run, for a law whose defs make lambdas: the tables stand behind the objects that are read -/
def tsF (ts : List Addr) : PySem.W.Frag := ts.map fun t => (t, ({ cls := .none, data := .fields #[] } : Obj))
theorem lookup_app {K T : PySem.W.Frag} (a : Addr) : (K ++ T).lookup a = (K.lookup a).or (T.lookup a) := by
  induction K with
  | nil => rfl
  | cons p r ih =>
    obtain ⟨b, x⟩ := p
    show List.lookup a ((b, x) :: (r ++ T)) = (List.lookup a ((b, x) :: r)).or _
    rw [List.lookup_cons, List.lookup_cons]
    cases a == b with
    | true => rfl
    | false => exact ih
theorem kt_in {K : Params → PySem.W.Frag} {as ts : List Addr} {e : ∀ P, as = ((fun P => K P ++ tsF ts) P).map (·.1)} {w : World} {h : Heap} (Y : (PySem.W.kHook (fun P => K P ++ tsF ts) as e).says w h) : (K w.params).In h := by
  have Y' : (K w.params ++ tsF ts).In h := Y
  intro a o q
  exact Y' a o (by rw [lookup_app, q]; rfl)
theorem kt_tab {K : Params → PySem.W.Frag} {as ts : List Addr} {e : ∀ P, as = ((fun P => K P ++ tsF ts) P).map (·.1)} {w : World} {h : Heap} {P : Addr} (Y : (PySem.W.kHook (fun P => K P ++ tsF ts) as e).says w h) (np : (K w.params).lookup P = none) (hP : P ∈ ts) : h.get? P = some { cls := .none, data := .fields #[] } := by
  have Y' : (K w.params ++ tsF ts).In h := Y
  refine Y' P _ ?_
  rw [lookup_app, np]
  show (tsF ts).lookup P = _
  clear Y Y' np e
  induction ts with
  | nil => cases hP
  | cons t r ih =>
    show List.lookup P ((t, _) :: tsF r) = _
    rw [List.lookup_cons]
    cases q : P == t with
    | true => rfl
    | false =>
      refine ih ?_
      rcases List.mem_cons.mp hP with z | z
      · rw [z] at q; simp at q
      · exact z
end Gx
namespace Gx
open PySem PySem.W PySem.Calls PyProof.Rows HeadRun
/-- the head of a law in one run; the view holds the law's def alone, all other names are loose -/
theorem head_one {r : OpenRow} {q : Program} {loose : List Str} {K : Params → PySem.W.Frag} {as ts : List Addr} {M : Nat} {d : DefRec} {kwd : List (Str × PySem.Expr)} (ek : ∀ P, as ++ ts = ((fun P => K P ++ tsF ts) P).map (·.1))
    (e : opening r.prog = plainProg r.prog.main.scope.names) (f : ∀ s, fenceModules? r.prog s = some s)
    (run : ∀ (w : World) (os : OsState), (endF (stepQ (denQ tabQ) r.prog w) M r.prog w os).map (fun s => (looksF r.prog (boot_heap w.params) s.abs, seenQ q loose (importedModules r.prog.main.body) (fun s => xlAt q [] s && recOk r.toRowW.records s) s.abs, (as ++ ts).map (getT s))) = some (true, openGood q loose, (K w.params ++ tsF ts).map fun x => some x.2))
    (hdef : defOf q r.name = some (d, kwd)) (hp : r.prog.theDef r.name = some (d.params, d.body, d.scope)) (hk : kwWritten? d.params.kwonlyargs d.params.kw_defaults = some kwd)
    (hwr : (!r.writes || r.records.isEmpty) = true) (k1 : r.wellSaid = true) (ok : (chainsOk q && opensWell r.prog && (frees r.toRowW && r.within.isEmpty)) = true) (hb : r.prog.bare) (hw : r.toRowW.promised)
    (call : WalkO q loose (PySem.W.XL q []) (kHook (fun P => K P ++ tsF ts) (as ++ ts) ek).says r.toRowW d kwd fun f vs => PySem.call f vs) : r.Holds := by
  have left : LeftO r.prog q loose (fun s => xlAt q [] s && recOk r.toRowW.records s) (Hook.obs (kHook (fun P => K P ++ tsF ts) (as ++ ts) ek)) (Hook.val (kHook (fun P => K P ++ tsF ts) (as ++ ts) ek)) (M + 600) true :=
    left_oneK (M := M) e (Nat.ble_eq_true_of_le (by omega)) f (Nat.ble_eq_true_of_le (by omega)) run
  exact PySem.W.holds_open (r := r) (q := q) (loose := loose) (XP := PySem.W.XL q []) (YP := (kHook (fun P => K P ++ tsF ts) (as ++ ts) ek).says) (d := d) (kwd := kwd) left (kHook (fun P => K P ++ tsF ts) (as ++ ts) ek).of (kHook (fun P => K P ++ tsF ts) (as ++ ts) ek).keeps (fun s z => xl_of s (Bool.and_eq_true_iff.mp z).1) PySem.W.XL.keeps hdef hp hk (fun s z => recFacts_of (Bool.and_eq_true_iff.mp z).2) hwr k1 ok hb hw call
end Gx

set_option maxHeartbeats 4000000
namespace Gx
open PySem L2
/-! ### dicts with mixed keys (objects of the store) -/
def asX (st : Store) (n : Nat) : Option (List (D × D)) := match st[n]? with
  | some (.dX m kvs) => if m = n then some kvs else none
  | some (.dXF m kvs) => if m = n then some kvs else none
  | _ => none
def isX (st : Store) (n : Nat) : Option (List (D × D)) := match st[n]? with
  | some (.dX m kvs) => if m = n then some kvs else none
  | _ => none
def isXF (st : Store) (n : Nat) : Option (List (D × D)) := match st[n]? with
  | some (.dXF m kvs) => if m = n then some kvs else none
  | _ => none
def lookX (kvs : List (D × D)) (k : D) : Option D := (kvs.find? fun p => decide (p.1 = k)).map (·.2)
def putX (kvs : List (D × D)) (k v : D) : List (D × D) := if kvs.any (fun p => decide (p.1 = k)) then kvs.map (fun p => if p.1 = k then (p.1, v) else p) else kvs ++ [(k, v)]
theorem isX_st {st : Store} {n : Nat} {kvs : List (D × D)} (h : isX st n = some kvs) : st[n]? = some (.dX n kvs) := by
  unfold isX at h
  split at h
  · rename_i m ks e
    split at h
    · rename_i e2; cases h; rw [e, e2]
    · cases h
  · cases h
theorem isXF_st {st : Store} {n : Nat} {kvs : List (D × D)} (h : isXF st n = some kvs) : st[n]? = some (.dXF n kvs) := by
  unfold isXF at h
  split at h
  · rename_i m ks e
    split at h
    · rename_i e2; cases h; rw [e, e2]
    · cases h
  · cases h
theorem keyD_inj {a b : D} {k : Key} (h : keyD a = some k) (h' : keyD b = some k) : a = b := by
  cases a <;> simp only [keyD] at h <;> cases h <;> cases b <;> simp only [keyD] at h' <;> cases h' <;> rfl
theorem keysD_inj : ∀ {a b : List D} {k : List Key}, keysD a = some k → keysD b = some k → a = b
  | [], [], _, _, _ => rfl
  | [], b :: bs, k, h, h' => by
    simp only [keysD] at h h'
    cases h
    cases e : keyD b with
    | none => rw [e] at h'; cases h'
    | some x => rw [e] at h'; cases e2 : keysD bs <;> rw [e2] at h' <;> cases h'
  | a :: as, [], k, h, h' => by
    simp only [keysD] at h h'
    cases h'
    cases e : keyD a with
    | none => rw [e] at h; cases h
    | some x => rw [e] at h; cases e2 : keysD as <;> rw [e2] at h <;> cases h
  | a :: as, b :: bs, k, h, h' => by
    simp only [keysD] at h h'
    cases e : keyD a with
    | none => rw [e] at h; cases h
    | some x =>
      rw [e] at h
      cases e' : keyD b with
      | none => rw [e'] at h'; cases h'
      | some y =>
        rw [e'] at h'
        cases e2 : keysD as with
        | none => rw [e2] at h; cases h
        | some ks =>
          rw [e2] at h
          cases e3 : keysD bs with
          | none => rw [e3] at h'; cases h'
          | some ls =>
            rw [e3] at h'
            cases h
            have h' := Option.some.inj h'
            injection h' with h1 h2
            subst h1 h2
            rw [keyD_inj e e', keysD_inj e2 e3]
theorem mkOf_inj {a b : D} {k : L2.MK} (h : mkOf a = some k) (h' : mkOf b = some k) : a = b := by
  cases a with
  | int i =>
    cases h
    cases b <;> simp only [mkOf] at h' <;> try cases h'
    · rfl
    · rename_i xs
      cases e : keysD xs <;> rw [e] at h' <;> cases h'
  | str i =>
    cases h
    cases b <;> simp only [mkOf] at h' <;> try cases h'
    · rfl
    · rename_i xs
      cases e : keysD xs <;> rw [e] at h' <;> cases h'
  | tup xs =>
    simp only [mkOf] at h
    cases e : keysD xs with
    | none => rw [e] at h; cases h
    | some ks =>
      rw [e] at h
      cases h
      cases b with
      | tup ys =>
        simp only [mkOf] at h'
        cases e' : keysD ys with
        | none => rw [e'] at h'; cases h'
        | some ls =>
          rw [e'] at h'
          cases h'
          rw [keysD_inj e e']
      | _ => cases h'
  | _ => cases h
section
variable {K : KW} {F : Hp} {μ : List Addr} {H : Hp} {st : Store} {n : Nat} {a : Addr} {kvs ps : List (D × D)} {qs : XVs} {d z : D} {v y : V} {k : L2.MK}
theorem keyD_rep {x : Key} (h : keyD d = some x) (r : Rep K F μ d v) : v = kV x := by
  cases d <;> simp only [keyD] at h <;> cases h <;> exact r
theorem keysD_rep : ∀ {ds : List D} {vs : List V} {ks : List Key}, keysD ds = some ks → Reps K F μ ds vs → vs = ks.map kV
  | [], [], ks, h, _ => by cases h; rfl
  | d :: ds, v :: vs, ks, h, r => by
    simp only [keysD] at h
    cases e : keyD d with
    | none => rw [e] at h; cases h
    | some x =>
      rw [e] at h
      cases e2 : keysD ds with
      | none => rw [e2] at h; cases h
      | some ls =>
        rw [e2] at h
        cases h
        rw [keyD_rep e r.1, keysD_rep e2 r.2]
        rfl
  | [], _ :: _, _, _, r => r.elim
  | _ :: _, [], _, _, r => r.elim
theorem keyAt_rep (h : mkOf d = some k) (r : Rep K F μ d v) (sub : ∀ b o, F b = some o → H b = some o) : L2.KeyAt K.f H k v := by
  cases d with
  | int i => cases h; exact r
  | str i => cases h; exact r
  | tup xs =>
    simp only [mkOf] at h
    cases e : keysD xs with
    | none => rw [e] at h; cases h
    | some ks =>
      rw [e] at h
      cases h
      obtain ⟨b, vs, rfl, s, q⟩ := r
      rw [keysD_rep e q] at s
      exact ⟨b, rfl, SqT.mono sub s⟩
  | _ => cases h
theorem repX_keys (sub : ∀ b o, F b = some o → H b = some o) : ∀ {ps : List (D × D)} {qs : XVs}, RepX K F μ ps qs → KeysAt K.f H qs
  | [], [], _ => fun q h => nomatch h
  | p :: ps, q :: qs, r => fun x h => by
    rcases List.mem_cons.mp h with e | h
    · subst e; exact keyAt_rep r.1 r.2.1 sub
    · exact repX_keys sub r.2.2.2 x h
  | [], _ :: _, r => r.elim
  | _ :: _, [], r => r.elim
theorem repX_len : ∀ {ps : List (D × D)} {qs : XVs}, RepX K F μ ps qs → ps.length = qs.length
  | [], [], _ => rfl
  | p :: ps, q :: qs, r => by simp [repX_len r.2.2.2]
  | [], _ :: _, r => r.elim
  | _ :: _, [], r => r.elim
theorem repX_ks : ∀ {ps : List (D × D)} {qs : XVs}, RepX K F μ ps qs → Reps K F μ (ps.map (·.1)) (qs.map fun q => q.2.1)
  | [], [], _ => trivial
  | p :: ps, q :: qs, r => ⟨r.2.1, repX_ks r.2.2.2⟩
  | [], _ :: _, r => r.elim
  | _ :: _, [], r => r.elim
theorem repX_get (h : mkOf d = some k) : ∀ {ps : List (D × D)} {qs : XVs}, RepX K F μ ps qs → lookX ps d = some z → ∃ v, mVal qs k = some v ∧ Rep K F μ z v
  | [], [], _, e => by cases e
  | p :: ps, q :: qs, r, e => by
    unfold lookX at e
    unfold mVal
    rw [List.find?_cons] at e ⊢
    by_cases c : p.1 = d
    · have c' : q.1 = k := by have r1 := r.1; rw [c] at r1; exact Option.some.inj (r1.symm.trans h)
      rw [decide_eq_true c] at e
      rw [decide_eq_true c']
      cases e
      exact ⟨_, rfl, r.2.2.1⟩
    · have c' : ¬ q.1 = k := fun e2 => c (mkOf_inj (e2 ▸ r.1) h)
      rw [decide_eq_false c] at e
      rw [decide_eq_false c']
      exact repX_get h r.2.2.2 e
  | [], _ :: _, r, _ => r.elim
  | _ :: _, [], r, _ => r.elim
theorem repX_any (h : mkOf d = some k) : ∀ {ps : List (D × D)} {qs : XVs}, RepX K F μ ps qs → ps.any (fun p => decide (p.1 = d)) = mAny qs k
  | [], [], _ => rfl
  | p :: ps, q :: qs, r => by
    have ih := repX_any h r.2.2.2
    unfold mAny at ih ⊢
    rw [List.any_cons, List.any_cons, ih]
    by_cases c : p.1 = d
    · have c' : q.1 = k := by have r1 := r.1; rw [c] at r1; exact Option.some.inj (r1.symm.trans h)
      rw [decide_eq_true c, decide_eq_true c']
    · have c' : ¬ q.1 = k := fun e2 => c (mkOf_inj (e2 ▸ r.1) h)
      rw [decide_eq_false c, decide_eq_false c']
  | [], _ :: _, r => r.elim
  | _ :: _, [], r => r.elim
theorem repX_rep (h : mkOf d = some k) (rz : Rep K F μ z v) : ∀ {ps : List (D × D)} {qs : XVs}, RepX K F μ ps qs → RepX K F μ (ps.map fun p => if p.1 = d then (p.1, z) else p) (qs.map (mRep k v))
  | [], [], _ => trivial
  | p :: ps, q :: qs, r => by
    rw [List.map_cons, List.map_cons]
    have ih := repX_rep h rz r.2.2.2
    by_cases c : p.1 = d
    · have c' : q.1 = k := by have r1 := r.1; rw [c] at r1; exact Option.some.inj (r1.symm.trans h)
      unfold mRep
      rw [if_pos c, if_pos c']
      exact ⟨r.1, r.2.1, rz, ih⟩
    · have c' : ¬ q.1 = k := fun e2 => c (mkOf_inj (e2 ▸ r.1) h)
      have e3 : mRep k v q = q := by unfold mRep; rw [if_neg c']
      rw [if_neg c, e3]
      exact ⟨r.1, r.2.1, r.2.2.1, ih⟩
  | [], _ :: _, r => r.elim
  | _ :: _, [], r => r.elim
theorem repX_snoc (h : mkOf d = some k) (rd : Rep K F μ d y) (rz : Rep K F μ z v) : ∀ {ps : List (D × D)} {qs : XVs}, RepX K F μ ps qs → RepX K F μ (ps ++ [(d, z)]) (qs ++ [(k, y, v)])
  | [], [], _ => ⟨h, rd, rz, trivial⟩
  | p :: ps, q :: qs, r => ⟨r.1, r.2.1, r.2.2.1, repX_snoc h rd rz r.2.2.2⟩
  | [], _ :: _, r => r.elim
  | _ :: _, [], r => r.elim
theorem repX_put (h : mkOf d = some k) (rd : Rep K F μ d y) (rz : Rep K F μ z v) (r : RepX K F μ ps qs) : RepX K F μ (putX ps d z) (mPut qs k y v) := by
  unfold putX mPut
  rw [repX_any h r]
  split
  · exact repX_rep h rz r
  · exact repX_snoc h rd rz r
theorem xobj (w : Wd K F μ H st) (h : st[n]? = some (.dX n kvs)) (hm : μ[n]? = some a) : ∃ qs, H a = some (MixO K.w a qs) ∧ RepX K F μ kvs qs := by
  obtain ⟨o, h1, h2⟩ := w.obj n _ a h hm
  cases o <;> first | exact h2.elim | skip
  obtain ⟨b, qs, e1, e2, r⟩ := h2
  rw [hm] at e1
  cases e1
  subst e2
  exact ⟨qs, h1, r⟩
theorem xobjF (w : Wd K F μ H st) (h : st[n]? = some (.dXF n kvs)) (hm : μ[n]? = some a) : ∃ od qs, H a = some (.frz od (MixO K.w a qs)) ∧ RepX K F μ kvs qs := by
  obtain ⟨o, h1, h2⟩ := w.obj n _ a h hm
  cases o <;> first | exact h2.elim | skip
  rename_i od u
  cases u <;> first | exact h2.elim | skip
  obtain ⟨b, qs, e1, e2, r⟩ := h2
  rw [hm] at e1
  cases e1
  subst e2
  exact ⟨od, qs, h1, r⟩
theorem xread (w : Wd K F μ H st) (h : asX st n = some kvs) (hm : μ[n]? = some a) : ∃ qs, Rd H a (MixO K.w a qs) ∧ RepX K F μ kvs qs := by
  unfold asX at h
  split at h
  · rename_i m ks e
    split at h
    · rename_i e2; subst e2; cases h
      obtain ⟨qs, h1, r⟩ := xobj w e hm
      exact ⟨qs, .inl h1, r⟩
    · cases h
  · rename_i m ks e
    split at h
    · rename_i e2; subst e2; cases h
      obtain ⟨od, qs, h1, r⟩ := xobjF w e hm
      exact ⟨qs, .inr ⟨od, h1⟩, r⟩
    · cases h
  · cases h
theorem Wd.allocX (w : Wd K F μ H st) {p : Addr} (hp : H p = some (MixO K.w p qs)) (hF : F p = none) (hμ : p ∉ μ) (r : RepX K F μ ps qs) : Wd K F (μ ++ [p]) H (st ++ [.dX st.length ps]) := by
  have hl : (μ ++ [p])[st.length]? = some p := by rw [← w.len]; simp
  refine ⟨w.sub, by simp [w.len], ?_, fun a ha => ?_, fun n so' a e1 e2 => ?_⟩
  · rw [List.nodup_append]
    refine ⟨w.nd, by simp, fun a ha b hb => ?_⟩
    simp at hb; subst hb
    exact fun e => hμ (e ▸ ha)
  · rcases List.mem_append.mp ha with h | h
    · exact w.nf a h
    · simp at h; subst h; exact hF
  · by_cases hn : n < st.length
    · rw [List.getElem?_append_left hn] at e1
      rw [List.getElem?_append_left (by rw [w.len]; exact hn)] at e2
      obtain ⟨u, h1, h2⟩ := w.obj n so' a e1 e2
      exact ⟨u, h1, SORep.mono (fun _ _ e => e) (pre_snoc μ p) _ _ h2⟩
    · have hz : n = st.length := by
        have := (List.getElem?_eq_some_iff.mp e1).1
        simp at this; omega
      subst hz
      rw [hl] at e2
      cases e2
      simp at e1
      subst e1
      exact ⟨_, hp, p, qs, hl, rfl, RepX.mono (fun _ _ e => e) (pre_snoc μ p) _ _ r⟩
end
section
variable {X : Cx} {a b e i o : Expr} {ma mb me mo mk : ME} {pos tpos : Pos}
/-- {} -/
def mD0X : ME := fun _ st => some (.d (.ref st.length), st ++ [.dX st.length []])
theorem xd0X : XE X (.Dict [] [] pos) mD0X := by
  refine ⟨_, pe_dnewX, ?_⟩
  intro σ F μ H env st r st' Q w en h k
  cases h
  intro p hp
  have w1 := w.lay0 (o := MixO X.w p []) hp
  have s1 : Stp F μ H F μ (upd H p (MixO X.w p [])) := Stp.lay0 hp
  refine k _ F (μ ++ [p]) _ (w1.allocX (K := X.kw) (qs := []) upd_same (w.Fnone hp) (w.out hp) trivial) (s1.alloc hp) ⟨p, rfl, ?_⟩
  rw [← w.len]; simp
/-- d[k] -/
def mIxX (mo mk : ME) : ME := fun env st => match mo env st with
  | some (.d (.ref n), st1) => match mk env st1 with
    | some (.d kd, st2) => match asX st2 n with
      | some kvs => if (mkOf kd).isSome then (match lookX kvs kd with | some z => some (.d z, st2) | none => none) else none
      | none => none
    | _ => none
  | _ => none
theorem xixX (hu : X.A.units + 1 < cLine) (ho : XE X a mo) (hk : XE X b mk) (hn : NoSl b := by exact fun _ _ => rfl) : XE X (.Subscript a b pos) (mIxX mo mk) := by
  obtain ⟨ta, pa, sa⟩ := ho
  obtain ⟨tb, pb, sb⟩ := hk
  refine ⟨_, pe_dgetX hu pa pb hn, ?_⟩
  intro σ F μ H env st r st' Q w en h k
  unfold mIxX at h
  split at h
  · rename_i n st1 e1
    split at h
    · rename_i kd st2 e2
      split at h
      · rename_i kvs e3
        split at h
        · rename_i e4
          split at h
          · rename_i z e5
            cases h
            obtain ⟨kk, hkk⟩ := Option.isSome_iff_exists.mp e4
            refine sa σ F μ H env st _ _ _ w en e1 fun v F1 μ1 H1 w1 s1 r1 => ?_
            refine sb σ F1 μ1 H1 env st1 _ _ _ w1 (en.step s1) e2 fun y F2 μ2 H2 w2 s2 r2 => ?_
            obtain ⟨ad, rfl, hm⟩ := s2.rep (K := X.kw) (d := .ref n) r1
            obtain ⟨qs, h1, h2⟩ := xread w2 e3 hm
            obtain ⟨v, h3, h4⟩ := repX_get hkk h2 e5
            exact ⟨ad, qs, kk, v, rfl, h1, repX_keys w2.sub h2, keyAt_rep hkk r2 w2.sub, h3, k v F2 μ2 H2 w2 (s1.trans s2) h4⟩
          · cases h
        · cases h
      · cases h
    · cases h
  · cases h
/-- d[k] = v -/
def mStX (mo mk mv : ME) : MS := fun env st => match mv env st with
  | some (.d dv, st1) => match mo env st1 with
    | some (.d (.ref n), st2) => match mk env st2 with
      | some (.d kd, st3) => match isX st3 n with
        | some kvs => if (mkOf kd).isSome && decide (kvs.length < 16000000) then some (.nx, env, st3.set n (.dX n (putX kvs kd dv))) else none
        | none => none
      | _ => none
    | _ => none
  | _ => none
theorem xstX (hu : X.A.units + 1 < cLine) (ho : XE X o mo) (hi : XE X i mk) (he : XE X e me) (hs2 : swapsWith e (some (.Subscript o i tpos)) pos.line X.env = pure false := by rfl) : XS X (.Assign [.Subscript o i tpos] e pos) (mStX mo mk me) := by
  obtain ⟨to, po, so⟩ := ho
  obtain ⟨ti, pi, si⟩ := hi
  obtain ⟨te, pe, se⟩ := he
  refine ⟨_, ps_dputX hu po pi pe hs2, ?_⟩
  intro F0 μ0 H0 Fg μg σ F μ H env st out D oo e k
  unfold mStX at e
  split at e
  · rename_i dv st1 e1
    split at e
    · rename_i n st2 e2
      split at e
      · rename_i kd st3 e3
        split at e
        · rename_i kvs e4
          split at e
          · rename_i e5
            cases e
            rw [Bool.and_eq_true] at e5
            have hz := of_decide_eq_true e5.2
            obtain ⟨kk, hkk⟩ := Option.isSome_iff_exists.mp e5.1
            refine se σ F μ H env st _ _ _ oo.wd oo.en e1 fun v F1 μ1 H1 w1 s1 r1 => ?_
            refine so σ F1 μ1 H1 env st1 _ _ _ w1 (oo.en.step s1) e2 fun ov F2 μ2 H2 w2 s2 r2 => ?_
            refine si σ F2 μ2 H2 env st2 _ _ _ w2 ((oo.en.step s1).step s2) e3 fun y F3 μ3 H3 w3 s3 r3 => ?_
            have o3 := ((oo.step w1 s1).step w2 s2).step w3 s3
            obtain ⟨ad, rfl, hm⟩ := s3.rep (K := X.kw) (d := .ref n) r2
            have hst := isX_st e4
            obtain ⟨qs, h1, h2⟩ := xobj w3 hst hm
            have hn := (List.getElem?_eq_some_iff.mp hst).1
            have rv := (s2.trans s3).rep r1
            have hq := repX_put hkk r3 rv h2
            refine ⟨ad, qs, kk, rfl, h1, repX_keys w3.sub h2, keyAt_rep hkk r3 w3.sub, by rw [← repX_len h2, sizeLine_eq]; omega, ?_⟩
            exact k σ F3 μ3 _ (o3.step (o3.wd.put hn hm (so := .dX n (putX kvs kd dv)) ⟨ad, _, hm, rfl, hq⟩) (Stp.put o3.wd (List.mem_of_getElem? hm) fun od v' z => by rw [h1] at z; cases z))
          · cases e
        · cases e
      · cases e
    · cases e
  · cases e
/-- list(d) -/
def mFListX (m : ME) : MF := fun env st => match m env st with
  | some (.d (.ref n), st1) => match asX st1 n with
    | some kvs => some (.lst (kvs.map (·.1)), st1)
    | none => none
  | _ => none
theorem xflistX {x : Str} {p : Pos} (hc : X.calm = true) (hg : Gl X x) (hm : X.mg x = none) (hv : bootBuiltins x = some (.type "list")) (ha : XE X e me) (hn : x ≠ "__name__" := by decide)
    (hdb : (x == ("__debug__" : Str)) = false := by decide) (he : starEach (e :: []) X.env = (false, eval e X.env) :: starEach [] X.env := by rfl) (hpl : (backTo pos (starEach [] X.env)).any (·.1) = false := by rfl) : XF X (.Call (.Name x p) [e] [] pos) (mFListX me) := by
  obtain ⟨t, pe, s⟩ := ha
  refine ⟨_, pe_callTy (call_list_dX hc) hg hm hv (pa_cons pe pa_nil he) hn hdb he hpl, ?_⟩
  intro σ F μ H env st so st' Q w en h k
  unfold mFListX at h
  split at h
  · rename_i n st1 e1
    split at h
    · rename_i kvs e3
      cases h
      refine s σ F μ H env st _ _ _ w en e1 fun v F1 μ1 H1 w1 s1 r1 => ?_
      obtain ⟨ad, rfl, hm⟩ := r1
      obtain ⟨qs, h1, h2⟩ := xread w1 e3 hm
      exact ⟨ad, qs, rfl, h1, fun p hp => k p (.lst (qs.map fun (q : L2.MK × V × V) => q.2.1)) F1 μ1 _ (w1.lay0 hp) (s1.trans (Stp.lay0 hp)) (fresh_of s1 hp) (w1.Fnone hp) (w1.out hp) upd_same (repX_ks h2)⟩
    · cases h
  · cases h
/-- isinstance(x, T) -/
def f2IsiX (T : String) : Env → Store → R → R → Option (R × Store) := fun env st x y => match f2Isi T env st x y with
  | some z => some z
  | none => match y, x with
    | .d (.ty n), .d (.ref m) => if n = T ∧ (asX st m).isSome then (match kitB "dict" T with | some b => some (.d (.bl b), st) | none => none) else none
    | _, _ => none
theorem xisiX {b' : Expr} {mb' : ME} {x : Str} {p : Pos} {T : String} (hg : Gl X x) (hm : X.mg x = none) (hv : bootBuiltins x = some (.builtin "isinstance")) (ha : XE X e me) (hb : XE X b' mb') (hn : x ≠ "__name__" := by decide)
    (hdb : (x == ("__debug__" : Str)) = false := by decide) (he : starEach [e, b'] X.env = (false, eval e X.env) :: starEach [b'] X.env := by rfl) (he2 : starEach (b' :: []) X.env = (false, eval b' X.env) :: starEach [] X.env := by rfl) (hpl : (backTo pos (starEach [b'] X.env)).any (·.1) = false := by rfl) :
    XE X (.Call (.Name x p) [e, b'] [] pos) (m2 me mb' (f2IsiX T)) := by
  refine xcallB2 (CallR.or call_isi call_isiX) ?_ hg hm hv ha hb hn hdb he he2 hpl
  intro σ F μ H env st x y v u z st' Q w en rx ry h k
  unfold f2IsiX at h
  split at h
  · rename_i z' e0
    cases h
    refine .inl ?_
    unfold f2Isi at e0
    split at e0
    · rename_i n
      split at e0
      · rename_i hnT
        subst hnT
        split at e0
        · rename_i S e1
          split at e0
          · rename_i b e2
            cases e0
            cases ry
            exact ⟨v, .ty n, _, _, b, rfl, .ty n, tyOf_ok w en rx e1, kit_ty e2, k _ F μ H w Stp.refl rfl⟩
          · cases e0
        · cases e0
      · cases e0
    · cases e0
  · split at h
    · rename_i n m hno
      split at h
      · rename_i hc
        obtain ⟨rfl, hx⟩ := hc
        obtain ⟨kvs, hkv⟩ := Option.isSome_iff_exists.mp hx
        split at h
        · rename_i b e2
          cases h
          cases ry
          obtain ⟨ad, rfl, hm'⟩ := rx
          obtain ⟨qs, h1, h2⟩ := xread w hkv hm'
          exact .inr ⟨ad, qs, n, b, rfl, h1, kit_ty e2, k _ F μ H w Stp.refl rfl⟩
        · cases h
      · cases h
    · cases h
end
/-! ### locking -/
section
variable {K : KW} {F F2 : Hp} {μ μ2 : List Addr} {H H2 : Hp} {env : Env} {σ : L2.St} {st st2 : Store} {n : Nat} {a : Addr} {kvs : List (D × D)} {qs : XVs} {od : Obj}
theorem lockX_wd (w : Wd K F μ H st) (hn : st[n]? = some (.dX n kvs)) (hm : μ[n]? = some a) (rk : RepX K F μ kvs qs) : Wd K F μ (upd H a (.frz od (MixO K.w a qs))) (st.set n (.dXF n kvs)) :=
  w.put (List.getElem?_eq_some_iff.mp hn).1 hm (so := .dXF n kvs) (u := .frz od (MixO K.w a qs)) ⟨a, qs, hm, rfl, rk⟩
theorem lockX_en (en : EnvOk K F μ H env σ) (ha : a ∈ μ) (u : HO) : EnvOk K F μ (upd H a u) env σ := by
  refine ⟨en.len, fun i s v e1 e2 => ?_, en.sep⟩
  have h := en.slot i s v e1 e2
  cases s with
  | none => trivial
  | val d => exact h
  | own so =>
    obtain ⟨x, u', h1, h2, h3, h4, h5⟩ := h
    exact ⟨x, u', h1, h2, h3, by rw [upd_ne (fun z : x = a => h3 (by rw [z]; exact ha))]; exact h4, h5⟩
theorem stp_unlockX (hm : μ[n]? = some a) (hH : H a = some (MixO K.w a qs)) (s : Stp F μ (upd H a (.frz od (MixO K.w a qs))) F2 μ2 H2) : Stp F μ H F2 μ2 (upd H2 a (MixO K.w a qs)) := by
  have ham : a ∈ μ := List.mem_of_getElem? hm
  have old : ∀ b, upd H a (.frz od (MixO K.w a qs)) b = none → H b = none := fun b e => by
    by_cases q : b = a
    · subst q; rw [upd_same] at e; cases e
    · rw [upd_ne q] at e; exact e
  obtain ⟨ex, e1, e2⟩ := s.fm
  refine ⟨s.fF, ⟨ex, e1, fun b hb => old b (e2 b hb)⟩, fun b o e hb => ?_, fun b hb => ?_, fun b hb => ?_, fun b ob u e => ?_⟩
  · have q : b ≠ a := fun q => hb (q ▸ ham)
    rw [upd_ne q]
    exact s.frame b o (by rw [upd_ne q]; exact e) hb
  · by_cases q : b = a
    · subst q; rw [upd_same]; simp
    · rw [upd_ne q]
      exact s.live b (by rw [upd_ne q]; exact hb)
  · rcases s.newF b hb with z | z
    · exact .inl z
    · exact .inr (old b z)
  · have q : b ≠ a := fun q => by subst q; rw [hH] at e; cases e
    rw [upd_ne q]
    exact s.frz b ob u (by rw [upd_ne q]; exact e)
theorem unlockX_wd (w : Wd K F2 μ2 H2 st2) (hst : st2[n]? = some (.dXF n kvs)) (hm : μ2[n]? = some a) (rk : RepX K F2 μ2 kvs qs) : Wd K F2 μ2 (upd H2 a (MixO K.w a qs)) (st2.set n (.dX n kvs)) :=
  w.put (List.getElem?_eq_some_iff.mp hst).1 hm (so := .dX n kvs) (u := MixO K.w a qs) ⟨a, qs, hm, rfl, rk⟩
end
def refAt (env : Env) (i : Nat) : Option Nat := match env[i]? with
  | some (.val (.ref n)) => some n
  | _ => none
def mLockE (i : Nat) (f : ME) : ME := fun env st => match refAt env i with
  | some n => match isX st n with
    | some kvs => match f env (st.set n (.dXF n kvs)) with
      | some (.d d, st2) => match isXF st2 n with
        | some ks => if ks = kvs then some (.d d, st2.set n (.dX n kvs)) else none
        | none => none
      | _ => none
    | none => none
  | none => none
def mLockF (i : Nat) (f : MF) : MF := fun env st => match refAt env i with
  | some n => match isX st n with
    | some kvs => match f env (st.set n (.dXF n kvs)) with
      | some (so, st2) => match isXF st2 n with
        | some ks => if ks = kvs then some (so, st2.set n (.dX n kvs)) else none
        | none => none
      | none => none
    | none => none
  | none => none
theorem simLockE {K : KW} {i : Nat} {t : TE} {f : ME} (h : SimE K t f) : SimE K (tLockE t) (mLockE i f) := by
  intro σ F μ H env st r st' Q w en e k
  unfold mLockE at e
  split at e
  · rename_i n e0
    split at e
    · rename_i kvs e1
      split at e
      · rename_i d st2 e2
        split at e
        · rename_i ks e3
          split at e
          · rename_i e4
            subst e4
            cases e
            have hst := isX_st e1
            have hst2 := isXF_st e3
            have hlt : n < μ.length := by rw [w.len]; exact (List.getElem?_eq_some_iff.mp hst).1
            have hm : μ[n]? = some μ[n] := List.getElem?_eq_getElem hlt
            generalize μ[n] = a at hm
            obtain ⟨qs, hH, rk⟩ := xobj w hst hm
            refine ⟨a, _, hH, trivial, fun od => ?_⟩
            refine h σ F μ _ env _ _ _ _ (lockX_wd w hst hm rk) (lockX_en en (List.mem_of_getElem? hm) _) e2 fun v F1 μ1 H1 w1 s1 r1 => ?_
            exact ⟨s1.frz a od _ upd_same, k v F1 μ1 _ (unlockX_wd w1 hst2 (s1.pre n a hm) (RepX.mono s1.fF s1.pre _ _ rk)) (stp_unlockX hm hH s1) r1⟩
          · cases e
        · cases e
      · cases e
    · cases e
  · cases e
theorem simLockF {K : KW} {i : Nat} {t : TE} {f : MF} (h : SimF K t f) : SimF K (tLockE t) (mLockF i f) := by
  intro σ F μ H env st r st' Q w en e k
  unfold mLockF at e
  split at e
  · rename_i n e0
    split at e
    · rename_i kvs e1
      split at e
      · rename_i so st2 e2
        split at e
        · rename_i ks e3
          split at e
          · rename_i e4
            subst e4
            cases e
            have hst := isX_st e1
            have hst2 := isXF_st e3
            have hlt : n < μ.length := by rw [w.len]; exact (List.getElem?_eq_some_iff.mp hst).1
            have hm : μ[n]? = some μ[n] := List.getElem?_eq_getElem hlt
            generalize μ[n] = a at hm
            obtain ⟨qs, hH, rk⟩ := xobj w hst hm
            refine ⟨a, _, hH, trivial, fun od => ?_⟩
            refine h σ F μ _ env _ _ _ _ (lockX_wd w hst hm rk) (lockX_en en (List.mem_of_getElem? hm) _) e2 fun p u F1 μ1 H1 w1 s1 h0 f1 m1 h1 r1 => ?_
            have hpa : p ≠ a := fun z => m1 (by rw [z]; exact List.mem_of_getElem? (s1.pre n a hm))
            refine ⟨s1.frz a od _ upd_same, k p u F1 μ1 _ (unlockX_wd w1 hst2 (s1.pre n a hm) (RepX.mono s1.fF s1.pre _ _ rk)) (stp_unlockX hm hH s1) ?_ f1 m1 (by rw [upd_ne hpa]; exact h1) r1⟩
            rw [upd_ne hpa] at h0
            exact h0
          · cases e
        · cases e
      · cases e
    · cases e
  · cases e
/-! ### comprehensions over a locked dict -/
def mLcX (mi : ME) (j : Nat) (e : ME) (vs : List Nat) : MF := fun env st => match mi env st with
  | some (.d (.ref n), st1) => match isXF st1 n with
    | some kvs => match lcGo j mYes e (wipeE env vs) (fun st => decide (isXF st n = some kvs)) (kvs.map (·.1)) st1 [] with
      | some (acc, st2) => some (.lst acc, st2)
      | none => none
    | none => none
  | _ => none
theorem simLcX {K : KW} {ti : TE} {mi : ME} {j : Nat} {te : TE} {me : ME} {vs : List Nat} (hi : SimE K ti mi) (he : SimE K te me) (hj : j ∈ vs) : SimF K (tLc (iKeysX K.w ti) (gName j) tYes te vs) (mLcX mi j me vs) := by
  intro σ F μ H env st so st' Q w en e k
  unfold mLcX at e
  split at e
  · rename_i n st1 e1
    split at e
    · rename_i kvs e2
      split at e
      · rename_i acc st2 e3
        cases e
        refine hi σ F μ H env st _ st1 _ w en e1 fun v F1 μ1 H1 w1 s1 r1 => ?_
        obtain ⟨a, rfl, hm⟩ := r1
        obtain ⟨od, qs, hH1, rk⟩ := xobjF w1 (isXF_st e2) hm
        refine ⟨a, od, qs, rfl, hH1, fun D hD => ?_⟩
        have hD0 : H D = none := fresh_of s1 hD
        have hl : (kvs.map (·.1)).length = qs.length := by rw [List.length_map]; exact repX_len rk
        have hDa : a ≠ D := fun z => by rw [z, hD] at hH1; cases hH1
        refine lc_by (n := (kvs.map (·.1)).length) (fun i Hc => i ≤ (kvs.map (·.1)).length ∧ ∃ F2 μ2 stc ac av, Wd K F2 μ2 Hc stc ∧ Stp F μ H F2 μ2 Hc ∧ Stp F1 μ1 H1 F2 μ2 Hc ∧ F2 D = none ∧ D ∉ μ2 ∧ Hc D = some (.lst av) ∧ Reps K F2 μ2 ac av ∧
          lcGo j mYes me (wipeE env vs) (fun st => decide (isXF st n = some kvs)) ((kvs.map (·.1)).drop i) stc ac = some (acc, st')) ?_ ?_ ?_
        · refine ⟨Nat.zero_le _, F1, μ1, st1, [], [], w1.lay0 hD, s1.trans (Stp.lay0 hD), Stp.lay0 hD, w1.Fnone hD, w1.out hD, upd_same, trivial, ?_⟩
          simpa using e3
        · rintro i Hc hin ⟨_, F2, μ2, stc, ac, av, w2, s2, s2', f2, m2', hDc, r2, go⟩
          rw [List.drop_eq_getElem_cons hin] at go
          unfold lcGo at go
          split at go
          · rename_i hck
            have en2 := en.step s2
            refine ⟨⟨s2'.frz a od _ hH1, by omega⟩, fun x H' y => ?_⟩
            obtain ⟨eH, kk, vv, ex⟩ := y
            subst eH
            have rr := repX_ks (RepX.mono s2'.fF s2'.pre _ _ rk)
            have ex' : (qs.map fun q => q.2.1)[i]? = some x := by rw [List.getElem?_map, ex]; rfl
            obtain ⟨d, ed, rd⟩ := rr.get' ex'
            have ed' : (kvs.map (·.1))[i] = d := by
              have := List.getElem?_eq_getElem hin
              rw [this] at ed; exact Option.some.inj ed
            rw [ed'] at go
            show L2.wipe ((L2.wipe σ vs).set j (some x)) vs = L2.wipe σ vs ∧ _
            refine ⟨wipe_set hj _, ?_⟩
            have enb : EnvOk K F2 μ2 H' ((wipeE env vs).set j (.val d)) ((L2.wipe σ vs).set j (some x)) := (en2.wipe vs).val j rd
            have e4 : mYes ((wipeE env vs).set j (.val d)) stc = some (true, stc) := rfl
            rw [e4] at go
            rw [tYes]
            rw [if_pos rfl]
            dsimp only at go
            split at go
            · rename_i d2 st4 e5
              split at go
              · rename_i hz
                refine he _ F2 μ2 H' _ stc _ st4 _ w2 enb e5 fun v F4 μ4 H4 w4 s4 r4 => ?_
                have o4 := s4.out f2 m2' (by rw [hDc]; simp)
                have hD4 := s4.frame D _ hDc m2'
                refine ⟨av, hD4, ?_, hin, F4, μ4, st4, ac ++ [d2], av ++ [v], w4.poke o4.1 o4.2, (s2.trans s4).poke hD0, (s2'.trans s4).poke hD, o4.1, o4.2, upd_same, (s4.reps r2).append ⟨r4, trivial⟩, go⟩
                rw [← r2.length, sizeLine_eq]; omega
              · cases go
            · cases go
          · cases go
        · rintro Hc ⟨_, F2, μ2, stc, ac, av, w2, s2, s2', f2, m2', hDc, r2, go⟩
          rw [List.drop_length] at go
          unfold lcGo at go
          split at go
          · cases go
            exact ⟨⟨s2'.frz a od _ hH1, by omega⟩, k D _ F2 μ2 Hc w2 s2 hD0 f2 m2' hDc r2⟩
          · cases go
      · cases e
    · cases e
  · cases e
def dcGoX (j : Nat) (ek ev : ME) (env : Env) (chk : Store → Bool) : List D → Store → List (D × D) → Option (List (D × D) × Store)
  | [], st, acc => if chk st then some (acc, st) else none
  | x :: xs, st, acc => if chk st then
      match ek (env.set j (.val x)) st with
      | some (.d dk, st2) => if (mkOf dk).isSome then match ev (env.set j (.val x)) st2 with
          | some (.d d, st3) => if acc.length < 16000000 then dcGoX j ek ev env chk xs st3 (putX acc dk d) else none
          | _ => none
        else none
      | _ => none
    else none
def mDcX (mi : ME) (j : Nat) (ek ev : ME) (vs : List Nat) : ME := fun env st => match mi env st with
  | some (.d (.ref n), st1) => match isXF st1 n with
    | some kvs => match dcGoX j ek ev (wipeE env vs) (fun st => decide (isXF st n = some kvs)) (kvs.map (·.1)) st1 [] with
      | some (acc, st2) => some (.d (.ref st2.length), st2 ++ [.dX st2.length acc])
      | none => none
    | none => none
  | _ => none
theorem dcX_by {o0 : Addr → HO} {Ks : KSt} {J : It} {n : Nat} {g : TG} {tt : TT} {tk tv : TE} {vs : List Nat} {σ : L2.St} {H1 : Hp} {D : Addr} {Qd : Hp → Prop} (Pv : Nat → Hp → Prop) (h0 : Pv 0 (upd H1 D (o0 D)))
    (hs : ∀ i H, i < n → Pv i H → J.go i H ∧ ∀ x H', J.yld i H x H' → g x (L2.wipe σ vs) H' fun σ2 H2 => L2.wipe σ2 vs = L2.wipe σ vs ∧ tt σ2 H2 fun b H3 =>
      if b = true then tk σ2 H3 fun y H4 => tv σ2 H4 fun z H5 => Ks D y z H5 (Pv (i + 1)) else Pv (i + 1) H3) (hd : ∀ H, Pv n H → J.stop n H ∧ Qd H) :
    ∃ W : Nat → Nat → Hp → Prop, (∃ m, W 0 m (upd H1 D (o0 D))) ∧ ∀ i m H, W i m H →
      (J.stop i H ∧ Qd H) ∨ (J.go i H ∧ ∃ Nx : Hp → Prop, (∀ H', Nx H' → ∃ m', m' < m ∧ W (i + 1) m' H') ∧ ∀ x H', J.yld i H x H' → g x (L2.wipe σ vs) H' fun σ2 H2 => L2.wipe σ2 vs = L2.wipe σ vs ∧ tt σ2 H2 fun b H3 =>
        if b = true then tk σ2 H3 fun y H4 => tv σ2 H4 fun z H5 => Ks D y z H5 Nx else Nx H3) := by
  refine ⟨fun i m H => m = n - i ∧ i ≤ n ∧ Pv i H, ⟨n, by simp, Nat.zero_le _, h0⟩, ?_⟩
  rintro i m H ⟨rfl, hi, p⟩
  by_cases hlt : i < n
  · obtain ⟨h1, h2⟩ := hs i H hlt p
    exact .inr ⟨h1, Pv (i + 1), fun H' p' => ⟨n - (i + 1), by omega, rfl, hlt, p'⟩, h2⟩
  · have e : i = n := by omega
    subst e
    exact .inl (hd H p)
theorem simDcX {K : KW} {ti : TE} {mi : ME} {j : Nat} {tk tv : TE} {mk mv : ME} {vs : List Nat} (hi : SimE K ti mi) (hk : SimE K tk mk) (hv : SimE K tv mv) (hj : j ∈ vs) :
    SimE K (tDcX (fun D => MixO K.w D []) (stX K.f K.w) (iKeysX K.w ti) (gName j) tYes tk tv vs) (mDcX mi j mk mv vs) := by
  intro σ F μ H env st so st' Q w en e k
  unfold mDcX at e
  split at e
  · rename_i n st1 e1
    split at e
    · rename_i kvs e2
      split at e
      · rename_i acc st2 e3
        cases e
        refine hi σ F μ H env st _ st1 _ w en e1 fun v F1 μ1 H1 w1 s1 r1 => ?_
        obtain ⟨a, rfl, hm⟩ := r1
        obtain ⟨od, qs, hH1, rk⟩ := xobjF w1 (isXF_st e2) hm
        refine ⟨a, od, qs, rfl, hH1, fun D hD => ?_⟩
        have hD0 : H D = none := fresh_of s1 hD
        have hl : (kvs.map (·.1)).length = qs.length := by rw [List.length_map]; exact repX_len rk
        refine dcX_by (o0 := fun D => MixO K.w D []) (Ks := stX K.f K.w) (J := ItX K.w a od qs) (g := gName j) (tt := tYes) (tk := tk) (tv := tv) (vs := vs) (σ := σ) (H1 := H1) (D := D) (Qd := fun H' => Q (V.ref D) H') (n := (kvs.map (·.1)).length) (fun i Hc => i ≤ (kvs.map (·.1)).length ∧ ∃ F2 μ2 stc ac av, Wd K F2 μ2 Hc stc ∧ Stp F μ H F2 μ2 Hc ∧ Stp F1 μ1 H1 F2 μ2 Hc ∧ F2 D = none ∧ D ∉ μ2 ∧ Hc D = some (MixO K.w D av) ∧ RepX K F2 μ2 ac av ∧
          dcGoX j mk mv (wipeE env vs) (fun st => decide (isXF st n = some kvs)) ((kvs.map (·.1)).drop i) stc ac = some (acc, st2)) ?_ ?_ ?_
        · refine ⟨Nat.zero_le _, F1, μ1, st1, [], [], w1.lay0 hD, s1.trans (Stp.lay0 hD), Stp.lay0 hD, w1.Fnone hD, w1.out hD, upd_same, trivial, ?_⟩
          simpa using e3
        · rintro i Hc hin ⟨_, F2, μ2, stc, ac, av, w2, s2, s2', f2, m2', hDc, r2, go⟩
          rw [List.drop_eq_getElem_cons hin] at go
          unfold dcGoX at go
          split at go
          · rename_i hck
            have en2 := en.step s2
            refine ⟨⟨s2'.frz a od _ hH1, by omega⟩, fun x H' y => ?_⟩
            obtain ⟨eH, kk, vv, ex⟩ := y
            subst eH
            have rr := repX_ks (RepX.mono s2'.fF s2'.pre _ _ rk)
            have ex' : (qs.map fun q => q.2.1)[i]? = some x := by rw [List.getElem?_map, ex]; rfl
            obtain ⟨d, ed, rd⟩ := rr.get' ex'
            have ed' : (kvs.map (·.1))[i] = d := by
              have := List.getElem?_eq_getElem hin
              rw [this] at ed; exact Option.some.inj ed
            rw [ed'] at go
            show L2.wipe ((L2.wipe σ vs).set j (some x)) vs = L2.wipe σ vs ∧ _
            refine ⟨wipe_set hj _, ?_⟩
            have enb : EnvOk K F2 μ2 H' ((wipeE env vs).set j (.val d)) ((L2.wipe σ vs).set j (some x)) := (en2.wipe vs).val j rd
            rw [tYes]
            rw [if_pos rfl]
            split at go
            · rename_i dk st4 e5
              split at go
              · rename_i e6
                obtain ⟨kq, hkq⟩ := Option.isSome_iff_exists.mp e6
                split at go
                · rename_i d2 st5 e7
                  split at go
                  · rename_i hz
                    refine hk _ F2 μ2 H' _ stc _ st4 _ w2 enb e5 fun v F4 μ4 H4 w4 s4 r4 => ?_
                    refine hv _ F4 μ4 H4 _ st4 _ st5 _ w4 (enb.step s4) e7 fun v5 F5 μ5 H5 w5 s5 r5 => ?_
                    have o4 := s4.out f2 m2' (by rw [hDc]; simp)
                    have hD4 := s4.frame D _ hDc m2'
                    have o5 := s5.out o4.1 o4.2 (by rw [hD4]; simp)
                    have hD5 := s5.frame D _ hD4 o4.2
                    have s25 := s4.trans s5
                    have rkv : RepX K F5 μ5 ac av := RepX.mono s25.fF s25.pre _ _ r2
                    have r4' := s5.rep r4
                    refine ⟨av, kq, hD5, repX_keys w5.sub rkv, keyAt_rep hkq r4' w5.sub, ?_, hin, F5, μ5, st5, putX ac dk d2, mPut av kq v v5, w5.poke o5.1 o5.2, (s2.trans s25).poke hD0, (s2'.trans s25).poke hD, o5.1, o5.2, upd_same, repX_put hkq r4' r5 rkv, go⟩
                    rw [← repX_len r2, sizeLine_eq]; omega
                  · cases go
                · cases go
              · cases go
            · cases go
          · cases go
        · rintro Hc ⟨_, F2, μ2, stc, ac, av, w2, s2, s2', f2, m2', hDc, r2, go⟩
          rw [List.drop_length] at go
          unfold dcGoX at go
          split at go
          · cases go
            refine ⟨⟨s2'.frz a od _ hH1, by omega⟩, k (.ref D) F2 (μ2 ++ [D]) Hc (w2.allocX hDc f2 m2' r2) (s2.alloc hD0) ⟨D, rfl, ?_⟩⟩
            rw [← w2.len]; simp
          · cases go
      · cases e
    · cases e
  · cases e
section
variable {X : Cx}
theorem xlcX {i : Nat} {elt tg iter : Expr} {scope : Scope} {own : List (Str × Nat)} {pos : Pos} {mi : ME} {j : Nat} {me : ME} (hc : X.calm = true) (hN : X.N.Nodup) (hi : XE X iter mi) (ok : BlkOk X.N X.env.scope scope own)
    (hg : ∀ (s : Shared) (H : Hp) (C : Addr) (cl : List (Str × Addr)) (fp : List Addr), PG (X.blk s H scope (compEnvC scope cl C X.env) fp) tg (gName j))
    (he : ∀ (s : Shared) (H : Hp) (C : Addr) (cl : List (Str × Addr)) (fp : List Addr), XE (X.blk s H scope (compEnvC scope cl C X.env) fp) elt me) (hj : j ∈ own.map (·.2) := by decide) (hs : ∀ x, foldedSetIterable iter X.env x = pure x := by intro _; rfl) :
    XF X (.ListComp elt [⟨tg, iter, [], 0⟩] scope pos) (mLockF i (mLcX mi j me (own.map (·.2)))) := by
  obtain ⟨ti, p, s⟩ := hi
  exact ⟨_, pe_lock (pe_lc hc hN (pi_keysX p) ok hg (fun _ _ _ _ _ => pts_nil) (fun s H C cl fp => (he s H C cl fp).pe) hs), simLockF (simLcX (K := X.kw) s simOfM hj)⟩
theorem xdcX {i : Nat} {kx vx tg iter : Expr} {scope : Scope} {own : List (Str × Nat)} {pos : Pos} {mi : ME} {j : Nat} {mk mv : ME} (hc : X.calm = true) (hu : X.A.units < cLine) (hN : X.N.Nodup) (hi : XE X iter mi) (ok : BlkOk X.N X.env.scope scope own)
    (hg : ∀ (s : Shared) (H : Hp) (C : Addr) (cl : List (Str × Addr)) (fp : List Addr), PG (X.blk s H scope (compEnvC scope cl C X.env) fp) tg (gName j))
    (hk : ∀ (s : Shared) (H : Hp) (C : Addr) (cl : List (Str × Addr)) (fp : List Addr), XE (X.blk s H scope (compEnvC scope cl C X.env) fp) kx mk)
    (he : ∀ (s : Shared) (H : Hp) (C : Addr) (cl : List (Str × Addr)) (fp : List Addr), XE (X.blk s H scope (compEnvC scope cl C X.env) fp) vx mv) (hj : j ∈ own.map (·.2) := by decide) (hs : ∀ x, foldedSetIterable iter X.env x = pure x := by intro _; rfl) :
    XE X (.DictComp kx vx [⟨tg, iter, [], 0⟩] scope pos) (mLockE i (mDcX mi j mk mv (own.map (·.2)))) := by
  obtain ⟨ti, p, s⟩ := hi
  exact ⟨_, pe_lock (pe_dcX (dkindX hu) hc hN (pi_keysX p) ok hg (fun _ _ _ _ _ => pts_nil) (fun s H C cl fp => (hk s H C cl fp).pe) (fun s H C cl fp => (he s H C cl fp).pe) hs), simLockE (simDcX (K := X.kw) s simOfM simOfM hj)⟩
end
end Gx

set_option maxHeartbeats 2000000
namespace Gx
open PySem L2
/-! evaluating mirrors -/
section
variable {env : Env} {st st1 st2 st3 : Store} {a b c : ME} {x y : R} {d e : D}
@[simp] theorem ev_mC : mC d env st = some (.d d, st) := (rfl)
theorem ev_m2 {f} (h1 : a env st = some (x, st1)) (h2 : b env st1 = some (y, st2)) : m2 a b f env st = f env st2 x y := by
  unfold m2; rw [h1]; dsimp only; rw [h2]
theorem ev_m1 {f} (h1 : a env st = some (x, st1)) : m1 a f env st = f env st1 x := by
  unfold m1; rw [h1]
@[simp] theorem ev_nil : mNil env st = some ([], st) := (rfl)
@[simp] theorem ev_skip : mSkip env st = some (.nx, env, st) := (rfl)
@[simp] theorem ev_yes : mYes env st = some (true, st) := (rfl)
@[simp] theorem ev_nop : mNoPart env st = some (none, st) := (rfl)
end
/-- ints as data -/
def dI (xs : List Int) : List D := xs.map D.int
@[simp] theorem dI_length (xs : List Int) : (dI xs).length = xs.length := by simp [dI]
theorem dI_get {xs : List Int} {i : Nat} (h : i < xs.length) : (dI xs)[i]? = some (.int xs[i]) := by simp [dI, h]
theorem atI_ints {xs : List Int} {i : Nat} (h : i < xs.length) : atI (dI xs) (i : Int) = some (.int xs[i]) := atI_nat (dI_get h)
theorem lcGo_map {j : Nat} {e : ME} {env : Env} {chk : Store → Bool} {st : Store} (hc : chk st = true) (f : D → D) : ∀ (xs : List D) (acc : List D), acc.length + xs.length ≤ 16000000 → (∀ x ∈ xs, e (env.set j (.val x)) st = some (.d (f x), st)) →
    lcGo j mYes e env chk xs st acc = some (acc ++ xs.map f, st)
  | [], acc, _, _ => by simp [lcGo, hc]
  | x :: xs, acc, hl, h => by
    unfold lcGo
    rw [if_pos hc]
    simp only [ev_yes]
    rw [h x (by simp)]
    dsimp only
    rw [if_pos (by simp at hl; omega), lcGo_map hc f xs (acc ++ [f x]) (by simp at hl ⊢; omega) (fun y hy => h y (by simp [hy]))]
    simp
theorem lcGo_filter {j : Nat} {t : MT} {e : ME} {env : Env} {chk : Store → Bool} {st : Store} (hc : chk st = true) (p : D → Bool) (f : D → D) : ∀ (xs : List D) (acc : List D), acc.length + xs.length ≤ 16000000 → (∀ x ∈ xs, t (env.set j (.val x)) st = some (p x, st)) → (∀ x ∈ xs, p x = true → e (env.set j (.val x)) st = some (.d (f x), st)) →
    lcGo j t e env chk xs st acc = some (acc ++ (xs.filter p).map f, st)
  | [], acc, _, _, _ => by simp [lcGo, hc]
  | x :: xs, acc, hl, ht, h => by
    unfold lcGo
    rw [if_pos hc, ht x (by simp)]
    cases hp : p x with
    | true =>
      dsimp only
      rw [h x (by simp) hp]
      dsimp only
      rw [if_pos (by simp at hl; omega), lcGo_filter hc p f xs (acc ++ [f x]) (by simp at hl ⊢; omega) (fun y hy => ht y (by simp [hy])) (fun y hy => h y (by simp [hy]))]
      simp [hp]
    | false =>
      dsimp only
      rw [lcGo_filter hc p f xs acc (by simp at hl ⊢; omega) (fun y hy => ht y (by simp [hy])) (fun y hy => h y (by simp [hy]))]
      simp [hp]
/-- [e for j in range(n)] -/
theorem lc_rng {m : ME} {j : Nat} {e : ME} {vs : List Nat} {env : Env} {st st1 : Store} {n : Nat} (f : Nat → D) (hm : m env st = some (.d (.int n), st1)) (hn : n ≤ 1000000) (h : ∀ k : Nat, k < n → e ((wipeE env vs).set j (.val (.int k))) st1 = some (.d (f k), st1)) :
    mLc (mRng1 m) j mYes e vs env st = some (.lst ((List.range n).map f), st1) := by
  have h1 : mRng1 m env st = some (.rng 0 n, st1) := by
    unfold mRng1; rw [hm]; dsimp only
    rw [if_pos (by unfold inR; exact decide_eq_true (by omega))]
    simp
  unfold mLc
  rw [h1]
  dsimp only [srcItems]
  rw [lcGo_map (by simp) (fun x => match x with | .int i => f i.toNat | _ => .non) _ [] (by simp [rngItems]; omega) (fun x hx => ?_)]
  · simp [rngItems]
  · obtain ⟨k, hk, rfl⟩ := List.mem_map.mp hx
    simp only [Int.zero_add]
    rw [h k (List.mem_range.mp hk)]
    simp
theorem lc_rngIf {m : ME} {j : Nat} {t : MT} {e : ME} {vs : List Nat} {env : Env} {st st1 : Store} {n : Nat} (p : Nat → Bool) (f : Nat → D) (hm : m env st = some (.d (.int n), st1)) (hn : n ≤ 1000000) (ht : ∀ k : Nat, k < n → t ((wipeE env vs).set j (.val (.int k))) st1 = some (p k, st1)) (h : ∀ k : Nat, k < n → p k = true → e ((wipeE env vs).set j (.val (.int k))) st1 = some (.d (f k), st1)) :
    mLc (mRng1 m) j t e vs env st = some (.lst (((List.range n).filter p).map f), st1) := by
  have h1 : mRng1 m env st = some (.rng 0 n, st1) := by
    unfold mRng1; rw [hm]; dsimp only
    rw [if_pos (by unfold inR; exact decide_eq_true (by omega))]
    simp
  unfold mLc
  rw [h1]
  dsimp only [srcItems]
  rw [lcGo_filter (by simp) (fun x => match x with | .int i => p i.toNat | _ => false) (fun x => match x with | .int i => f i.toNat | _ => .non) _ [] (by simp [rngItems]; omega) (fun x hx => ?_) (fun x hx hp => ?_)]
  · simp [rngItems, List.filter_map, Function.comp_def]
  · obtain ⟨k, hk, rfl⟩ := List.mem_map.mp hx
    simp only [Int.zero_add]
    rw [ht k (List.mem_range.mp hk)]
    simp
  · obtain ⟨k, hk, rfl⟩ := List.mem_map.mp hx
    simp only [Int.zero_add] at hp ⊢
    rw [h k (List.mem_range.mp hk) (by simpa using hp)]
    simp
/-- for: the state by an invariant; no turn leaves the loop -/
theorem forGo_inv {g : MG} {body : MS} {chk : Env → Store → Bool} (I : Nat → Env → Store → Prop) : ∀ (xs : List D) (i0 : Nat) (env : Env) (st : Store), I i0 env st → (∀ i env st, I i env st → chk env st = true) →
    (∀ (i : Nat) (hi : i < xs.length) env st, I (i0 + i) env st → ∃ env1, g xs[i] env = some env1 ∧ ∃ f env2 st2, body env1 st = some (f, env2, st2) ∧ (f = .nx ∨ f = .ct) ∧ I (i0 + i + 1) env2 st2) →
    ∃ env' st', forGo g body chk xs env st = some (.nx, env', st') ∧ I (i0 + xs.length) env' st'
  | [], i0, env, st, h, hc, _ => ⟨env, st, by unfold forGo; rw [if_pos (hc _ _ _ h)], h⟩
  | x :: xs, i0, env, st, h, hc, hs => by
    obtain ⟨env1, h1, f, env2, st2, h2, h3, h4⟩ := hs 0 (by simp) env st h
    obtain ⟨env', st', h5, h6⟩ := forGo_inv I xs (i0 + 1) env2 st2 h4 hc (fun i hi e s q => by
      have := hs (i + 1) (by simp; omega) e s (by rw [show i0 + (i + 1) = i0 + 1 + i by omega]; exact q)
      rw [show i0 + (i + 1) + 1 = i0 + 1 + i + 1 by omega] at this
      exact this)
    refine ⟨env', st', ?_, by rw [show i0 + (x :: xs).length = i0 + 1 + xs.length by simp; omega]; exact h6⟩
    unfold forGo
    rw [if_pos (hc _ _ _ h)]
    have h1' : g x env = some env1 := h1
    rw [h1']
    dsimp only
    rw [h2]
    rcases h3 with rfl | rfl <;> exact h5
theorem for_rng {m : ME} {g : MG} {body : MS} {env : Env} {st st1 : Store} {n : Nat} (I : Nat → Env → Store → Prop) (hm : m env st = some (.d (.int n), st1)) (hn : n ≤ 1000000) (h0 : I 0 env st1)
    (hs : ∀ k env st, k < n → I k env st → ∃ env1, g (.int (k : Nat)) env = some env1 ∧ ∃ f env2 st2, body env1 st = some (f, env2, st2) ∧ (f = .nx ∨ f = .ct) ∧ I (k + 1) env2 st2) :
    ∃ env' st', mFor (mRng1 m) g body env st = some (.nx, env', st') ∧ I n env' st' := by
  have h1 : mRng1 m env st = some (.rng 0 n, st1) := by
    unfold mRng1; rw [hm]; dsimp only
    rw [if_pos (by unfold inR; exact decide_eq_true (by omega))]
    simp
  unfold mFor
  rw [h1]
  dsimp only
  rw [if_pos (show isData _ = true from rfl)]
  dsimp only [srcItems]
  have hl : (rngItems 0 n).length = n := by simp [rngItems]
  obtain ⟨env', st', h2, h3⟩ := forGo_inv (g := g) (body := body) (chk := fun env st => decide (some (rngItems 0 n) = some (rngItems 0 n))) I (rngItems 0 n) 0 env st1 h0 (fun _ _ _ _ => by simp) (fun i hi e s q => by
    rw [hl] at hi
    have := hs i e s hi (by simpa using q)
    simpa [rngItems] using this)
  rw [hl, Nat.zero_add] at h3
  exact ⟨env', st', h2, h3⟩
theorem for_rng2 {ma mb : ME} {g : MG} {body : MS} {env : Env} {st st1 st2 : Store} {lo hi : Int} (I : Nat → Env → Store → Prop) (hm : ma env st = some (.d (.int lo), st1)) (hm2 : mb env st1 = some (.d (.int hi), st2)) (hn : -1000000 ≤ lo ∧ lo ≤ 1000000 ∧ -1000000 ≤ hi ∧ hi ≤ 1000000) (h0 : I 0 env st2)
    (hs : ∀ (k : Nat) env st, lo + k < hi → I k env st → ∃ env1, g (.int (lo + k)) env = some env1 ∧ ∃ f env2 st2, body env1 st = some (f, env2, st2) ∧ (f = .nx ∨ f = .ct) ∧ I (k + 1) env2 st2) :
    ∃ env' st', mFor (mRng2 ma mb) g body env st = some (.nx, env', st') ∧ I (hi - lo).toNat env' st' := by
  have h1 : mRng2 ma mb env st = some (.rng lo (hi - lo).toNat, st2) := by
    unfold mRng2; rw [hm]; dsimp only; rw [hm2]; dsimp only
    rw [if_pos (by unfold inR; rw [decide_eq_true (by omega), decide_eq_true (by omega)]; rfl)]
  unfold mFor
  rw [h1]
  dsimp only
  rw [if_pos (show isData _ = true from rfl)]
  dsimp only [srcItems]
  have hl : (rngItems lo (hi - lo).toNat).length = (hi - lo).toNat := by simp [rngItems]
  obtain ⟨env', st', h2, h3⟩ := forGo_inv (g := g) (body := body) (chk := fun env st => decide (some (rngItems lo (hi - lo).toNat) = some (rngItems lo (hi - lo).toNat))) I (rngItems lo (hi - lo).toNat) 0 env st2 h0 (fun _ _ _ _ => by simp) (fun i hi' e s q => by
    rw [hl] at hi'
    have := hs i e s (by omega) (by simpa using q)
    simpa [rngItems] using this)
  rw [hl, Nat.zero_add] at h3
  exact ⟨env', st', h2, h3⟩
/-- for over data -/
theorem for_seq {m : ME} {g : MG} {body : MS} {env : Env} {st st1 : Store} {d : D} {xs : List D} (I : Nat → Env → Store → Prop) (hm : m env st = some (.d d, st1)) (hd : d = .lst xs ∨ d = .tup xs) (h0 : I 0 env st1)
    (hs : ∀ (k : Nat) (hk : k < xs.length) env st, I k env st → ∃ env1, g xs[k] env = some env1 ∧ ∃ f env2 st2, body env1 st = some (f, env2, st2) ∧ (f = .nx ∨ f = .ct) ∧ I (k + 1) env2 st2) :
    ∃ env' st', mFor (mSeq m) g body env st = some (.nx, env', st') ∧ I xs.length env' st' := by
  have hs' : ∀ env st, seqOf env st (.d d) = some xs := fun env st => by rcases hd with rfl | rfl <;> rfl
  have h1 : mSeq m env st = some (.seq (.d d), st1) := by
    unfold mSeq; rw [hm]; dsimp only; rw [hs']
  unfold mFor
  rw [h1]
  dsimp only
  rw [if_pos (show isData _ = true from rfl)]
  dsimp only [srcItems]
  rw [hs']
  dsimp only
  obtain ⟨env', st', h2, h3⟩ := forGo_inv (g := g) (body := body) (chk := fun env st => decide (seqOf env st (.d d) = some xs)) I xs 0 env st1 h0 (fun _ e s _ => by simp [hs']) (fun i hi e s q => by
    have := hs i hi e s (by simpa using q)
    simpa using this)
  rw [Nat.zero_add] at h3
  exact ⟨env', st', h2, h3⟩
/-- == of dI, tuples and lists of dI, bools -/
theorem toPs_ints (dr : Nat → Option PyData) : ∀ xs : List Int, toPs dr (dI xs) = some (xs.map .int)
  | [] => rfl
  | x :: xs => by
    have := toPs_ints dr xs
    simp only [dI] at this
    simp [dI, toPs, toP, this]
theorem eqvAll_ints : ∀ xs ys : List Int, PyData.eqvAll (xs.map .int) (ys.map .int) = decide (xs = ys)
  | [], [] => by simp [PyData.eqvAll]
  | [], _ :: _ => by simp [PyData.eqvAll]
  | _ :: _, [] => by simp [PyData.eqvAll]
  | x :: xs, y :: ys => by
    simp only [List.map_cons, PyData.eqvAll, PyData.eqv, eqvAll_ints xs ys]
    by_cases h : x = y <;> simp [h]
mutual
def okD : D → Bool
  | .non => true
  | .int _ => true
  | .str x => PyData.strOk x
  | .tup xs => okDs xs
  | .lst xs => okDs xs
  | _ => false
def okDs : List D → Bool
  | [] => true
  | x :: xs => okD x && okDs xs
end
mutual
def depD : D → Nat
  | .tup xs => depDs xs + 1
  | .lst xs => depDs xs + 1
  | _ => 0
def depDs : List D → Nat
  | [] => 0
  | x :: xs => max (depD x) (depDs xs)
end
mutual
theorem toP_okD (dr : Nat → Option PyData) : ∀ (x : D), okD x = true → ∃ p, toP dr x = some p ∧ p.canLay0 = true ∧ p.depth = depD x
  | .non, _ => ⟨_, rfl, rfl, rfl⟩
  | .int i, _ => ⟨_, rfl, rfl, rfl⟩
  | .str x, h => ⟨_, rfl, h, rfl⟩
  | .tup xs, h => by
    obtain ⟨ps, h1, h2, h3⟩ := toPs_okD dr xs h
    exact ⟨.tuple ps, by simp [toP, h1], h2, by simp [PyData.depth, depD, h3]⟩
  | .lst xs, h => by
    obtain ⟨ps, h1, h2, h3⟩ := toPs_okD dr xs h
    exact ⟨.list ps, by simp [toP, h1], h2, by simp [PyData.depth, depD, h3]⟩
  | .bl _, h => by simp [okD] at h
  | .ty _, h => by simp [okD] at h
  | .dct _ _, h => by simp [okD] at h
  | .dtt _ _, h => by simp [okD] at h
  | .ref _, h => by simp [okD] at h
  | .fn _, h => by simp [okD] at h
theorem toPs_okD (dr : Nat → Option PyData) : ∀ (xs : List D), okDs xs = true → ∃ ps, toPs dr xs = some ps ∧ PyData.canLayAll0 ps = true ∧ PyData.depthAll ps = depDs xs
  | [], _ => ⟨[], rfl, rfl, rfl⟩
  | x :: xs, h => by
    simp only [okDs, Bool.and_eq_true] at h
    obtain ⟨p, h1, h2, h3⟩ := toP_okD dr x h.1
    obtain ⟨ps, g1, g2, g3⟩ := toPs_okD dr xs h.2
    exact ⟨p :: ps, by simp [toPs, h1, g1], by simp [PyData.canLayAll0, h2, g2], by simp [PyData.depthAll, depDs, h3, g3]⟩
end
mutual
theorem eqv_okD (dr : Nat → Option PyData) : ∀ (x y : D) (p q : PyData), okD x = true → okD y = true → toP dr x = some p → toP dr y = some q → PyData.eqv p q = decide (x = y)
  | .non, y, p, q, hx, hy, h1, h2 => by
    simp only [toP] at h1; cases h1
    cases y <;> simp only [toP, Option.map_eq_some_iff, okD, Bool.false_eq_true] at h2 hy <;> (first | (obtain ⟨z, _, rfl⟩ := h2) | cases h2) <;> simp [PyData.eqv] <;> exact Bool.beq_eq_decide_eq _ _
  | .int i, y, p, q, hx, hy, h1, h2 => by
    simp only [toP] at h1; cases h1
    cases y <;> simp only [toP, Option.map_eq_some_iff, okD, Bool.false_eq_true] at h2 hy <;> (first | (obtain ⟨z, _, rfl⟩ := h2) | cases h2) <;> simp [PyData.eqv] <;> exact Bool.beq_eq_decide_eq _ _
  | .str x, y, p, q, hx, hy, h1, h2 => by
    simp only [toP] at h1; cases h1
    cases y <;> simp only [toP, Option.map_eq_some_iff, okD, Bool.false_eq_true] at h2 hy <;> (first | (obtain ⟨z, _, rfl⟩ := h2) | cases h2) <;> simp [PyData.eqv] <;> exact Bool.beq_eq_decide_eq _ _
  | .tup xs, y, p, q, hx, hy, h1, h2 => by
    simp only [toP, Option.map_eq_some_iff] at h1
    obtain ⟨ps, h1, rfl⟩ := h1
    cases y with
    | tup ys =>
      simp only [toP, Option.map_eq_some_iff] at h2
      obtain ⟨qs, h2, rfl⟩ := h2
      rw [PyData.eqv, eqv_okDs dr xs ys ps qs hx hy h1 h2]
      simp
    | lst ys =>
      simp only [toP, Option.map_eq_some_iff] at h2
      obtain ⟨qs, h2, rfl⟩ := h2
      simp [PyData.eqv]
    | _ => simp_all [okD, toP] <;> (subst h2; simp [PyData.eqv])
  | .lst xs, y, p, q, hx, hy, h1, h2 => by
    simp only [toP, Option.map_eq_some_iff] at h1
    obtain ⟨ps, h1, rfl⟩ := h1
    cases y with
    | lst ys =>
      simp only [toP, Option.map_eq_some_iff] at h2
      obtain ⟨qs, h2, rfl⟩ := h2
      rw [PyData.eqv, eqv_okDs dr xs ys ps qs hx hy h1 h2]
      simp
    | tup ys =>
      simp only [toP, Option.map_eq_some_iff] at h2
      obtain ⟨qs, h2, rfl⟩ := h2
      simp [PyData.eqv]
    | _ => simp_all [okD, toP] <;> (subst h2; simp [PyData.eqv])
  | .bl _, _, _, _, h, _, _, _ => by simp [okD] at h
  | .ty _, _, _, _, h, _, _, _ => by simp [okD] at h
  | .dct _ _, _, _, _, h, _, _, _ => by simp [okD] at h
  | .dtt _ _, _, _, _, h, _, _, _ => by simp [okD] at h
  | .ref _, _, _, _, h, _, _, _ => by simp [okD] at h
  | .fn _, _, _, _, h, _, _, _ => by simp [okD] at h
theorem eqv_okDs (dr : Nat → Option PyData) : ∀ (xs ys : List D) (ps qs : List PyData), okDs xs = true → okDs ys = true → toPs dr xs = some ps → toPs dr ys = some qs → PyData.eqvAll ps qs = decide (xs = ys)
  | [], [], ps, qs, _, _, h1, h2 => by
    simp only [toPs] at h1 h2; cases h1; cases h2; simp [PyData.eqvAll]
  | [], y :: ys, ps, qs, _, hy, h1, h2 => by
    obtain ⟨qs', g1, _⟩ := toPs_okD dr (y :: ys) hy
    simp only [toPs] at h1; cases h1
    simp only [toPs] at h2
    split at h2
    · rw [Option.map_eq_some_iff] at h2
      obtain ⟨z, _, rfl⟩ := h2
      simp [PyData.eqvAll]
    · cases h2
  | x :: xs, [], ps, qs, hx, _, h1, h2 => by
    simp only [toPs] at h2; cases h2
    simp only [toPs] at h1
    split at h1
    · rw [Option.map_eq_some_iff] at h1
      obtain ⟨z, _, rfl⟩ := h1
      simp [PyData.eqvAll]
    · cases h1
  | x :: xs, y :: ys, ps, qs, hx, hy, h1, h2 => by
    simp only [okDs, Bool.and_eq_true] at hx hy
    simp only [toPs] at h1 h2
    split at h1
    · rename_i p e1
      rw [Option.map_eq_some_iff] at h1
      obtain ⟨ps', e2, rfl⟩ := h1
      split at h2
      · rename_i q e3
        rw [Option.map_eq_some_iff] at h2
        obtain ⟨qs', e4, rfl⟩ := h2
        rw [PyData.eqvAll, eqv_okD dr x y p q hx.1 hy.1 e1 e3, eqv_okDs dr xs ys ps' qs' hx.2 hy.2 e2 e4]
        by_cases h : x = y <;> simp [h]
      · cases h2
    · cases h1
end
theorem ev_eq {neg : Bool} {env : Env} {st : Store} {x y : D} (hx : okD x = true) (hy : okD y = true) (dx : depD x ≤ 64 := by decide) (dy : depD y ≤ 64 := by decide) : f2Eq neg env st (.d x) (.d y) = some (.d (.bl (if neg then !decide (x = y) else decide (x = y))), st) := by
  obtain ⟨p, h1, h2, h3⟩ := toP_okD (dr2 st) x hx
  obtain ⟨q, g1, g2, g3⟩ := toP_okD (dr2 st) y hy
  have a1 : toPR env st (.d x) = some p := h1
  have a2 : toPR env st (.d y) = some q := g1
  unfold f2Eq
  rw [a1, a2]
  dsimp only
  rw [if_pos, eqv_okD (dr2 st) x y p q hx hy h1 g1]
  unfold SeqAt.shaped
  simp [h2, g2, h3, g3, dx, dy]
theorem ev_eqB {neg : Bool} {env : Env} {st : Store} {a b : Bool} : f2Eq neg env st (.d (.bl a)) (.d (.bl b)) = some (.d (.bl (if neg then !(a == b) else a == b)), st) := by
  unfold f2Eq toPR toP
  simp [SeqAt.shaped, PyData.canLay0, PyData.depth, PyData.eqv]
@[simp] theorem okDs_ints : ∀ xs : List Int, okDs (dI xs) = true
  | [] => rfl
  | x :: xs => by
    have := okDs_ints xs
    simp only [dI] at this
    simp [dI, okDs, okD, this]
theorem depDs_ints : ∀ xs : List Int, depDs (dI xs) = 0
  | [] => rfl
  | x :: xs => by
    have := depDs_ints xs
    simp only [dI] at this
    simp [dI, depDs, depD, this]
theorem dI_inj {xs ys : List Int} (h : dI xs = dI ys) : xs = ys := by
  induction xs generalizing ys with
  | nil => cases ys <;> simp_all [dI]
  | cons x xs ih =>
    cases ys with
    | nil => simp [dI] at h
    | cons y ys =>
      simp [dI] at h
      rw [h.1, ih (by simpa [dI] using h.2)]
/-- tuples of ints -/
def tI (xs : List Int) : D := .tup (dI xs)
theorem ev_eqT {neg : Bool} {env : Env} {st : Store} {xs ys : List Int} : f2Eq neg env st (.d (tI xs)) (.d (tI ys)) = some (.d (.bl (if neg then !decide (xs = ys) else decide (xs = ys))), st) := by
  have e : (tI xs = tI ys) ↔ xs = ys := ⟨fun h => dI_inj (D.tup.inj h), fun h => by rw [h]⟩
  rw [ev_eq (by simp [tI, okD]) (by simp [tI, okD]) (by simp [tI, depD, depDs_ints]) (by simp [tI, depD, depDs_ints])]
  simp only [e]
end Gx

set_option maxHeartbeats 2000000
namespace Gx
open PySem L2
/-! own combinators: no match of Lean's is left to be reduced by the kernel -/
section
variable {α β γ : Type}
def bnd (o : Option (α × β)) (k : α → β → Option γ) : Option γ := match o with | some (a, b) => k a b | none => none
@[simp] theorem bnd_s (a : α) (b : β) (k : α → β → Option γ) : bnd (some (a, b)) k = k a b := (rfl)
@[simp] theorem bnd_n (k : α → β → Option γ) : bnd none k = none := (rfl)
def ob (o : Option α) (k : α → Option γ) : Option γ := match o with | some a => k a | none => none
@[simp] theorem ob_s (a : α) (k : α → Option γ) : ob (some a) k = k a := (rfl)
@[simp] theorem ob_n (k : α → Option γ) : ob none k = none := (rfl)
def oe (o : Option α) (k : α → γ) (z : γ) : γ := match o with | some a => k a | none => z
@[simp] theorem oe_s (a : α) (k : α → γ) (z : γ) : oe (some a) k z = k a := (rfl)
@[simp] theorem oe_n (k : α → γ) (z : γ) : oe none k z = z := (rfl)
def onD (r : R) (k : D → Option γ) : Option γ := match r with | .d d => k d | _ => none
@[simp] theorem onD_d (d : D) (k : D → Option γ) : onD (.d d) k = k d := (rfl)
@[simp] theorem onD_l (i : Nat) (k : D → Option γ) : onD (.loc i) k = none := (rfl)
def onB (r : R) (k : Bool → Option γ) : Option γ := match r with | .d (.bl b) => k b | _ => none
@[simp] theorem onB_b (b : Bool) (k : Bool → Option γ) : onB (.d (.bl b)) k = k b := (rfl)
def sq (o : Option Out) (k : Env → Store → Option Out) : Option Out := match o with | some (.nx, e, s) => k e s | r => r
@[simp] theorem sq_nx (e : Env) (s : Store) (k) : sq (some (.nx, e, s)) k = k e s := (rfl)
@[simp] theorem sq_rt (d : D) (e : Env) (s : Store) (k) : sq (some (.rt d, e, s)) k = some (.rt d, e, s) := (rfl)
@[simp] theorem sq_bk (e : Env) (s : Store) (k) : sq (some (.bk, e, s)) k = some (.bk, e, s) := (rfl)
@[simp] theorem sq_ct (e : Env) (s : Store) (k) : sq (some (.ct, e, s)) k = some (.ct, e, s) := (rfl)
@[simp] theorem sq_n (k) : sq none k = none := (rfl)
def fin (o : Option Out) : Option (D × Store) := match o with | some (.rt d, _, s) => some (d, s) | some (.nx, _, s) => some (.non, s) | _ => none
@[simp] theorem fin_rt (d : D) (e : Env) (s : Store) : fin (some (.rt d, e, s)) = some (d, s) := (rfl)
@[simp] theorem fin_nx (e : Env) (s : Store) : fin (some (.nx, e, s)) = some (.non, s) := (rfl)
def slotR (i : Nat) (o : Option Slot) (st : Store) : Option (R × Store) := match o with | some (.val d) => some (.d d, st) | some (.own _) => some (.loc i, st) | _ => none
@[simp] theorem slotR_v (i : Nat) (d : D) (st : Store) : slotR i (some (.val d)) st = some (.d d, st) := (rfl)
@[simp] theorem slotR_o (i : Nat) (so : SO) (st : Store) : slotR i (some (.own so)) st = some (.loc i, st) := (rfl)
def slotL (o : Option Slot) : Option (List D) := match o with | some (.own (.lst xs)) => some xs | _ => none
@[simp] theorem slotL_o (xs) : slotL (some (.own (.lst xs))) = some xs := (rfl)
@[simp] theorem slotL_k (xs) : slotL (some (.own (.dK xs))) = none := (rfl)
def slotK (o : Option Slot) : Option (List (Key × D)) := match o with | some (.own (.dK xs)) => some xs | _ => none
@[simp] theorem slotK_o (xs) : slotK (some (.own (.dK xs))) = some xs := (rfl)
@[simp] theorem slotK_l (xs) : slotK (some (.own (.lst xs))) = none := (rfl)
def stL (o : Option SO) : Option (List D) := match o with | some (.lst xs) => some xs | _ => none
@[simp] theorem stL_l (xs) : stL (some (.lst xs)) = some xs := (rfl)
@[simp] theorem stL_k (xs) : stL (some (.dK xs)) = none := (rfl)
@[simp] theorem stL_i (C fs) : stL (some (.ins C fs)) = none := (rfl)
def stK (o : Option SO) : Option (List (Key × D)) := match o with | some (.dK xs) => some xs | some (.dF xs) => some xs | _ => none
@[simp] theorem stK_F (xs) : stK (some (.dF xs)) = some xs := (rfl)
@[simp] theorem stK_k (xs) : stK (some (.dK xs)) = some xs := (rfl)
@[simp] theorem stK_l (xs) : stK (some (.lst xs)) = none := (rfl)
def slotO (o : Option Slot) : Option SO := match o with | some (.own so) => some so | _ => none
@[simp] theorem slotO_o (so) : slotO (some (.own so)) = some so := (rfl)
@[simp] theorem slotO_v (d) : slotO (some (.val d)) = none := (rfl)
@[simp] theorem slotO_n : slotO (some .none) = none := (rfl)
def asI : R → Option Int
  | .d (.int i) => some i
  | _ => none
@[simp] theorem asI_i (i : Int) : asI (.d (.int i)) = some i := (rfl)
@[simp] theorem asI_t (xs) : asI (.d (.tup xs)) = none := (rfl)
@[simp] theorem asI_T (xs) : asI (.d (tI xs)) = none := (rfl)
@[simp] theorem asI_l (xs) : asI (.d (.lst xs)) = none := (rfl)
@[simp] theorem asI_r (n) : asI (.d (.ref n)) = none := (rfl)
@[simp] theorem asI_o (n) : asI (.loc n) = none := (rfl)
@[simp] theorem asI_n : asI (.d .non) = none := (rfl)
@[simp] theorem asI_s (x) : asI (.d (.str x)) = none := (rfl)
@[simp] theorem asU_i (i : Int) : asU (.d (.int i)) = none := (rfl)
@[simp] theorem asU_n : asU (.d .non) = none := (rfl)
@[simp] theorem asU_s (x) : asU (.d (.str x)) = none := (rfl)
@[simp] theorem asL_i (env : Env) (st : Store) (i : Int) : asL env st (.d (.int i)) = none := (rfl)
@[simp] theorem asL_n (env : Env) (st : Store) : asL env st (.d .non) = none := (rfl)
end
section
variable (env : Env) (st : Store)
@[simp] theorem ev_m2' (a b : ME) (f : Env → Store → R → R → Option (R × Store)) : m2 a b f env st = bnd (a env st) fun x st1 => bnd (b env st1) fun y st2 => f env st2 x y := by
  unfold m2 bnd
  split <;> simp_all
  split <;> simp_all
@[simp] theorem ev_m1' (a : ME) (f : Env → Store → R → Option (R × Store)) : m1 a f env st = bnd (a env st) fun x st1 => f env st1 x := by
  unfold m1 bnd
  split <;> simp_all
@[simp] theorem ev_mAdd (a b : ME) : mAdd a b env st = m2 a b (fOr (f2I (fun _ _ => true) fun i j => .int (i + j)) f2Cat) env st := (rfl)
@[simp] theorem ev_mSub (a b : ME) : mSub a b env st = m2 a b (f2I (fun _ _ => true) fun i j => .int (i - j)) env st := (rfl)
@[simp] theorem ev_mMul (a b : ME) : mMul a b env st = m2 a b (f2I cMul fun i j => .int (i * j)) env st := (rfl)
@[simp] theorem ev_mMod (a b : ME) : mMod a b env st = m2 a b (f2I cPos fun i j => .int (i % j)) env st := (rfl)
@[simp] theorem ev_mFdiv (a b : ME) : mFdiv a b env st = m2 a b (f2I cDivW fun i j => .int (i / j)) env st := (rfl)
@[simp] theorem ev_mPow (a b : ME) : mPow a b env st = m2 a b (f2I cPow fun i j => .int (i ^ j.toNat)) env st := (rfl)
@[simp] theorem ev_mLt (a b : ME) : mLt a b env st = m2 a b (f2I (fun _ _ => true) fun i j => .bl (decide (i < j))) env st := (rfl)
@[simp] theorem ev_mLe (a b : ME) : mLe a b env st = m2 a b (f2I (fun _ _ => true) fun i j => .bl (decide (i ≤ j))) env st := (rfl)
@[simp] theorem ev_mGt (a b : ME) : mGt a b env st = m2 a b (f2I (fun _ _ => true) fun i j => .bl (decide (j < i))) env st := (rfl)
@[simp] theorem ev_mGe (a b : ME) : mGe a b env st = m2 a b (f2I (fun _ _ => true) fun i j => .bl (decide (j ≤ i))) env st := (rfl)
@[simp] theorem ev_mEq (a b : ME) : mEq a b env st = m2 a b (f2Eq false) env st := (rfl)
@[simp] theorem ev_mNe (a b : ME) : mNe a b env st = m2 a b (f2Eq true) env st := (rfl)
@[simp] theorem ev_mIx (a b : ME) : mIx a b env st = m2 a b fIx env st := (rfl)
@[simp] theorem ev_mMulA (a b : ME) : mMulA a b env st = m2 a b fMul env st := (rfl)
@[simp] theorem ev_mTest (m : ME) : mTest m env st = bnd (m env st) fun x s => onB x fun b => some (b, s) := by
  cases h : m env st with
  | none => simp only [mTest, h, bnd_n]
  | some z =>
    obtain ⟨r, s⟩ := z
    simp only [mTest, h, bnd_s]
    cases r with
    | loc i => rfl
    | d d => cases d <;> rfl
@[simp] theorem ev_mAndT (t u : MT) : mAndT t u env st = bnd (t env st) fun b s => if b = true then u env s else some (false, s) := by
  cases h : t env st with
  | none => simp only [mAndT, h, bnd_n]
  | some z => obtain ⟨b, s⟩ := z; cases b <;> simp [mAndT, h]
@[simp] theorem ev_mOrT (t u : MT) : mOrT t u env st = bnd (t env st) fun b s => if b = true then some (true, s) else u env s := by
  cases h : t env st with
  | none => simp only [mOrT, h, bnd_n]
  | some z => obtain ⟨b, s⟩ := z; cases b <;> simp [mOrT, h]
@[simp] theorem ev_mNotT (t : MT) : mNotT t env st = bnd (t env st) fun b s => some (!b, s) := by
  cases h : t env st with
  | none => simp only [mNotT, h, bnd_n]
  | some z => obtain ⟨b, s⟩ := z; cases b <;> simp [mNotT, h]
@[simp] theorem ev_mIfE (t : MT) (a b : ME) : mIfE t a b env st = bnd (t env st) fun c s => if c = true then a env s else b env s := by
  cases h : t env st with
  | none => simp only [mIfE, h, bnd_n]
  | some z => obtain ⟨b, s⟩ := z; cases b <;> simp [mIfE, h]
@[simp] theorem ev_mIf (t : MT) (a b : MS) : mIf t a b env st = bnd (t env st) fun c s => if c = true then a env s else b env s := by
  cases h : t env st with
  | none => simp only [mIf, h, bnd_n]
  | some z => obtain ⟨b, s⟩ := z; cases b <;> simp [mIf, h]
@[simp] theorem ev_mAndV (a b : ME) : mAndV a b env st = bnd (a env st) fun x s => onB x fun c => if c = true then b env s else some (.d (.bl false), s) := by
  cases h : a env st with
  | none => simp only [mAndV, h, bnd_n]
  | some z =>
    obtain ⟨r, s⟩ := z
    simp only [mAndV, h, bnd_s]
    cases r with
    | loc i => rfl
    | d d => cases d <;> first | rfl | (rename_i c; cases c <;> rfl)
@[simp] theorem ev_mOrV (a b : ME) : mOrV a b env st = bnd (a env st) fun x s => onB x fun c => if c = true then some (.d (.bl true), s) else b env s := by
  cases h : a env st with
  | none => simp only [mOrV, h, bnd_n]
  | some z =>
    obtain ⟨r, s⟩ := z
    simp only [mOrV, h, bnd_s]
    cases r with
    | loc i => rfl
    | d d => cases d <;> first | rfl | (rename_i c; cases c <;> rfl)
@[simp] theorem ev_mNotV (a : ME) : mNotV a env st = bnd (a env st) fun x s => onB x fun c => some (.d (.bl (!c)), s) := by
  cases h : a env st with
  | none => simp only [mNotV, h, bnd_n]
  | some z =>
    obtain ⟨r, s⟩ := z
    simp only [mNotV, h, bnd_s]
    cases r with
    | loc i => rfl
    | d d => cases d <;> first | rfl | (rename_i c; cases c <;> rfl)
@[simp] theorem ev_mCons (m : ME) (r : MA) : mCons m r env st = bnd (m env st) fun x s => onD x fun d => bnd (r env s) fun ds s2 => some (d :: ds, s2) := by
  cases h : m env st with
  | none => simp only [mCons, h, bnd_n]
  | some z =>
    obtain ⟨x, s⟩ := z
    simp only [mCons, h, bnd_s]
    cases x with
    | loc i => rfl
    | d d => simp only [onD_d]; cases h2 : r env s <;> rfl
@[simp] theorem ev_mTup (a : MA) : mTup a env st = bnd (a env st) fun ds s => if ds.length ≤ 16000000 then some (.d (.tup ds), s) else none := by
  cases h : a env st <;> simp only [mTup, h] <;> rfl
@[simp] theorem ev_mFLst (a : MA) : mFLst a env st = bnd (a env st) fun ds s => if ds.length ≤ 16000000 then some (.lst ds, s) else none := by
  cases h : a env st <;> simp only [mFLst, h] <;> rfl
@[simp] theorem ev_mFrz (f : MF) : mFrz f env st = bnd (f env st) fun so s => ob (dOf so) fun d => some (.d d, s) := by
  cases h : f env st with
  | none => simp only [mFrz, h, bnd_n]
  | some z => obtain ⟨x, s⟩ := z; simp only [mFrz, h, bnd_s]; cases dOf x <;> rfl
@[simp] theorem ev_mAlloc (f : MF) : mAlloc f env st = bnd (f env st) fun so s => some (.d (.ref s.length), s ++ [so]) := by
  cases h : f env st <;> simp only [mAlloc, h] <;> rfl
@[simp] theorem ev_mPart (m : ME) : mPart m env st = bnd (m env st) fun x s => ob (asI x) fun i => some (some i, s) := by
  cases h : m env st with
  | none => simp only [mPart, h, bnd_n]
  | some z =>
    obtain ⟨x, s⟩ := z
    simp only [mPart, h, bnd_s]
    cases x with
    | loc i => rfl
    | d d => cases d <;> rfl
@[simp] theorem ev_mNeg (m : ME) : mNeg m env st = bnd (m env st) fun x s => ob (asI x) fun i => some (.d (.int (-i)), s) := by
  cases h : m env st with
  | none => simp only [mNeg, h, bnd_n]
  | some z =>
    obtain ⟨x, s⟩ := z
    simp only [mNeg, h, bnd_s]
    cases x with
    | loc i => rfl
    | d d => cases d <;> rfl
@[simp] theorem ev_mRng1 (m : ME) : mRng1 m env st = bnd (m env st) fun x s => ob (asI x) fun j => if inR j then some (.rng 0 j.toNat, s) else none := by
  cases h : m env st with
  | none => simp only [mRng1, h, bnd_n]
  | some z =>
    obtain ⟨x, s⟩ := z
    simp only [mRng1, h, bnd_s]
    cases x with
    | loc i => rfl
    | d d => cases d <;> rfl
@[simp] theorem ev_mSeq (m : ME) : mSeq m env st = bnd (m env st) fun r s => ob (seqOf env s r) fun _ => some (.seq r, s) := by
  cases h : m env st with
  | none => simp only [mSeq, h, bnd_n]
  | some z => obtain ⟨x, s⟩ := z; simp only [mSeq, h, bnd_s]; cases seqOf env s x <;> rfl
@[simp] theorem ev_mSq (a b : MS) : mSq a b env st = sq (a env st) b := by
  cases h : a env st with
  | none => simp only [mSq, h]; rfl
  | some z => obtain ⟨f, e, s⟩ := z; cases f <;> simp only [mSq, h] <;> rfl
@[simp] theorem ev_mFz (i : Nat) : mFz i env st = oe (slotO env[i]?) (fun so => ob (dOf so) fun d => some (.nx, env.set i (.val d), st)) (some (.nx, env, st)) := by
  cases h : env[i]? with
  | none => simp only [mFz, h]; rfl
  | some z => cases z <;> simp only [mFz, h, slotO_o, oe_s] <;> first | rfl | (rename_i o; cases dOf o <;> rfl)
@[simp] theorem ev_mSet (i : Nat) (m : ME) : mSet i m env st = bnd (m env st) fun x s => onD x fun d => some (.nx, env.set i (.val d), s) := by
  cases h : m env st with
  | none => simp only [mSet, h, bnd_n]
  | some z =>
    obtain ⟨x, s⟩ := z
    simp only [mSet, h, bnd_s]
    cases x <;> rfl
@[simp] theorem ev_mSetO (i : Nat) (f : MF) : mSetO i f env st = bnd (f env st) fun so s => some (.nx, env.set i (.own so), s) := by
  cases h : f env st <;> simp only [mSetO, h] <;> rfl
@[simp] theorem ev_mExpr (m : ME) : mExpr m env st = bnd (m env st) fun _ s => some (.nx, env, s) := by
  cases h : m env st <;> simp only [mExpr, h] <;> rfl
def retR (env : Env) (x : R) : Option D := match x with | .d d => some d | .loc i => ob (slotO env[i]?) dOf
@[simp] theorem retR_d (d : D) : retR env (.d d) = some d := (rfl)
@[simp] theorem retR_l (i : Nat) : retR env (.loc i) = ob (slotO env[i]?) dOf := (rfl)
@[simp] theorem ev_mRet (m : ME) : mRet m env st = bnd (m env st) fun x s => ob (retR env x) fun d => some (.rt d, env, s) := by
  cases h : m env st with
  | none => simp only [mRet, h]; rfl
  | some z =>
    obtain ⟨x, s⟩ := z
    simp only [mRet, h, bnd_s]
    cases x with
    | d d => rfl
    | loc i =>
      simp only [retR]
      cases h2 : env[i]? with
      | none => rfl
      | some sl => cases sl <;> first | rfl | (rename_i so; simp only [slotO_o, ob_s]; cases dOf so <;> rfl)
@[simp] theorem ev_mRetN : mRetN env st = some (.rt .non, env, st) := (rfl)
@[simp] theorem ev_mBrk : mBrk env st = some (.bk, env, st) := (rfl)
@[simp] theorem ev_mCnt : mCnt env st = some (.ct, env, st) := (rfl)
@[simp] theorem ev_mAsg (g : MG) (m : ME) : mAsg g m env st = bnd (m env st) fun x s => onD x fun d => ob (g d env) fun e => some (.nx, e, s) := by
  cases h : m env st with
  | none => simp only [mAsg, h, bnd_n]
  | some z =>
    obtain ⟨x, s⟩ := z
    simp only [mAsg, h, bnd_s]
    cases x with
    | loc i => rfl
    | d d => simp only [onD_d]; cases g d env <;> rfl
@[simp] theorem ev_mCall (c : MFn) (a : MA) : mCall c a env st = bnd (a env st) fun ds s => bnd (c ds s) fun d s2 => some (.d d, s2) := by
  cases h : a env st with
  | none => simp only [mCall, h, bnd_n]
  | some z => obtain ⟨ds, s⟩ := z; simp only [mCall, h, bnd_s]; cases c ds s <;> rfl
def soL (so : SO) : Option (List D) := match so with | .lst xs => some xs | _ => none
@[simp] theorem soL_l (xs) : soL (.lst xs) = some xs := (rfl)
@[simp] theorem ev_mFRep (f : MF) (b : ME) : mFRep f b env st = bnd (f env st) fun so s => ob (soL so) fun xs => bnd (b env s) fun y s2 => ob (asI y) fun k => if -(2 ^ 62) ≤ k ∧ k < 2 ^ 62 ∧ xs.length * k.toNat ≤ 16000000 then some (.lst (List.replicate k.toNat xs).flatten, s2) else none := by
  cases h : f env st with
  | none => simp only [mFRep, h, bnd_n]
  | some z =>
    obtain ⟨so, s⟩ := z
    simp only [mFRep, h, bnd_s]
    cases so <;> first | rfl | skip
    simp only [soL_l, ob_s]
    cases h2 : b env s with
    | none => rfl
    | some z =>
      obtain ⟨y, s2⟩ := z
      cases y with
      | loc i => rfl
      | d d => cases d <;> rfl
@[simp] theorem ev_mSt (f : SO → D → D → Option SO) (o i v : ME) : mSt f o i v env st = bnd (v env st) fun x s => onD x fun dv => bnd (o env s) fun ro s2 => bnd (i env s2) fun y s3 => onD y fun di => chg (fun so => f so di dv) env s3 ro := by
  cases h : v env st with
  | none => simp only [mSt, h, bnd_n]
  | some z =>
    obtain ⟨x, s⟩ := z
    simp only [mSt, h, bnd_s]
    cases x with
    | loc i => rfl
    | d dv =>
      simp only [onD_d]
      cases h2 : o env s with
      | none => rfl
      | some z =>
        obtain ⟨ro, s2⟩ := z
        simp only [bnd_s]
        cases h3 : i env s2 with
        | none => rfl
        | some z => obtain ⟨y, s3⟩ := z; cases y <;> rfl
@[simp] theorem ev_mApp (o v : ME) : mApp o v env st = bnd (o env st) fun ro s => bnd (v env s) fun x s2 => onD x fun dv => ob (asL env s ro) fun _ => chg (fun so => appL so dv) env s2 ro := by
  cases h : o env st with
  | none => simp only [mApp, h, bnd_n]
  | some z =>
    obtain ⟨ro, s⟩ := z
    simp only [mApp, h, bnd_s]
    cases h2 : v env s with
    | none => rfl
    | some z =>
      obtain ⟨x, s2⟩ := z
      cases x with
      | loc i => rfl
      | d d => simp only [bnd_s, onD_d]; cases asL env s ro <;> rfl
@[simp] theorem ev_mStIx (o i v : ME) : mStIx o i v env st = sOr (mSt putL o i v) (mSt putKv o i v) env st := (rfl)
@[simp] theorem ev_mPar (i j : Nat) (a b : ME) : mPar i j a b env st = bnd (a env st) fun x s => onD x fun d => bnd (b env s) fun y s2 => onD y fun e => some (.nx, (env.set i (.val d)).set j (.val e), s2) := by
  cases h : a env st with
  | none => simp only [mPar, h, bnd_n]
  | some z =>
    obtain ⟨x, s⟩ := z
    simp only [mPar, h, bnd_s]
    cases x with
    | loc i => rfl
    | d d =>
      simp only [onD_d]
      cases h2 : b env s with
      | none => rfl
      | some z => obtain ⟨y, s2⟩ := z; cases y <;> rfl
@[simp] theorem ev_sOr (a b : MS) : sOr a b env st = oe (a env st) some (b env st) := by
  unfold sOr oe
  cases a env st <;> rfl
@[simp] theorem ev_fOr (f g : Env → Store → R → R → Option (R × Store)) (x y : R) : fOr f g env st x y = oe (f env st x y) some (g env st x y) := by
  unfold fOr oe
  cases f env st x y <;> rfl
@[simp] theorem ev_f2I' (C : Int → Int → Bool) (g : Int → Int → D) (x y : R) : f2I C g env st x y = ob (asI x) fun i => ob (asI y) fun j => if C i j = true then some (.d (g i j), st) else none := by
  cases x with
  | loc i => rfl
  | d d => cases d <;> first | rfl | (cases y with
    | loc i => rfl
    | d e => cases e <;> rfl)
@[simp] theorem ev_f2Cat (x y : R) : f2Cat env st x y = ob (asU x) fun xs => ob (asU y) fun ys => if xs.length + ys.length ≤ 16000000 then some (.d (.tup (xs ++ ys)), st) else none := by
  cases x with
  | loc i => rfl
  | d d => cases d <;> first | rfl | (cases y with
    | loc i => rfl
    | d e => cases e <;> rfl)
@[simp] theorem ev_f2RepTN (x y : R) : f2RepTN env st x y = ob (asU x) fun xs => ob (asI y) fun k => if xs.isEmpty = false ∧ 2 ≤ k ∧ k ≤ 1000 ∧ xs.length ≤ 1000 then some (.d (.tup (List.replicate k.toNat xs).flatten), st) else none := by
  cases x with
  | loc i => rfl
  | d d => cases d <;> first | rfl | (cases y with
    | loc i => rfl
    | d e => cases e <;> rfl)
@[simp] theorem ev_f2RepT1 (x y : R) : f2RepT1 env st x y = ob (asU x) fun xs => ob (asI y) fun k => if k = 1 then some (.d (.tup xs), st) else none := by
  cases x with
  | loc i => rfl
  | d d => cases d <;> first | rfl | (cases y with
    | loc i => rfl
    | d e => cases e <;> rfl)
@[simp] theorem ev_fMul (x y : R) : fMul env st x y = fOr (fOr (f2I cMul fun i j => .int (i * j)) f2RepTN) f2RepT1 env st x y := (rfl)
@[simp] theorem ev_fMax (x y : R) : fMax env st x y = f2I (fun _ _ => true) (fun i j => .int (if j > i then j else i)) env st x y := (rfl)
@[simp] theorem ev_fMin (x y : R) : fMin env st x y = f2I (fun _ _ => true) (fun i j => .int (if j < i then j else i)) env st x y := (rfl)
@[simp] theorem ev_f1Len (x : R) : f1Len env st x = oe (seqOf env st x) (fun xs => some (.d (.int xs.length), st)) (ob (asK env st x) fun kvs => some (.d (.int kvs.length), st)) := by
  unfold f1Len oe ob
  cases seqOf env st x <;> first | rfl | (cases asK env st x <;> rfl)
def asN : R → Option Int
  | .d (.int i) => some i
  | .d (.bl b) => some (if b then 1 else 0)
  | _ => none
@[simp] theorem asN_i (i : Int) : asN (.d (.int i)) = some i := (rfl)
@[simp] theorem asN_b (b : Bool) : asN (.d (.bl b)) = some (if b = true then 1 else 0) := (rfl)
@[simp] theorem ev_f1Int (x : R) : f1Int env st x = ob (asN x) fun i => some (.d (.int i), st) := by
  cases x with
  | loc i => rfl
  | d d => cases d <;> rfl
@[simp] theorem ev_f1Abs (x : R) : f1Abs env st x = ob (asI x) fun i => some (.d (.int (if i < 0 then -i else i)), st) := by
  cases x with
  | loc i => rfl
  | d d => cases d <;> rfl
@[simp] theorem ev_f1Tup (x : R) : f1Tup env st x = ob (seqOf env st x) fun xs => some (.d (.tup xs), st) := by
  unfold f1Tup ob
  cases seqOf env st x <;> rfl
@[simp] theorem ev_f1All (x : R) : f1All env st x = ob (asL env st x) fun xs => ob (bools xs) fun bs => some (.d (.bl (bs.all id)), st) := by
  unfold f1All
  cases asL env st x with
  | none => rfl
  | some xs => simp only [ob_s]; cases bools xs <;> rfl
@[simp] theorem ev_f1Any (x : R) : f1Any env st x = ob (asL env st x) fun xs => ob (bools xs) fun bs => some (.d (.bl (bs.any id)), st) := by
  unfold f1Any
  cases asL env st x with
  | none => rfl
  | some xs => simp only [ob_s]; cases bools xs <;> rfl
@[simp] theorem ev_seqOf (r : R) : seqOf env st r = oe (asU r) some (asL env st r) := by
  unfold seqOf oe
  cases asU r <;> rfl
@[simp] theorem ev_asL_r (n : Nat) : asL env st (.d (.ref n)) = stL st[n]? := by
  unfold asL stL
  rfl
@[simp] theorem ev_asL_o (i : Nat) : asL env st (.loc i) = slotL env[i]? := by
  unfold asL slotL
  rfl
@[simp] theorem ev_asK_r (n : Nat) : asK env st (.d (.ref n)) = stK st[n]? := by
  unfold asK stK
  rfl
@[simp] theorem ev_asK_o (i : Nat) : asK env st (.loc i) = slotK env[i]? := by
  unfold asK slotK
  rfl
def sliceOf (env : Env) (st : Store) (x : R) (l u : Option Int) : Option (R × Store) := oe (asU x) (fun xs => some (.d (.tup (cutD xs l u)), st)) (ob (asL env st x) fun xs => some (.d (.lst (cutD xs l u)), st))
@[simp] theorem ev_mSl (a : ME) (lo hi : MO) : mSl a lo hi env st = bnd (a env st) fun x s => bnd (lo env s) fun l s2 => bnd (hi env s2) fun u s3 => sliceOf env s3 x l u := by
  unfold mSl
  cases a env st with
  | none => rfl
  | some z =>
    obtain ⟨x, st1⟩ := z
    simp only [bnd_s]
    cases lo env st1 with
    | none => rfl
    | some z =>
      obtain ⟨l, st2⟩ := z
      simp only [bnd_s]
      cases hi env st2 with
      | none => rfl
      | some z =>
        obtain ⟨u, st3⟩ := z
        simp only [bnd_s]
        unfold sliceOf
        cases x with
        | loc i => simp only [oe, ob, asU]; cases asL env st3 (.loc i) <;> rfl
        | d d => cases d <;> first | rfl | (simp only [oe, ob, asU]; cases asL env st3 _ <;> rfl)
@[simp] theorem ev_var (i : Nat) : mVar i env st = slotR i env[i]? st := by
  unfold mVar slotR
  rfl
@[simp] theorem ev_f2IxL (x y : R) : f2IxL env st x y = ob (asL env st x) fun xs => ob (asI y) fun i => ob (atI xs i) fun d => some (.d d, st) := by
  unfold f2IxL
  cases asL env st x with
  | none => rfl
  | some xs =>
    cases y with
    | loc i => rfl
    | d d => cases d <;> first | rfl | (simp only [ob_s, asI_i]; rename_i i; cases atI xs i <;> rfl)
@[simp] theorem ev_f2IxU (x y : R) : f2IxU env st x y = ob (asU x) fun xs => ob (asI y) fun i => ob (atI xs i) fun d => some (.d d, st) := by
  unfold f2IxU
  cases asU x with
  | none => rfl
  | some xs =>
    cases y with
    | loc i => rfl
    | d d => cases d <;> first | rfl | (simp only [ob_s, asI_i]; rename_i i; cases atI xs i <;> rfl)
@[simp] theorem ev_f2IxK (x y : R) : f2IxK env st x y = ob (asK env st x) fun xs => onD y fun d => ob (keyOf d) fun k => ob (valD xs k) fun z => some (.d z, st) := by
  unfold f2IxK
  cases asK env st x with
  | none => rfl
  | some xs =>
    cases y with
    | loc i => rfl
    | d d =>
      simp only [ob_s, onD_d]
      cases keyOf d with
      | none => rfl
      | some k => simp only [ob_s]; cases valD xs k <;> rfl
@[simp] theorem ev_fIx (x y : R) : fIx env st x y = fOr (fOr f2IxL f2IxU) f2IxK env st x y := (rfl)
@[simp] theorem ev_chg_o (f : SO → Option SO) (k : Nat) : chg f env st (.loc k) = ob (slotO env[k]?) fun so => ob (f so) fun so2 => some (.nx, env.set k (.own so2), st) := by
  unfold chg
  simp only
  cases h : env[k]? with
  | none => rfl
  | some sl => cases sl <;> first | rfl | (rename_i so; simp only [slotO_o, ob_s]; cases f so <;> rfl)
@[simp] theorem ev_chg_r (f : SO → Option SO) (n : Nat) : chg f env st (.d (.ref n)) = ob st[n]? fun so => ob (f so) fun so2 => some (.nx, env, st.set n so2) := by
  unfold chg
  simp only
  cases h : st[n]? with
  | none => rfl
  | some so => simp only [ob_s]; cases f so <;> rfl
@[simp] theorem ev_appL (xs : List D) (v : D) : appL (.lst xs) v = if xs.length < 16000000 then some (.lst (xs ++ [v])) else none := (rfl)
@[simp] theorem ev_putL (xs : List D) (i : Int) (v : D) : putL (.lst xs) (.int i) v = ob (ixN xs.length i) fun j => some (.lst (xs.set j v)) := by
  unfold putL ob
  simp only
  cases ixN xs.length i <;> rfl
@[simp] theorem ev_putL0 (kvs) (i v : D) : putL (.dK kvs) i v = none := (rfl)
@[simp] theorem ev_putK (kvs) (i v : D) : putKv (.dK kvs) i v = ob (keyOf i) fun k => if kvs.length < 16000000 then some (.dK (putD kvs k v)) else none := by
  unfold putKv ob
  simp only
  cases keyOf i <;> rfl
@[simp] theorem ev_Isi (T n : String) (x : R) : f2Isi T env st x (.d (.ty n)) = if n = T then ob (tyOf env st x) fun S => ob (kitB S T) fun b => some (.d (.bl b), st) else none := by
  unfold f2Isi ob
  simp only
  split
  · cases tyOf env st x with
    | none => rfl
    | some S => simp only; cases kitB S T <;> rfl
  · rfl
@[simp] theorem ev_mFn (n : Nat) (b : MS) (ds : List D) : mFn n b ds st = fin (b (ds.map .val ++ List.replicate (n - ds.length) .none) st) := by
  unfold mFn
  cases h : b (ds.map .val ++ List.replicate (n - ds.length) .none) st with
  | none => rfl
  | some z => obtain ⟨f, e, s⟩ := z; cases f <;> rfl
@[simp] theorem ev_gT (n : Nat) (m : List D → Env → Option Env) (ds : List D) : gT n m (.tup ds) env = if ds.length = n then m ds env else none := (rfl)
@[simp] theorem ev_gsC (m : MG) (n : List D → Env → Option Env) (d : D) (ds : List D) : gsC m n (d :: ds) env = ob (m d env) fun e => n ds e := by
  unfold gsC ob
  simp only
  cases m d env <;> rfl
@[simp] theorem ev_gsN : gsN [] env = some env := (rfl)
@[simp] theorem ev_gN (i : Nat) (d : D) : gN i d env = some (env.set i (.val d)) := (rfl)
end
@[simp] theorem ev_asU_t (xs : List D) : asU (.d (.tup xs)) = some xs := (rfl)
@[simp] theorem ev_asU_l (xs : List D) : asU (.d (.lst xs)) = none := (rfl)
@[simp] theorem ev_asU_r (n : Nat) : asU (.d (.ref n)) = none := (rfl)
@[simp] theorem ev_asU_o (n : Nat) : asU (.loc n) = none := (rfl)
@[simp] theorem ev_asU_k (ks vs) : asU (.d (.dct ks vs)) = none := (rfl)
@[simp] theorem ev_asL_t (env : Env) (st : Store) (xs : List D) : asL env st (.d (.tup xs)) = none := (rfl)
@[simp] theorem ev_asL_l (env : Env) (st : Store) (xs : List D) : asL env st (.d (.lst xs)) = some xs := (rfl)
@[simp] theorem ev_asL_k (env : Env) (st : Store) (ks vs) : asL env st (.d (.dct ks vs)) = none := (rfl)
@[simp] theorem ev_asK_k (env : Env) (st : Store) (ks vs) : asK env st (.d (.dct ks vs)) = some (ks.zip vs) := (rfl)
@[simp] theorem ev_asK_t (env : Env) (st : Store) (xs : List D) : asK env st (.d (.tup xs)) = none := (rfl)
@[simp] theorem ev_asK_l (env : Env) (st : Store) (xs : List D) : asK env st (.d (.lst xs)) = none := (rfl)
@[simp] theorem atI_cast {α : Type} (xs : List α) (k : Nat) : atI xs (k : Int) = xs[k]? := by
  unfold atI ixN
  rw [if_pos (by omega)]
  by_cases h : k < xs.length
  · rw [if_pos (by omega)]; simp
  · rw [if_neg (by omega)]; simp; omega
theorem atI_nn {α : Type} (xs : List α) {i : Int} (h : 0 ≤ i) : atI xs i = xs[i.toNat]? := by
  obtain ⟨k, rfl⟩ : ∃ k : Nat, i = (k : Int) := ⟨i.toNat, by omega⟩
  rw [atI_cast, Int.toNat_natCast]
@[simp] theorem atI_m1 {α : Type} (xs : List α) : atI xs (-1) = xs[xs.length - 1]? := by
  unfold atI ixN
  rw [if_neg (by omega)]
  cases xs with
  | nil => rfl
  | cons x xs =>
    rw [if_pos (by simp only [List.length_cons]; omega)]
    have e : (-1 + ((x :: xs).length : Int)).toNat = (x :: xs).length - 1 := by simp only [List.length_cons]; omega
    rw [e]; rfl
@[simp] theorem ev_dOf_l (xs) : dOf (.lst xs) = some (.lst xs) := (rfl)
@[simp] theorem ev_dOf_k (xs) : dOf (.dK xs) = some (.dct (xs.map (·.1)) (xs.map (·.2))) := (rfl)
@[simp] theorem ixN_cast (n k : Nat) : ixN n (k : Int) = if k < n then some k else none := by
  unfold ixN
  rw [if_pos (by omega)]
  by_cases h : k < n
  · rw [if_pos (by omega), if_pos h]; simp
  · rw [if_neg (by omega), if_neg h]
theorem ixN_nn (n : Nat) {i : Int} (h : 0 ≤ i) : ixN n i = if i.toNat < n then some i.toNat else none := by
  obtain ⟨k, rfl⟩ : ∃ k : Nat, i = (k : Int) := ⟨i.toNat, by omega⟩
  rw [ixN_cast, Int.toNat_natCast]
@[simp] theorem atI_0 {α : Type} (xs : List α) : atI xs 0 = xs[0]? := atI_cast xs 0
@[simp] theorem ixN_0 (n : Nat) : ixN n 0 = if 0 < n then some 0 else none := ixN_cast n 0
@[simp] theorem atI_1 {α : Type} (xs : List α) : atI xs 1 = xs[1]? := atI_cast xs 1
@[simp] theorem ixN_1 (n : Nat) : ixN n 1 = if 1 < n then some 1 else none := ixN_cast n 1
@[simp] theorem atI_2 {α : Type} (xs : List α) : atI xs 2 = xs[2]? := atI_cast xs 2
@[simp] theorem ixN_2 (n : Nat) : ixN n 2 = if 2 < n then some 2 else none := ixN_cast n 2
@[simp] theorem atI_3 {α : Type} (xs : List α) : atI xs 3 = xs[3]? := atI_cast xs 3
@[simp] theorem ixN_3 (n : Nat) : ixN n 3 = if 3 < n then some 3 else none := ixN_cast n 3
@[simp] theorem atI_4 {α : Type} (xs : List α) : atI xs 4 = xs[4]? := atI_cast xs 4
@[simp] theorem ixN_4 (n : Nat) : ixN n 4 = if 4 < n then some 4 else none := ixN_cast n 4
@[simp] theorem atI_5 {α : Type} (xs : List α) : atI xs 5 = xs[5]? := atI_cast xs 5
@[simp] theorem ixN_5 (n : Nat) : ixN n 5 = if 5 < n then some 5 else none := ixN_cast n 5
@[simp] theorem atI_6 {α : Type} (xs : List α) : atI xs 6 = xs[6]? := atI_cast xs 6
@[simp] theorem ixN_6 (n : Nat) : ixN n 6 = if 6 < n then some 6 else none := ixN_cast n 6
@[simp] theorem atI_7 {α : Type} (xs : List α) : atI xs 7 = xs[7]? := atI_cast xs 7
@[simp] theorem ixN_7 (n : Nat) : ixN n 7 = if 7 < n then some 7 else none := ixN_cast n 7
@[simp] theorem atI_8 {α : Type} (xs : List α) : atI xs 8 = xs[8]? := atI_cast xs 8
@[simp] theorem ixN_8 (n : Nat) : ixN n 8 = if 8 < n then some 8 else none := ixN_cast n 8
@[simp] theorem atI_9 {α : Type} (xs : List α) : atI xs 9 = xs[9]? := atI_cast xs 9
@[simp] theorem ixN_9 (n : Nat) : ixN n 9 = if 9 < n then some 9 else none := ixN_cast n 9
@[simp] theorem atI_10 {α : Type} (xs : List α) : atI xs 10 = xs[10]? := atI_cast xs 10
@[simp] theorem ixN_10 (n : Nat) : ixN n 10 = if 10 < n then some 10 else none := ixN_cast n 10
@[simp] theorem atI_11 {α : Type} (xs : List α) : atI xs 11 = xs[11]? := atI_cast xs 11
@[simp] theorem ixN_11 (n : Nat) : ixN n 11 = if 11 < n then some 11 else none := ixN_cast n 11
@[simp] theorem atI_12 {α : Type} (xs : List α) : atI xs 12 = xs[12]? := atI_cast xs 12
@[simp] theorem ixN_12 (n : Nat) : ixN n 12 = if 12 < n then some 12 else none := ixN_cast n 12
@[simp] theorem ev_keyI (i : Int) : keyOf (.int i) = some (.inl i) := (rfl)
@[simp] theorem ev_keyS (x : Str) : keyOf (.str x) = some (.inr x) := (rfl)
@[simp] theorem ev_wipe (env : Env) (v : Nat) (vs : List Nat) : wipeE env (v :: vs) = (wipeE env vs).set v .none := (rfl)
@[simp] theorem ev_wipe0 (env : Env) : wipeE env [] = env := (rfl)
@[simp] theorem ev_mul1 (i j : Int) : cMul i j = (decide (-(2 ^ 64) < i ∧ i < 2 ^ 64) || decide (-(2 ^ 64) < j ∧ j < 2 ^ 64)) := (rfl)
@[simp] theorem ev_pos1 (i j : Int) : cPos i j = decide (0 < j) := (rfl)
@[simp] theorem dI_nil : dI [] = [] := (rfl)
@[simp] theorem dI_getElem (xs : List Int) (i : Nat) (h : i < (dI xs).length) : (dI xs)[i] = .int (xs[i]'(by simpa using h)) := by simp [dI]
theorem dI_get? (xs : List Int) (i : Nat) : (dI xs)[i]? = (xs[i]?).map .int := by simp [dI]
@[simp] theorem dI_set (xs : List Int) (i : Nat) (v : Int) : (dI xs).set i (.int v) = dI (xs.set i v) := by simp [dI, List.map_set]
@[simp] theorem dI_app (xs : List Int) (v : Int) : dI xs ++ [.int v] = dI (xs ++ [v]) := by simp [dI]
@[simp] theorem ev_eqI (neg : Bool) (env : Env) (st : Store) (a b : Int) : f2Eq neg env st (.d (.int a)) (.d (.int b)) = some (.d (.bl (if neg then !decide (a = b) else decide (a = b))), st) := by
  rw [ev_eq rfl rfl (by simp [depD]) (by simp [depD])]
  simp
@[simp] theorem ev_eqB' (neg : Bool) (env : Env) (st : Store) (a b : Bool) : f2Eq neg env st (.d (.bl a)) (.d (.bl b)) = some (.d (.bl (if neg then !(a == b) else a == b)), st) := ev_eqB
@[simp] theorem ev_eqT' (neg : Bool) (env : Env) (st : Store) (xs ys : List Int) : f2Eq neg env st (.d (tI xs)) (.d (tI ys)) = some (.d (.bl (if neg then !decide (xs = ys) else decide (xs = ys))), st) := ev_eqT
@[simp] theorem ev_asU_T (xs : List Int) : asU (.d (tI xs)) = some (dI xs) := (rfl)
@[simp] theorem ev_asL_T (env : Env) (st : Store) (xs : List Int) : asL env st (.d (tI xs)) = none := (rfl)
@[simp] theorem ev_asK_T (env : Env) (st : Store) (xs : List Int) : asK env st (.d (tI xs)) = none := (rfl)
@[simp] theorem dI_app2 (xs ys : List Int) : dI xs ++ dI ys = dI (xs ++ ys) := by simp [dI]
@[simp] theorem dI_take (xs : List Int) (n : Nat) : (dI xs).take n = dI (xs.take n) := by simp [dI, List.map_take]
@[simp] theorem dI_drop (xs : List Int) (n : Nat) : (dI xs).drop n = dI (xs.drop n) := by simp [dI, List.map_drop]
@[simp] theorem tup_dI (xs : List Int) : D.tup (dI xs) = tI xs := (rfl)
@[simp] theorem ev_tyT (env : Env) (st : Store) (xs : List Int) : tyOf env st (.d (tI xs)) = some "tuple" := (rfl)
@[simp] theorem ev_tyb (env : Env) (st : Store) (b : Bool) : tyOf env st (.d (.bl b)) = some "bool" := (rfl)
@[simp] theorem ev_tyi (env : Env) (st : Store) (b : Int) : tyOf env st (.d (.int b)) = some "int" := (rfl)
@[simp] theorem ev_tyt (env : Env) (st : Store) (xs) : tyOf env st (.d (.tup xs)) = some "tuple" := (rfl)
@[simp] theorem ev_tyl (env : Env) (st : Store) (xs) : tyOf env st (.d (.lst xs)) = some "list" := (rfl)
@[simp] theorem ev_tyk (env : Env) (st : Store) (ks vs) : tyOf env st (.d (.dct ks vs)) = some "dict" := (rfl)
@[simp] theorem ev_tyn (env : Env) (st : Store) : tyOf env st (.d .non) = some "NoneType" := (rfl)
@[simp] theorem ev_tys (env : Env) (st : Store) (x) : tyOf env st (.d (.str x)) = some "str" := (rfl)
@[simp] theorem kit_tt : kitB "tuple" "tuple" = some true := by decide +kernel
@[simp] theorem kit_bb : kitB "bool" "bool" = some true := by decide +kernel
@[simp] theorem kit_ll : kitB "list" "list" = some true := by decide +kernel
@[simp] theorem kit_dd : kitB "dict" "dict" = some true := by decide +kernel
@[simp] theorem kit_bi : kitB "bool" "int" = some true := by decide +kernel
@[simp] theorem kit_ii : kitB "int" "int" = some true := by decide +kernel
@[simp] theorem kit_ib : kitB "int" "bool" = some false := by decide +kernel
end Gx

set_option maxHeartbeats 2000000
namespace Gx
open PySem L2
section
variable (env : Env) (st : Store)
@[simp] theorem ev_mPsN : mPsN env st = some ([], st) := (rfl)
@[simp] theorem ev_mPsC (k v : ME) (r : MPs) : mPsC k v r env st = bnd (k env st) fun x s => onD x fun dk => ob (keyOf dk) fun kk => bnd (v env s) fun y s2 => onD y fun dv => bnd (r env s2) fun kvs s3 => some ((kk, dv) :: kvs, s3) := by
  cases h : k env st with
  | none => simp only [mPsC, h, bnd_n]
  | some z =>
    obtain ⟨x, s⟩ := z
    simp only [mPsC, h, bnd_s]
    cases x with
    | loc i => rfl
    | d dk =>
      simp only [onD_d]
      cases keyOf dk with
      | none => rfl
      | some kk =>
        simp only [ob_s]
        cases v env s with
        | none => rfl
        | some z =>
          obtain ⟨y, s2⟩ := z
          cases y with
          | loc i => rfl
          | d dv => simp only [bnd_s, onD_d]; cases r env s2 <;> rfl
@[simp] theorem ev_mFDisp (m : MPs) : mFDisp m env st = bnd (m env st) fun kvs s => if kvs.length ≤ 15 then some (.dK (mergeD [] kvs), s) else none := by
  cases h : m env st <;> simp only [mFDisp, h] <;> rfl
@[simp] theorem ev_m1F (a : ME) (f : Env → Store → R → Option SO) : m1F a f env st = bnd (a env st) fun x s => ob (f env s x) fun so => some (so, s) := by
  cases h : a env st with
  | none => simp only [m1F, h]; rfl
  | some z => obtain ⟨x, s⟩ := z; simp only [m1F, h, bnd_s]; cases f env s x <;> rfl
@[simp] theorem ev_f1List (x : R) : f1List env st x = ob (seqOf env st x) fun xs => some (.lst xs) := by
  unfold f1List
  cases seqOf env st x <;> rfl
@[simp] theorem ev_mChain (f g : Env → Store → R → R → Option (R × Store)) (a b c : ME) : mChain f g a b c env st = bnd (a env st) fun x s => bnd (b env s) fun y s2 => bnd (f env s2 x y) fun z s3 => onB z fun k => if k = true then bnd (c env s3) fun z s4 => g env s4 y z else some (.d (.bl false), s3) := by
  cases h : a env st with
  | none => simp only [mChain, h]; rfl
  | some z =>
    obtain ⟨x, s⟩ := z
    simp only [mChain, h, bnd_s]
    cases h2 : b env s with
    | none => rfl
    | some z =>
      obtain ⟨y, s2⟩ := z
      simp only [bnd_s]
      cases h3 : f env s2 x y with
      | none => rfl
      | some z =>
        obtain ⟨z, s3⟩ := z
        simp only [bnd_s]
        cases z with
        | loc i => rfl
        | d d =>
          cases d <;> first | rfl | skip
          rename_i k
          cases k with
          | false => rfl
          | true => simp only [onB_b, if_true]; cases c env s3 <;> rfl
@[simp] theorem ev_f2T (g : List Int → List Int → Bool) (x y : R) : f2T g env st x y = ob (asU x) fun xs => ob (asU y) fun ys => ob (numsOf xs) fun ns => ob (numsOf ys) fun ms => some (.d (.bl (g ns ms)), st) := by
  unfold f2T
  cases asU x with
  | none => rfl
  | some xs =>
    cases asU y with
    | none => rfl
    | some ys =>
      simp only [ob_s]
      cases numsOf xs with
      | none => rfl
      | some ns => simp only [ob_s]; cases numsOf ys <;> rfl
@[simp] theorem nums_dI : ∀ xs : List Int, numsOf (dI xs) = some xs
  | [] => rfl
  | x :: xs => by
    have := nums_dI xs
    simp only [dI] at this
    simp [dI, numsOf, this]
@[simp] theorem ev_fLeU (x y : R) : fLeU env st x y = fOr (f2I (fun _ _ => true) fun i j => .bl (decide (i ≤ j))) (f2T gLe) env st x y := (rfl)
@[simp] theorem ev_fGtU (x y : R) : fGtU env st x y = fOr (f2I (fun _ _ => true) fun i j => .bl (decide (j < i))) (f2T gGt) env st x y := (rfl)
@[simp] theorem ev_fLtU (x y : R) : fLtU env st x y = fOr (f2I (fun _ _ => true) fun i j => .bl (decide (i < j))) (f2T HT.lexLt) env st x y := (rfl)
@[simp] theorem ev_f2InK (neg : Bool) (x y : R) : f2InK neg env st x y = onD x fun d => ob (asK env st y) fun kvs => ob (keyOf d) fun k => some (.d (.bl (if neg then !(valD kvs k).isSome else (valD kvs k).isSome)), st) := by
  unfold f2InK
  cases x with
  | loc i => rfl
  | d d =>
    simp only [onD_d]
    cases asK env st y with
    | none => rfl
    | some kvs => simp only [ob_s]; cases keyOf d <;> rfl
@[simp] theorem ev_f2In (neg : Bool) (x y : R) : f2In neg env st x y = ob (toPR env st x) fun p => ob (listP env st y) fun ps => if SeqAt.shaped p && SeqAt.shaped (.list ps) then some (.d (.bl (if neg then !(ps.any fun z => PyData.eqv z p) else ps.any fun z => PyData.eqv z p)), st) else none := by
  unfold f2In
  cases toPR env st x with
  | none => rfl
  | some p => simp only [ob_s]; cases listP env st y <;> rfl
@[simp] theorem ev_f2Is (neg : Bool) (d : D) : f2Is neg env st (.d d) (.d .non) = some (.d (.bl (if neg then !decide (d = .non) else decide (d = .non))), st) := (rfl)
end
@[simp] theorem gGt2 (a b c d : Int) : gGt [a, b] [c, d] = (if a = c then (if b = d then false else decide (d < b)) else decide (c < a)) := by
  simp [gGt, Ob.lexAt]
@[simp] theorem gLe2 (a b c d : Int) : gLe [a, b] [c, d] = (if a = c then (if b = d then true else decide (b ≤ d)) else decide (a ≤ c)) := by
  simp [gLe, Ob.lexAt]
end Gx

namespace Gx
open PySem L2
/-! what a value with references shows -/
mutual
theorem toP_dr (d1 d2 : Nat → Option PyData) : ∀ x : D, okD x = true → toP d1 x = toP d2 x
  | .non, _ => rfl
  | .int i, _ => rfl
  | .str x, _ => rfl
  | .tup xs, h => by simp only [toP]; rw [toPs_dr d1 d2 xs h]
  | .lst xs, h => by simp only [toP]; rw [toPs_dr d1 d2 xs h]
  | .bl _, h => by simp [okD] at h
  | .ty _, h => by simp [okD] at h
  | .dct _ _, h => by simp [okD] at h
  | .dtt _ _, h => by simp [okD] at h
  | .ref _, h => by simp [okD] at h
  | .fn _, h => by simp [okD] at h
theorem toPs_dr (d1 d2 : Nat → Option PyData) : ∀ xs : List D, okDs xs = true → toPs d1 xs = toPs d2 xs
  | [], _ => rfl
  | x :: xs, h => by
    simp only [okDs, Bool.and_eq_true] at h
    simp only [toPs]
    rw [toP_dr d1 d2 x h.1, toPs_dr d1 d2 xs h.2]
end
def Vw (st : Store) (x y : D) : Prop := okD y = true ∧ toP (dr2 st) x = toP dr0 y
def Vws (st : Store) (xs ys : List D) : Prop := okDs ys = true ∧ toPs (dr2 st) xs = toPs dr0 ys
theorem vw_ok {st : Store} {x : D} (h : okD x = true) : Vw st x x := ⟨h, toP_dr _ _ x h⟩
theorem vws_ok {st : Store} {x : List D} (h : okDs x = true) : Vws st x x := ⟨h, toPs_dr _ _ x h⟩
theorem vw_ref {st : Store} {n : Nat} {xs : List D} (h : st[n]? = some (.lst xs)) (ho : okDs xs = true) : Vw st (.ref n) (.lst xs) := by
  refine ⟨ho, ?_⟩
  simp only [toP, dr2, drS]
  rw [h]
  dsimp only
  rw [toPs_dr _ dr0 xs ho]
theorem vws_nil {st : Store} : Vws st [] [] := ⟨rfl, rfl⟩
theorem vws_cons {st : Store} {x y : D} {xs ys : List D} (h : Vw st x y) (hs : Vws st xs ys) : Vws st (x :: xs) (y :: ys) := by
  refine ⟨by simp [okDs, h.1, hs.1], ?_⟩
  simp only [toPs]
  rw [h.2, hs.2]
theorem vw_lst {st : Store} {xs ys : List D} (h : Vws st xs ys) : Vw st (.lst xs) (.lst ys) := ⟨h.1, by simp only [toP]; rw [h.2]⟩
theorem vw_tup {st : Store} {xs ys : List D} (h : Vws st xs ys) : Vw st (.tup xs) (.tup ys) := ⟨h.1, by simp only [toP]; rw [h.2]⟩
theorem vws_map {α : Type} {st : Store} {f g : α → D} : ∀ {l : List α}, (∀ x ∈ l, Vw st (f x) (g x)) → Vws st (l.map f) (l.map g)
  | [], _ => vws_nil
  | x :: l, h => vws_cons (h x (by simp)) (vws_map fun y hy => h y (by simp [hy]))
theorem okDs_map {α : Type} {f : α → D} : ∀ {l : List α}, (∀ x ∈ l, okD (f x) = true) → okDs (l.map f) = true
  | [], _ => rfl
  | x :: l, h => by simp only [List.map_cons, okDs, Bool.and_eq_true]; exact ⟨h x (by simp), okDs_map fun y hy => h y (by simp [hy])⟩
theorem depDs_map {α : Type} {f : α → D} {n : Nat} : ∀ {l : List α}, (∀ x ∈ l, depD (f x) ≤ n) → depDs (l.map f) ≤ n
  | [], _ => Nat.zero_le _
  | x :: l, h => by
    have h1 := h x (by simp)
    have h2 := depDs_map (f := f) (n := n) (l := l) fun y hy => h y (by simp [hy])
    simp only [List.map_cons, depDs]; omega
theorem ev_eqV {neg : Bool} {env : Env} {st : Store} {x y x' y' : D} (hx : Vw st x x') (hy : Vw st y y') (dx : depD x' ≤ 64) (dy : depD y' ≤ 64) : f2Eq neg env st (.d x) (.d y) = some (.d (.bl (if neg then !decide (x' = y') else decide (x' = y'))), st) := by
  obtain ⟨p, h1, h2, h3⟩ := toP_okD dr0 x' hx.1
  obtain ⟨q, g1, g2, g3⟩ := toP_okD dr0 y' hy.1
  have a1 : toPR env st (.d x) = some p := hx.2.trans h1
  have a2 : toPR env st (.d y) = some q := hy.2.trans g1
  unfold f2Eq
  rw [a1, a2]
  dsimp only
  rw [if_pos, eqv_okD dr0 x' y' p q hx.1 hy.1 h1 g1]
  unfold SeqAt.shaped
  simp [h2, g2, h3, g3, dx, dy]
theorem ev_eqO {neg : Bool} {env : Env} {st : Store} {i : Nat} {xs ys zs : List D} (hi : env[i]? = some (.own (.lst xs))) (hx : Vws st xs ys) (hz : okDs zs = true) (dx : depDs ys ≤ 63) (dz : depDs zs ≤ 63) : f2Eq neg env st (.loc i) (.d (.lst zs)) = some (.d (.bl (if neg then !decide (ys = zs) else decide (ys = zs))), st) := by
  obtain ⟨ps, h1, h2, h3⟩ := toPs_okD dr0 ys hx.1
  obtain ⟨qs, g1, g2, g3⟩ := toPs_okD dr0 zs hz
  have a1 : toPR env st (.loc i) = some (.list ps) := by
    unfold toPR
    dsimp only
    rw [ev_asL_o, hi, slotL_o]
    dsimp only
    rw [hx.2, h1]
    rfl
  have a2 : toPR env st (.d (.lst zs)) = some (.list qs) := by
    unfold toPR
    dsimp only [toP]
    rw [toPs_dr _ dr0 zs hz, g1]
    rfl
  unfold f2Eq
  rw [a1, a2]
  dsimp only
  rw [if_pos]
  · simp only [PyData.eqv]
    rw [eqv_okDs dr0 ys zs ps qs hx.1 hz h1 g1]
  · unfold SeqAt.shaped
    simp [PyData.canLay0, PyData.depth, h2, g2, h3, g3]
    omega
theorem any_eqv (dr : Nat → Option PyData) {x : D} {p : PyData} (hx : okD x = true) (hp : toP dr x = some p) : ∀ {ys : List D} {ps : List PyData}, okDs ys = true → toPs dr ys = some ps → (ps.any fun z => PyData.eqv z p) = decide (x ∈ ys)
  | [], ps, _, h => by simp only [toPs] at h; cases h; simp
  | y :: ys, ps, h, h2 => by
    simp only [okDs, Bool.and_eq_true] at h
    obtain ⟨q, e1, _⟩ := toP_okD dr y h.1
    obtain ⟨qs, e2, _⟩ := toPs_okD dr ys h.2
    simp only [toPs] at h2
    rw [e1, e2] at h2
    cases h2
    simp only [List.any_cons]
    rw [any_eqv dr hx hp h.2 e2, eqv_okD dr y x q p h.1 hx e1 hp]
    by_cases h3 : x = y
    · simp [h3]
    · have h4 : ¬ y = x := fun e => h3 e.symm
      simp [h3, h4]
theorem ev_inO {neg : Bool} {env : Env} {st : Store} {i : Nat} {x : D} {ys : List D} (hi : env[i]? = some (.own (.lst ys))) (hx : okD x = true) (hy : okDs ys = true) (dx : depD x ≤ 64) (dy : depDs ys ≤ 63) : f2In neg env st (.d x) (.loc i) = some (.d (.bl (if neg then !decide (x ∈ ys) else decide (x ∈ ys))), st) := by
  obtain ⟨p, h1, h2, h3⟩ := toP_okD (dr2 st) x hx
  obtain ⟨qs, g1, g2, g3⟩ := toPs_okD (dr2 st) ys hy
  have a1 : toPR env st (.d x) = some p := h1
  have a2 : listP env st (.loc i) = some qs := by
    unfold listP
    simp only [ev_asL_o, hi, slotL_o]
    exact g1
  rw [ev_f2In, a1, a2]
  simp only [ob_s]
  rw [if_pos, any_eqv (dr2 st) hx h1 hy g1]
  unfold SeqAt.shaped
  simp [PyData.canLay0, PyData.depth, h2, g2, h3, g3, dx]
  omega
/-! comprehensions that change the store -/
theorem lcGo_inv {j : Nat} {e : ME} {env : Env} {chk : Store → Bool} (I : Nat → List D → Store → Prop) : ∀ (xs : List D) (i0 : Nat) (acc : List D) (st : Store), I i0 acc st → acc.length + xs.length ≤ 16000000 → (∀ i acc st, I i acc st → chk st = true) →
    (∀ (i : Nat) (hi : i < xs.length) acc st, I (i0 + i) acc st → ∃ d st2, e (env.set j (.val xs[i])) st = some (.d d, st2) ∧ I (i0 + i + 1) (acc ++ [d]) st2) →
    ∃ acc' st', lcGo j mYes e env chk xs st acc = some (acc', st') ∧ I (i0 + xs.length) acc' st'
  | [], i0, acc, st, h, _, hc, _ => ⟨acc, st, by unfold lcGo; rw [if_pos (hc _ _ _ h)], h⟩
  | x :: xs, i0, acc, st, h, hl, hc, hs => by
    obtain ⟨d, st2, h1, h2⟩ := hs 0 (by simp) acc st h
    obtain ⟨acc', st', h5, h6⟩ := lcGo_inv (chk := chk) I xs (i0 + 1) (acc ++ [d]) st2 h2 (by simp at hl ⊢; omega) hc (fun i hi a s q => by
      have := hs (i + 1) (by simp; omega) a s (by rw [show i0 + (i + 1) = i0 + 1 + i by omega]; exact q)
      rw [show i0 + (i + 1) + 1 = i0 + 1 + i + 1 by omega] at this
      exact this)
    refine ⟨acc', st', ?_, by rw [show i0 + (x :: xs).length = i0 + 1 + xs.length by simp; omega]; exact h6⟩
    unfold lcGo
    rw [if_pos (hc _ _ _ h)]
    simp only [ev_yes]
    have h1' : e (env.set j (.val x)) st = some (.d d, st2) := h1
    rw [h1']
    dsimp only
    rw [if_pos (by simp at hl; omega)]
    exact h5
theorem lc_rngI {m : ME} {j : Nat} {e : ME} {vs : List Nat} {env : Env} {st st1 : Store} {n : Nat} (I : Nat → List D → Store → Prop) (hm : m env st = some (.d (.int n), st1)) (hn : n ≤ 1000000) (h0 : I 0 [] st1)
    (h : ∀ (k : Nat) acc st, k < n → I k acc st → ∃ d st2, e ((wipeE env vs).set j (.val (.int k))) st = some (.d d, st2) ∧ I (k + 1) (acc ++ [d]) st2) :
    ∃ acc st', mLc (mRng1 m) j mYes e vs env st = some (.lst acc, st') ∧ I n acc st' := by
  have h1 : mRng1 m env st = some (.rng 0 n, st1) := by
    unfold mRng1; rw [hm]; dsimp only
    rw [if_pos (by unfold inR; exact decide_eq_true (by omega))]
    simp
  have h2 : (rngItems 0 n).length = n := by simp [rngItems]
  obtain ⟨acc, st', h3, h4⟩ := lcGo_inv (j := j) (e := e) (env := wipeE env vs) (chk := fun st => decide (srcItems env st (.rng 0 n) = some (rngItems 0 n))) I (rngItems 0 n) 0 [] st1 h0 (by simp [rngItems]; omega) (fun _ _ _ _ => by simp [srcItems]) (fun i hi a s q => by
    rw [h2] at hi
    have := h i a s hi (by simpa using q)
    simpa [rngItems] using this)
  refine ⟨acc, st', ?_, by simpa [h2] using h4⟩
  unfold mLc
  rw [h1]
  dsimp only [srcItems]
  dsimp only [srcItems] at h3
  rw [h3]
theorem lc_seqI {m : ME} {j : Nat} {e : ME} {vs : List Nat} {env : Env} {st st1 : Store} {d0 : D} {xs : List D} (I : Nat → List D → Store → Prop) (hm : m env st = some (.d d0, st1)) (hd : d0 = .lst xs ∨ d0 = .tup xs) (hn : xs.length ≤ 16000000) (h0 : I 0 [] st1)
    (h : ∀ (k : Nat) (hk : k < xs.length) acc st, I k acc st → ∃ d st2, e ((wipeE env vs).set j (.val xs[k])) st = some (.d d, st2) ∧ I (k + 1) (acc ++ [d]) st2) :
    ∃ acc st', mLc (mSeq m) j mYes e vs env st = some (.lst acc, st') ∧ I xs.length acc st' := by
  have hs : ∀ env st, seqOf env st (.d d0) = some xs := fun env st => by
    rcases hd with rfl | rfl <;> simp
  have h1 : mSeq m env st = some (.seq (.d d0), st1) := by
    rw [ev_mSeq, hm]; simp only [bnd_s]; rw [hs]; rfl
  obtain ⟨acc, st', h3, h4⟩ := lcGo_inv (j := j) (e := e) (env := wipeE env vs) (chk := fun st => decide (srcItems env st (.seq (.d d0)) = some xs)) I xs 0 [] st1 h0 (by simp; omega) (fun _ _ _ _ => decide_eq_true (hs _ _)) (fun i hi a s q => by
    have := h i hi a s (by simpa using q)
    simpa using this)
  refine ⟨acc, st', ?_, by simpa using h4⟩
  unfold mLc
  rw [h1]
  have h5 : srcItems env st1 (.seq (.d d0)) = some xs := by simp only [srcItems]; exact hs env st1
  dsimp only
  rw [h5]
  dsimp only
  rw [h3]
/-- [e for j in xs], the store unchanged -/
theorem lc_seq {m : ME} {j : Nat} {e : ME} {vs : List Nat} {env : Env} {st st1 : Store} {d0 : D} {xs : List D} (f : D → D) (hm : m env st = some (.d d0, st1)) (hd : d0 = .lst xs ∨ d0 = .tup xs) (hn : xs.length ≤ 16000000)
    (h : ∀ x ∈ xs, e ((wipeE env vs).set j (.val x)) st1 = some (.d (f x), st1)) :
    mLc (mSeq m) j mYes e vs env st = some (.lst (xs.map f), st1) := by
  obtain ⟨acc, st', h1, h2, h3⟩ := lc_seqI (j := j) (e := e) (vs := vs) (fun k acc s => s = st1 ∧ acc = (xs.take k).map f) hm hd hn ⟨rfl, by simp⟩ (fun k hk acc s ⟨h1, h2⟩ => by
    subst h1 h2
    refine ⟨f xs[k], s, h _ (List.getElem_mem hk), rfl, ?_⟩
    rw [List.take_add_one, List.map_append]
    simp [hk])
  rw [h1, h2, h3]
  simp
theorem ev_eq_self {neg : Bool} {env : Env} {st : Store} {x : D} (h : okD x = true) (d : depD x ≤ 64) : f2Eq neg env st (.d x) (.d x) = some (.d (.bl (!neg)), st) := by
  rw [ev_eq h h d d]; cases neg <;> simp
theorem ev_eq_t2 {neg : Bool} {env : Env} {st : Store} {a b : Int} : f2Eq neg env st (.d (.tup [.int a, .int b])) (.d (.tup [.int a, .int b])) = some (.d (.bl (!neg)), st) := ev_eq_self (by simp [okD, okDs]) (by simp [depD, depDs])
@[simp] theorem nums_nil : numsOf [] = some [] := (rfl)
@[simp] theorem nums_2 (a b : Int) : numsOf [.int a, .int b] = some [a, b] := (rfl)
@[simp] theorem okD_tup (xs : List D) : okD (.tup xs) = okDs xs := by simp [okD]
@[simp] theorem okD_lst (xs : List D) : okD (.lst xs) = okDs xs := by simp [okD]
@[simp] theorem okD_int (i : Int) : okD (.int i) = true := by simp [okD]
@[simp] theorem okDs_nil : okDs [] = true := by simp [okDs]
@[simp] theorem okDs_cons (x : D) (xs : List D) : okDs (x :: xs) = (okD x && okDs xs) := by simp [okDs]
@[simp] theorem depD_tup (xs : List D) : depD (.tup xs) = depDs xs + 1 := by simp [depD]
@[simp] theorem depD_lst (xs : List D) : depD (.lst xs) = depDs xs + 1 := by simp [depD]
@[simp] theorem depD_int (i : Int) : depD (.int i) = 0 := by simp [depD]
@[simp] theorem depDs_nil : depDs [] = 0 := by simp [depDs]
@[simp] theorem depDs_cons (x : D) (xs : List D) : depDs (x :: xs) = max (depD x) (depDs xs) := by simp [depDs]
end Gx

namespace Gx
open PySem L2
open PySem.W (AllAlike Sortable dataLe EachIs sorted_data alike dataLt)
section
variable {env : Env} {st : Store}
@[simp] theorem ev_mLf (m : MF) : mLf m env st = bnd (m env st) fun so s => ob (soL so) fun xs => some (xs, s) := by
  unfold mLf
  cases m env st with
  | none => rfl
  | some p => obtain ⟨so, s⟩ := p; cases so <;> rfl
@[simp] theorem ev_mLo (i : Nat) : mLo i env st = ob (slotL env[i]?) fun xs => some (xs, st) := by
  unfold mLo
  cases env[i]? with
  | none => rfl
  | some s =>
    cases s with
    | none => rfl
    | val d => rfl
    | own so => cases so <;> rfl
@[simp] theorem ev_mFCat (a b : ML) : mFCat a b env st = bnd (a env st) fun xs s => bnd (b env s) fun ys s2 => if xs.length + ys.length ≤ 16000000 then some (.lst (xs ++ ys), s2) else none := by
  unfold mFCat
  cases a env st with
  | none => rfl
  | some p =>
    obtain ⟨xs, s⟩ := p
    simp only [bnd_s]
    cases b env s <;> rfl
@[simp] theorem ev_mFSl (a : ME) (lo hi : MO) : mFSl a lo hi env st = bnd (a env st) fun x s => bnd (lo env s) fun l s2 => bnd (hi env s2) fun u s3 => ob (asL env s3 x) fun xs => some (.lst (cutD xs l u), s3) := by
  unfold mFSl
  cases a env st with
  | none => rfl
  | some p =>
    obtain ⟨x, s⟩ := p
    simp only [bnd_s]
    cases lo env s with
    | none => rfl
    | some p =>
      obtain ⟨l, s2⟩ := p
      simp only [bnd_s]
      cases hi env s2 with
      | none => rfl
      | some p =>
        obtain ⟨u, s3⟩ := p
        simp only [bnd_s]
        cases asL env s3 x <;> rfl
@[simp] theorem ev_f1Rev (x : R) : f1Rev env st x = ob (asL env st x) fun xs => some (.lst xs.reverse) := by
  unfold f1Rev
  cases asL env st x <;> rfl
@[simp] theorem ev_mMulX (a b : ME) : mMulX a b env st = m2 a b (f2I cMulX fun i j => .int (i * j)) env st := (rfl)
end
/-! ### sorted -/
/-- the order of the keys g -/
def leG {α : Type} (g : α → PyData) (a b : α) : Bool := !dataLt (g b) (g a)
theorem leG_eq {α : Type} (g : α → PyData) : leG g = dataLe false g := (PySem.W.dataLe_eq false g).symm
theorem leG_trans {α : Type} (g : α → PyData) (a b c : α) (h1 : leG g a b = true) (h2 : leG g b c = true) : leG g a c = true := by
  rw [leG_eq] at *
  exact (PySem.W.sortLe_total _ _ _).trans _ _ _ h1 h2
theorem leG_total {α : Type} (g : α → PyData) (a b : α) : (leG g a b || leG g b a) = true := by
  rw [leG_eq] at *
  rw [Bool.or_eq_true]
  exact (PySem.W.sortLe_total _ _ _).total _ _
theorem toPs_map {α : Type} {f : α → D} {g : α → PyData} (h : ∀ a, toP dr0 (f a) = some (g a)) : ∀ l : List α, toPs dr0 (l.map f) = some (l.map g)
  | [] => rfl
  | a :: l => by simp only [List.map_cons, toPs, h a, toPs_map h l]; rfl
theorem sort_map {α : Type} {f : α → D} {g : α → PyData} {l : List α} {env : Env} {st : Store} {x : R} (hx : asL env st x = some (l.map f)) (h : ∀ a, toP dr0 (f a) = some (g a)) (ok : sortOk (l.map g) = true) : f1Sort env st x = some (.lst ((l.mergeSort (leG g)).map f)) := by
  unfold f1Sort
  rw [hx]
  dsimp only
  rw [toPs_map h]
  dsimp only
  rw [if_pos ok, zip_map, ← List.map_mergeSort (f := fun a => (f a, g a)) (r := dataLe false g) (fun _ _ _ _ => rfl), List.map_map, leG_eq]
  rfl
/-! comprehensions over a list of things -/
theorem lcGo_filterA {α : Type} {g : α → D} {j : Nat} {t : MT} {e : ME} {env : Env} {chk : Store → Bool} {st : Store} (hc : chk st = true) (p : α → Bool) (f : α → D) : ∀ (xs : List α) (acc : List D), acc.length + xs.length ≤ 16000000 → (∀ x ∈ xs, t (env.set j (.val (g x))) st = some (p x, st)) → (∀ x ∈ xs, p x = true → e (env.set j (.val (g x))) st = some (.d (f x), st)) →
    lcGo j t e env chk (xs.map g) st acc = some (acc ++ (xs.filter p).map f, st)
  | [], acc, _, _, _ => by simp [lcGo, hc]
  | x :: xs, acc, hl, ht, h => by
    rw [List.map_cons]
    unfold lcGo
    rw [if_pos hc, ht x (by simp)]
    cases hp : p x with
    | true =>
      dsimp only
      rw [h x (by simp) hp]
      dsimp only
      rw [if_pos (by simp at hl; omega), lcGo_filterA hc p f xs (acc ++ [f x]) (by simp at hl ⊢; omega) (fun y hy => ht y (by simp [hy])) (fun y hy => h y (by simp [hy]))]
      simp [hp]
    | false =>
      dsimp only
      rw [lcGo_filterA hc p f xs acc (by simp at hl ⊢; omega) (fun y hy => ht y (by simp [hy])) (fun y hy => h y (by simp [hy]))]
      simp [hp]
theorem lc_seqIfA {α : Type} {g : α → D} {l : List α} {m : ME} {j : Nat} {t : MT} {e : ME} {vs : List Nat} {env : Env} {st st1 : Store} {d0 : D} (p : α → Bool) (f : α → D) (hm : m env st = some (.d d0, st1)) (hd : d0 = .lst (l.map g) ∨ d0 = .tup (l.map g)) (hn : l.length ≤ 16000000)
    (ht : ∀ x ∈ l, t ((wipeE env vs).set j (.val (g x))) st1 = some (p x, st1)) (h : ∀ x ∈ l, p x = true → e ((wipeE env vs).set j (.val (g x))) st1 = some (.d (f x), st1)) :
    mLc (mSeq m) j t e vs env st = some (.lst ((l.filter p).map f), st1) := by
  have hs : ∀ env st, seqOf env st (.d d0) = some (l.map g) := fun env st => by
    rcases hd with rfl | rfl <;> simp
  have h1 : mSeq m env st = some (.seq (.d d0), st1) := by
    rw [ev_mSeq, hm]; simp only [bnd_s]; rw [hs]; rfl
  have h5 : srcItems env st1 (.seq (.d d0)) = some (l.map g) := by simp only [srcItems]; exact hs env st1
  unfold mLc
  rw [h1]
  dsimp only
  rw [h5]
  dsimp only
  rw [lcGo_filterA (by simpa using h5) p f l [] (by simp; omega) ht h]
  simp
theorem lc_seqA {α : Type} {g : α → D} {l : List α} {m : ME} {j : Nat} {e : ME} {vs : List Nat} {env : Env} {st st1 : Store} {d0 : D} (f : α → D) (hm : m env st = some (.d d0, st1)) (hd : d0 = .lst (l.map g) ∨ d0 = .tup (l.map g)) (hn : l.length ≤ 16000000)
    (h : ∀ x ∈ l, e ((wipeE env vs).set j (.val (g x))) st1 = some (.d (f x), st1)) :
    mLc (mSeq m) j mYes e vs env st = some (.lst (l.map f), st1) := by
  have := lc_seqIfA (g := g) (l := l) (t := mYes) (fun _ => true) f hm hd hn (fun _ _ => rfl) (fun x hx _ => h x hx)
  rw [this, List.filter_eq_self.mpr (fun _ _ => rfl)]
end Gx

namespace Gx
open PySem L2
section
variable {env : Env} {st : Store}
@[simp] theorem ev_mFD0 : mFD0 env st = some (.dK [], st) := (rfl)
@[simp] theorem ev_f1Dict (x : R) : f1Dict env st x = ob (asK env st x) fun kvs => some (.dK kvs) := by
  unfold f1Dict
  cases asK env st x <;> rfl
@[simp] theorem ev_mGet2 (a b c : ME) : mGet2 a b c env st = bnd (a env st) fun x s => ob (asK env s x) fun _ => bnd (b env s) fun y s2 => onD y fun k => bnd (c env s2) fun w s3 => onD w fun z => ob (asK env s3 x) fun kvs => ob (keyOf k) fun kk => some (.d ((valD kvs kk).getD z), s3) := by
  unfold mGet2
  cases a env st with
  | none => rfl
  | some p =>
    obtain ⟨x, s⟩ := p
    simp only [bnd_s]
    cases asK env s x with
    | none => rfl
    | some _ =>
      simp only [ob_s]
      cases b env s with
      | none => rfl
      | some p =>
        obtain ⟨y, s2⟩ := p
        cases y with
        | loc i => rfl
        | d k =>
          simp only [bnd_s, onD_d]
          cases c env s2 with
          | none => rfl
          | some p =>
            obtain ⟨w, s3⟩ := p
            cases w with
            | loc i => rfl
            | d z =>
              simp only [bnd_s, onD_d]
              cases asK env s3 x with
              | none => rfl
              | some kvs => simp only [ob_s]; cases keyOf k <;> rfl
end
end Gx

namespace Gx
open PySem L2
section
variable (env : Env) (st : Store)
@[simp] theorem ev_eqS (neg : Bool) (a b : Str) (ha : PyData.strOk a = true) (hb : PyData.strOk b = true) : f2Eq neg env st (.d (.str a)) (.d (.str b)) = some (.d (.bl (if neg then !decide (a = b) else decide (a = b))), st) := by
  rw [ev_eq (by simpa [okD] using ha) (by simpa [okD] using hb) (by simp [depD]) (by simp [depD])]
  simp
@[simp] theorem ev_fIn (neg : Bool) (x y : R) : fIn neg env st x y = fOr (fOr (f2In neg) (f2InK neg)) (f2InU neg) env st x y := (rfl)
@[simp] theorem ev_listP (y : R) : listP env st y = ob (asL env st y) fun xs => toPs (dr2 st) xs := by
  unfold listP
  cases asL env st y <;> rfl
@[simp] theorem ev_tupP (y : R) : tupP st y = ob (asU y) fun xs => toPs (dr2 st) xs := by
  unfold tupP
  cases asU y <;> rfl
@[simp] theorem ev_f2InU (neg : Bool) (x y : R) : f2InU neg env st x y = ob (toPR env st x) fun p => ob (tupP st y) fun ps => if SeqAt.shaped p && SeqAt.shaped (.tuple ps) then some (.d (.bl (if neg then !(ps.any fun z => PyData.eqv z p) else ps.any fun z => PyData.eqv z p)), st) else none := by
  unfold f2InU
  cases toPR env st x with
  | none => rfl
  | some p => simp only [ob_s]; cases tupP st y <;> rfl
end
@[simp] theorem okD_str (x : Str) : okD (.str x) = PyData.strOk x := by simp [okD]
@[simp] theorem okD_non : okD .non = true := by simp [okD]
@[simp] theorem depD_str (x : Str) : depD (.str x) = 0 := by simp [depD]
@[simp] theorem depD_non : depD .non = 0 := by simp [depD]
@[simp] theorem okD_tI' (l : List Int) : okD (tI l) = true := by simp [tI, -tup_dI]
@[simp] theorem depD_tI' (l : List Int) : depD (tI l) = 1 := by simp [tI, -tup_dI, depDs_ints]
theorem ev_inU {neg : Bool} {env : Env} {st : Store} {x : D} {ys : List D} (hx : okD x = true) (hy : okDs ys = true) (dx : depD x ≤ 64) (dy : depDs ys ≤ 63) : fIn neg env st (.d x) (.d (.tup ys)) = some (.d (.bl (if neg then !decide (x ∈ ys) else decide (x ∈ ys))), st) := by
  obtain ⟨p, h1, h2, h3⟩ := toP_okD (dr2 st) x hx
  obtain ⟨qs, g1, g2, g3⟩ := toPs_okD (dr2 st) ys hy
  have a1 : toPR env st (.d x) = some p := h1
  have b1 : f2In neg env st (.d x) (.d (.tup ys)) = none := by
    rw [ev_f2In, a1]
    rfl
  have b2 : f2InK neg env st (.d x) (.d (.tup ys)) = none := by
    rw [ev_f2InK]
    rfl
  rw [ev_fIn, ev_fOr, ev_fOr, b1, b2, oe_n, oe_n, ev_f2InU, a1, ev_tupP]
  simp only [ob_s, ev_asU_t]
  rw [g1]
  simp only [ob_s]
  rw [if_pos, any_eqv (dr2 st) hx h1 hy g1]
  unfold SeqAt.shaped
  simp [PyData.canLay0, PyData.depth, h2, g2, h3, g3, dx]
  omega
theorem ev_inL {neg : Bool} {env : Env} {st : Store} {x : D} {ys : List D} (hx : okD x = true) (hy : okDs ys = true) (dx : depD x ≤ 64) (dy : depDs ys ≤ 63) : fIn neg env st (.d x) (.d (.lst ys)) = some (.d (.bl (if neg then !decide (x ∈ ys) else decide (x ∈ ys))), st) := by
  obtain ⟨p, h1, h2, h3⟩ := toP_okD (dr2 st) x hx
  obtain ⟨qs, g1, g2, g3⟩ := toPs_okD (dr2 st) ys hy
  have a1 : toPR env st (.d x) = some p := h1
  rw [ev_fIn, ev_fOr, ev_fOr, ev_f2In, a1, ev_listP]
  simp only [ob_s, ev_asL_l]
  rw [g1]
  simp only [ob_s]
  rw [if_pos, any_eqv (dr2 st) hx h1 hy g1]
  · rfl
  unfold SeqAt.shaped
  simp [PyData.canLay0, PyData.depth, h2, g2, h3, g3, dx]
  omega
end Gx

namespace Gx
open PySem L2
section
variable (env : Env) (st : Store)
@[simp] theorem ev_mAug (f : Int → Int → Int) (o i e : ME) : mAug f o i e env st = sOr (mAugL f o i e) (mAugK f o i e) env st := (rfl)
@[simp] theorem ev_mAugL (f : Int → Int → Int) (o i e : ME) : mAugL f o i e env st = bnd (o env st) fun ro st1 => bnd (i env st1) fun y st2 => ob (asI y) fun k => ob (asL env st2 ro) fun xs => if 0 ≤ k then ob xs[k.toNat]? fun z => ob (asI (.d z)) fun a => bnd (e env st2) fun u st3 => ob (asI u) fun b => chg (fun so => putL so (.int k) (.int (f a b))) env st3 ro else none := by
  unfold mAugL
  cases o env st with
  | none => rfl
  | some p =>
    obtain ⟨ro, st1⟩ := p
    simp only [bnd_s]
    cases i env st1 with
    | none => rfl
    | some p =>
      obtain ⟨y, st2⟩ := p
      cases y with
      | loc _ => rfl
      | d y =>
        cases y <;> first | rfl | skip
        rename_i k
        simp only [bnd_s, asI_i, ob_s]
        cases asL env st2 ro with
        | none => rfl
        | some xs =>
          simp only [ob_s]
          split
          · cases xs[k.toNat]? with
            | none => rfl
            | some z =>
              cases z <;> first | rfl | skip
              rename_i a
              simp only [ob_s, asI_i]
              cases e env st2 with
              | none => rfl
              | some p =>
                obtain ⟨u, st3⟩ := p
                cases u with
                | loc _ => rfl
                | d u => cases u <;> rfl
          · rfl
@[simp] theorem ev_mAugK (f : Int → Int → Int) (o i e : ME) : mAugK f o i e env st = bnd (o env st) fun ro st1 => bnd (i env st1) fun y st2 => onD y fun k => ob (asK env st2 ro) fun kvs => ob (keyOf k) fun kk => ob (valD kvs kk) fun z => ob (asI (.d z)) fun a => bnd (e env st2) fun u st3 => ob (asI u) fun b => chg (fun so => putKv so k (.int (f a b))) env st3 ro := by
  unfold mAugK
  cases o env st with
  | none => rfl
  | some p =>
    obtain ⟨ro, st1⟩ := p
    simp only [bnd_s]
    cases i env st1 with
    | none => rfl
    | some p =>
      obtain ⟨y, st2⟩ := p
      cases y with
      | loc _ => rfl
      | d k =>
        simp only [bnd_s, onD_d]
        cases asK env st2 ro with
        | none => rfl
        | some kvs =>
          simp only [ob_s]
          cases keyOf k with
          | none => rfl
          | some kk =>
            simp only [ob_s]
            cases valD kvs kk with
            | none => rfl
            | some z =>
              cases z <;> first | rfl | skip
              rename_i a
              simp only [ob_s, asI_i]
              cases e env st2 with
              | none => rfl
              | some p =>
                obtain ⟨u, st3⟩ := p
                cases u with
                | loc _ => rfl
                | d u => cases u <;> rfl
def refOf : R → Option Nat
  | .d (.ref n) => some n
  | _ => none
@[simp] theorem refOf_r (n : Nat) : refOf (.d (.ref n)) = some n := (rfl)
@[simp] theorem ev_mPopAt (mo mi : ME) : mPopAt mo mi env st = bnd (mo env st) fun x st1 => ob (refOf x) fun n => ob (stL st1[n]?) fun _ => bnd (mi env st1) fun y st2 => ob (asI y) fun i => ob (stL st2[n]?) fun xs => ob (ixN xs.length i) fun k => ob xs[k]? fun d => if xs.length ≤ 16000000 then some (.d d, st2.set n (.lst (xs.eraseIdx k))) else none := by
  unfold mPopAt
  cases mo env st with
  | none => rfl
  | some p =>
    obtain ⟨x, st1⟩ := p
    cases x with
    | loc _ => rfl
    | d x =>
      cases x <;> first | rfl | skip
      rename_i n
      simp only [bnd_s, refOf_r, ob_s]
      rw [ev_asL_r]
      cases stL st1[n]? with
      | none => rfl
      | some _ =>
        simp only [ob_s]
        cases mi env st1 with
        | none => rfl
        | some p =>
          obtain ⟨y, st2⟩ := p
          cases y with
          | loc _ => rfl
          | d y =>
            cases y <;> first | rfl | skip
            rename_i i
            simp only [bnd_s, asI_i, ob_s]
            cases st2[n]? with
            | none => rfl
            | some so =>
              cases so <;> first | rfl | skip
              rename_i xs
              simp only [stL_l, ob_s]
              cases ixN xs.length i with
              | none => rfl
              | some k =>
                simp only [ob_s]
                cases xs[k]? <;> rfl
@[simp] theorem ev_mFCatE (a b : ME) : mFCatE a b env st = bnd (a env st) fun x st1 => bnd (b env st1) fun y st2 => ob (asL env st2 x) fun xs => ob (asL env st2 y) fun ys => if xs.length + ys.length ≤ 16000000 then some (.lst (xs ++ ys), st2) else none := by
  unfold mFCatE
  cases a env st with
  | none => rfl
  | some p =>
    obtain ⟨x, st1⟩ := p
    simp only [bnd_s]
    cases b env st1 with
    | none => rfl
    | some p =>
      obtain ⟨y, st2⟩ := p
      simp only [bnd_s]
      cases asL env st2 x with
      | none => rfl
      | some xs => simp only [ob_s]; cases asL env st2 y <;> rfl
@[simp] theorem ev_mGet1 (a b : ME) : mGet1 a b env st = bnd (a env st) fun x s => ob (asK env s x) fun _ => bnd (b env s) fun y s2 => onD y fun k => ob (asK env s2 x) fun kvs => ob (keyOf k) fun kk => some (.d ((valD kvs kk).getD .non), s2) := by
  unfold mGet1
  cases a env st with
  | none => rfl
  | some p =>
    obtain ⟨x, s⟩ := p
    simp only [bnd_s]
    cases asK env s x with
    | none => rfl
    | some _ =>
      simp only [ob_s]
      cases b env s with
      | none => rfl
      | some p =>
        obtain ⟨y, s2⟩ := p
        cases y with
        | loc i => rfl
        | d k =>
          simp only [bnd_s, onD_d]
          cases asK env s2 x with
          | none => rfl
          | some kvs => simp only [ob_s]; cases keyOf k <;> rfl
@[simp] theorem ev_f2IsB (neg : Bool) (a b : Bool) : f2IsB neg env st (.d (.bl a)) (.d (.bl b)) = some (.d (.bl (if neg then !decide (a = b) else decide (a = b))), st) := (rfl)
@[simp] theorem ev_f2IsB_n (neg : Bool) (x : R) : f2IsB neg env st x (.d .non) = none := by
  cases x with
  | loc _ => rfl
  | d d => cases d <;> rfl
end
/-! ### dicts read and put -/
theorem valD_mem {κ : Type} [DecidableEq κ] {k : κ} {v : D} : ∀ {ls : List (κ × D)}, (ls.map (·.1)).Nodup → (k, v) ∈ ls → valD ls k = some v
  | [], _, h => by cases h
  | p :: ls, hn, h => by
    simp only [List.map_cons, List.nodup_cons] at hn
    unfold valD
    rw [List.find?_cons]
    rcases List.mem_cons.mp h with rfl | h
    · simp
    · have hne : ¬ p.1 = k := fun e => hn.1 (by rw [e]; exact List.mem_map.mpr ⟨(k, v), h, rfl⟩)
      simp only [hne, decide_false]
      exact valD_mem hn.2 h
theorem valD_none {κ : Type} [DecidableEq κ] {k : κ} {ls : List (κ × D)} : valD ls k = none ↔ k ∉ ls.map (·.1) := by
  unfold valD
  rw [Option.map_eq_none_iff, List.find?_eq_none]
  constructor
  · intro h hk
    obtain ⟨p, hp, rfl⟩ := List.mem_map.mp hk
    exact h p hp (by simp)
  · intro h p hp he
    exact h (List.mem_map.mpr ⟨p, hp, by simpa using he⟩)
theorem putD_new {κ : Type} [DecidableEq κ] {k : κ} {v : D} {ls : List (κ × D)} (h : k ∉ ls.map (·.1)) : putD ls k v = ls ++ [(k, v)] := by
  unfold putD
  rw [if_neg]
  intro e
  rw [List.any_eq_true] at e
  obtain ⟨p, hp, e⟩ := e
  exact h (List.mem_map.mpr ⟨p, hp, by simpa using e⟩)
/-- a dict comprehension over a list of things with keys all different -/
theorem dcGoG_nd {α : Type} {g : α → D} {mg : MG} {ek ev : ME} {env : Env} {bd : α → Env} {chk : Store → Bool} {st : Store} (hc : chk st = true) (fk : α → D) (kk : α → Key) (fv : α → D) : ∀ (xs : List α) (acc : List (Key × D)), acc.length + xs.length ≤ 1000000 →
    (∀ x ∈ xs, mg (g x) env = some (bd x)) → (∀ x ∈ xs, ek (bd x) st = some (.d (fk x), st)) → (∀ x ∈ xs, keyOf (fk x) = some (kk x)) → (∀ x ∈ xs, ev (bd x) st = some (.d (fv x), st)) → ((acc.map (·.1)) ++ xs.map kk).Nodup →
    dcGoG mg mYes ek ev env chk (xs.map g) st acc = some (acc ++ xs.map (fun x => (kk x, fv x)), st)
  | [], acc, _, _, _, _, _, _ => by
    simp only [List.map_nil, List.append_nil]
    unfold dcGoG
    rw [if_pos hc]
  | x :: xs, acc, hl, h1, h2, h3, h4, hn => by
    rw [List.map_cons]
    unfold dcGoG
    rw [if_pos hc, h1 x (by simp)]
    dsimp only
    simp only [ev_yes]
    rw [h2 x (by simp)]
    dsimp only
    rw [h3 x (by simp)]
    dsimp only
    rw [h4 x (by simp)]
    dsimp only
    have hnew : kk x ∉ acc.map (·.1) := fun e => by
      rw [List.nodup_append] at hn
      exact hn.2.2 _ e (kk x) (by simp) rfl
    rw [if_pos (by simp at hl; omega), putD_new hnew, dcGoG_nd hc fk kk fv xs (acc ++ [(kk x, fv x)]) (by simp at hl ⊢; omega) (fun y hy => h1 y (by simp [hy])) (fun y hy => h2 y (by simp [hy])) (fun y hy => h3 y (by simp [hy])) (fun y hy => h4 y (by simp [hy])) (by simpa using hn)]
    simp
theorem dc_seqG {α : Type} {g : α → D} {l : List α} {m : ME} {mg : MG} {ek ev : ME} {vs : List Nat} {env : Env} {st st1 : Store} {r0 : R} (bd : α → Env) (fk : α → D) (kk : α → Key) (fv : α → D) (hm : m env st = some (r0, st1)) (hs : seqOf env st1 r0 = some (l.map g)) (hn : l.length ≤ 1000000)
    (h1 : ∀ x ∈ l, mg (g x) (wipeE env vs) = some (bd x)) (h2 : ∀ x ∈ l, ek (bd x) st1 = some (.d (fk x), st1)) (h3 : ∀ x ∈ l, keyOf (fk x) = some (kk x)) (h4 : ∀ x ∈ l, ev (bd x) st1 = some (.d (fv x), st1)) (hd : (l.map kk).Nodup) :
    mDcG (mSeq m) mg mYes ek ev vs env st = some (.dK (l.map fun x => (kk x, fv x)), st1) := by
  have h1' : mSeq m env st = some (.seq r0, st1) := by
    rw [ev_mSeq, hm]; simp only [bnd_s]; rw [hs]; rfl
  unfold mDcG
  rw [h1']
  have h5 : srcItems env st1 (.seq r0) = some (l.map g) := by simp only [srcItems]; exact hs
  dsimp only
  rw [h5]
  dsimp only
  rw [dcGoG_nd (decide_eq_true h5) fk kk fv l [] (by simpa using hn) h1 h2 h3 h4 (by simpa using hd)]
  rfl
/-- == of dicts with the same entries -/
theorem ev_eqKK {neg : Bool} {env : Env} {st : Store} {x y : R} {ks : List (Key × D)} (h1 : asK env st x = some ks) (h2 : asK env st y = some ks) (hn : (ks.map (·.1)).Nodup) (hv : ∀ p ∈ ks, okD p.2 = true ∧ depD p.2 ≤ 60) : f2EqK neg env st x y = some (.d (.bl (!neg)), st) := by
  unfold f2EqK
  rw [h1, h2]
  dsimp only
  rw [if_pos]
  refine ⟨rfl, List.all_eq_true.mpr fun p hp => ?_⟩
  unfold eqAtK
  obtain ⟨q, e1, e2, e3⟩ := toP_okD (dr2 st) p.2 (hv p hp).1
  have hd := (hv p hp).2
  rw [valD_mem (v := p.2) hn hp]
  dsimp only
  rw [e1]
  dsimp only
  have hself : PyData.eqv q q = true := by
    rw [eqv_okD (dr2 st) p.2 p.2 q q (hv p hp).1 (hv p hp).1 e1 e1]; simp
  rw [hself]
  unfold SeqAt.shaped
  simp [e2, e3]
  omega
@[simp] theorem ev_same (neg : Bool) (env : Env) (st : Store) (x : D) (h : okD x = true) (d : depD x ≤ 64) : f2Eq neg env st (.d x) (.d x) = some (.d (.bl (!neg)), st) := ev_eq_self h d
@[simp] theorem ev_toPR_i (env : Env) (st : Store) (i : Int) : toPR env st (.d (.int i)) = some (.int i) := (rfl)
@[simp] theorem ev_toPR_s (env : Env) (st : Store) (x : Str) : toPR env st (.d (.str x)) = some (.str x) := (rfl)
@[simp] theorem ev_toPR_n (env : Env) (st : Store) : toPR env st (.d .non) = some .none := (rfl)
theorem sq_step {a b : MS} {env env1 : Env} {st st1 : Store} (h : a env st = some (.nx, env1, st1)) : mSq a b env st = b env1 st1 := by rw [ev_mSq, h, sq_nx]
theorem sq_ret {a b : MS} {env env1 : Env} {st st1 : Store} {d : D} (h : a env st = some (.rt d, env1, st1)) : mSq a b env st = some (.rt d, env1, st1) := by rw [ev_mSq, h, sq_rt]
/-! sources that are references -/
theorem lc_seqIfR {α : Type} {g : α → D} {l : List α} {m : ME} {j : Nat} {t : MT} {e : ME} {vs : List Nat} {env : Env} {st st1 : Store} {r0 : R} (p : α → Bool) (f : α → D) (hm : m env st = some (r0, st1)) (hs : seqOf env st1 r0 = some (l.map g)) (hn : l.length ≤ 16000000)
    (ht : ∀ x ∈ l, t ((wipeE env vs).set j (.val (g x))) st1 = some (p x, st1)) (h : ∀ x ∈ l, p x = true → e ((wipeE env vs).set j (.val (g x))) st1 = some (.d (f x), st1)) :
    mLc (mSeq m) j t e vs env st = some (.lst ((l.filter p).map f), st1) := by
  have h1 : mSeq m env st = some (.seq r0, st1) := by
    rw [ev_mSeq, hm]; simp only [bnd_s]; rw [hs]; rfl
  have h5 : srcItems env st1 (.seq r0) = some (l.map g) := by simp only [srcItems]; exact hs
  unfold mLc
  rw [h1]
  dsimp only
  rw [h5]
  dsimp only
  rw [lcGo_filterA (decide_eq_true h5) p f l [] (by simp; omega) ht h]
  simp
theorem lc_seqR {α : Type} {g : α → D} {l : List α} {m : ME} {j : Nat} {e : ME} {vs : List Nat} {env : Env} {st st1 : Store} {r0 : R} (f : α → D) (hm : m env st = some (r0, st1)) (hs : seqOf env st1 r0 = some (l.map g)) (hn : l.length ≤ 16000000)
    (h : ∀ x ∈ l, e ((wipeE env vs).set j (.val (g x))) st1 = some (.d (f x), st1)) :
    mLc (mSeq m) j mYes e vs env st = some (.lst (l.map f), st1) := by
  have := lc_seqIfR (g := g) (l := l) (t := mYes) (fun _ => true) f hm hs hn (fun _ _ => rfl) (fun x hx _ => h x hx)
  rw [this, List.filter_eq_self.mpr (fun _ _ => rfl)]
theorem for_seqR {m : ME} {g : MG} {body : MS} {env : Env} {st st1 : Store} {d : D} {xs : List D} (I : Nat → Env → Store → Prop) (hm : m env st = some (.d d, st1)) (h0 : I 0 env st1) (hI : ∀ i env st, I i env st → seqOf env st (.d d) = some xs)
    (hs : ∀ (k : Nat) (hk : k < xs.length) env st, I k env st → ∃ env1, g xs[k] env = some env1 ∧ ∃ f env2 st2, body env1 st = some (f, env2, st2) ∧ (f = .nx ∨ f = .ct) ∧ I (k + 1) env2 st2) :
    ∃ env' st', mFor (mSeq m) g body env st = some (.nx, env', st') ∧ I xs.length env' st' := by
  have h1 : mSeq m env st = some (.seq (.d d), st1) := by
    unfold mSeq; rw [hm]; dsimp only; rw [hI _ _ _ h0]
  unfold mFor
  rw [h1]
  dsimp only
  rw [if_pos (show isData _ = true from rfl)]
  dsimp only [srcItems]
  rw [hI _ _ _ h0]
  dsimp only
  obtain ⟨env', st', h2, h3⟩ := forGo_inv (g := g) (body := body) (chk := fun env st => decide (seqOf env st (.d d) = some xs)) I xs 0 env st1 h0 (fun i e s q => decide_eq_true (hI i e s q)) (fun i hi e s q => by
    have := hs i hi e s (by simpa using q)
    simpa using this)
  rw [Nat.zero_add] at h3
  exact ⟨env', st', h2, h3⟩
/-! ### frames of the store -/
def Fr (st st' : Store) (S : List Nat) : Prop := st.length ≤ st'.length ∧ ∀ i, i < st.length → i ∉ S → st'[i]? = st[i]?
theorem Fr.refl (st : Store) (S : List Nat) : Fr st st S := ⟨Nat.le_refl _, fun _ _ _ => rfl⟩
theorem Fr.trans {st st1 st2 : Store} {S T : List Nat} (h : Fr st st1 S) (h2 : Fr st1 st2 T) : Fr st st2 (S ++ T) := by
  refine ⟨Nat.le_trans h.1 h2.1, fun i hi hn => ?_⟩
  simp only [List.mem_append, not_or] at hn
  rw [h2.2 i (Nat.lt_of_lt_of_le hi h.1) hn.2, h.2 i hi hn.1]
theorem Fr.set (st : Store) (n : Nat) (x : SO) : Fr st (st.set n x) [n] := by
  refine ⟨by simp, fun i hi hn => ?_⟩
  rw [List.getElem?_set_ne]
  intro e
  exact hn (by simp [e])
theorem Fr.app (st : Store) (xs : List SO) : Fr st (st ++ xs) [] := ⟨by simp, fun i hi _ => List.getElem?_append_left hi⟩
theorem Fr.get {st st' : Store} {S : List Nat} (h : Fr st st' S) {i : Nat} {x : SO} (e : st[i]? = some x) (hn : i ∉ S) : st'[i]? = some x := by
  rw [h.2 i (List.getElem?_eq_some_iff.mp e).1 hn]; exact e
theorem Fr.mono {st st' : Store} {S T : List Nat} (h : Fr st st' S) (hs : ∀ i ∈ S, i ∈ T) : Fr st st' T := ⟨h.1, fun i hi hn => h.2 i hi fun q => hn (hs i q)⟩
theorem get_set {st : Store} {i : Nat} {y : SO} (h : st[i]? = some y) (x : SO) : (st.set i x)[i]? = some x := by
  have := (List.getElem?_eq_some_iff.mp h).1
  simp [this]
theorem get_app {st : Store} {i : Nat} {y : SO} (h : st[i]? = some y) (xs : List SO) : (st ++ xs)[i]? = some y := by
  rw [List.getElem?_append_left (List.getElem?_eq_some_iff.mp h).1]; exact h
theorem get_new {st : Store} (x : SO) : (st ++ [x])[st.length]? = some x := by simp
theorem get_lt {st : Store} {i : Nat} {y : SO} (h : st[i]? = some y) : i < st.length := (List.getElem?_eq_some_iff.mp h).1
end Gx

namespace Gx
open PySem L2
section
variable (env : Env) (st : Store)
@[simp] theorem ev_mFD0T : mFD0T env st = some (.dT [], st) := (rfl)
@[simp] theorem ev_mFTup (a : MA) : mFTup a env st = bnd (a env st) fun ds s => if ds.length ≤ 16000000 then some (.tup ds, s) else none := by
  cases h : a env st <;> simp only [mFTup, h] <;> rfl
@[simp] theorem ev_mKt (a : MA) : mKt a env st = bnd (a env st) fun ds s => if ds.length ≤ 16000000 then ob (keysOf ds) fun ks => some (ks, s) else none := by
  cases h : a env st with
  | none => simp only [mKt, h]; rfl
  | some p =>
    obtain ⟨ds, s⟩ := p
    simp only [mKt, h, bnd_s]
    split
    · cases keysOf ds <;> rfl
    · rfl
@[simp] theorem slotU_o (xs : List D) : slotU (some (.own (.tup xs))) = some xs := (rfl)
@[simp] theorem ev_mKv (i : Nat) : mKv i env st = ob (slotU env[i]?) fun ds => ob (keysOf ds) fun ks => some (ks, st) := by
  unfold mKv
  cases slotU env[i]? with
  | none => rfl
  | some ds => simp only [ob_s]; cases keysOf ds <;> rfl
@[simp] theorem keysOf_nil : keysOf [] = some [] := (rfl)
@[simp] theorem keysOf_cons (d : D) (ds : List D) : keysOf (d :: ds) = ob (keyOf d) fun k => ob (keysOf ds) fun ks => some (k :: ks) := by
  cases h : keyOf d with
  | none => simp only [keysOf, h, ob_n]
  | some k =>
    simp only [keysOf, h, ob_s]
    cases keysOf ds <;> rfl
def slotT (o : Option Slot) : Option (List (List Key × D)) := match o with | some (.own (.dT xs)) => some xs | _ => none
@[simp] theorem slotT_o (xs) : slotT (some (.own (.dT xs))) = some xs := (rfl)
def stT (o : Option SO) : Option (List (List Key × D)) := match o with | some (.dT xs) => some xs | _ => none
@[simp] theorem stT_o (xs) : stT (some (.dT xs)) = some xs := (rfl)
@[simp] theorem ev_asT_r (n : Nat) : asT env st (.d (.ref n)) = stT st[n]? := by
  unfold asT stT
  rfl
@[simp] theorem ev_asT_o (i : Nat) : asT env st (.loc i) = slotT env[i]? := by
  unfold asT slotT
  rfl
@[simp] theorem ev_asT_k (ks vs) : asT env st (.d (.dtt ks vs)) = some (ks.zip vs) := (rfl)
@[simp] theorem ev_mGet2T (a : ME) (k : MK) (c : ME) : mGet2T a k c env st = bnd (a env st) fun x s => ob (asT env s x) fun _ => bnd (k env s) fun kk s2 => bnd (c env s2) fun w s3 => onD w fun z => ob (asT env s3 x) fun kvs => some (.d ((valD kvs kk).getD z), s3) := by
  unfold mGet2T
  cases a env st with
  | none => rfl
  | some p =>
    obtain ⟨x, s⟩ := p
    simp only [bnd_s]
    cases asT env s x with
    | none => rfl
    | some _ =>
      simp only [ob_s]
      cases k env s with
      | none => rfl
      | some p =>
        obtain ⟨kk, s2⟩ := p
        simp only [bnd_s]
        cases c env s2 with
        | none => rfl
        | some p =>
          obtain ⟨w, s3⟩ := p
          cases w with
          | loc i => rfl
          | d z => simp only [bnd_s, onD_d]; cases asT env s3 x <;> rfl
@[simp] theorem ev_mIxT (a : ME) (k : MK) : mIxT a k env st = bnd (a env st) fun x s => bnd (k env s) fun kk s2 => ob (asT env s2 x) fun kvs => ob (valD kvs kk) fun z => some (.d z, s2) := by
  unfold mIxT
  cases a env st with
  | none => rfl
  | some p =>
    obtain ⟨x, s⟩ := p
    simp only [bnd_s]
    cases k env s with
    | none => rfl
    | some p =>
      obtain ⟨kk, s2⟩ := p
      simp only [bnd_s]
      cases asT env s2 x with
      | none => rfl
      | some kvs => simp only [ob_s]; cases valD kvs kk <;> rfl
@[simp] theorem ev_mInT (neg : Bool) (k : MK) (a : ME) : mInT neg k a env st = bnd (k env st) fun kk s => bnd (a env s) fun x s2 => ob (asT env s2 x) fun kvs => some (.d (.bl (if neg then !(valD kvs kk).isSome else (valD kvs kk).isSome)), s2) := by
  unfold mInT
  cases k env st with
  | none => rfl
  | some p =>
    obtain ⟨kk, s⟩ := p
    simp only [bnd_s]
    cases a env s with
    | none => rfl
    | some p =>
      obtain ⟨x, s2⟩ := p
      simp only [bnd_s]
      cases asT env s2 x <;> rfl
@[simp] theorem ev_mStT (o : ME) (k : MK) (v : ME) : mStT o k v env st = bnd (v env st) fun x s => onD x fun dv => bnd (o env s) fun ro s2 => bnd (k env s2) fun kk s3 => chg (fun so => putT so kk dv) env s3 ro := by
  unfold mStT
  cases v env st with
  | none => rfl
  | some p =>
    obtain ⟨x, s⟩ := p
    cases x with
    | loc i => rfl
    | d dv =>
      simp only [bnd_s, onD_d]
      cases o env s with
      | none => rfl
      | some p =>
        obtain ⟨ro, s2⟩ := p
        simp only [bnd_s]
        cases k env s2 <;> rfl
@[simp] theorem ev_putT (kvs : List (List Key × D)) (k : List Key) (v : D) : putT (.dT kvs) k v = if kvs.length < 16000000 then some (.dT (putD kvs k v)) else none := (rfl)
end
theorem valD_put {κ : Type} [DecidableEq κ] (k j : κ) (v : D) : ∀ kvs : List (κ × D), valD (putD kvs k v) j = if j = k then some v else valD kvs j := by
  have hmap : ∀ kvs : List (κ × D), valD (kvs.map fun kv => if kv.1 = k then (kv.1, v) else kv) j = (valD kvs j).map fun x => if j = k then v else x := by
    intro kvs
    induction kvs with
    | nil => rfl
    | cons p r ih =>
      by_cases hk : p.1 = k
      · by_cases hj : p.1 = j
        · have : j = k := hj.symm.trans hk
          simp [valD, hk, hj, this]
        · have hj2 : ¬ k = j := fun e => hj (hk.trans e)
          have ih' := ih
          unfold valD at ih' ⊢
          simp only [List.map_cons, hk, if_true, List.find?_cons, hj2, decide_false]
          exact ih'
      · by_cases hj : p.1 = j
        · have : ¬ j = k := fun e => hk (hj.trans e)
          simp [valD, hk, hj, this]
        · have ih' := ih
          unfold valD at ih' ⊢
          simp only [List.map_cons, hk, if_false, List.find?_cons, hj, decide_false]
          exact ih'
  intro kvs
  unfold putD
  split
  · rename_i h
    rw [hmap]
    by_cases e : j = k
    · subst e
      simp only [if_true]
      cases hv : valD kvs j with
      | none =>
        rw [List.any_eq_true] at h
        obtain ⟨p, hp, hp2⟩ := h
        exact absurd (List.mem_map.mpr ⟨p, hp, by simpa using hp2⟩) (valD_none.mp hv)
      | some _ => rfl
    · simp only [e, if_false]
      cases valD kvs j <;> rfl
  · rename_i h
    unfold valD
    rw [List.find?_append]
    by_cases e : j = k
    · subst e
      have : kvs.find? (fun kv => decide (kv.1 = j)) = none := by
        rw [List.find?_eq_none]
        intro p hp q
        apply h
        rw [List.any_eq_true]
        exact ⟨p, hp, q⟩
      simp [this]
    · have e2 : ¬ k = j := fun q => e q.symm
      simp only [e, if_false]
      cases kvs.find? (fun kv => decide (kv.1 = j)) with
      | some _ => rfl
      | none => simp [e2]
theorem putD_len {κ : Type} [DecidableEq κ] (k : κ) (v : D) (kvs : List (κ × D)) : (putD kvs k v).length ≤ kvs.length + 1 := by
  unfold putD
  split <;> simp
/-- [e for j in range(a, b)] -/
theorem lc_rng2 {ma mb : ME} {j : Nat} {e : ME} {vs : List Nat} {env : Env} {st st1 st2 : Store} {lo hi : Nat} (f : Nat → D) (hm : ma env st = some (.d (.int lo), st1)) (hm2 : mb env st1 = some (.d (.int hi), st2)) (hn : lo ≤ 1000000 ∧ hi ≤ 1000000) (h : ∀ k : Nat, lo ≤ k → k < hi → e ((wipeE env vs).set j (.val (.int k))) st2 = some (.d (f k), st2)) :
    mLc (mRng2 ma mb) j mYes e vs env st = some (.lst ((List.range' lo (hi - lo)).map f), st2) := by
  have h1 : mRng2 ma mb env st = some (.rng lo (hi - lo), st2) := by
    unfold mRng2; rw [hm]; dsimp only; rw [hm2]; dsimp only
    rw [if_pos (by unfold inR; rw [decide_eq_true (by omega), decide_eq_true (by omega)]; rfl)]
    congr 3
    omega
  have hit : rngItems lo (hi - lo) = (List.range' lo (hi - lo)).map fun (k : Nat) => D.int k := by
    rw [List.range'_eq_map_range]
    simp [rngItems, Function.comp_def]
  have h5 : srcItems env st2 (.rng lo (hi - lo)) = some ((List.range' lo (hi - lo)).map fun (k : Nat) => D.int k) := by
    simp only [srcItems]
    rw [hit]
  unfold mLc
  rw [h1]
  dsimp only
  rw [h5]
  dsimp only
  rw [lcGo_filterA (g := fun (k : Nat) => D.int k) (t := mYes) (decide_eq_true h5) (fun _ => true) f (List.range' lo (hi - lo)) [] (by simp; omega) (fun _ _ => rfl) (fun x hx _ => by
    rw [List.mem_range'] at hx
    obtain ⟨i, hi1, rfl⟩ := hx
    exact h _ (by omega) (by omega))]
  rw [List.filter_eq_self.mpr (fun _ _ => rfl)]
  simp
/-! ### layouts: where the objects of a program stand -/
structure Lay {O : Type} (dom : O → Prop) (A : O → Nat) (val : O → SO) (st : Store) : Prop where
  at_ : ∀ o, dom o → st[A o]? = some (val o)
  inj : ∀ o o', dom o → dom o' → A o = A o' → o = o'
theorem Lay.set {O : Type} {dom : O → Prop} {A : O → Nat} {val val' : O → SO} {st : Store} (H : Lay dom A val st) {o : O} {v : SO} (ho : dom o) (hv : val' o = v) (hne : ∀ o', dom o' → o' ≠ o → val' o' = val o') : Lay dom A val' (st.set (A o) v) := by
  refine ⟨fun o' h' => ?_, H.inj⟩
  by_cases e : o' = o
  · subst e
    rw [hv]
    exact get_set (H.at_ o' h') _
  · rw [List.getElem?_set_ne (fun q => e (H.inj _ _ h' ho q.symm)), hne o' h' e]
    exact H.at_ o' h'
theorem Lay.app {O : Type} {dom : O → Prop} {A : O → Nat} {val : O → SO} {st : Store} (H : Lay dom A val st) (xs : List SO) : Lay dom A val (st ++ xs) := ⟨fun o h => get_app (H.at_ o h) _, H.inj⟩
/-- an object moves to the end -/
theorem Lay.move {O : Type} {dom : O → Prop} {A A' : O → Nat} {val val' : O → SO} {st : Store} (H : Lay dom A val st) {o : O} {v : SO} (ho : dom o) (hA : A' o = st.length) (hA2 : ∀ o', dom o' → o' ≠ o → A' o' = A o') (hv : val' o = v) (hne : ∀ o', dom o' → o' ≠ o → val' o' = val o') : Lay dom A' val' (st ++ [v]) := by
  refine ⟨fun o' h' => ?_, fun a b ha hb e => ?_⟩
  · by_cases e : o' = o
    · subst e
      rw [hA, hv]
      exact get_new _
    · rw [hA2 o' h' e, hne o' h' e]
      exact get_app (H.at_ o' h') _
  · by_cases ea : a = o
    · subst ea
      by_cases eb : b = a
      · exact eb.symm
      · rw [hA, hA2 b hb eb] at e
        have := get_lt (H.at_ b hb)
        omega
    · by_cases eb : b = o
      · subst eb
        rw [hA, hA2 a ha ea] at e
        have := get_lt (H.at_ a ha)
        omega
      · rw [hA2 a ha ea, hA2 b hb eb] at e
        exact H.inj a b ha hb e
@[simp] theorem ev_dOf_T (xs) : dOf (.dT xs) = some (.dtt (xs.map (·.1)) (xs.map (·.2))) := (rfl)
@[simp] theorem ev_dOf_u (xs) : dOf (.tup xs) = some (.tup xs) := (rfl)
end Gx

namespace Gx
open PySem L2
section
variable (env : Env) (st : Store)
@[simp] theorem ev_fInC (neg : Bool) (hits : List (Str × D)) (misses : List Str) (z : Str) : fInC neg hits misses env st (.d (.str z)) = if (valD hits z).isSome then some (.d (.bl (!neg)), st) else if z ∈ misses then some (.d (.bl neg), st) else none := (rfl)
@[simp] theorem ev_fIxC (hits : List (Str × D)) (z : Str) : fIxC hits env st (.d (.str z)) = ob (valD hits z) fun v => some (.d v, st) := by
  unfold fIxC
  simp only
  cases valD hits z <;> rfl
@[simp] theorem ev_f2IxS (z : Str) (i : Int) : f2IxS env st (.d (.str z)) (.d (.int i)) = if z.length ≤ 16000000 then ob (atI z.cps.toList i) fun c => some (.d (.str ⟨#[c]⟩), st) else none := by
  unfold f2IxS
  simp only
  split
  · cases atI z.cps.toList i <;> rfl
  · rfl
@[simp] theorem ev_f1LenA_s (z : Str) : f1LenA env st (.d (.str z)) = if z.length ≤ 16000000 then some (.d (.int z.length), st) else none := (rfl)
@[simp] theorem ev_f1LenA_t (xs : List D) : f1LenA env st (.d (.tup xs)) = some (.d (.int xs.length), st) := (rfl)
@[simp] theorem ev_f1LenA_l (xs : List D) : f1LenA env st (.d (.lst xs)) = some (.d (.int xs.length), st) := (rfl)
@[simp] theorem ev_f1LenA_o (i : Nat) : f1LenA env st (.loc i) = f1Len env st (.loc i) := by
  unfold f1LenA
  cases f1Len env st (.loc i) <;> rfl
theorem ev_f1LenA {x : R} {z : R × Store} (h : f1Len env st x = some z) : f1LenA env st x = some z := by
  unfold f1LenA
  rw [h]
@[simp] theorem ev_asL_s (x : Str) : asL env st (.d (.str x)) = none := (rfl)
@[simp] theorem ev_asK_s (x : Str) : asK env st (.d (.str x)) = none := (rfl)
@[simp] theorem ev_asU_s' (x : Str) : asU (.d (.str x)) = none := (rfl)
end
@[simp] theorem kit_0_3 : kitB "int" "str" = some false := by decide +kernel
@[simp] theorem kit_0_4 : kitB "int" "list" = some false := by decide +kernel
@[simp] theorem kit_0_5 : kitB "int" "tuple" = some false := by decide +kernel
@[simp] theorem kit_0_6 : kitB "int" "dict" = some false := by decide +kernel
@[simp] theorem kit_1_3 : kitB "bool" "str" = some false := by decide +kernel
@[simp] theorem kit_1_4 : kitB "bool" "list" = some false := by decide +kernel
@[simp] theorem kit_1_5 : kitB "bool" "tuple" = some false := by decide +kernel
@[simp] theorem kit_1_6 : kitB "bool" "dict" = some false := by decide +kernel
@[simp] theorem kit_2_0 : kitB "NoneType" "int" = some false := by decide +kernel
@[simp] theorem kit_2_1 : kitB "NoneType" "bool" = some false := by decide +kernel
@[simp] theorem kit_2_3 : kitB "NoneType" "str" = some false := by decide +kernel
@[simp] theorem kit_2_4 : kitB "NoneType" "list" = some false := by decide +kernel
@[simp] theorem kit_2_5 : kitB "NoneType" "tuple" = some false := by decide +kernel
@[simp] theorem kit_2_6 : kitB "NoneType" "dict" = some false := by decide +kernel
@[simp] theorem kit_3_0 : kitB "str" "int" = some false := by decide +kernel
@[simp] theorem kit_3_1 : kitB "str" "bool" = some false := by decide +kernel
@[simp] theorem kit_3_3 : kitB "str" "str" = some true := by decide +kernel
@[simp] theorem kit_3_4 : kitB "str" "list" = some false := by decide +kernel
@[simp] theorem kit_3_5 : kitB "str" "tuple" = some false := by decide +kernel
@[simp] theorem kit_3_6 : kitB "str" "dict" = some false := by decide +kernel
@[simp] theorem kit_4_0 : kitB "list" "int" = some false := by decide +kernel
@[simp] theorem kit_4_1 : kitB "list" "bool" = some false := by decide +kernel
@[simp] theorem kit_4_3 : kitB "list" "str" = some false := by decide +kernel
@[simp] theorem kit_4_5 : kitB "list" "tuple" = some false := by decide +kernel
@[simp] theorem kit_4_6 : kitB "list" "dict" = some false := by decide +kernel
@[simp] theorem kit_5_0 : kitB "tuple" "int" = some false := by decide +kernel
@[simp] theorem kit_5_1 : kitB "tuple" "bool" = some false := by decide +kernel
@[simp] theorem kit_5_3 : kitB "tuple" "str" = some false := by decide +kernel
@[simp] theorem kit_5_4 : kitB "tuple" "list" = some false := by decide +kernel
@[simp] theorem kit_5_6 : kitB "tuple" "dict" = some false := by decide +kernel
@[simp] theorem kit_6_0 : kitB "dict" "int" = some false := by decide +kernel
@[simp] theorem kit_6_1 : kitB "dict" "bool" = some false := by decide +kernel
@[simp] theorem kit_6_3 : kitB "dict" "str" = some false := by decide +kernel
@[simp] theorem kit_6_4 : kitB "dict" "list" = some false := by decide +kernel
@[simp] theorem kit_6_5 : kitB "dict" "tuple" = some false := by decide +kernel
/-- a loop that may leave with one answer -/
theorem forGo_ret {g : MG} {body : MS} {chk : Env → Store → Bool} {st : Store} {r : D} (I : Env → Prop) (p : D → Bool) (hI : ∀ env, I env → chk env st = true) : ∀ (xs : List D) (env : Env), I env →
    (∀ x ∈ xs, ∀ env, I env → ∃ env1, g x env = some env1 ∧ ∃ env2, I env2 ∧ body env1 st = some (if p x = true then .nx else .rt r, env2, st)) →
    ∃ env', I env' ∧ forGo g body chk xs env st = some (if xs.all p = true then .nx else .rt r, env', st)
  | [], env, h, _ => ⟨env, h, by unfold forGo; rw [if_pos (hI _ h)]; rfl⟩
  | x :: xs, env, h, hs => by
    obtain ⟨env1, h1, env2, h2, h3⟩ := hs x (by simp) env h
    unfold forGo
    rw [if_pos (hI _ h), h1]
    dsimp only
    rw [h3]
    by_cases hp : p x = true
    · rw [if_pos hp]
      obtain ⟨env', h4, h5⟩ := forGo_ret I p hI xs env2 h2 (fun y hy => hs y (by simp [hy]))
      refine ⟨env', h4, ?_⟩
      dsimp only
      rw [h5]
      simp [hp]
    · rw [if_neg hp]
      refine ⟨env2, h2, ?_⟩
      simp [hp]
theorem for_rngR {m : ME} {g : MG} {body : MS} {env : Env} {st : Store} {n : Nat} {r : D} (I : Env → Prop) (p : Nat → Bool) (hm : m env st = some (.d (.int n), st)) (hn : n ≤ 1000000) (h0 : I env)
    (hs : ∀ k : Nat, k < n → ∀ env, I env → ∃ env1, g (.int (k : Nat)) env = some env1 ∧ ∃ env2, I env2 ∧ body env1 st = some (if p k = true then .nx else .rt r, env2, st)) :
    ∃ env', I env' ∧ mFor (mRng1 m) g body env st = some (if (List.range n).all p = true then .nx else .rt r, env', st) := by
  have h1 : mRng1 m env st = some (.rng 0 n, st) := by
    unfold mRng1; rw [hm]; dsimp only
    rw [if_pos (by unfold inR; exact decide_eq_true (by omega))]
    simp
  unfold mFor
  rw [h1]
  dsimp only
  rw [if_pos (show isData _ = true from rfl)]
  dsimp only [srcItems]
  obtain ⟨env', h2, h3⟩ := forGo_ret (g := g) (body := body) (chk := fun env st => decide (some (rngItems 0 n) = some (rngItems 0 n))) (st := st) (r := r) I (fun x => match x with | .int i => p i.toNat | _ => true) (fun _ _ => by simp) (rngItems 0 n) env h0 (fun x hx env he => by
    obtain ⟨k, hk, rfl⟩ := List.mem_map.mp hx
    simp only [Int.zero_add, Int.toNat_natCast]
    exact hs k (List.mem_range.mp hk) env he)
  refine ⟨env', h2, ?_⟩
  have e : (rngItems 0 n).all (fun x => match x with | .int i => p i.toNat | _ => true) = (List.range n).all p := by
    simp [rngItems, List.all_map, Function.comp_def]
  rw [e] at h3
  exact h3
/-- a comprehension over a text -/
theorem lc_txtI {m : ME} {j : Nat} {e : ME} {vs : List Nat} {env : Env} {st st1 : Store} {x : Str} (I : Nat → List D → Store → Prop) (hm : m env st = some (.d (.str x), st1)) (hn : x.cps.size ≤ 1000000) (h0 : I 0 [] st1)
    (h : ∀ (k : Nat) (hk : k < x.cps.toList.length) acc st, I k acc st → ∃ d st2, e ((wipeE env vs).set j (.val (.str ⟨#[x.cps.toList[k]]⟩))) st = some (.d d, st2) ∧ I (k + 1) (acc ++ [d]) st2) :
    ∃ acc st', mLc (mSeqS m) j mYes e vs env st = some (.lst acc, st') ∧ I x.cps.toList.length acc st' := by
  have h1 : mSeqS m env st = some (.txt x, st1) := by unfold mSeqS; rw [hm]
  have hl : (txtItems x).length = x.cps.toList.length := by simp [txtItems]
  obtain ⟨acc, st', h3, h4⟩ := lcGo_inv (j := j) (e := e) (env := wipeE env vs) (chk := fun st => decide (srcItems env st (.txt x) = some (txtItems x))) I (txtItems x) 0 [] st1 h0 (by rw [hl]; simp; omega) (fun _ _ _ _ => by simp [srcItems]) (fun i hi a s q => by
    rw [hl] at hi
    have := h i hi a s (by simpa using q)
    simpa [txtItems] using this)
  refine ⟨acc, st', ?_, by rw [Nat.zero_add, hl] at h4; exact h4⟩
  unfold mLc
  rw [h1]
  dsimp only [srcItems]
  dsimp only [srcItems] at h3
  rw [h3]
end Gx

namespace Gx
open PySem L2
/-! evaluating fields, methods, instances -/
def fldOf (tab : CTab) (f : Str) (o : Option SO) : Option D := match o with
  | some (.ins nm fs) => if inTab tab nm f = true then fs.lookup f else none
  | _ => none
def fldPut (tab : CTab) (f : Str) (d : D) (o : Option SO) : Option SO := match o with
  | some (.ins nm fs) => if inTab tab nm f = true ∧ fs.length < 900 then some (.ins nm (putFD f d fs)) else none
  | _ => none
def isIns (nm m : Str) (o : Option SO) : Bool := match o with
  | some (.ins nm' fs) => decide (nm' = nm ∧ fs.lookup m = none)
  | _ => false
def ret1 (o : Option (D × Store)) : Option (R × Store) := match o with | some (d, s) => some (.d d, s) | none => none
@[simp] theorem ret1_s (d : D) (s : Store) : ret1 (some (d, s)) = some (.d d, s) := (rfl)
@[simp] theorem ret1_n : ret1 none = none := (rfl)
def retN (n : Nat) (o : Option (D × Store)) : Option (R × Store) := match o with | some (.non, s) => some (.d (.ref n), s) | _ => none
@[simp] theorem retN_s (n : Nat) (s : Store) : retN n (some (.non, s)) = some (.d (.ref n), s) := (rfl)
section
variable (env : Env) (st : Store)
@[simp] theorem refOf_i (i : Int) : refOf (.d (.int i)) = none := (rfl)
@[simp] theorem ev_mFld (tab : CTab) (f : Str) (m : ME) : mFld tab f m env st = bnd (m env st) fun x s => ob (refOf x) fun n => ob (fldOf tab f s[n]?) fun d => some (.d d, s) := by
  unfold mFld
  cases m env st with
  | none => rfl
  | some p =>
    obtain ⟨x, s⟩ := p
    cases x with
    | loc _ => rfl
    | d x =>
      cases x <;> first | rfl | skip
      rename_i n
      simp only [bnd_s, refOf_r, ob_s]
      cases s[n]? with
      | none => rfl
      | some so =>
        cases so <;> first | rfl | skip
        rename_i nm fs
        unfold fldOf
        dsimp only
        split
        · cases fs.lookup f <;> rfl
        · rfl
theorem setFl_eq (tab : CTab) (f : Str) (n : Nat) (d : D) : setFl tab f n d st = ob (fldPut tab f d st[n]?) fun so => some (st.set n so) := by
  unfold setFl
  cases st[n]? with
  | none => rfl
  | some so =>
    cases so <;> first | rfl | skip
    unfold fldPut
    dsimp only
    split <;> rfl
@[simp] theorem ev_mStF (tab : CTab) (f : Str) (mo mv : ME) : mStF tab f mo mv env st = bnd (mv env st) fun y s => onD y fun v => bnd (mo env s) fun x s2 => ob (refOf x) fun n => ob (fldPut tab f v s2[n]?) fun so => some (.nx, env, s2.set n so) := by
  unfold mStF
  cases mv env st with
  | none => rfl
  | some p =>
    obtain ⟨y, s⟩ := p
    cases y with
    | loc _ => rfl
    | d v =>
      simp only [bnd_s, onD_d]
      cases mo env s with
      | none => rfl
      | some p =>
        obtain ⟨x, s2⟩ := p
        cases x with
        | loc _ => rfl
        | d x =>
          cases x <;> first | rfl | skip
          rename_i n
          simp only [bnd_s, refOf_r, ob_s]
          rw [setFl_eq]
          cases fldPut tab f v s2[n]? <;> rfl
/-- o.f += e: o is a name's value -/
theorem ev_mAugF {tab : CTab} {g : Int → Int → Int} {f : Str} {mo mv : ME} {n : Nat} {i j : Int} {so : SO} (ho : mo env st = some (.d (.ref n), st)) (hv : mv env st = some (.d (.int j), st)) (hf : fldOf tab f st[n]? = some (.int i)) (hp : fldPut tab f (.int (g i j)) st[n]? = some so) : mAugF tab g f mo mv env st = some (.nx, env, st.set n so) := by
  unfold mAugF
  rw [ev_mFld, ho]
  simp only [bnd_s, refOf_r, ob_s]
  rw [hf]
  simp only [ob_s]
  rw [if_pos trivial, hv]
  dsimp only
  rw [if_pos rfl, setFl_eq, hp]
  rfl
@[simp] theorem ev_mMeth (nm m : Str) (c : MFn) (mo : ME) (ma : MA) : mMeth nm m c mo ma env st = bnd (mo env st) fun x s => ob (refOf x) fun n => if isIns nm m s[n]? = true then bnd (ma env s) fun ds s2 => ret1 (c (.ref n :: ds) s2) else none := by
  unfold mMeth
  cases mo env st with
  | none => rfl
  | some p =>
    obtain ⟨x, s⟩ := p
    cases x with
    | loc _ => rfl
    | d x =>
      cases x <;> first | rfl | skip
      rename_i n
      simp only [bnd_s, refOf_r, ob_s]
      cases s[n]? with
      | none => rfl
      | some so =>
        cases so <;> first | rfl | skip
        rename_i nm' fs
        unfold isIns
        simp only [decide_eq_true_eq]
        split
        · cases ma env s with
          | none => rfl
          | some p => obtain ⟨ds, s2⟩ := p; simp only [bnd_s]; cases c (.ref n :: ds) s2 <;> rfl
        · rfl
@[simp] theorem ev_mMake (nm : Str) (c : MFn) (ma : MA) : mMake nm c ma env st = bnd (ma env st) fun ds s => retN s.length (c (.ref s.length :: ds) (s ++ [.ins nm []])) := by
  unfold mMake
  cases ma env st with
  | none => rfl
  | some p =>
    obtain ⟨ds, s⟩ := p
    simp only [bnd_s]
    cases c (.ref s.length :: ds) (s ++ [.ins nm []]) with
    | none => rfl
    | some p => obtain ⟨d, s2⟩ := p; cases d <;> rfl
def stD (o : Option SO) : Option (List (Key × D)) := match o with | some (.dK xs) => some xs | _ => none
@[simp] theorem stD_k (xs) : stD (some (.dK xs)) = some xs := (rfl)
@[simp] theorem ev_mPopK (mo mk : ME) : mPopK mo mk env st = bnd (mo env st) fun x s => ob (refOf x) fun n => ob (stD s[n]?) fun _ => bnd (mk env s) fun y s2 => onD y fun k => ob (stD s2[n]?) fun kvs => ob (keyOf k) fun kk => ob (valD kvs kk) fun d => some (.d d, s2.set n (.dK (dropD kvs kk))) := by
  unfold mPopK
  cases mo env st with
  | none => rfl
  | some p =>
    obtain ⟨x, s⟩ := p
    cases x with
    | loc _ => rfl
    | d x =>
      cases x <;> first | rfl | skip
      rename_i n
      simp only [bnd_s, refOf_r, ob_s]
      cases s[n]? with
      | none => rfl
      | some so =>
        cases so <;> first | rfl | skip
        simp only [stD_k, ob_s]
        cases mk env s with
        | none => rfl
        | some p =>
          obtain ⟨y, s2⟩ := p
          cases y with
          | loc _ => rfl
          | d k =>
            simp only [bnd_s, onD_d]
            cases s2[n]? with
            | none => rfl
            | some so =>
              cases so <;> first | rfl | skip
              rename_i kvs
              simp only [stD_k, ob_s]
              cases keyOf k with
              | none => rfl
              | some kk => simp only [ob_s]; cases valD kvs kk <;> rfl
@[simp] theorem ev_mClear (mo : ME) : mClear mo env st = bnd (mo env st) fun x s => ob (refOf x) fun n => ob (stD s[n]?) fun _ => some (.d .non, s.set n (.dK [])) := by
  unfold mClear
  cases mo env st with
  | none => rfl
  | some p =>
    obtain ⟨x, s⟩ := p
    cases x with
    | loc _ => rfl
    | d x =>
      cases x <;> first | rfl | skip
      rename_i n
      simp only [bnd_s, refOf_r, ob_s]
      cases s[n]? with
      | none => rfl
      | some so => cases so <;> rfl
@[simp] theorem ev_mTestL (m : ME) : mTestL m env st = bnd (m env st) fun x s => ob (asL env s x) fun xs => some (!xs.isEmpty, s) := by
  unfold mTestL
  cases m env st with
  | none => rfl
  | some p => obtain ⟨x, s⟩ := p; simp only [bnd_s]; cases asL env s x <;> rfl
@[simp] theorem ev_f1ListK (x : R) : f1ListK env st x = ob (asK env st x) fun kvs => some (.lst (kvs.map fun p => kyD p.1)) := by
  unfold f1ListK
  cases asK env st x <;> rfl
def soU (so : SO) : Option (List D) := match so with | .tup xs => some xs | _ => none
@[simp] theorem soU_t (xs) : soU (.tup xs) = some xs := (rfl)
@[simp] theorem ev_mKf (m : MF) : mKf m env st = bnd (m env st) fun so s => ob (soU so) fun ds => ob (keysOf ds) fun ks => some (ks, s) := by
  unfold mKf
  cases m env st with
  | none => rfl
  | some p =>
    obtain ⟨so, s⟩ := p
    cases so <;> rfl
@[simp] theorem ev_mFSlT (a : ME) (lo hi : MO) : mFSlT a lo hi env st = bnd (a env st) fun x s => ob (asU x) fun xs => bnd (lo env s) fun l s2 => bnd (hi env s2) fun u s3 => if HT.sIx xs.length 0 l = 0 ∧ HT.sIx xs.length xs.length u = xs.length then none else some (.tup (cutD xs l u), s3) := by
  unfold mFSlT
  cases a env st with
  | none => rfl
  | some p =>
    obtain ⟨x, s⟩ := p
    cases x with
    | loc _ => rfl
    | d x =>
      cases x <;> first | rfl | skip
      rename_i xs
      simp only [bnd_s, ev_asU_t, ob_s]
      cases lo env s with
      | none => rfl
      | some p =>
        obtain ⟨l, s2⟩ := p
        simp only [bnd_s]
        cases hi env s2 <;> rfl
def stTT (o : Option SO) : Option (List (List Key × D)) := match o with | some (.dT xs) => some xs | _ => none
@[simp] theorem stTT_t (xs) : stTT (some (.dT xs)) = some xs := (rfl)
@[simp] theorem ev_mLValsS (m : ME) : mLValsS m env st = bnd (m env st) fun x s => ob (refOf x) fun n => ob (stTT s[n]?) fun kvs => some (.lst (kvs.map (·.2)), s) := by
  unfold mLValsS
  cases m env st with
  | none => rfl
  | some p =>
    obtain ⟨x, s⟩ := p
    cases x with
    | loc _ => rfl
    | d x =>
      cases x <;> first | rfl | skip
      rename_i n
      simp only [bnd_s, refOf_r, ob_s]
      cases s[n]? with
      | none => rfl
      | some so => cases so <;> rfl
@[simp] theorem ev_mNever : mNever env st = none := (rfl)
/-- a, b = e, fields of one object -/
theorem ev_mAsgF2 {tab : CTab} {f g : Str} {me mo : ME} {st1 : Store} {n : Nat} {d1 d2 : D} {s1 s2 : SO} (he : me env st = some (.d (.tup [d1, d2]), st1)) (ho : ∀ st, mo env st = some (.d (.ref n), st)) (hn : n < st1.length) (h1 : fldPut tab f d1 st1[n]? = some s1) (h2 : fldPut tab g d2 (some s1) = some s2) :
    mAsgF2 tab f mo g mo me env st = some (.nx, env, st1.set n s2) := by
  unfold mAsgF2
  rw [he]
  dsimp only
  rw [ho]
  dsimp only
  rw [setFl_eq, h1]
  simp only [ob_s]
  rw [ho]
  dsimp only
  rw [setFl_eq]
  have : (st1.set n s1)[n]? = some s1 := by simp [hn]
  rw [this, h2]
  simp
/-- d.setdefault(k, v) -/
theorem ev_mSetd {mo mk mv : ME} {st2 st3 : Store} {n : Nat} {kvs0 kvs : List (Key × D)} {k v : D} {kk : Key} (ho : mo env st = some (.d (.ref n), st)) (h0 : st[n]? = some (.dK kvs0)) (hk : mk env st = some (.d k, st2)) (hv : mv env st2 = some (.d v, st3)) (h3 : st3[n]? = some (.dK kvs)) (hkk : keyOf k = some kk) (hl : kvs.length < 16000000) :
    mSetd mo mk mv env st = some (match valD kvs kk with | some d => (.d d, st3) | none => (.d v, st3.set n (.dK (putD kvs kk v)))) := by
  unfold mSetd
  rw [ho]
  dsimp only
  rw [h0]
  dsimp only
  rw [hk]
  dsimp only
  rw [hv]
  dsimp only
  rw [h3]
  dsimp only
  rw [hkk]
  dsimp only
  rw [if_pos hl]
  cases valD kvs kk <;> rfl
end
end Gx

set_option maxHeartbeats 4000000
namespace Law
open PySem L2 Gx
def top (i : Nat) : Stmt := PySem.Challenge.pw_commonage_k29_disks.main.body.getD i (.Pass ⟨0, 0, 0, 0⟩)
def ctab : CTab := [("Disk", ["kept", "log"])]
structure Txt (K : PySem.W.Frag) (mg : Str → Option Value) : Prop where
  ct : ClsT K mg ctab
  list_ : mg "list" = none
  range_ : mg "range" = none
  isinstance_ : mg "isinstance" = none
  dict_ : mg "dict" = none
  tuple_ : mg "tuple" = none
  len_ : mg "len" = none
  int_ : mg "int" = none
  abs_ : mg "abs" = none
  bool_ : mg "bool" = none
/-! Disk.__init__ -/
abbrev s_Disk___init__ : Stmt := inClass (top 2) 0
abbrev n_Disk___init__ : List Str := ["self"]
theorem sc_Disk___init__ : FnScope n_Disk___init__ ["self"] (defScope s_Disk___init__) := ⟨rfl, rfl, rfl, by decide +kernel, rfl, by decide +kernel, by decide +kernel⟩
def b_Disk___init__ : MS := (mSq (mStF ctab "kept" (mVar 0) (mC .non))
  (mStF ctab "log" (mVar 0) (mAlloc (mFLst mNil))))
def f_Disk___init__ : MFn := mFn 1 b_Disk___init__
theorem ok_Disk___init__ {P : Program} {w : World} {K : PySem.W.Frag} {mg : Str → Option Value} {base : Heap} {f : Addr} {fd : FuncData} (F : Fun K "__init__" "Disk.__init__" s_Disk___init__ f fd) (T : Txt K mg) : FnOk P w K mg base CX0 1 f fd ["self"] (spM ⟨K, w⟩ 1 f_Disk___init__) :=
  xfn F sc_Disk___init__ fun cdv A outer sh H E hr => (xs_cons (xstf T.ct (xv 0) xnon)
  (xs_one (xstf T.ct (xv 0) (xalloc (xflst xnil)))))
/-! _law_plain -/
abbrev s__law_plain : Stmt := top 6
abbrev n__law_plain : List Str := ["_law_value_here", "_law_one", "_law_name"]
theorem sc__law_plain : FnScope n__law_plain ["_law_value_here"] (defScope s__law_plain) := ⟨rfl, rfl, rfl, by decide +kernel, rfl, by decide +kernel, by decide +kernel⟩
def c__law_plain_1 (S : MFn) : MF := (mLc (mSeq (mVar 0)) 1 mYes (mCall S (mCons (mVar 1) mNil)) ([1] : List Nat))
def i__law_plain_1 (S : MFn) : MS := (mIf (mTest (m2 (mVar 0) (mC (.ty "list")) (f2IsiX "list")))
    (mRet (mFrz (mFCatE (mFrz (mFLst (mCons (mC (.str "list")) mNil))) (mFrz (c__law_plain_1 S)))))
    mSkip)
def c__law_plain_2 (S : MFn) : MF := (mLc (mSeq (mVar 0)) 1 mYes (mCall S (mCons (mVar 1) mNil)) ([1] : List Nat))
def i__law_plain_2 (S : MFn) : MS := (mIf (mTest (m2 (mVar 0) (mC (.ty "tuple")) (f2IsiX "tuple")))
    (mRet (mFrz (mFCatE (mFrz (mFLst (mCons (mC (.str "tuple")) mNil))) (mFrz (c__law_plain_2 S)))))
    mSkip)
def c__law_plain_3 (S : MFn) : MF := (mLockF 0 (mLcX (mVar 0) 2 (mFrz (mFLst (mCons (mVar 2) (mCons (mCall S (mCons (mIxX (mVar 0) (mVar 2)) mNil)) mNil)))) ([2] : List Nat)))
def i__law_plain_3 (S : MFn) : MS := (mIf (mTest (m2 (mVar 0) (mC (.ty "dict")) (f2IsiX "dict")))
    (mRet (mFrz (mFCatE (mFrz (mFLst (mCons (mC (.str "dict")) mNil))) (mFrz (c__law_plain_3 S)))))
    mSkip)
def b__law_plain (S : MFn) : MS := (mSq (i__law_plain_1 S)
  (mSq (i__law_plain_2 S)
  (mSq (i__law_plain_3 S)
  (mRet (mFrz (mFLst (mCons (mC (.str "value")) (mCons (mVar 0) (mCons (m2 (mVar 0) (mC (.ty "bool")) (f2IsiX "bool")) mNil)))))))))
def f__law_plain (S : MFn) : MFn := mFn 3 (b__law_plain S)
def F0__law_plain : MFn := mFn 3 mNever
def F1__law_plain : MFn := f__law_plain F0__law_plain
def F2__law_plain : MFn := f__law_plain F1__law_plain
def F3__law_plain : MFn := f__law_plain F2__law_plain
def F4__law_plain : MFn := f__law_plain F3__law_plain
def F5__law_plain : MFn := f__law_plain F4__law_plain
def F6__law_plain : MFn := f__law_plain F5__law_plain
def F7__law_plain : MFn := f__law_plain F6__law_plain
def F8__law_plain : MFn := f__law_plain F7__law_plain
abbrev F__law_plain : MFn := F8__law_plain
theorem ok0__law_plain {P : Program} {w : World} {K : PySem.W.Frag} {mg : Str → Option Value} {base : Heap} {f : Addr} {fd : FuncData} (F : Fun K "_law_plain" "_law_plain" s__law_plain f fd) : FnOk P w K mg base CX0 1 f fd ["_law_value_here"] (spM ⟨K, w⟩ 1 F0__law_plain) :=
  xfn F sc__law_plain fun cdv A outer sh H E hr => xss_nev
theorem ok__law_plain {P : Program} {w : World} {K : PySem.W.Frag} {mg : Str → Option Value} {base : Heap} {f : Addr} {fd : FuncData} {S : MFn} {ks : Nat} (F : Fun K "_law_plain" "_law_plain" s__law_plain f fd) (T : Txt K mg) (C__law_plain : Fn P w K mg base ks "_law_plain" 1 S) : FnOk P w K mg base CX0 (ks + 0 + 1) f fd ["_law_value_here"] (spM ⟨K, w⟩ 1 (f__law_plain S)) :=
  xfn F sc__law_plain fun cdv A outer sh H E hr => (xs_cons (xif (xtv (xisiX (T := "list") (by rfl) T.isinstance_ (by decide +kernel) (xv 0) (xty (by rfl) T.list_ (by decide +kernel))))
    (xs_one (xret (xfrz (xfcatE (xfrz (xflst (xcons xstr xnil))) (xfrz (xlc (own := [("_law_one", 1)]) (j := 1) rfl sc__law_plain.nd (xseq (xv 0)) (blkOk_by (N := n__law_plain) (sc := defScope s__law_plain) (own := [("_law_one", 1)]) (by decide +kernel)) (fun _ _ _ _ _ => pg_name (i := 1) sc__law_plain.nd rfl (by first | exact Or.inl rfl | exact Or.inr rfl)) (fun _ _ _ _ _ => (xcl C__law_plain hr (by omega) (by rfl) (xcons (xv 1) xnil) (len_cons len_nil)))))))))
    xs_nil)
  (xs_cons (xif (xtv (xisiX (T := "tuple") (by rfl) T.isinstance_ (by decide +kernel) (xv 0) (xty (by rfl) T.tuple_ (by decide +kernel))))
    (xs_one (xret (xfrz (xfcatE (xfrz (xflst (xcons xstr xnil))) (xfrz (xlc (own := [("_law_one", 1)]) (j := 1) rfl sc__law_plain.nd (xseq (xv 0)) (blkOk_by (N := n__law_plain) (sc := defScope s__law_plain) (own := [("_law_one", 1)]) (by decide +kernel)) (fun _ _ _ _ _ => pg_name (i := 1) sc__law_plain.nd rfl (by first | exact Or.inl rfl | exact Or.inr rfl)) (fun _ _ _ _ _ => (xcl C__law_plain hr (by omega) (by rfl) (xcons (xv 1) xnil) (len_cons len_nil)))))))))
    xs_nil)
  (xs_cons (xif (xtv (xisiX (T := "dict") (by rfl) T.isinstance_ (by decide +kernel) (xv 0) (xty (by rfl) T.dict_ (by decide +kernel))))
    (xs_one (xret (xfrz (xfcatE (xfrz (xflst (xcons xstr xnil))) (xfrz (xlcX (i := 0) (own := [("_law_name", 2)]) (j := 2) rfl sc__law_plain.nd (xv 0) (blkOk_by (N := n__law_plain) (sc := defScope s__law_plain) (own := [("_law_name", 2)]) (by decide +kernel)) (fun _ _ _ _ _ => pg_name (i := 2) sc__law_plain.nd rfl (by first | exact Or.inl rfl | exact Or.inr rfl)) (fun _ _ _ _ _ => (xfrz (xflst (xcons (xv 2) (xcons (xcl C__law_plain hr (by omega) (by rfl) (xcons (xixX (hu_of hr) (xv 0) (xv 2)) xnil) (len_cons len_nil)) xnil)))))))))))
    xs_nil)
  (xs_one (xret (xfrz (xflst (xcons xstr (xcons (xv 0) (xcons (xisiX (T := "bool") (by rfl) T.isinstance_ (by decide +kernel) (xv 0) (xty (by rfl) T.bool_ (by decide +kernel))) xnil))))))))))
/-! copied -/
abbrev s_copied : Stmt := top 1
abbrev n_copied : List Str := ["value", "part", "key"]
theorem sc_copied : FnScope n_copied ["value"] (defScope s_copied) := ⟨rfl, rfl, rfl, by decide +kernel, rfl, by decide +kernel, by decide +kernel⟩
def c_copied_1 (S : MFn) : MF := (mLc (mSeq (mVar 0)) 1 mYes (mCall S (mCons (mVar 1) mNil)) ([1] : List Nat))
def i_copied_1 (S : MFn) : MS := (mIf (mTest (m2 (mVar 0) (mC (.ty "tuple")) (f2IsiX "tuple")))
    (mRet (m1 (mFrz (c_copied_1 S)) f1Tup))
    mSkip)
def c_copied_2 (S : MFn) : MF := (mLc (mSeq (mVar 0)) 1 mYes (mCall S (mCons (mVar 1) mNil)) ([1] : List Nat))
def i_copied_2 (S : MFn) : MS := (mIf (mTest (m2 (mVar 0) (mC (.ty "list")) (f2IsiX "list")))
    (mRet (mAlloc (c_copied_2 S)))
    mSkip)
def x_copied_1 (S : MFn) : ME := (mLockE 0 (mDcX (mVar 0) 2 (mVar 2) (mCall S (mCons (mIxX (mVar 0) (mVar 2)) mNil)) ([2] : List Nat)))
def i_copied_3 (S : MFn) : MS := (mIf (mTest (m2 (mVar 0) (mC (.ty "dict")) (f2IsiX "dict")))
    (mRet (x_copied_1 S))
    mSkip)
def b_copied (S : MFn) : MS := (mSq (i_copied_1 S)
  (mSq (i_copied_2 S)
  (mSq (i_copied_3 S)
  (mRet (mVar 0)))))
def f_copied (S : MFn) : MFn := mFn 3 (b_copied S)
def F0_copied : MFn := mFn 3 mNever
def F1_copied : MFn := f_copied F0_copied
def F2_copied : MFn := f_copied F1_copied
def F3_copied : MFn := f_copied F2_copied
def F4_copied : MFn := f_copied F3_copied
def F5_copied : MFn := f_copied F4_copied
def F6_copied : MFn := f_copied F5_copied
def F7_copied : MFn := f_copied F6_copied
def F8_copied : MFn := f_copied F7_copied
abbrev F_copied : MFn := F8_copied
theorem ok0_copied {P : Program} {w : World} {K : PySem.W.Frag} {mg : Str → Option Value} {base : Heap} {f : Addr} {fd : FuncData} (F : Fun K "copied" "copied" s_copied f fd) : FnOk P w K mg base CX0 1 f fd ["value"] (spM ⟨K, w⟩ 1 F0_copied) :=
  xfn F sc_copied fun cdv A outer sh H E hr => xss_nev
theorem ok_copied {P : Program} {w : World} {K : PySem.W.Frag} {mg : Str → Option Value} {base : Heap} {f : Addr} {fd : FuncData} {S : MFn} {ks : Nat} (F : Fun K "copied" "copied" s_copied f fd) (T : Txt K mg) (C_copied : Fn P w K mg base ks "copied" 1 S) : FnOk P w K mg base CX0 (ks + 0 + 1) f fd ["value"] (spM ⟨K, w⟩ 1 (f_copied S)) :=
  xfn F sc_copied fun cdv A outer sh H E hr => (xs_cons (xif (xtv (xisiX (T := "tuple") (by rfl) T.isinstance_ (by decide +kernel) (xv 0) (xty (by rfl) T.tuple_ (by decide +kernel))))
    (xs_one (xret (xtuple (by rfl) T.tuple_ (by decide +kernel) (xfrz (xlc (own := [("part", 1)]) (j := 1) rfl sc_copied.nd (xseq (xv 0)) (blkOk_by (N := n_copied) (sc := defScope s_copied) (own := [("part", 1)]) (by decide +kernel)) (fun _ _ _ _ _ => pg_name (i := 1) sc_copied.nd rfl (by first | exact Or.inl rfl | exact Or.inr rfl)) (fun _ _ _ _ _ => (xcl C_copied hr (by omega) (by rfl) (xcons (xv 1) xnil) (len_cons len_nil))))))))
    xs_nil)
  (xs_cons (xif (xtv (xisiX (T := "list") (by rfl) T.isinstance_ (by decide +kernel) (xv 0) (xty (by rfl) T.list_ (by decide +kernel))))
    (xs_one (xret (xalloc (xlc (own := [("part", 1)]) (j := 1) rfl sc_copied.nd (xseq (xv 0)) (blkOk_by (N := n_copied) (sc := defScope s_copied) (own := [("part", 1)]) (by decide +kernel)) (fun _ _ _ _ _ => pg_name (i := 1) sc_copied.nd rfl (by first | exact Or.inl rfl | exact Or.inr rfl)) (fun _ _ _ _ _ => (xcl C_copied hr (by omega) (by rfl) (xcons (xv 1) xnil) (len_cons len_nil)))))))
    xs_nil)
  (xs_cons (xif (xtv (xisiX (T := "dict") (by rfl) T.isinstance_ (by decide +kernel) (xv 0) (xty (by rfl) T.dict_ (by decide +kernel))))
    (xs_one (xret (xdcX (i := 0) (own := [("key", 2)]) (j := 2) rfl hr.units0 sc_copied.nd (xv 0) (blkOk_by (N := n_copied) (sc := defScope s_copied) (own := [("key", 2)]) (by decide +kernel)) (fun _ _ _ _ _ => pg_name (i := 2) sc_copied.nd rfl (by first | exact Or.inl rfl | exact Or.inr rfl)) (fun _ _ _ _ _ => (xv 2)) (fun _ _ _ _ _ => (xcl C_copied hr (by omega) (by rfl) (xcons (xixX (hu_of hr) (xv 0) (xv 2)) xnil) (len_cons len_nil))))))
    xs_nil)
  (xs_one (xret (xv 0))))))
/-! Disk.entries -/
abbrev s_Disk_entries : Stmt := inClass (top 2) 4
abbrev n_Disk_entries : List Str := ["self"]
theorem sc_Disk_entries : FnScope n_Disk_entries ["self"] (defScope s_Disk_entries) := ⟨rfl, rfl, rfl, by decide +kernel, rfl, by decide +kernel, by decide +kernel⟩
def b_Disk_entries : MS := (mRet (mCall F_copied (mCons (mFld ctab "log" (mVar 0)) mNil)))
def f_Disk_entries : MFn := mFn 1 b_Disk_entries
theorem ok_Disk_entries {P : Program} {w : World} {K : PySem.W.Frag} {mg : Str → Option Value} {base : Heap} {f : Addr} {fd : FuncData} (F : Fun K "entries" "Disk.entries" s_Disk_entries f fd) (T : Txt K mg) (C_copied : Fn P w K mg base 9 "copied" 1 F_copied) : FnOk P w K mg base CX0 10 f fd ["self"] (spM ⟨K, w⟩ 1 f_Disk_entries) :=
  xfn F sc_Disk_entries fun cdv A outer sh H E hr => (xs_one (xret (xcl C_copied hr (by decide) (by rfl) (xcons (xfld T.ct (xv 0)) xnil) (len_cons len_nil))))
/-! Disk.saved -/
abbrev s_Disk_saved : Stmt := inClass (top 2) 3
abbrev n_Disk_saved : List Str := ["self"]
theorem sc_Disk_saved : FnScope n_Disk_saved ["self"] (defScope s_Disk_saved) := ⟨rfl, rfl, rfl, by decide +kernel, rfl, by decide +kernel, by decide +kernel⟩
def b_Disk_saved : MS := (mRet (mCall F_copied (mCons (mFld ctab "kept" (mVar 0)) mNil)))
def f_Disk_saved : MFn := mFn 1 b_Disk_saved
theorem ok_Disk_saved {P : Program} {w : World} {K : PySem.W.Frag} {mg : Str → Option Value} {base : Heap} {f : Addr} {fd : FuncData} (F : Fun K "saved" "Disk.saved" s_Disk_saved f fd) (T : Txt K mg) (C_copied : Fn P w K mg base 9 "copied" 1 F_copied) : FnOk P w K mg base CX0 10 f fd ["self"] (spM ⟨K, w⟩ 1 f_Disk_saved) :=
  xfn F sc_Disk_saved fun cdv A outer sh H E hr => (xs_one (xret (xcl C_copied hr (by decide) (by rfl) (xcons (xfld T.ct (xv 0)) xnil) (len_cons len_nil))))
/-! _law_next -/
abbrev s__law_next : Stmt := top 4
abbrev n__law_next : List Str := ["_law_tape", "_law_many", "_law_rest", "_law_cell"]
theorem sc__law_next : FnScope n__law_next ["_law_tape", "_law_many"] (defScope s__law_next) := ⟨rfl, rfl, rfl, by decide +kernel, rfl, by decide +kernel, by decide +kernel⟩
def i__law_next_1 : MS := (mIf (mTest (m2 (mIx (mVar 0) (mC (.int 1))) (m1 (mIx (mVar 0) (mC (.int 0))) f1Len) (f2I (fun _ _ => true) fun i j => .bl (decide (i < j)))))
    (mSq (mSet 3 (m1 (m1 (mIx (mIx (mVar 0) (mC (.int 0))) (mIx (mVar 0) (mC (.int 1)))) f1Int) f1Abs))
  (mStIx (mVar 0) (mC (.int 1)) (mAdd (mIx (mVar 0) (mC (.int 1))) (mC (.int 1)))))
    mSkip)
def i__law_next_2 : MS := (mIf (mTest (m2 (mVar 3) (mPow (mC (.int 10)) (mC (.int 18))) (f2I (fun _ _ => true) fun i j => .bl (decide (i < j)))))
    (mSq (mStIx (mVar 0) (mC (.int 3)) (mMod (m1 (mAdd (mAdd (mMulA (mIx (mVar 0) (mC (.int 3))) (mC (.int 69621))) (mMulA (mVar 3) (mC (.int 40692)))) (mC (.int 17))) f1Int) (mC (.int 2147483647))))
  (mRet (mMod (mMod (m1 (mMulA (mFdiv (mIx (mVar 0) (mC (.int 3))) (mC (.int 5))) (mC (.int 48271))) f1Int) (mC (.int 2147483647))) (mVar 1))))
    mSkip)
def i__law_next_3 : MS := (mIf (mTest (m2 (mVar 2) (mC (.int 0)) (f2Eq false)))
    (mSq (mSet 3 (mC (.int 0)))
  (mSq i__law_next_1
  (mSq (mSet 2 (mVar 3))
  i__law_next_2)))
    mSkip)
def b__law_next : MS := (mSq (mSet 2 (mIx (mVar 0) (mC (.int 2))))
  (mSq i__law_next_3
  (mSq (mStIx (mVar 0) (mC (.int 2)) (mFdiv (mVar 2) (mVar 1)))
  (mRet (mMod (m1 (mVar 2) f1Int) (mVar 1))))))
def f__law_next : MFn := mFn 4 b__law_next
theorem ok__law_next {P : Program} {w : World} {K : PySem.W.Frag} {mg : Str → Option Value} {base : Heap} {f : Addr} {fd : FuncData} (F : Fun K "_law_next" "_law_next" s__law_next f fd) (T : Txt K mg) : FnOk P w K mg base CX0 1 f fd ["_law_tape", "_law_many"] (spM ⟨K, w⟩ 2 f__law_next) :=
  xfn F sc__law_next fun cdv A outer sh H E hr => (xs_cons (xset (i := 2) sc__law_next.nd rfl (by first | exact Or.inl rfl | exact Or.inr rfl) (xix (hu_of hr) (xv 0) xint))
  (xs_cons (xif (xct (kEq hr.units) (xv 2) xint)
    (xs_cons (xset (i := 3) sc__law_next.nd rfl (by first | exact Or.inl rfl | exact Or.inr rfl) xint)
  (xs_cons (xif (xct kLt (xix (hu_of hr) (xv 0) xint) (xlen (by rfl) T.len_ (by decide +kernel) (xix (hu_of hr) (xv 0) xint)))
    (xs_cons (xset (i := 3) sc__law_next.nd rfl (by first | exact Or.inl rfl | exact Or.inr rfl) (xabs (by rfl) T.abs_ (by decide +kernel) (xint1 (by rfl) T.int_ (by decide +kernel) (xix (hu_of hr) (xix (hu_of hr) (xv 0) xint) (xix (hu_of hr) (xv 0) xint)))))
  (xs_one (xstix (hu_of hr) (xv 0) xint (xadd (xix (hu_of hr) (xv 0) xint) xint))))
    xs_nil)
  (xs_cons (xset (i := 2) sc__law_next.nd rfl (by first | exact Or.inl rfl | exact Or.inr rfl) (xv 3))
  (xs_one (xif (xct kLt (xv 3) (xpow xint xint))
    (xs_cons (xstix (hu_of hr) (xv 0) xint (xmod (xint1 (by rfl) T.int_ (by decide +kernel) (xadd (xadd (xmulA (xix (hu_of hr) (xv 0) xint) xint) (xmulA (xv 3) xint)) xint)) xint))
  (xs_one (xret (xmod (xmod (xint1 (by rfl) T.int_ (by decide +kernel) (xmulA (xfdiv (xix (hu_of hr) (xv 0) xint) xint) xint)) xint) (xv 1)))))
    xs_nil)))))
    xs_nil)
  (xs_cons (xstix (hu_of hr) (xv 0) xint (xfdiv (xv 2) (xv 1)))
  (xs_one (xret (xmod (xint1 (by rfl) T.int_ (by decide +kernel) (xv 2)) (xv 1)))))))
/-! _law_value -/
abbrev s__law_value : Stmt := top 5
abbrev n__law_value : List Str := ["_law_tape", "_law_deep", "_law_kind", "_law_parts", "_law_names", "_law_k"]
theorem sc__law_value : FnScope n__law_value ["_law_tape", "_law_deep"] (defScope s__law_value) := ⟨rfl, rfl, rfl, by decide +kernel, rfl, by decide +kernel, by decide +kernel⟩
def i__law_value_1 (S : MFn) : MS := (mIf (mOrT (mTest (m2 (mVar 1) (mC (.int 0)) (f2Eq false))) (mTest (m2 (mVar 2) (mC (.int 2)) (f2I (fun _ _ => true) fun i j => .bl (decide (i < j))))))
    (mRet (mIx (mFrz (mFLst (mCons (mC (.int 3)) (mCons (mNeg (mC (.int 1))) (mCons (mC .non) (mCons (mC (.str "word")) (mCons (mC (.bl true)) (mCons (mPow (mC (.int 10)) (mC (.int 25))) mNil)))))))) (mCall f__law_next (mCons (mVar 0) (mCons (mC (.int 6)) mNil)))))
    mSkip)
def c__law_value_1 (S : MFn) : MF := (mLc (mRng1 (mCall f__law_next (mCons (mVar 0) (mCons (mC (.int 4)) mNil)))) 5 mYes (mCall S (mCons (mVar 0) (mCons (mSub (mVar 1) (mC (.int 1))) mNil))) ([5] : List Nat))
def i__law_value_2 (S : MFn) : MS := (mIf (mTest (m2 (mVar 2) (mC (.int 4)) (f2I (fun _ _ => true) fun i j => .bl (decide (i < j)))))
    (mRet (mVar 3))
    mSkip)
def i__law_value_3 (S : MFn) : MS := (mIf (mTest (m2 (mVar 2) (mC (.int 4)) (f2Eq false)))
    (mRet (m1 (mVar 3) f1Tup))
    mSkip)
def b__law_value_1 (S : MFn) : MS := (mStX (mVar 4) (mIx (mFrz (mFLst (mCons (mVar 5) (mCons (mTup (mCons (mC (.str "a")) (mCons (mVar 5) mNil))) (mCons (mC (.str "n")) mNil))))) (mCall f__law_next (mCons (mVar 0) (mCons (mC (.int 3)) mNil)))) (mIx (mVar 3) (mVar 5)))
def l__law_value_1 (S : MFn) : MS := (mFor (mRng1 (m1 (mVar 3) f1Len)) (gN 5) (b__law_value_1 S))
def b__law_value (S : MFn) : MS := (mSq (mSet 2 (mCall f__law_next (mCons (mVar 0) (mCons (mC (.int 7)) mNil))))
  (mSq (i__law_value_1 S)
  (mSq (mSet 3 (mAlloc (c__law_value_1 S)))
  (mSq (i__law_value_2 S)
  (mSq (i__law_value_3 S)
  (mSq (mSet 4 mD0X)
  (mSq (l__law_value_1 S)
  (mRet (mVar 4)))))))))
def f__law_value (S : MFn) : MFn := mFn 6 (b__law_value S)
def F0__law_value : MFn := mFn 6 mNever
def F1__law_value : MFn := f__law_value F0__law_value
def F2__law_value : MFn := f__law_value F1__law_value
def F3__law_value : MFn := f__law_value F2__law_value
def F4__law_value : MFn := f__law_value F3__law_value
def F5__law_value : MFn := f__law_value F4__law_value
def F6__law_value : MFn := f__law_value F5__law_value
abbrev F__law_value : MFn := F6__law_value
theorem ok0__law_value {P : Program} {w : World} {K : PySem.W.Frag} {mg : Str → Option Value} {base : Heap} {f : Addr} {fd : FuncData} (F : Fun K "_law_value" "_law_value" s__law_value f fd) : FnOk P w K mg base CX0 1 f fd ["_law_tape", "_law_deep"] (spM ⟨K, w⟩ 2 F0__law_value) :=
  xfn F sc__law_value fun cdv A outer sh H E hr => xss_nev
theorem ok__law_value {P : Program} {w : World} {K : PySem.W.Frag} {mg : Str → Option Value} {base : Heap} {f : Addr} {fd : FuncData} {S : MFn} {ks : Nat} (F : Fun K "_law_value" "_law_value" s__law_value f fd) (T : Txt K mg) (C__law_next : Fn P w K mg base 1 "_law_next" 2 f__law_next) (C__law_value : Fn P w K mg base ks "_law_value" 2 S) : FnOk P w K mg base CX0 (ks + 1 + 1) f fd ["_law_tape", "_law_deep"] (spM ⟨K, w⟩ 2 (f__law_value S)) :=
  xfn F sc__law_value fun cdv A outer sh H E hr => (xs_cons (xset (i := 2) sc__law_value.nd rfl (by first | exact Or.inl rfl | exact Or.inr rfl) (xcl C__law_next hr (by omega) (by rfl) (xcons (xv 0) (xcons xint xnil)) (len_cons (len_cons len_nil))))
  (xs_cons (xif (xwt (xwo (xct (kEq hr.units) (xv 1) xint) (xw1o (xct kLt (xv 2) xint))))
    (xs_one (xret (xix (hu_of hr) (xfrz (xflst (xcons xint (xcons (xneg xint) (xcons xnon (xcons xstr (xcons xbl (xcons (xpow xint xint) xnil)))))))) (xcl C__law_next hr (by omega) (by rfl) (xcons (xv 0) (xcons xint xnil)) (len_cons (len_cons len_nil))))))
    xs_nil)
  (xs_cons (xla_a (xla (own := [("_law_k", 5)]) (i := 3) (j := 5) rfl sc__law_value.nd rfl rfl (sw_true rfl rfl rfl (by decide +kernel)) (xrange1 (by rfl) T.range_ (xcl C__law_next hr (by omega) (by rfl) (xcons (xv 0) (xcons xint xnil)) (len_cons (len_cons len_nil)))) (blkOk_by (N := n__law_value) (sc := defScope s__law_value) (own := [("_law_k", 5)]) (by decide +kernel)) (fun _ _ _ _ _ => pg_name (i := 5) sc__law_value.nd rfl (by first | exact Or.inl rfl | exact Or.inr rfl)) (fun _ _ _ _ _ => (xcl C__law_value hr (by omega) (by rfl) (xcons (xv 0) (xcons (xsub (xv 1) xint) xnil)) (len_cons (len_cons len_nil))))))
  (xs_cons (xif (xct kLt (xv 2) xint)
    (xs_one (xret (xv 3)))
    xs_nil)
  (xs_cons (xif (xct (kEq hr.units) (xv 2) xint)
    (xs_one (xret (xtuple (by rfl) T.tuple_ (by decide +kernel) (xv 3))))
    xs_nil)
  (xs_cons (xset (i := 4) sc__law_value.nd rfl (by first | exact Or.inl rfl | exact Or.inr rfl) xd0X)
  (xs_cons (xfor PassesOwn.never rfl (xrange1 (by rfl) T.range_ (xlen (by rfl) T.len_ (by decide +kernel) (xv 3))) (xgn (i := 5) sc__law_value.nd rfl (by first | exact Or.inl rfl | exact Or.inr rfl))
    (xs_one (xstX (hu_of hr) (xv 4) (xix (hu_of hr) (xfrz (xflst (xcons (xv 5) (xcons (xtup (xcons xstr (xcons (xv 5) xnil))) (xcons xstr xnil))))) (xcl C__law_next hr (by omega) (by rfl) (xcons (xv 0) (xcons xint xnil)) (len_cons (len_cons len_nil)))) (xix (hu_of hr) (xv 3) (xv 5)))))
  (xs_one (xret (xv 4))))))))))
/-! Disk.save -/
abbrev s_Disk_save : Stmt := inClass (top 2) 2
abbrev n_Disk_save : List Str := ["self", "value"]
theorem sc_Disk_save : FnScope n_Disk_save ["self", "value"] (defScope s_Disk_save) := ⟨rfl, rfl, rfl, by decide +kernel, rfl, by decide +kernel, by decide +kernel⟩
def b_Disk_save : MS := (mSq (mStF ctab "kept" (mVar 0) (mCall F_copied (mCons (mVar 1) mNil)))
  (mStF ctab "log" (mVar 0) (mAlloc (mFLst mNil))))
def f_Disk_save : MFn := mFn 2 b_Disk_save
theorem ok_Disk_save {P : Program} {w : World} {K : PySem.W.Frag} {mg : Str → Option Value} {base : Heap} {f : Addr} {fd : FuncData} (F : Fun K "save" "Disk.save" s_Disk_save f fd) (T : Txt K mg) (C_copied : Fn P w K mg base 9 "copied" 1 F_copied) : FnOk P w K mg base CX0 10 f fd ["self", "value"] (spM ⟨K, w⟩ 2 f_Disk_save) :=
  xfn F sc_Disk_save fun cdv A outer sh H E hr => (xs_cons (xstf T.ct (xv 0) (xcl C_copied hr (by decide) (by rfl) (xcons (xv 1) xnil) (len_cons len_nil)))
  (xs_one (xstf T.ct (xv 0) (xalloc (xflst xnil)))))
/-! Disk.write -/
abbrev s_Disk_write : Stmt := inClass (top 2) 1
abbrev n_Disk_write : List Str := ["self", "entry"]
theorem sc_Disk_write : FnScope n_Disk_write ["self", "entry"] (defScope s_Disk_write) := ⟨rfl, rfl, rfl, by decide +kernel, rfl, by decide +kernel, by decide +kernel⟩
def b_Disk_write : MS := (mApp (mFld ctab "log" (mVar 0)) (mCall F_copied (mCons (mVar 1) mNil)))
def f_Disk_write : MFn := mFn 2 b_Disk_write
theorem ok_Disk_write {P : Program} {w : World} {K : PySem.W.Frag} {mg : Str → Option Value} {base : Heap} {f : Addr} {fd : FuncData} (F : Fun K "write" "Disk.write" s_Disk_write f fd) (T : Txt K mg) (C_copied : Fn P w K mg base 9 "copied" 1 F_copied) : FnOk P w K mg base CX0 10 f fd ["self", "entry"] (spM ⟨K, w⟩ 2 f_Disk_write) :=
  xfn F sc_Disk_write fun cdv A outer sh H E hr => (xs_one (xapp (xfld T.ct (xv 0)) (xcl C_copied hr (by decide) (by rfl) (xcons (xv 1) xnil) (len_cons len_nil))))
/-! _law_spoil -/
abbrev s__law_spoil : Stmt := top 7
abbrev n__law_spoil : List Str := ["_law_value_here", "_law_one", "_law_name"]
theorem sc__law_spoil : FnScope n__law_spoil ["_law_value_here"] (defScope s__law_spoil) := ⟨rfl, rfl, rfl, by decide +kernel, rfl, by decide +kernel, by decide +kernel⟩
def b__law_spoil_1 (S : MFn) : MS := (mExpr (mCall S (mCons (mVar 1) mNil)))
def l__law_spoil_1 (S : MFn) : MS := (mFor (mSeq (mVar 0)) (gN 1) (b__law_spoil_1 S))
def b__law_spoil_2 (S : MFn) : MS := (mExpr (mCall S (mCons (mIxX (mVar 0) (mVar 2)) mNil)))
def l__law_spoil_2 (S : MFn) : MS := (mFor (mSeq (mFrz (mFListX (mVar 0)))) (gN 2) (b__law_spoil_2 S))
def b__law_spoil_3 (S : MFn) : MS := (mExpr (mCall S (mCons (mVar 1) mNil)))
def l__law_spoil_3 (S : MFn) : MS := (mFor (mSeq (mVar 0)) (gN 1) (b__law_spoil_3 S))
def i__law_spoil_1 (S : MFn) : MS := (mIf (mTest (m2 (mVar 0) (mC (.ty "tuple")) (f2IsiX "tuple")))
    (l__law_spoil_3 S)
    mSkip)
def i__law_spoil_2 (S : MFn) : MS := (mIf (mTest (m2 (mVar 0) (mC (.ty "dict")) (f2IsiX "dict")))
    (mSq (l__law_spoil_2 S)
  (mStX (mVar 0) (mC (.str "spoiled")) (mC (.int 1))))
    (i__law_spoil_1 S))
def i__law_spoil_3 (S : MFn) : MS := (mIf (mTest (m2 (mVar 0) (mC (.ty "list")) (f2IsiX "list")))
    (mSq (l__law_spoil_1 S)
  (mApp (mVar 0) (mC (.str "spoiled"))))
    (i__law_spoil_2 S))
def b__law_spoil (S : MFn) : MS := (i__law_spoil_3 S)
def f__law_spoil (S : MFn) : MFn := mFn 3 (b__law_spoil S)
def F0__law_spoil : MFn := mFn 3 mNever
def F1__law_spoil : MFn := f__law_spoil F0__law_spoil
def F2__law_spoil : MFn := f__law_spoil F1__law_spoil
def F3__law_spoil : MFn := f__law_spoil F2__law_spoil
def F4__law_spoil : MFn := f__law_spoil F3__law_spoil
def F5__law_spoil : MFn := f__law_spoil F4__law_spoil
def F6__law_spoil : MFn := f__law_spoil F5__law_spoil
def F7__law_spoil : MFn := f__law_spoil F6__law_spoil
def F8__law_spoil : MFn := f__law_spoil F7__law_spoil
abbrev F__law_spoil : MFn := F8__law_spoil
theorem ok0__law_spoil {P : Program} {w : World} {K : PySem.W.Frag} {mg : Str → Option Value} {base : Heap} {f : Addr} {fd : FuncData} (F : Fun K "_law_spoil" "_law_spoil" s__law_spoil f fd) : FnOk P w K mg base CX0 1 f fd ["_law_value_here"] (spM ⟨K, w⟩ 1 F0__law_spoil) :=
  xfn F sc__law_spoil fun cdv A outer sh H E hr => xss_nev
theorem ok__law_spoil {P : Program} {w : World} {K : PySem.W.Frag} {mg : Str → Option Value} {base : Heap} {f : Addr} {fd : FuncData} {S : MFn} {ks : Nat} (F : Fun K "_law_spoil" "_law_spoil" s__law_spoil f fd) (T : Txt K mg) (C__law_spoil : Fn P w K mg base ks "_law_spoil" 1 S) : FnOk P w K mg base CX0 (ks + 0 + 1) f fd ["_law_value_here"] (spM ⟨K, w⟩ 1 (f__law_spoil S)) :=
  xfn F sc__law_spoil fun cdv A outer sh H E hr => (xs_one (xif (xtv (xisiX (T := "list") (by rfl) T.isinstance_ (by decide +kernel) (xv 0) (xty (by rfl) T.list_ (by decide +kernel))))
    (xs_cons (xfor PassesOwn.never rfl (xseq (xv 0)) (xgn (i := 1) sc__law_spoil.nd rfl (by first | exact Or.inl rfl | exact Or.inr rfl))
    (xs_one (xexpr (xcl C__law_spoil hr (by omega) (by rfl) (xcons (xv 1) xnil) (len_cons len_nil)))))
  (xs_one (xapp (xv 0) xstr)))
    (xs_one (xif (xtv (xisiX (T := "dict") (by rfl) T.isinstance_ (by decide +kernel) (xv 0) (xty (by rfl) T.dict_ (by decide +kernel))))
    (xs_cons (xfor PassesOwn.never rfl (xseq (xfrz (xflistX rfl (by rfl) T.list_ (by decide +kernel) (xv 0)))) (xgn (i := 2) sc__law_spoil.nd rfl (by first | exact Or.inl rfl | exact Or.inr rfl))
    (xs_one (xexpr (xcl C__law_spoil hr (by omega) (by rfl) (xcons (xixX (hu_of hr) (xv 0) (xv 2)) xnil) (len_cons len_nil)))))
  (xs_one (xstX (hu_of hr) (xv 0) xstr xint)))
    (xs_one (xif (xtv (xisiX (T := "tuple") (by rfl) T.isinstance_ (by decide +kernel) (xv 0) (xty (by rfl) T.tuple_ (by decide +kernel))))
    (xs_one (xfor PassesOwn.never rfl (xseq (xv 0)) (xgn (i := 1) sc__law_spoil.nd rfl (by first | exact Or.inl rfl | exact Or.inr rfl))
    (xs_one (xexpr (xcl C__law_spoil hr (by omega) (by rfl) (xcons (xv 1) xnil) (len_cons len_nil))))))
    xs_nil))))))
/-! law -/
abbrev s_law : Stmt := top 8
abbrev n_law : List Str := ["_law_script", "_law_tape", "_law_disk", "_law_saved", "_law_entries", "_law_turn", "_law_value_here", "_law_plain_here", "_law_kind", "_law_told", "_law_rows"]
theorem sc_law : FnScope n_law ["_law_script"] (defScope s_law) := ⟨rfl, rfl, rfl, by decide +kernel, rfl, by decide +kernel, by decide +kernel⟩
def i_law_1 : MS := (mIf (mOrT (mTest (m2 (mMeth "Disk" "saved" f_Disk_saved (mVar 2) mNil) (mC .non) (fOr (f2IsB true) (f2Is true)))) (mTest (m2 (mMeth "Disk" "entries" f_Disk_entries (mVar 2) mNil) (mFrz (mFLst mNil)) (f2Eq true))))
    (mRet (mC (.bl false)))
    mSkip)
def i_law_2 : MS := (mIf (mTest (m2 (mCall F__law_plain (mCons (mCall F_copied (mCons (mVar 6) mNil)) mNil)) (mVar 7) (f2Eq true)))
    (mRet (mC (.bl false)))
    mSkip)
def i_law_3 : MS := (mIf (mTest (m2 (mVar 8) (mC (.int 0)) (f2Eq false)))
    (mSq (mExpr (mMeth "Disk" "save" f_Disk_save (mVar 2) (mCons (mVar 6) mNil)))
  (mSq (mSet 3 (mVar 7))
  (mSetO 4 (mFLst mNil))))
    (mSq (mExpr (mMeth "Disk" "write" f_Disk_write (mVar 2) (mCons (mTup (mCons (mC (.str "entry")) (mCons (mVar 5) (mCons (mVar 6) mNil)))) mNil)))
  (mApp (mVar 4) (mFrz (mFLst (mCons (mC (.str "tuple")) (mCons (mCall F__law_plain (mCons (mC (.str "entry")) mNil)) (mCons (mCall F__law_plain (mCons (mVar 5) mNil)) (mCons (mVar 7) mNil)))))))))
def i_law_4 : MS := (mIf (mTest (m2 (mCall F__law_plain (mCons (mVar 9) mNil)) (mVar 3) (f2Eq true)))
    (mRet (mC (.bl false)))
    mSkip)
def i_law_5 : MS := (mIf (mTest (m2 (mCall F__law_plain (mCons (mVar 10) mNil)) (mFrz (mFCatE (mFrz (mFLst (mCons (mC (.str "list")) mNil))) (mVar 4))) (f2Eq true)))
    (mRet (mC (.bl false)))
    mSkip)
def b_law_1 : MS := (mSq (mSet 6 (mCall F__law_value (mCons (mVar 1) (mCons (mC (.int 3)) mNil))))
  (mSq (mSet 7 (mCall F__law_plain (mCons (mVar 6) mNil)))
  (mSq i_law_2
  (mSq (mSet 8 (mCall f__law_next (mCons (mVar 1) (mCons (mC (.int 5)) mNil))))
  (mSq i_law_3
  (mSq (mExpr (mCall F__law_spoil (mCons (mVar 6) mNil)))
  (mSq (mSet 9 (mMeth "Disk" "saved" f_Disk_saved (mVar 2) mNil))
  (mSq i_law_4
  (mSq (mExpr (mCall F__law_spoil (mCons (mVar 9) mNil)))
  (mSq (mSet 10 (mMeth "Disk" "entries" f_Disk_entries (mVar 2) mNil))
  (mSq i_law_5
  (mExpr (mCall F__law_spoil (mCons (mVar 10) mNil))))))))))))))
def l_law_1 : MS := (mFor (mRng1 (mAdd (mC (.int 1)) (mCall f__law_next (mCons (mVar 1) (mCons (mC (.int 40)) mNil))))) (gN 5) b_law_1)
def b_law : MS := (mSq (mSet 1 (mAlloc (mFLst (mCons (mFrz (m1F (mVar 0) f1List)) (mCons (mC (.int 0)) (mCons (mC (.int 0)) (mCons (mC (.int 11)) mNil)))))))
  (mSq (mSet 2 (mMake "Disk" f_Disk___init__ mNil))
  (mSq (mSet 3 (mCall F__law_plain (mCons (mC .non) mNil)))
  (mSq (mSetO 4 (mFLst mNil))
  (mSq i_law_1
  (mSq l_law_1
  (mSq (mFz 4) (mRet (mAndV (m2 (mCall F__law_plain (mCons (mMeth "Disk" "saved" f_Disk_saved (mVar 2) mNil) mNil)) (mVar 3) (f2Eq false)) (m2 (mCall F__law_plain (mCons (mMeth "Disk" "entries" f_Disk_entries (mVar 2) mNil) mNil)) (mFrz (mFCatE (mFrz (mFLst (mCons (mC (.str "list")) mNil))) (mVar 4))) (f2Eq false)))))))))))
def f_law : MFn := mFn 11 b_law
theorem ok_law {P : Program} {w : World} {K : PySem.W.Frag} {mg : Str → Option Value} {base : Heap} {f : Addr} {fd : FuncData} (F : Fun K "law" "law" s_law f fd) (T : Txt K mg) (C_Disk___init__ : Mkr P w K mg base 1 "Disk" 1 f_Disk___init__) (C__law_plain : Fn P w K mg base 9 "_law_plain" 1 F__law_plain) (C_Disk_entries : Mth P w K mg base 10 "Disk" "entries" 1 f_Disk_entries) (C_Disk_saved : Mth P w K mg base 10 "Disk" "saved" 1 f_Disk_saved) (C__law_next : Fn P w K mg base 1 "_law_next" 2 f__law_next) (C__law_value : Fn P w K mg base 13 "_law_value" 2 F__law_value) (C_copied : Fn P w K mg base 9 "copied" 1 F_copied) (C_Disk_save : Mth P w K mg base 10 "Disk" "save" 2 f_Disk_save) (C_Disk_write : Mth P w K mg base 10 "Disk" "write" 2 f_Disk_write) (C__law_spoil : Fn P w K mg base 9 "_law_spoil" 1 F__law_spoil) : FnOk P w K mg base CX0 14 f fd ["_law_script"] (spM ⟨K, w⟩ 1 f_law) :=
  xfn F sc_law fun cdv A outer sh H E hr => (xs_cons (xset (i := 1) sc_law.nd rfl (by first | exact Or.inl rfl | exact Or.inr rfl) (xalloc (xflst (xcons (xfrz (xflist (by rfl) T.list_ (by decide +kernel) (xv 0))) (xcons xint (xcons xint (xcons xint xnil)))))))
  (xs_cons (xset (i := 2) sc_law.nd rfl (by first | exact Or.inl rfl | exact Or.inr rfl) (xmake0 C_Disk___init__ hr (by decide) (by rfl)))
  (xs_cons (xset (i := 3) sc_law.nd rfl (by first | exact Or.inl rfl | exact Or.inr rfl) (xcl C__law_plain hr (by decide) (by rfl) (xcons xnon xnil) (len_cons len_nil)))
  (xs_cons (xsetO (i := 4) sc_law.nd rfl (by first | exact Or.inl rfl | exact Or.inr rfl) (xflst xnil))
  (xs_cons (xif (xwt (xwo (xct kIsNotB (xmth0 C_Disk_saved hr (by decide) (xv 2)) xnon) (xw1o (xct (kNe hr.units) (xmth0 C_Disk_entries hr (by decide) (xv 2)) (xfrz (xflst xnil))))))
    (xs_one (xret xbl))
    xs_nil)
  (xs_cons (xfor PassesOwn.never rfl (xrange1 (by rfl) T.range_ (xadd xint (xcl C__law_next hr (by decide) (by rfl) (xcons (xv 1) (xcons xint xnil)) (len_cons (len_cons len_nil))))) (xgn (i := 5) sc_law.nd rfl (by first | exact Or.inl rfl | exact Or.inr rfl))
    (xs_cons (xset (i := 6) sc_law.nd rfl (by first | exact Or.inl rfl | exact Or.inr rfl) (xcl C__law_value hr (by decide) (by rfl) (xcons (xv 1) (xcons xint xnil)) (len_cons (len_cons len_nil))))
  (xs_cons (xset (i := 7) sc_law.nd rfl (by first | exact Or.inl rfl | exact Or.inr rfl) (xcl C__law_plain hr (by decide) (by rfl) (xcons (xv 6) xnil) (len_cons len_nil)))
  (xs_cons (xif (xct (kNe hr.units) (xcl C__law_plain hr (by decide) (by rfl) (xcons (xcl C_copied hr (by decide) (by rfl) (xcons (xv 6) xnil) (len_cons len_nil)) xnil) (len_cons len_nil)) (xv 7))
    (xs_one (xret xbl))
    xs_nil)
  (xs_cons (xset (i := 8) sc_law.nd rfl (by first | exact Or.inl rfl | exact Or.inr rfl) (xcl C__law_next hr (by decide) (by rfl) (xcons (xv 1) (xcons xint xnil)) (len_cons (len_cons len_nil))))
  (xs_cons (xif (xct (kEq hr.units) (xv 8) xint)
    (xs_cons (xexpr (xmth C_Disk_save hr (by decide) (xv 2) (xcons (xv 6) xnil) (len_cons len_nil)))
  (xs_cons (xset (i := 3) sc_law.nd rfl (by first | exact Or.inl rfl | exact Or.inr rfl) (xv 7))
  (xs_one (xsetO (i := 4) sc_law.nd rfl (by first | exact Or.inl rfl | exact Or.inr rfl) (xflst xnil)))))
    (xs_cons (xexpr (xmth C_Disk_write hr (by decide) (xv 2) (xcons (xtup (xcons xstr (xcons (xv 5) (xcons (xv 6) xnil)))) xnil) (len_cons len_nil)))
  (xs_one (xapp (xv 4) (xfrz (xflst (xcons xstr (xcons (xcl C__law_plain hr (by decide) (by rfl) (xcons xstr xnil) (len_cons len_nil)) (xcons (xcl C__law_plain hr (by decide) (by rfl) (xcons (xv 5) xnil) (len_cons len_nil)) (xcons (xv 7) xnil))))))))))
  (xs_cons (xexpr (xcl C__law_spoil hr (by decide) (by rfl) (xcons (xv 6) xnil) (len_cons len_nil)))
  (xs_cons (xset (i := 9) sc_law.nd rfl (by first | exact Or.inl rfl | exact Or.inr rfl) (xmth0 C_Disk_saved hr (by decide) (xv 2)))
  (xs_cons (xif (xct (kNe hr.units) (xcl C__law_plain hr (by decide) (by rfl) (xcons (xv 9) xnil) (len_cons len_nil)) (xv 3))
    (xs_one (xret xbl))
    xs_nil)
  (xs_cons (xexpr (xcl C__law_spoil hr (by decide) (by rfl) (xcons (xv 9) xnil) (len_cons len_nil)))
  (xs_cons (xset (i := 10) sc_law.nd rfl (by first | exact Or.inl rfl | exact Or.inr rfl) (xmth0 C_Disk_entries hr (by decide) (xv 2)))
  (xs_cons (xif (xct (kNe hr.units) (xcl C__law_plain hr (by decide) (by rfl) (xcons (xv 10) xnil) (len_cons len_nil)) (xfrz (xfcatE (xfrz (xflst (xcons xstr xnil))) (xv 4))))
    (xs_one (xret xbl))
    xs_nil)
  (xs_one (xexpr (xcl C__law_spoil hr (by decide) (by rfl) (xcons (xv 10) xnil) (len_cons len_nil))))))))))))))))
  (xs_fz 4 (xs_one (xret (xand (xc (kEq hr.units) (xcl C__law_plain hr (by decide) (by rfl) (xcons (xmth0 C_Disk_saved hr (by decide) (xv 2)) xnil) (len_cons len_nil)) (xv 3)) (xone (xc (kEq hr.units) (xcl C__law_plain hr (by decide) (by rfl) (xcons (xmth0 C_Disk_entries hr (by decide) (xv 2)) xnil) (len_cons len_nil)) (xfrz (xfcatE (xfrz (xflst (xcons xstr xnil))) (xv 4)))))))))))))))
/-! the end -/
theorem all_mk {l : PySem.W.OpenLaw} {w : World} {K : PySem.W.Frag} {h : Heap} {mg : Str → Option Value} {fa : Addr} (X : K.In h) (G : h.Ns mainGlobals mg) (hfa : mg "law" = some (.ref fa))
    {ZDisk : Addr} (q_Disk : PySem.W.nsIn K mainGlobals "Disk" = some (some (.ref ZDisk))) (pg_Disk : PySem.W.plainGet K ZDisk Str.empty = true) (hd_Disk : PySem.W.hasDictIn K ZDisk = true) (po_Disk : PySem.W.plainOver K ZDisk = true) (sa_Disk : PySem.W.findIn K (.ref ZDisk) "__setattr__" = some (some (.builtin "object.__setattr__")))
    (mk_Disk : PySem.W.makesIn K ZDisk = true) (kc_Disk : PySem.W.keepIn K (.ref ZDisk) = true)
    (no_Disk_kept : PySem.W.findIn K (.ref ZDisk) "kept" = some none)
    (no_Disk_log : PySem.W.findIn K (.ref ZDisk) "log" = some none)
    {f0 : Addr} {od0 an0 : Option Addr} {sl0 : Array (Option Value)} {oc0 kV0 dc0 pm0 cd0 ct0 : Value}
    {f1 : Addr} {od1 an1 : Option Addr} {sl1 : Array (Option Value)} {oc1 kV1 dc1 pm1 cd1 ct1 : Value}
    {f2 : Addr} {od2 an2 : Option Addr} {sl2 : Array (Option Value)} {oc2 kV2 dc2 pm2 cd2 ct2 : Value}
    {f3 : Addr} {od3 an3 : Option Addr} {sl3 : Array (Option Value)} {oc3 kV3 dc3 pm3 cd3 ct3 : Value}
    {f4 : Addr} {od4 an4 : Option Addr} {sl4 : Array (Option Value)} {oc4 kV4 dc4 pm4 cd4 ct4 : Value}
    {f5 : Addr} {od5 an5 : Option Addr} {sl5 : Array (Option Value)} {oc5 kV5 dc5 pm5 cd5 ct5 : Value}
    {f6 : Addr} {od6 an6 : Option Addr} {sl6 : Array (Option Value)} {oc6 kV6 dc6 pm6 cd6 ct6 : Value}
    {f7 : Addr} {od7 an7 : Option Addr} {sl7 : Array (Option Value)} {oc7 kV7 dc7 pm7 cd7 ct7 : Value}
    {f8 : Addr} {od8 an8 : Option Addr} {sl8 : Array (Option Value)} {oc8 kV8 dc8 pm8 cd8 ct8 : Value}
    {f9 : Addr} {od9 an9 : Option Addr} {sl9 : Array (Option Value)} {oc9 kV9 dc9 pm9 cd9 ct9 : Value}
    {f10 : Addr} {od10 an10 : Option Addr} {sl10 : Array (Option Value)} {oc10 kV10 dc10 pm10 cd10 ct10 : Value}
    (a0 : PySem.W.findIn K (.ref ZDisk) "__init__" = some (some (.ref f0))) (l0 : K.lookup f0 = some ⟨oc0, od0, .func (PySem.W.fnOf "__init__" "Disk.__init__" (defArgs s_Disk___init__) (defBody s_Disk___init__) (defScope s_Disk___init__) .none kV0 dc0 pm0 an0 cd0 ct0), sl0⟩) (c0 : PySem.W.codeIn K cd0 "Disk.__init__" = true) (k0 : PySem.W.keepIn K (.ref f0) = true) (i0 : PySem.W.isFn K (.ref f0) = true)
    (a1 : PySem.W.nsIn K mainGlobals "_law_plain" = some (some (.ref f1))) (l1 : K.lookup f1 = some ⟨oc1, od1, .func (PySem.W.fnOf "_law_plain" "_law_plain" (defArgs s__law_plain) (defBody s__law_plain) (defScope s__law_plain) .none kV1 dc1 pm1 an1 cd1 ct1), sl1⟩) (c1 : PySem.W.codeIn K cd1 "_law_plain" = true) (k1 : PySem.W.keepIn K (.ref f1) = true)
    (a2 : PySem.W.nsIn K mainGlobals "copied" = some (some (.ref f2))) (l2 : K.lookup f2 = some ⟨oc2, od2, .func (PySem.W.fnOf "copied" "copied" (defArgs s_copied) (defBody s_copied) (defScope s_copied) .none kV2 dc2 pm2 an2 cd2 ct2), sl2⟩) (c2 : PySem.W.codeIn K cd2 "copied" = true) (k2 : PySem.W.keepIn K (.ref f2) = true)
    (a3 : PySem.W.findIn K (.ref ZDisk) "entries" = some (some (.ref f3))) (l3 : K.lookup f3 = some ⟨oc3, od3, .func (PySem.W.fnOf "entries" "Disk.entries" (defArgs s_Disk_entries) (defBody s_Disk_entries) (defScope s_Disk_entries) .none kV3 dc3 pm3 an3 cd3 ct3), sl3⟩) (c3 : PySem.W.codeIn K cd3 "Disk.entries" = true) (k3 : PySem.W.keepIn K (.ref f3) = true) (i3 : PySem.W.isFn K (.ref f3) = true)
    (a4 : PySem.W.findIn K (.ref ZDisk) "saved" = some (some (.ref f4))) (l4 : K.lookup f4 = some ⟨oc4, od4, .func (PySem.W.fnOf "saved" "Disk.saved" (defArgs s_Disk_saved) (defBody s_Disk_saved) (defScope s_Disk_saved) .none kV4 dc4 pm4 an4 cd4 ct4), sl4⟩) (c4 : PySem.W.codeIn K cd4 "Disk.saved" = true) (k4 : PySem.W.keepIn K (.ref f4) = true) (i4 : PySem.W.isFn K (.ref f4) = true)
    (a5 : PySem.W.nsIn K mainGlobals "_law_next" = some (some (.ref f5))) (l5 : K.lookup f5 = some ⟨oc5, od5, .func (PySem.W.fnOf "_law_next" "_law_next" (defArgs s__law_next) (defBody s__law_next) (defScope s__law_next) .none kV5 dc5 pm5 an5 cd5 ct5), sl5⟩) (c5 : PySem.W.codeIn K cd5 "_law_next" = true) (k5 : PySem.W.keepIn K (.ref f5) = true)
    (a6 : PySem.W.nsIn K mainGlobals "_law_value" = some (some (.ref f6))) (l6 : K.lookup f6 = some ⟨oc6, od6, .func (PySem.W.fnOf "_law_value" "_law_value" (defArgs s__law_value) (defBody s__law_value) (defScope s__law_value) .none kV6 dc6 pm6 an6 cd6 ct6), sl6⟩) (c6 : PySem.W.codeIn K cd6 "_law_value" = true) (k6 : PySem.W.keepIn K (.ref f6) = true)
    (a7 : PySem.W.findIn K (.ref ZDisk) "save" = some (some (.ref f7))) (l7 : K.lookup f7 = some ⟨oc7, od7, .func (PySem.W.fnOf "save" "Disk.save" (defArgs s_Disk_save) (defBody s_Disk_save) (defScope s_Disk_save) .none kV7 dc7 pm7 an7 cd7 ct7), sl7⟩) (c7 : PySem.W.codeIn K cd7 "Disk.save" = true) (k7 : PySem.W.keepIn K (.ref f7) = true) (i7 : PySem.W.isFn K (.ref f7) = true)
    (a8 : PySem.W.findIn K (.ref ZDisk) "write" = some (some (.ref f8))) (l8 : K.lookup f8 = some ⟨oc8, od8, .func (PySem.W.fnOf "write" "Disk.write" (defArgs s_Disk_write) (defBody s_Disk_write) (defScope s_Disk_write) .none kV8 dc8 pm8 an8 cd8 ct8), sl8⟩) (c8 : PySem.W.codeIn K cd8 "Disk.write" = true) (k8 : PySem.W.keepIn K (.ref f8) = true) (i8 : PySem.W.isFn K (.ref f8) = true)
    (a9 : PySem.W.nsIn K mainGlobals "_law_spoil" = some (some (.ref f9))) (l9 : K.lookup f9 = some ⟨oc9, od9, .func (PySem.W.fnOf "_law_spoil" "_law_spoil" (defArgs s__law_spoil) (defBody s__law_spoil) (defScope s__law_spoil) .none kV9 dc9 pm9 an9 cd9 ct9), sl9⟩) (c9 : PySem.W.codeIn K cd9 "_law_spoil" = true) (k9 : PySem.W.keepIn K (.ref f9) = true)
    (a10 : PySem.W.nsIn K mainGlobals "law" = some (some (.ref f10))) (l10 : K.lookup f10 = some ⟨oc10, od10, .func (PySem.W.fnOf "law" "law" (defArgs s_law) (defBody s_law) (defScope s_law) .none kV10 dc10 pm10 an10 cd10 ct10), sl10⟩) (c10 : PySem.W.codeIn K cd10 "law" = true) (k10 : PySem.W.keepIn K (.ref f10) = true)
    (z_list : PySem.W.nsIn K mainGlobals "list" = some none)
    (z_range : PySem.W.nsIn K mainGlobals "range" = some none)
    (z_isinstance : PySem.W.nsIn K mainGlobals "isinstance" = some none)
    (z_dict : PySem.W.nsIn K mainGlobals "dict" = some none)
    (z_tuple : PySem.W.nsIn K mainGlobals "tuple" = some none)
    (z_len : PySem.W.nsIn K mainGlobals "len" = some none)
    (z_int : PySem.W.nsIn K mainGlobals "int" = some none)
    (z_abs : PySem.W.nsIn K mainGlobals "abs" = some none)
    (z_bool : PySem.W.nsIn K mainGlobals "bool" = some none)
    : ∃ fd : FuncData, (∀ (s : Shared) (v : Value), BindsTo s fd ⟨[v], []⟩ [("_law_script", v)]) ∧ ∀ base : Heap, K.In base → base.Ns mainGlobals mg → FnOk l.prog w K mg base CX0 14 fa fd ["_law_script"] (spM ⟨K, w⟩ 1 f_law) := by
  have e := hfa.symm.trans (PySem.W.mg_of X G a10)
  cases e
  have K_Disk : Cls K ZDisk := ⟨pg_Disk, hd_Disk, po_Disk, sa_Disk⟩
  have N_Disk : ∀ f ∈ (["kept", "log"] : List Str), NoAttr K ZDisk f := fun f hf => by
    simp only [List.mem_cons, List.not_mem_nil, or_false] at hf
    rcases hf with rfl | rfl
    · exact no_Disk_kept
    · exact no_Disk_log
  have T0 : ClsT K mg ctab := fun p hp => by
    simp only [ctab, List.mem_cons, List.not_mem_nil, or_false] at hp
    rcases hp with rfl
    · exact ⟨⟨ZDisk, q_Disk, PySem.W.mg_of X G q_Disk, K_Disk, N_Disk⟩⟩
  have T : Txt K mg := ⟨T0, PySem.W.mg_none_of X G z_list, PySem.W.mg_none_of X G z_range, PySem.W.mg_none_of X G z_isinstance, PySem.W.mg_none_of X G z_dict, PySem.W.mg_none_of X G z_tuple, PySem.W.mg_none_of X G z_len, PySem.W.mg_none_of X G z_int, PySem.W.mg_none_of X G z_abs, PySem.W.mg_none_of X G z_bool⟩
  have F0 := fun_mk (st := s_Disk___init__) l0 c0 k0
  have B0 := F0.binds (ps := ["self"]) fun _ _ _ _ _ _ us hl => match us, hl with | [_], _ => rfl
  have F1 := fun_mk (st := s__law_plain) l1 c1 k1
  have B1 := F1.binds (ps := ["_law_value_here"]) fun _ _ _ _ _ _ us hl => match us, hl with | [_], _ => rfl
  have F2 := fun_mk (st := s_copied) l2 c2 k2
  have B2 := F2.binds (ps := ["value"]) fun _ _ _ _ _ _ us hl => match us, hl with | [_], _ => rfl
  have F3 := fun_mk (st := s_Disk_entries) l3 c3 k3
  have B3 := F3.binds (ps := ["self"]) fun _ _ _ _ _ _ us hl => match us, hl with | [_], _ => rfl
  have F4 := fun_mk (st := s_Disk_saved) l4 c4 k4
  have B4 := F4.binds (ps := ["self"]) fun _ _ _ _ _ _ us hl => match us, hl with | [_], _ => rfl
  have F5 := fun_mk (st := s__law_next) l5 c5 k5
  have B5 := F5.binds (ps := ["_law_tape", "_law_many"]) fun _ _ _ _ _ _ us hl => match us, hl with | [_, _], _ => rfl
  have F6 := fun_mk (st := s__law_value) l6 c6 k6
  have B6 := F6.binds (ps := ["_law_tape", "_law_deep"]) fun _ _ _ _ _ _ us hl => match us, hl with | [_, _], _ => rfl
  have F7 := fun_mk (st := s_Disk_save) l7 c7 k7
  have B7 := F7.binds (ps := ["self", "value"]) fun _ _ _ _ _ _ us hl => match us, hl with | [_, _], _ => rfl
  have F8 := fun_mk (st := s_Disk_write) l8 c8 k8
  have B8 := F8.binds (ps := ["self", "entry"]) fun _ _ _ _ _ _ us hl => match us, hl with | [_, _], _ => rfl
  have F9 := fun_mk (st := s__law_spoil) l9 c9 k9
  have B9 := F9.binds (ps := ["_law_value_here"]) fun _ _ _ _ _ _ us hl => match us, hl with | [_], _ => rfl
  have F10 := fun_mk (st := s_law) l10 c10 k10
  refine ⟨PySem.W.fnOf "law" "law" (defArgs s_law) (defBody s_law) (defScope s_law) .none kV10 dc10 pm10 an10 cd10 ct10, fun s v => .of_eq rfl, fun base _ _ => ?_⟩
  have C_Disk___init__ : Mkr l.prog w K mg base 1 "Disk" 1 f_Disk___init__ := ⟨ZDisk, f0, _, _, q_Disk, PySem.W.mg_of X G q_Disk, ⟨mk_Disk, a0, i0, kc_Disk⟩, ok_Disk___init__ F0 T, B0⟩
  have C__law_plain_0 : Fn l.prog w K mg base 1 "_law_plain" 1 F0__law_plain := ⟨_, _, _, ok0__law_plain F1, PySem.W.mg_of X G a1, k1, B1⟩
  have C__law_plain_1 : Fn l.prog w K mg base 2 "_law_plain" 1 F1__law_plain := ⟨_, _, _, ok__law_plain (S := F0__law_plain) (ks := 1) F1 T C__law_plain_0, PySem.W.mg_of X G a1, k1, B1⟩
  have C__law_plain_2 : Fn l.prog w K mg base 3 "_law_plain" 1 F2__law_plain := ⟨_, _, _, ok__law_plain (S := F1__law_plain) (ks := 2) F1 T C__law_plain_1, PySem.W.mg_of X G a1, k1, B1⟩
  have C__law_plain_3 : Fn l.prog w K mg base 4 "_law_plain" 1 F3__law_plain := ⟨_, _, _, ok__law_plain (S := F2__law_plain) (ks := 3) F1 T C__law_plain_2, PySem.W.mg_of X G a1, k1, B1⟩
  have C__law_plain_4 : Fn l.prog w K mg base 5 "_law_plain" 1 F4__law_plain := ⟨_, _, _, ok__law_plain (S := F3__law_plain) (ks := 4) F1 T C__law_plain_3, PySem.W.mg_of X G a1, k1, B1⟩
  have C__law_plain_5 : Fn l.prog w K mg base 6 "_law_plain" 1 F5__law_plain := ⟨_, _, _, ok__law_plain (S := F4__law_plain) (ks := 5) F1 T C__law_plain_4, PySem.W.mg_of X G a1, k1, B1⟩
  have C__law_plain_6 : Fn l.prog w K mg base 7 "_law_plain" 1 F6__law_plain := ⟨_, _, _, ok__law_plain (S := F5__law_plain) (ks := 6) F1 T C__law_plain_5, PySem.W.mg_of X G a1, k1, B1⟩
  have C__law_plain_7 : Fn l.prog w K mg base 8 "_law_plain" 1 F7__law_plain := ⟨_, _, _, ok__law_plain (S := F6__law_plain) (ks := 7) F1 T C__law_plain_6, PySem.W.mg_of X G a1, k1, B1⟩
  have C__law_plain_8 : Fn l.prog w K mg base 9 "_law_plain" 1 F8__law_plain := ⟨_, _, _, ok__law_plain (S := F7__law_plain) (ks := 8) F1 T C__law_plain_7, PySem.W.mg_of X G a1, k1, B1⟩
  have C_copied_0 : Fn l.prog w K mg base 1 "copied" 1 F0_copied := ⟨_, _, _, ok0_copied F2, PySem.W.mg_of X G a2, k2, B2⟩
  have C_copied_1 : Fn l.prog w K mg base 2 "copied" 1 F1_copied := ⟨_, _, _, ok_copied (S := F0_copied) (ks := 1) F2 T C_copied_0, PySem.W.mg_of X G a2, k2, B2⟩
  have C_copied_2 : Fn l.prog w K mg base 3 "copied" 1 F2_copied := ⟨_, _, _, ok_copied (S := F1_copied) (ks := 2) F2 T C_copied_1, PySem.W.mg_of X G a2, k2, B2⟩
  have C_copied_3 : Fn l.prog w K mg base 4 "copied" 1 F3_copied := ⟨_, _, _, ok_copied (S := F2_copied) (ks := 3) F2 T C_copied_2, PySem.W.mg_of X G a2, k2, B2⟩
  have C_copied_4 : Fn l.prog w K mg base 5 "copied" 1 F4_copied := ⟨_, _, _, ok_copied (S := F3_copied) (ks := 4) F2 T C_copied_3, PySem.W.mg_of X G a2, k2, B2⟩
  have C_copied_5 : Fn l.prog w K mg base 6 "copied" 1 F5_copied := ⟨_, _, _, ok_copied (S := F4_copied) (ks := 5) F2 T C_copied_4, PySem.W.mg_of X G a2, k2, B2⟩
  have C_copied_6 : Fn l.prog w K mg base 7 "copied" 1 F6_copied := ⟨_, _, _, ok_copied (S := F5_copied) (ks := 6) F2 T C_copied_5, PySem.W.mg_of X G a2, k2, B2⟩
  have C_copied_7 : Fn l.prog w K mg base 8 "copied" 1 F7_copied := ⟨_, _, _, ok_copied (S := F6_copied) (ks := 7) F2 T C_copied_6, PySem.W.mg_of X G a2, k2, B2⟩
  have C_copied_8 : Fn l.prog w K mg base 9 "copied" 1 F8_copied := ⟨_, _, _, ok_copied (S := F7_copied) (ks := 8) F2 T C_copied_7, PySem.W.mg_of X G a2, k2, B2⟩
  have C_Disk_entries : Mth l.prog w K mg base 10 "Disk" "entries" 1 f_Disk_entries := ⟨ZDisk, f3, _, _, q_Disk, K_Disk, ⟨a3, i3, k3⟩, ok_Disk_entries F3 T C_copied_8, B3⟩
  have C_Disk_saved : Mth l.prog w K mg base 10 "Disk" "saved" 1 f_Disk_saved := ⟨ZDisk, f4, _, _, q_Disk, K_Disk, ⟨a4, i4, k4⟩, ok_Disk_saved F4 T C_copied_8, B4⟩
  have C__law_next : Fn l.prog w K mg base 1 "_law_next" 2 f__law_next := ⟨_, _, _, ok__law_next F5 T, PySem.W.mg_of X G a5, k5, B5⟩
  have C__law_value_0 : Fn l.prog w K mg base 1 "_law_value" 2 F0__law_value := ⟨_, _, _, ok0__law_value F6, PySem.W.mg_of X G a6, k6, B6⟩
  have C__law_value_1 : Fn l.prog w K mg base 3 "_law_value" 2 F1__law_value := ⟨_, _, _, ok__law_value (S := F0__law_value) (ks := 1) F6 T C__law_next C__law_value_0, PySem.W.mg_of X G a6, k6, B6⟩
  have C__law_value_2 : Fn l.prog w K mg base 5 "_law_value" 2 F2__law_value := ⟨_, _, _, ok__law_value (S := F1__law_value) (ks := 3) F6 T C__law_next C__law_value_1, PySem.W.mg_of X G a6, k6, B6⟩
  have C__law_value_3 : Fn l.prog w K mg base 7 "_law_value" 2 F3__law_value := ⟨_, _, _, ok__law_value (S := F2__law_value) (ks := 5) F6 T C__law_next C__law_value_2, PySem.W.mg_of X G a6, k6, B6⟩
  have C__law_value_4 : Fn l.prog w K mg base 9 "_law_value" 2 F4__law_value := ⟨_, _, _, ok__law_value (S := F3__law_value) (ks := 7) F6 T C__law_next C__law_value_3, PySem.W.mg_of X G a6, k6, B6⟩
  have C__law_value_5 : Fn l.prog w K mg base 11 "_law_value" 2 F5__law_value := ⟨_, _, _, ok__law_value (S := F4__law_value) (ks := 9) F6 T C__law_next C__law_value_4, PySem.W.mg_of X G a6, k6, B6⟩
  have C__law_value_6 : Fn l.prog w K mg base 13 "_law_value" 2 F6__law_value := ⟨_, _, _, ok__law_value (S := F5__law_value) (ks := 11) F6 T C__law_next C__law_value_5, PySem.W.mg_of X G a6, k6, B6⟩
  have C_Disk_save : Mth l.prog w K mg base 10 "Disk" "save" 2 f_Disk_save := ⟨ZDisk, f7, _, _, q_Disk, K_Disk, ⟨a7, i7, k7⟩, ok_Disk_save F7 T C_copied_8, B7⟩
  have C_Disk_write : Mth l.prog w K mg base 10 "Disk" "write" 2 f_Disk_write := ⟨ZDisk, f8, _, _, q_Disk, K_Disk, ⟨a8, i8, k8⟩, ok_Disk_write F8 T C_copied_8, B8⟩
  have C__law_spoil_0 : Fn l.prog w K mg base 1 "_law_spoil" 1 F0__law_spoil := ⟨_, _, _, ok0__law_spoil F9, PySem.W.mg_of X G a9, k9, B9⟩
  have C__law_spoil_1 : Fn l.prog w K mg base 2 "_law_spoil" 1 F1__law_spoil := ⟨_, _, _, ok__law_spoil (S := F0__law_spoil) (ks := 1) F9 T C__law_spoil_0, PySem.W.mg_of X G a9, k9, B9⟩
  have C__law_spoil_2 : Fn l.prog w K mg base 3 "_law_spoil" 1 F2__law_spoil := ⟨_, _, _, ok__law_spoil (S := F1__law_spoil) (ks := 2) F9 T C__law_spoil_1, PySem.W.mg_of X G a9, k9, B9⟩
  have C__law_spoil_3 : Fn l.prog w K mg base 4 "_law_spoil" 1 F3__law_spoil := ⟨_, _, _, ok__law_spoil (S := F2__law_spoil) (ks := 3) F9 T C__law_spoil_2, PySem.W.mg_of X G a9, k9, B9⟩
  have C__law_spoil_4 : Fn l.prog w K mg base 5 "_law_spoil" 1 F4__law_spoil := ⟨_, _, _, ok__law_spoil (S := F3__law_spoil) (ks := 4) F9 T C__law_spoil_3, PySem.W.mg_of X G a9, k9, B9⟩
  have C__law_spoil_5 : Fn l.prog w K mg base 6 "_law_spoil" 1 F5__law_spoil := ⟨_, _, _, ok__law_spoil (S := F4__law_spoil) (ks := 5) F9 T C__law_spoil_4, PySem.W.mg_of X G a9, k9, B9⟩
  have C__law_spoil_6 : Fn l.prog w K mg base 7 "_law_spoil" 1 F6__law_spoil := ⟨_, _, _, ok__law_spoil (S := F5__law_spoil) (ks := 6) F9 T C__law_spoil_5, PySem.W.mg_of X G a9, k9, B9⟩
  have C__law_spoil_7 : Fn l.prog w K mg base 8 "_law_spoil" 1 F7__law_spoil := ⟨_, _, _, ok__law_spoil (S := F6__law_spoil) (ks := 7) F9 T C__law_spoil_6, PySem.W.mg_of X G a9, k9, B9⟩
  have C__law_spoil_8 : Fn l.prog w K mg base 9 "_law_spoil" 1 F8__law_spoil := ⟨_, _, _, ok__law_spoil (S := F7__law_spoil) (ks := 8) F9 T C__law_spoil_7, PySem.W.mg_of X G a9, k9, B9⟩
  exact ok_law F10 T C_Disk___init__ C__law_plain_8 C_Disk_entries C_Disk_saved C__law_next C__law_value_6 C_copied_8 C_Disk_save C_Disk_write C__law_spoil_8
end Law

set_option maxHeartbeats 4000000
namespace Law
open PySem L2 Gx
/-! the tape -/
structure Tp where
  pos : Nat
  rest : Int
  seed : Int
def tpO (ns : List Int) (t : Tp) : SO := .lst [.lst (dI ns), .int t.pos, .int t.rest, .int t.seed]
theorem cdiv_small {i j : Int} (h : 0 < j) (h2 : j < 2 ^ 64) : cDivW i j = true := by
  unfold cDivW
  rw [decide_eq_true h, decide_eq_true]
  · rfl
  · have h3 : j.natAbs < 2 ^ 64 := by omega
    by_cases h0 : j.natAbs = 0
    · omega
    · have := (Nat.log2_lt h0).mpr h3
      omega
theorem pow18 : cPow 10 18 = true := by decide
theorem next_eq {ns : List Int} {t : Tp} {r m : Nat} {st : Store} (hr : st[r]? = some (tpO ns t)) (h0 : 0 < m) (h1 : m < 2 ^ 60) :
    ∃ (v : Nat) (t' : Tp), v < m ∧ f__law_next [.ref r, .int m] st = some (.int v, st.set r (tpO ns t')) := by
  have hlt : r < st.length := (List.getElem?_eq_some_iff.mp hr).1
  have hg : ∀ x : SO, (st.set r x)[r]? = some x := fun x => by simp [hlt]
  unfold tpO at hr
  have hm0 : (0 : Int) < m := by omega
  have hcm : ∀ i : Int, cDivW i m = true := fun i => cdiv_small hm0 (by omega)
  have hc5 : ∀ i : Int, cDivW i 5 = true := fun i => cdiv_small (by decide) (by decide)
  have key : ∃ (x : Int) (t' : Tp), f__law_next [.ref r, .int m] st = some (.int (x % (m : Int)), st.set r (tpO ns t')) := by
    by_cases hz : t.rest = 0
    · by_cases hp : t.pos < ns.length
      · generalize hc : (if ns[t.pos] < 0 then -ns[t.pos] else ns[t.pos]) = c
        by_cases h18 : c < 1000000000000000000
        · exact ⟨(t.seed * 69621 + c * 40692 + 17) % 2147483647 / 5 * 48271 % 2147483647, ⟨t.pos + 1, 0, (t.seed * 69621 + c * 40692 + 17) % 2147483647⟩, by
            simp [f__law_next, b__law_next, i__law_next_1, i__law_next_2, i__law_next_3, hr, hg, hz, hp, hc, h18, pow18, hcm, hc5, tpO, h0]⟩
        · exact ⟨c, ⟨t.pos + 1, c / m, t.seed⟩, by
            simp [f__law_next, b__law_next, i__law_next_1, i__law_next_2, i__law_next_3, hr, hg, hz, hp, hc, h18, pow18, hcm, hc5, tpO, h0]⟩
      · exact ⟨(t.seed * 69621 + 0 * 40692 + 17) % 2147483647 / 5 * 48271 % 2147483647, ⟨t.pos, 0, (t.seed * 69621 + 0 * 40692 + 17) % 2147483647⟩, by
            simp [f__law_next, b__law_next, i__law_next_1, i__law_next_2, i__law_next_3, hr, hg, hz, hp, pow18, hcm, hc5, tpO, h0]⟩
    · exact ⟨t.rest, ⟨t.pos, t.rest / m, t.seed⟩, by
            simp [f__law_next, b__law_next, i__law_next_1, i__law_next_2, i__law_next_3, hr, hg, hz, pow18, hcm, hc5, tpO, h0]⟩
  obtain ⟨x, t', h⟩ := key
  refine ⟨(x % (m : Int)).toNat, t', ?_, ?_⟩
  · have := Int.emod_nonneg x (show (m : Int) ≠ 0 by omega)
    have := Int.emod_lt_of_pos x hm0
    omega
  · rw [h, Int.toNat_of_nonneg (Int.emod_nonneg x (by omega))]
theorem cut_it (ns : List Int) : D.lst (ns.map D.int) = .lst (dI ns) := rfl

/-! ### the new combinators -/
theorem asX_st {st : Store} {n : Nat} {kvs : List (D × D)} (h : st[n]? = some (.dX n kvs)) : asX st n = some kvs := by unfold asX; rw [h]; simp
theorem asX_sf {st : Store} {n : Nat} {kvs : List (D × D)} (h : st[n]? = some (.dXF n kvs)) : asX st n = some kvs := by unfold asX; rw [h]; simp
theorem isX_of {st : Store} {n : Nat} {kvs : List (D × D)} (h : st[n]? = some (.dX n kvs)) : isX st n = some kvs := by unfold isX; rw [h]; simp
theorem isXF_of {st : Store} {n : Nat} {kvs : List (D × D)} (h : st[n]? = some (.dXF n kvs)) : isXF st n = some kvs := by unfold isXF; rw [h]; simp
theorem lockF_run {i n : Nat} {f : MF} {env : Gx.Env} {st st2 : Store} {kvs : List (D × D)} {so : SO} (hi : refAt env i = some n) (hx : st[n]? = some (.dX n kvs)) (hf : f env (st.set n (.dXF n kvs)) = some (so, st2)) (h2 : st2[n]? = some (.dXF n kvs)) :
    mLockF i f env st = some (so, st2.set n (.dX n kvs)) := by
  unfold mLockF
  rw [hi]; dsimp only
  rw [isX_of hx]; dsimp only
  rw [hf]; dsimp only
  rw [isXF_of h2]; dsimp only
  rw [if_pos rfl]
theorem lockE_run {i n : Nat} {f : ME} {env : Gx.Env} {st st2 : Store} {kvs : List (D × D)} {d : D} (hi : refAt env i = some n) (hx : st[n]? = some (.dX n kvs)) (hf : f env (st.set n (.dXF n kvs)) = some (.d d, st2)) (h2 : st2[n]? = some (.dXF n kvs)) :
    mLockE i f env st = some (.d d, st2.set n (.dX n kvs)) := by
  unfold mLockE
  rw [hi]; dsimp only
  rw [isX_of hx]; dsimp only
  rw [hf]; dsimp only
  rw [isXF_of h2]; dsimp only
  rw [if_pos rfl]
theorem lcX_run {mi e : ME} {j n : Nat} {vs : List Nat} {env : Gx.Env} {st st2 : Store} {kvs : List (D × D)} {acc : List D} (hm : mi env st = some (.d (.ref n), st)) (hx : st[n]? = some (.dXF n kvs))
    (hg : lcGo j mYes e (wipeE env vs) (fun st => decide (isXF st n = some kvs)) (kvs.map (·.1)) st [] = some (acc, st2)) : mLcX mi j e vs env st = some (.lst acc, st2) := by
  unfold mLcX
  rw [hm]; dsimp only
  rw [isXF_of hx]; dsimp only
  rw [hg]
theorem dcX_run {mi ek ev : ME} {j n : Nat} {vs : List Nat} {env : Gx.Env} {st st2 : Store} {kvs acc : List (D × D)} (hm : mi env st = some (.d (.ref n), st)) (hx : st[n]? = some (.dXF n kvs))
    (hg : dcGoX j ek ev (wipeE env vs) (fun st => decide (isXF st n = some kvs)) (kvs.map (·.1)) st [] = some (acc, st2)) : mDcX mi j ek ev vs env st = some (.d (.ref st2.length), st2 ++ [.dX st2.length acc]) := by
  unfold mDcX
  rw [hm]; dsimp only
  rw [isXF_of hx]; dsimp only
  rw [hg]
theorem lcGo_ind {j : Nat} {e : ME} {env : Gx.Env} {chk : Store → Bool} (Q : List D → Store → List D → Prop)
    (hs : ∀ x xs st acc, Q (x :: xs) st acc → chk st = true ∧ ∃ d st2, e (env.set j (.val x)) st = some (.d d, st2) ∧ acc.length < 16000000 ∧ Q xs st2 (acc ++ [d])) (h0 : ∀ st acc, Q [] st acc → chk st = true) :
    ∀ xs st acc, Q xs st acc → ∃ acc' st', lcGo j mYes e env chk xs st acc = some (acc', st') ∧ Q [] st' acc'
  | [], st, acc, h => ⟨acc, st, by unfold lcGo; rw [if_pos (h0 st acc h)], h⟩
  | x :: xs, st, acc, h => by
    obtain ⟨h1, d, st2, h2, h3, h4⟩ := hs x xs st acc h
    obtain ⟨acc', st', h5, h6⟩ := lcGo_ind Q hs h0 xs st2 (acc ++ [d]) h4
    refine ⟨acc', st', ?_, h6⟩
    unfold lcGo
    rw [if_pos h1]
    show (match e (env.set j (.val x)) st with
        | some (.d d, st2) => if acc.length < 16000000 then lcGo j mYes e env chk xs st2 (acc ++ [d]) else none
        | _ => none) = _
    rw [h2]; dsimp only
    rw [if_pos h3]
    exact h5
theorem dcGoX_ind {j : Nat} {ek ev : ME} {env : Gx.Env} {chk : Store → Bool} (Q : List D → Store → List (D × D) → Prop)
    (hs : ∀ x xs st acc, Q (x :: xs) st acc → chk st = true ∧ ∃ dk d st1 st2, ek (env.set j (.val x)) st = some (.d dk, st1) ∧ (mkOf dk).isSome = true ∧ ev (env.set j (.val x)) st1 = some (.d d, st2) ∧ acc.length < 16000000 ∧ Q xs st2 (putX acc dk d)) (h0 : ∀ st acc, Q [] st acc → chk st = true) :
    ∀ xs st acc, Q xs st acc → ∃ acc' st', dcGoX j ek ev env chk xs st acc = some (acc', st') ∧ Q [] st' acc'
  | [], st, acc, h => ⟨acc, st, by unfold dcGoX; rw [if_pos (h0 st acc h)], h⟩
  | x :: xs, st, acc, h => by
    obtain ⟨h1, dk, d, st1, st2, h2, h2', h2'', h3, h4⟩ := hs x xs st acc h
    obtain ⟨acc', st', h5, h6⟩ := dcGoX_ind Q hs h0 xs st2 (putX acc dk d) h4
    refine ⟨acc', st', ?_, h6⟩
    unfold dcGoX
    rw [if_pos h1, h2]; dsimp only
    rw [if_pos h2', h2'']; dsimp only
    rw [if_pos h3]
    exact h5
section
variable (env : Gx.Env) (st : Store)
@[simp] theorem ev_mD0X : mD0X env st = some (.d (.ref st.length), st ++ [.dX st.length []]) := (rfl)
@[simp] theorem ev_mIxX (mo mk : ME) : mIxX mo mk env st = bnd (mo env st) fun r st1 => ob (refOf r) fun n => bnd (mk env st1) fun k st2 => onD k fun kd => ob (asX st2 n) fun kvs => if (mkOf kd).isSome then ob (lookX kvs kd) fun z => some (.d z, st2) else none := by
  unfold mIxX
  cases mo env st with
  | none => rfl
  | some p =>
    obtain ⟨r, st1⟩ := p
    cases r with
    | loc _ => rfl
    | d r =>
      cases r <;> first | rfl | skip
      rename_i n
      simp only [bnd_s, refOf_r, ob_s]
      cases mk env st1 with
      | none => rfl
      | some p =>
        obtain ⟨k, st2⟩ := p
        cases k with
        | loc _ => rfl
        | d k =>
          simp only [bnd_s, onD_d]
          cases asX st2 n with
          | none => rfl
          | some kvs =>
            simp only [ob_s]
            split
            · cases lookX kvs k <;> rfl
            · rfl
@[simp] theorem ev_mStX (mo mk mv : ME) : mStX mo mk mv env st = bnd (mv env st) fun y s => onD y fun dv => bnd (mo env s) fun r st2 => ob (refOf r) fun n => bnd (mk env st2) fun k st3 => onD k fun kd => ob (isX st3 n) fun kvs => if (mkOf kd).isSome && decide (kvs.length < 16000000) then some (.nx, env, st3.set n (.dX n (putX kvs kd dv))) else none := by
  unfold mStX
  cases mv env st with
  | none => rfl
  | some p =>
    obtain ⟨y, s⟩ := p
    cases y with
    | loc _ => rfl
    | d y =>
      simp only [bnd_s, onD_d]
      cases mo env s with
      | none => rfl
      | some p =>
        obtain ⟨r, st2⟩ := p
        cases r with
        | loc _ => rfl
        | d r =>
          cases r <;> first | rfl | skip
          rename_i n
          simp only [bnd_s, refOf_r, ob_s]
          cases mk env st2 with
          | none => rfl
          | some p =>
            obtain ⟨k, st3⟩ := p
            cases k with
            | loc _ => rfl
            | d k =>
              simp only [bnd_s, onD_d]
              cases isX st3 n <;> rfl
@[simp] theorem ev_mFListX (m : ME) : mFListX m env st = bnd (m env st) fun r s => ob (refOf r) fun n => ob (asX s n) fun kvs => some (.lst (kvs.map (·.1)), s) := by
  unfold mFListX
  cases m env st with
  | none => rfl
  | some p =>
    obtain ⟨r, s⟩ := p
    cases r with
    | loc _ => rfl
    | d r =>
      cases r <;> first | rfl | skip
      rename_i n
      simp only [bnd_s, refOf_r, ob_s]
      cases asX s n <;> rfl
end
/-! ### kinds -/
def kdS (st : Store) : D → String
  | .non => "NoneType"
  | .bl _ => "bool"
  | .int _ => "int"
  | .str _ => "str"
  | .tup _ => "tuple"
  | .ref n => match st[n]? with
    | some (.lst _) => "list"
    | some (.dX _ _) => "dict"
    | some (.dXF _ _) => "dict"
    | _ => ""
  | _ => ""
/-- what stands at d has a kind -/
def KdOk (st : Store) : D → Prop
  | .non => True
  | .bl _ => True
  | .int _ => True
  | .str _ => True
  | .tup _ => True
  | .ref n => (∃ xs, st[n]? = some (.lst xs)) ∨ (∃ kvs, st[n]? = some (.dX n kvs)) ∨ ∃ kvs, st[n]? = some (.dXF n kvs)
  | _ => False
theorem isi_eq {env : Gx.Env} {st : Store} {d : D} (h : KdOk st d) (T : String) (hT : T = "list" ∨ T = "tuple" ∨ T = "dict" ∨ T = "bool") : f2IsiX T env st (.d d) (.d (.ty T)) = some (.d (.bl (decide (kdS st d = T))), st) := by
  have key : ∀ S, S ∈ ["NoneType", "bool", "int", "str", "tuple", "list", "dict"] → kitB S T = some (decide (S = T)) := by
    intro S hS
    simp only [List.mem_cons, List.not_mem_nil, or_false] at hS
    rcases hT with rfl | rfl | rfl | rfl <;> rcases hS with rfl | rfl | rfl | rfl | rfl | rfl | rfl <;> decide +kernel
  unfold f2IsiX
  have fin : ∀ S, S ∈ ["NoneType", "bool", "int", "str", "tuple", "list", "dict"] → tyOf env st (.d d) = some S → kdS st d = S → (match f2Isi T env st (.d d) (.d (.ty T)) with
      | some z => some z
      | none => match (R.d (.ty T)), (R.d d) with
        | .d (.ty n), .d (.ref m) => if n = T ∧ (asX st m).isSome then (match kitB "dict" T with | some b => some (R.d (.bl b), st) | none => none) else none
        | _, _ => none) = some (.d (.bl (decide (kdS st d = T))), st) := by
    intro S hS h1 h2
    have e : f2Isi T env st (.d d) (.d (.ty T)) = some (.d (.bl (decide (S = T))), st) := by
      unfold f2Isi
      dsimp only
      rw [if_pos rfl, h1]
      dsimp only
      rw [key S hS]
    rw [e, h2]
  cases d with
  | non => exact fin "NoneType" (by simp) rfl rfl
  | bl b => exact fin "bool" (by simp) rfl rfl
  | int i => exact fin "int" (by simp) rfl rfl
  | str x => exact fin "str" (by simp) rfl rfl
  | tup xs => exact fin "tuple" (by simp) rfl rfl
  | ref n =>
    rcases h with ⟨xs, h⟩ | ⟨kvs, h⟩ | ⟨kvs, h⟩
    · exact fin "list" (by simp) (by unfold tyOf; simp [h]) (by unfold kdS; simp [h])
    · have e : f2Isi T env st (.d (.ref n)) (.d (.ty T)) = none := by
        unfold f2Isi tyOf
        simp [h]
      rw [e]
      dsimp only
      rw [if_pos ⟨rfl, by rw [asX_st h]; rfl⟩, key "dict" (by simp)]
      dsimp only
      rw [show kdS st (.ref n) = "dict" by unfold kdS; simp [h]]
    · have e : f2Isi T env st (.d (.ref n)) (.d (.ty T)) = none := by
        unfold f2Isi tyOf
        simp [h]
      rw [e]
      dsimp only
      rw [if_pos ⟨rfl, by rw [asX_sf h]; rfl⟩, key "dict" (by simp)]
      dsimp only
      rw [show kdS st (.ref n) = "dict" by unfold kdS; simp [h]]
  | _ => exact h.elim
/-! ### plain values in the store: k a bound of the depth, P where they lie, r what the law makes of them -/
def isAt : D → Bool
  | .non => true
  | .bl _ => true
  | .int _ => true
  | .str _ => true
  | _ => false
def isBl : D → Bool
  | .bl _ => true
  | _ => false
def All2 {α β : Type} (R : α → β → Prop) : List α → List β → Prop
  | [], [] => True
  | a :: as, b :: bs => R a b ∧ All2 R as bs
  | _, _ => False
/-- the parts of something, each at a place of its own -/
def Parts (R : (Nat → Prop) → D → D → Prop) (P : Nat → Prop) : List D → List D → Prop
  | [], [] => True
  | d :: ds, r :: rs => ∃ P1 P2 : Nat → Prop, (∀ m, P1 m → P m) ∧ (∀ m, P2 m → P m) ∧ (∀ m, P1 m → ¬ P2 m) ∧ R P1 d r ∧ Parts R P2 ds rs
  | _, _ => False
def dRow (k r : D) : D := .lst [k, r]
def Ok (st : Store) : Nat → (Nat → Prop) → D → D → Prop
  | 0, _, _, _ => False
  | k + 1, P, .tup ds, r => ds.length ≤ 1000 ∧ ∃ rs, r = .lst (.str "tuple" :: rs) ∧ Parts (Ok st k) P ds rs
  | k + 1, P, .ref n, r => P n ∧ ((∃ ds rs, st[n]? = some (.lst ds) ∧ ds.length ≤ 1000 ∧ r = .lst (.str "list" :: rs) ∧ Parts (Ok st k) (fun m => P m ∧ m ≠ n) ds rs) ∨
      ∃ kvs rs, st[n]? = some (.dX n kvs) ∧ kvs.length ≤ 1000 ∧ (kvs.map (·.1)).Nodup ∧ (∀ p ∈ kvs, (mkOf p.1).isSome = true) ∧ r = .lst (.str "dict" :: List.zipWith dRow (kvs.map (·.1)) rs) ∧ Parts (Ok st k) (fun m => P m ∧ m ≠ n) (kvs.map (·.2)) rs)
  | _ + 1, _, d, r => isAt d = true ∧ r = .lst [.str "value", d, .bl (isBl d)]
theorem Parts.mono {R R' : (Nat → Prop) → D → D → Prop} (h : ∀ P d r, R P d r → R' P d r) : ∀ {P P' : Nat → Prop} {ds rs : List D}, (∀ m, P m → P' m) → Parts R P ds rs → Parts R' P' ds rs
  | _, _, [], [], _, _ => trivial
  | _, _, d :: ds, r :: rs, hp, ⟨P1, P2, h1, h2, h3, h4, h5⟩ => ⟨P1, P2, fun m q => hp m (h1 m q), fun m q => hp m (h2 m q), h3, h _ _ _ h4, Parts.mono h (fun _ q => q) h5⟩
  | _, _, [], _ :: _, _, r => r.elim
  | _, _, _ :: _, [], _, r => r.elim
theorem Parts.impl {R R' : (Nat → Prop) → D → D → Prop} {P0 : Nat → Prop} (h : ∀ P d r, (∀ m, P m → P0 m) → R P d r → R' P d r) : ∀ {P : Nat → Prop} {ds rs : List D}, (∀ m, P m → P0 m) → Parts R P ds rs → Parts R' P ds rs
  | _, [], [], _, _ => trivial
  | _, d :: ds, r :: rs, hp, ⟨P1, P2, h1, h2, h3, h4, h5⟩ => ⟨P1, P2, h1, h2, h3, h _ _ _ (fun m q => hp m (h1 m q)) h4, Parts.impl h (fun m q => hp m (h2 m q)) h5⟩
  | _, [], _ :: _, _, r => r.elim
  | _, _ :: _, [], _, r => r.elim
theorem Parts.len {R : (Nat → Prop) → D → D → Prop} : ∀ {P : Nat → Prop} {ds rs : List D}, Parts R P ds rs → ds.length = rs.length
  | _, [], [], _ => rfl
  | _, _ :: ds, _ :: rs, ⟨_, _, _, _, _, _, h⟩ => by simp [Parts.len h]
  | _, [], _ :: _, r => r.elim
  | _, _ :: _, [], r => r.elim
/-- where the value's things stay, it stays -/
theorem Ok.congr {st st' : Store} : ∀ {k : Nat} {P P' : Nat → Prop} {d r : D}, (∀ m x, P m → st[m]? = some x → st'[m]? = some x) → (∀ m, P m → P' m) → Ok st k P d r → Ok st' k P' d r
  | 0, _, _, _, _, _, _, h => h.elim
  | k + 1, P, P', d, r, hs, hp, h => by
    have ih : ∀ (Q : Nat → Prop) (d r : D), (∀ m, Q m → P m) → Ok st k Q d r → Ok st' k Q d r := fun Q d r hq q => Ok.congr (fun m x a b => hs m x (hq m a) b) (fun _ a => a) q
    cases d with
    | tup ds =>
      obtain ⟨h1, rs, h2, h3⟩ := h
      exact ⟨h1, rs, h2, Parts.mono (fun _ _ _ q => q) hp (Parts.impl ih (fun _ q => q) h3)⟩
    | ref n =>
      obtain ⟨h0, h⟩ := h
      refine ⟨hp n h0, ?_⟩
      rcases h with ⟨ds, rs, h1, h2, h3, h4⟩ | ⟨kvs, rs, h1, h2, h3, h4, h5, h6⟩
      · exact .inl ⟨ds, rs, hs n _ h0 h1, h2, h3, Parts.mono (fun _ _ _ q => q) (fun m q => ⟨hp m q.1, q.2⟩) (Parts.impl ih (fun m q => q.1) h4)⟩
      · exact .inr ⟨kvs, rs, hs n _ h0 h1, h2, h3, h4, h5, Parts.mono (fun _ _ _ q => q) (fun m q => ⟨hp m q.1, q.2⟩) (Parts.impl ih (fun m q => q.1) h6)⟩
    | _ => exact h
theorem Ok.mono {st : Store} {k : Nat} {P P' : Nat → Prop} {d r : D} (hp : ∀ m, P m → P' m) (h : Ok st k P d r) : Ok st k P' d r := Ok.congr (fun _ _ _ q => q) hp h
theorem Ok.up {st : Store} : ∀ {k : Nat} {P : Nat → Prop} {d r : D}, Ok st k P d r → Ok st (k + 1) P d r
  | 0, _, _, _, h => h.elim
  | k + 1, P, d, r, h => by
    cases d with
    | tup ds =>
      obtain ⟨h1, rs, h2, h3⟩ := h
      exact ⟨h1, rs, h2, Parts.mono (fun _ _ _ q => Ok.up q) (fun _ q => q) h3⟩
    | ref n =>
      obtain ⟨h0, h⟩ := h
      refine ⟨h0, ?_⟩
      rcases h with ⟨ds, rs, h1, h2, h3, h4⟩ | ⟨kvs, rs, h1, h2, h3, h4, h5, h6⟩
      · exact .inl ⟨ds, rs, h1, h2, h3, Parts.mono (fun _ _ _ q => Ok.up q) (fun _ q => q) h4⟩
      · exact .inr ⟨kvs, rs, h1, h2, h3, h4, h5, Parts.mono (fun _ _ _ q => Ok.up q) (fun _ q => q) h6⟩
    | _ => exact h
theorem Ok.app {st : Store} {k : Nat} {P : Nat → Prop} {d r : D} (ex : List SO) (h : Ok st k P d r) : Ok (st ++ ex) k P d r :=
  Ok.congr (fun m x _ e => by rw [List.getElem?_append_left (List.getElem?_eq_some_iff.mp e).1]; exact e) (fun _ q => q) h
theorem Ok.kd {st : Store} {k : Nat} {P : Nat → Prop} {d r : D} (h : Ok st k P d r) : KdOk st d := by
  cases k with
  | zero => exact h.elim
  | succ k =>
    cases d with
    | ref n =>
      obtain ⟨_, ⟨ds, rs, h, _⟩ | ⟨kvs, rs, h, _⟩⟩ := h
      · exact .inl ⟨ds, h⟩
      · exact .inr (.inl ⟨kvs, h⟩)
    | non => trivial
    | bl _ => trivial
    | int _ => trivial
    | str _ => trivial
    | tup _ => trivial
    | _ => obtain ⟨h, _⟩ := h; cases h
theorem lookX_nd : ∀ {kvs : List (D × D)} {k v : D}, (kvs.map (·.1)).Nodup → (k, v) ∈ kvs → lookX kvs k = some v
  | p :: ps, k, v, nd, h => by
    rw [List.map_cons, List.nodup_cons] at nd
    unfold lookX
    rw [List.find?_cons]
    rcases List.mem_cons.mp h with e | h
    · subst e
      simp
    · have : ¬ p.1 = k := fun e => nd.1 (e ▸ List.mem_map.mpr ⟨_, h, rfl⟩)
      rw [decide_eq_false this]
      exact lookX_nd nd.2 h
end Law

set_option maxHeartbeats 4000000
namespace Law
open PySem L2 Gx
def FP : Nat → MFn
  | 0 => F0__law_plain
  | k + 1 => f__law_plain (FP k)
theorem FP8 : F__law_plain = FP 8 := rfl
theorem refAt0 {d : D} {n : Nat} {es : Gx.Env} (h : d = .ref n) : refAt (.val d :: es) 0 = some n := by subst h; rfl
/-- [f(x) for x in d] where f changes nothing -/
theorem lcS_run {S : MFn} {st : Store} {k : Nat} {P : Nat → Prop} {d : D} {ds rs : List D} (ih : ∀ P d r, Ok st k P d r → S [d] st = some (r, st)) (hp : Parts (Ok st k) P ds rs) (hl : ds.length ≤ 1000) (hs : seqOf [.val d, .none, .none] st (.d d) = some ds) :
    mLc (mSeq (mVar 0)) 1 mYes (mCall S (mCons (mVar 1) mNil)) [1] [.val d, .none, .none] st = some (.lst rs, st) := by
  have h1 : mSeq (mVar 0) [.val d, .none, .none] st = some (.seq (.d d), st) := by
    have e : mVar 0 [.val d, .none, .none] st = some (.d d, st) := rfl
    unfold mSeq
    rw [e]; dsimp only
    rw [hs]
  unfold mLc
  rw [h1]; dsimp only
  show (match seqOf [.val d, .none, .none] st (.d d) with
    | some xs => _
    | none => none) = _
  rw [hs]; dsimp only
  obtain ⟨acc', st', h2, h3⟩ := lcGo_ind (j := 1) (e := mCall S (mCons (mVar 1) mNil)) (env := wipeE [.val d, .none, .none] [1]) (chk := fun st => decide (srcItems [.val d, .none, .none] st (.seq (.d d)) = some ds))
    (fun xs st' acc => st' = st ∧ acc.length + xs.length ≤ 1000 ∧ ∃ P' rs', Parts (Ok st k) P' xs rs' ∧ acc ++ rs' = rs) (by
      rintro x xs st' acc ⟨rfl, h1, P', rs', h2, h3⟩
      cases rs' with
      | nil => exact h2.elim
      | cons r rs' =>
        obtain ⟨P1, P2, a1, a2, a3, a4, a5⟩ := h2
        refine ⟨decide_eq_true hs, r, st', ?_, by simp at h1; omega, rfl, by simp at h1 ⊢; omega, P2, rs', a5, by rw [← h3]; simp⟩
        have := ih _ _ _ a4
        simp [wipeE, this]) (by
      rintro st' acc ⟨rfl, _⟩
      exact decide_eq_true hs) ds st [] ⟨rfl, by simpa using hl, P, rs, hp, rfl⟩
  rw [h2]
  obtain ⟨rfl, _, P', rs', h4, h5⟩ := h3
  cases rs' with
  | nil => simp at h5; rw [h5]
  | cons _ _ => exact h4.elim
theorem set_back {st : Store} {n : Nat} {a b : SO} (h : st[n]? = some a) : (st.set n b).set n a = st := by
  rw [List.set_set]
  apply List.ext_getElem?
  intro i
  by_cases e : n = i
  · subst e
    rw [List.getElem?_set_self (List.getElem?_eq_some_iff.mp h).1, h]
  · rw [List.getElem?_set_ne e]
theorem lockD_run {S : MFn} {st : Store} {k n : Nat} {P : Nat → Prop} {kvs : List (D × D)} {rs : List D} (ih : ∀ st P d r, Ok st k P d r → S [d] st = some (r, st)) (hx : st[n]? = some (.dX n kvs)) (hl : kvs.length ≤ 1000) (nd : (kvs.map (·.1)).Nodup) (hk : ∀ p ∈ kvs, (mkOf p.1).isSome = true)
    (hp : Parts (Ok st k) (fun m => P m ∧ m ≠ n) (kvs.map (·.2)) rs) : c__law_plain_3 S [.val (.ref n), .none, .none] st = some (.lst (List.zipWith dRow (kvs.map (·.1)) rs), st) := by
  have hlt := (List.getElem?_eq_some_iff.mp hx).1
  have hxF : (st.set n (.dXF n kvs))[n]? = some (.dXF n kvs) := by simp [hlt]
  have hp' : Parts (Ok (st.set n (.dXF n kvs)) k) (fun m => P m ∧ m ≠ n) (kvs.map (·.2)) rs :=
    Parts.impl (P0 := fun m => P m ∧ m ≠ n) (fun Q d r hq q => Ok.congr (fun m x a b => by rw [List.getElem?_set_ne (fun e => (hq m a).2 e.symm)]; exact b) (fun _ q => q) q) (fun _ q => q) hp
  generalize hst : st.set n (.dXF n kvs) = stL at hp' hxF
  have e3 : stL.set n (.dX n kvs) = st := by rw [← hst]; exact set_back hx
  unfold c__law_plain_3
  obtain ⟨acc', st', h2, h3⟩ := lcGo_ind (j := 2) (e := mFrz (mFLst (mCons (mVar 2) (mCons (mCall S (mCons (mIxX (mVar 0) (mVar 2)) mNil)) mNil)))) (env := wipeE [.val (.ref n), .none, .none] [2]) (chk := fun st => decide (isXF st n = some kvs))
    (fun xs st' acc => st' = stL ∧ ∃ k1 k2, kvs = k1 ++ k2 ∧ xs = k2.map (·.1) ∧ acc.length + k2.length ≤ 1000 ∧ ∃ P' rs', Parts (Ok stL k) P' (k2.map (·.2)) rs' ∧ acc ++ List.zipWith dRow (k2.map (·.1)) rs' = List.zipWith dRow (kvs.map (·.1)) rs) (by
      rintro x xs st' acc ⟨rfl, k1, k2, h1, h2, h3, P', rs', h4, h5⟩
      cases k2 with
      | nil => cases h2
      | cons p k2 =>
        rw [List.map_cons] at h2
        injection h2 with e1 e2
        subst e1 e2
        cases rs' with
        | nil => exact h4.elim
        | cons r rs' =>
          rw [List.map_cons] at h4
          obtain ⟨P1, P2, a1, a2, a3, a4, a5⟩ := h4
          have hm : p ∈ kvs := by rw [h1]; simp
          refine ⟨decide_eq_true (isXF_of hxF), dRow p.1 r, st', ?_, by simp at h3; omega, rfl, k1 ++ [p], k2, by rw [h1]; simp, rfl, by simp at h3 ⊢; omega, P2, rs', a5, by rw [← h5]; simp⟩
          have := ih _ _ _ _ a4
          simp [wipeE, asX_sf hxF, hk p hm, lookX_nd nd (show (p.1, p.2) ∈ kvs from hm), this, dRow, dOf]) (by
      rintro st' acc ⟨rfl, _⟩
      exact decide_eq_true (isXF_of hxF)) (kvs.map (·.1)) stL [] ⟨rfl, [], kvs, rfl, rfl, by simpa using hl, _, rs, hp', by simp⟩
  obtain ⟨rfl, k1, k2, h4, h5, _, P', rs', h6, h7⟩ := h3
  cases k2 with
  | cons _ _ => cases h5
  | nil =>
    cases rs' with
    | cons _ _ => exact h6.elim
    | nil =>
      simp at h7
      rw [← h7]
      have h8 := lcX_run (mi := mVar 0) (e := mFrz (mFLst (mCons (mVar 2) (mCons (mCall S (mCons (mIxX (mVar 0) (mVar 2)) mNil)) mNil)))) (j := 2) (vs := [2]) (env := [.val (.ref n), .none, .none]) rfl hxF h2
      have h9 := lockF_run (i := 0) (n := n) (env := [.val (.ref n), .none, .none]) (st := st) (st2 := st') (kvs := kvs) rfl hx (by rw [hst]; exact h8) hxF
      rw [e3] at h9
      exact h9
theorem plain_eq : ∀ (k : Nat) (st : Store) (P : Nat → Prop) (d r : D), Ok st k P d r → FP k [d] st = some (r, st)
  | 0, _, _, _, _, h => h.elim
  | k + 1, st, P, d, r, h => by
    have ih := plain_eq k
    have kd := h.kd
    have il := fun env => isi_eq (env := env) kd "list" (by simp)
    have it := fun env => isi_eq (env := env) kd "tuple" (by simp)
    have id' := fun env => isi_eq (env := env) kd "dict" (by simp)
    have ib := fun env => isi_eq (env := env) kd "bool" (by simp)
    show f__law_plain (FP k) [d] st = _
    unfold f__law_plain
    cases d with
    | tup ds =>
      obtain ⟨h1, rs, rfl, h3⟩ := h
      have hl := Parts.len h3
      have e := lcS_run (d := .tup ds) (fun P d r q => ih st P d r q) h3 h1 rfl
      have e2 : c__law_plain_2 (FP k) [.val (.tup ds), .none, .none] st = some (.lst rs, st) := e
      simp [b__law_plain, i__law_plain_1, i__law_plain_2, il, it, kdS, e2, dOf, show 1 + rs.length ≤ 16000000 by omega]
    | ref n =>
      obtain ⟨h0, ⟨ds, rs, h1, h2, rfl, h4⟩ | ⟨kvs, rs, h1, h2, h3, h4, rfl, h6⟩⟩ := h
      · have hl := Parts.len h4
        have e := lcS_run (d := .ref n) (fun P d r q => ih st P d r q) h4 h2 (by simp [h1])
        have e2 : c__law_plain_1 (FP k) [.val (.ref n), .none, .none] st = some (.lst rs, st) := e
        simp [b__law_plain, i__law_plain_1, il, kdS, h1, e2, dOf, show 1 + rs.length ≤ 16000000 by omega]
      · have hl := Parts.len h6
        have e2 := lockD_run ih h1 h2 h3 h4 h6
        have hz : 1 + (List.zipWith dRow (kvs.map (·.1)) rs).length ≤ 16000000 := by
          rw [List.length_zipWith, List.length_map]; omega
        rw [List.length_zipWith, List.length_map] at hz
        simp [b__law_plain, i__law_plain_1, i__law_plain_2, i__law_plain_3, il, it, id', kdS, h1, e2, dOf, hz]
    | non => obtain ⟨_, rfl⟩ := h; simp [b__law_plain, i__law_plain_1, i__law_plain_2, i__law_plain_3, il, it, id', ib, kdS, dOf, isBl]
    | bl b => obtain ⟨_, rfl⟩ := h; simp [b__law_plain, i__law_plain_1, i__law_plain_2, i__law_plain_3, il, it, id', ib, kdS, dOf, isBl]
    | int i => obtain ⟨_, rfl⟩ := h; simp [b__law_plain, i__law_plain_1, i__law_plain_2, i__law_plain_3, il, it, id', ib, kdS, dOf, isBl]
    | str x => obtain ⟨_, rfl⟩ := h; simp [b__law_plain, i__law_plain_1, i__law_plain_2, i__law_plain_3, il, it, id', ib, kdS, dOf, isBl]
    | _ => exact kd.elim
end Law

set_option maxHeartbeats 4000000
namespace Law
open PySem L2 Gx
def FC : Nat → MFn
  | 0 => F0_copied
  | k + 1 => f_copied (FC k)
theorem FC8 : F_copied = FC 8 := rfl
/-- from a on, below b -/
def Rg (a b : Nat) : Nat → Prop := fun m => a ≤ m ∧ m < b
theorem Parts.snoc {R : (Nat → Prop) → D → D → Prop} {P1 : Nat → Prop} {d r : D} : ∀ {P : Nat → Prop} {ds rs : List D}, Parts R P ds rs → (∀ m, P m → ¬ P1 m) → R P1 d r → Parts R (fun m => P m ∨ P1 m) (ds ++ [d]) (rs ++ [r])
  | P, [], [], _, _, h => ⟨P1, fun _ => False, fun _ q => .inr q, fun _ q => q.elim, fun _ _ q => q, h, trivial⟩
  | P, a :: ds, b :: rs, ⟨Q1, Q2, h1, h2, h3, h4, h5⟩, hd, h => ⟨Q1, fun m => Q2 m ∨ P1 m, fun m q => .inl (h1 m q), fun m q => q.elim (fun q => .inl (h2 m q)) .inr, fun m q z => z.elim (h3 m q) (hd m (h1 m q)), h4, Parts.snoc h5 (fun m q => hd m (h2 m q)) h⟩
  | _, [], _ :: _, r, _, _ => r.elim
  | _, _ :: _, [], r, _, _ => r.elim
theorem Parts.app {st : Store} {k : Nat} {P : Nat → Prop} {ds rs : List D} (ex : List SO) (h : Parts (Ok st k) P ds rs) : Parts (Ok (st ++ ex) k) P ds rs := Parts.mono (fun _ _ _ q => Ok.app ex q) (fun _ q => q) h
/-- a copy -/
def Cp (S : MFn) (k : Nat) : Prop := ∀ (st : Store) (P : Nat → Prop) (d r : D), Ok st k P d r → ∃ d' ex, S [d] st = some (d', st ++ ex) ∧ Ok (st ++ ex) k (Rg st.length (st.length + ex.length)) d' r
theorem lcC_run {S : MFn} {st : Store} {k : Nat} {P : Nat → Prop} {d : D} {ds rs : List D} (ih : Cp S k) (hp : Parts (Ok st k) P ds rs) (hl : ds.length ≤ 1000) (hs : ∀ ex, seqOf [.val d, .none, .none] (st ++ ex) (.d d) = some ds) :
    ∃ ds' ex, mLc (mSeq (mVar 0)) 1 mYes (mCall S (mCons (mVar 1) mNil)) [1] [.val d, .none, .none] st = some (.lst ds', st ++ ex) ∧ Parts (Ok (st ++ ex) k) (Rg st.length (st.length + ex.length)) ds' rs := by
  have hs0 := hs []
  rw [List.append_nil] at hs0
  have h1 : mSeq (mVar 0) [.val d, .none, .none] st = some (.seq (.d d), st) := by
    have e : mVar 0 [.val d, .none, .none] st = some (.d d, st) := rfl
    unfold mSeq
    rw [e]; dsimp only
    rw [hs0]
  obtain ⟨acc', st', h2, h3⟩ := lcGo_ind (j := 1) (e := mCall S (mCons (mVar 1) mNil)) (env := wipeE [.val d, .none, .none] [1]) (chk := fun st => decide (srcItems [.val d, .none, .none] st (.seq (.d d)) = some ds))
    (fun xs st' acc => ∃ ex, st' = st ++ ex ∧ acc.length + xs.length ≤ 1000 ∧ ∃ P' rs1 rs2, rs = rs1 ++ rs2 ∧ Parts (Ok st k) P' xs rs2 ∧ Parts (Ok (st ++ ex) k) (Rg st.length (st.length + ex.length)) acc rs1) (by
      rintro x xs st' acc ⟨ex, rfl, h1, P', rs1, rs2, h2, h3, h4⟩
      cases rs2 with
      | nil => exact h3.elim
      | cons r rs2 =>
        obtain ⟨P1, P2, a1, a2, a3, a4, a5⟩ := h3
        obtain ⟨d', ex2, b1, b2⟩ := ih _ _ _ _ (a4.app ex)
        refine ⟨decide_eq_true (hs ex), d', st ++ (ex ++ ex2), ?_, by simp at h1; omega, ex ++ ex2, rfl, by simp at h1 ⊢; omega, P2, rs1 ++ [r], rs2, by rw [h2]; simp, a5, ?_⟩
        · rw [List.append_assoc] at b1
          simp [wipeE, b1]
        · have h4' := h4.app ex2
          rw [List.append_assoc] at h4' b2
          refine Parts.mono (fun _ _ _ q => q) ?_ (Parts.snoc h4' ?_ b2)
          · intro m q
            unfold Rg at q ⊢
            simp only [List.length_append] at q ⊢
            omega
          · intro m q z
            unfold Rg at q z
            simp only [List.length_append] at q z
            omega) (by
      rintro st' acc ⟨ex, rfl, _⟩
      exact decide_eq_true (hs ex)) ds st [] ⟨[], by simp, by simpa using hl, P, [], rs, rfl, hp, trivial⟩
  obtain ⟨ex, rfl, _, P', rs1, rs2, h4, h5, h6⟩ := h3
  cases rs2 with
  | cons _ _ => exact h5.elim
  | nil =>
    rw [List.append_nil] at h4
    subst h4
    refine ⟨acc', ex, ?_, h6⟩
    unfold mLc
    rw [h1]; dsimp only
    show (match seqOf [.val d, .none, .none] st (.d d) with
      | some xs => _
      | none => none) = _
    rw [hs0]; dsimp only
    rw [h2]
theorem putX_new {acc : List (D × D)} {k v : D} (h : k ∉ acc.map (·.1)) : putX acc k v = acc ++ [(k, v)] := by
  unfold putX
  rw [if_neg]
  intro q
  obtain ⟨p, hp, e⟩ := List.any_eq_true.mp q
  exact h (List.mem_map.mpr ⟨p, hp, of_decide_eq_true e⟩)
theorem zip_self : ∀ l : List (D × D), l = (l.map (·.1)).zip (l.map (·.2))
  | [] => rfl
  | p :: l => by rw [List.map_cons, List.map_cons, List.zip_cons_cons, ← zip_self l]
theorem dcC_run {S : MFn} {st : Store} {k n : Nat} {P : Nat → Prop} {kvs : List (D × D)} {rs : List D} (ih : Cp S k) (hx : st[n]? = some (.dX n kvs)) (hl : kvs.length ≤ 1000) (nd : (kvs.map (·.1)).Nodup) (hk : ∀ p ∈ kvs, (mkOf p.1).isSome = true)
    (hp : Parts (Ok st k) (fun m => P m ∧ m ≠ n) (kvs.map (·.2)) rs) :
    ∃ vs ex, x_copied_1 S [.val (.ref n), .none, .none] st = some (.d (.ref (st.length + ex.length)), st ++ (ex ++ [.dX (st.length + ex.length) ((kvs.map (·.1)).zip vs)])) ∧ vs.length = kvs.length ∧ Parts (Ok (st ++ ex) k) (Rg st.length (st.length + ex.length)) vs rs := by
  have hlt := (List.getElem?_eq_some_iff.mp hx).1
  have hxF : ∀ ex : List SO, (st.set n (.dXF n kvs) ++ ex)[n]? = some (.dXF n kvs) := fun ex => by
    rw [List.getElem?_append_left (by simpa using hlt)]; simp [hlt]
  have hp' : Parts (Ok (st.set n (.dXF n kvs)) k) (fun m => P m ∧ m ≠ n) (kvs.map (·.2)) rs :=
    Parts.impl (P0 := fun m => P m ∧ m ≠ n) (fun Q d r hq q => Ok.congr (fun m x a b => by rw [List.getElem?_set_ne (fun e => (hq m a).2 e.symm)]; exact b) (fun _ q => q) q) (fun _ q => q) hp
  have hlen : (st.set n (.dXF n kvs)).length = st.length := by simp
  have back : ∀ ex : List SO, (st.set n (.dXF n kvs) ++ ex).set n (.dX n kvs) = st ++ ex := fun ex => by
    rw [List.set_append_left _ _ (by simpa using hlt), set_back hx]
  have hag : ∀ (ex : List SO) (m : Nat), st.length ≤ m → (st.set n (.dXF n kvs) ++ ex)[m]? = (st ++ ex)[m]? := fun ex m hm => by
    rw [List.getElem?_append_right (by simpa using hm), List.getElem?_append_right hm, hlen]
  generalize hst : st.set n (.dXF n kvs) = stL at hp' hxF hlen back hag
  have hxF0 := hxF []
  rw [List.append_nil] at hxF0
  obtain ⟨acc', st', h2, h3⟩ := dcGoX_ind (j := 2) (ek := mVar 2) (ev := mCall S (mCons (mIxX (mVar 0) (mVar 2)) mNil)) (env := wipeE [.val (.ref n), .none, .none] [2]) (chk := fun st => decide (isXF st n = some kvs))
    (fun xs st' acc => ∃ ex, st' = stL ++ ex ∧ ∃ k1 k2, kvs = k1 ++ k2 ∧ xs = k2.map (·.1) ∧ acc.map (·.1) = k1.map (·.1) ∧ ∃ P' rs1 rs2, rs = rs1 ++ rs2 ∧ Parts (Ok stL k) P' (k2.map (·.2)) rs2 ∧ Parts (Ok (stL ++ ex) k) (Rg st.length (st.length + ex.length)) (acc.map (·.2)) rs1) (by
      rintro x xs st' acc ⟨ex, rfl, k1, k2, h1, h2, h3, P', rs1, rs2, h4, h5, h6⟩
      cases k2 with
      | nil => cases h2
      | cons p k2 =>
        rw [List.map_cons] at h2
        injection h2 with e1 e2
        subst e1 e2
        cases rs2 with
        | nil => exact h5.elim
        | cons r rs2 =>
          rw [List.map_cons] at h5
          obtain ⟨P1, P2, a1, a2, a3, a4, a5⟩ := h5
          have hm : p ∈ kvs := by rw [h1]; simp
          obtain ⟨d', ex2, b1, b2⟩ := ih _ _ _ _ (a4.app ex)
          have hnew : p.1 ∉ acc.map (·.1) := by
            rw [h3]
            rw [h1, List.map_append, List.map_cons, List.nodup_append] at nd
            intro q
            exact nd.2.2 _ q _ (by simp) rfl
          have hal : acc.length = k1.length := by simpa using congrArg List.length h3
          have hkl : kvs.length = k1.length + (k2.length + 1) := by rw [h1]; simp
          refine ⟨decide_eq_true (isXF_of (hxF ex)), p.1, d', stL ++ ex, stL ++ (ex ++ ex2), rfl, hk p hm, ?_, by omega, ex ++ ex2, rfl, k1 ++ [p], k2, by rw [h1]; simp, rfl, ?_, P2, rs1 ++ [r], rs2, by rw [h4]; simp, a5, ?_⟩
          · rw [List.append_assoc] at b1
            simp [wipeE, asX_sf (hxF ex), hk p hm, lookX_nd nd (show (p.1, p.2) ∈ kvs from hm), b1]
          · rw [putX_new hnew]; simp [h3]
          · rw [putX_new hnew, List.map_append]
            have h6' := h6.app ex2
            rw [List.append_assoc] at h6' b2
            rw [List.length_append, hlen] at b2
            refine Parts.mono (fun _ _ _ q => q) ?_ (Parts.snoc h6' ?_ b2)
            · intro m q
              unfold Rg at q ⊢
              simp only [List.length_append] at q ⊢
              omega
            · intro m q z
              unfold Rg at q z
              omega) (by
      rintro st' acc ⟨ex, rfl, _⟩
      exact decide_eq_true (isXF_of (hxF ex))) (kvs.map (·.1)) stL [] ⟨[], by simp, [], kvs, rfl, rfl, rfl, _, [], rs, rfl, hp', trivial⟩
  obtain ⟨ex, rfl, k1, k2, h4, h5, h6, P', rs1, rs2, h7, h8, h9⟩ := h3
  cases k2 with
  | cons _ _ => cases h5
  | nil =>
    cases rs2 with
    | cons _ _ => exact h8.elim
    | nil =>
      rw [List.append_nil] at h4 h7
      subst h4 h7
      have hacc : acc' = (kvs.map (·.1)).zip (acc'.map (·.2)) := by
        rw [← h6]
        exact zip_self acc'
      refine ⟨acc'.map (·.2), ex, ?_, by simpa using congrArg List.length h6, ?_⟩
      · have h8 := dcX_run (mi := mVar 0) (ek := mVar 2) (ev := mCall S (mCons (mIxX (mVar 0) (mVar 2)) mNil)) (j := 2) (vs := [2]) (env := [.val (.ref n), .none, .none]) rfl hxF0 h2
        have h9 := lockE_run (i := 0) (n := n) (env := [.val (.ref n), .none, .none]) (st := st) (kvs := kvs) rfl hx (by rw [hst]; exact h8) (by rw [List.append_assoc]; exact hxF _)
        unfold x_copied_1
        rw [h9, List.append_assoc, back, ← hacc]
        simp only [List.length_append, hlen]
      · exact Parts.impl (P0 := Rg st.length (st.length + ex.length)) (fun Q d r hq q => Ok.congr (fun m x a b => by rw [← hag ex m (hq m a).1]; exact b) (fun _ q => q) q) (fun _ q => q) h9
theorem copied_eq : ∀ (j k : Nat), j ≤ k → Cp (FC k) j
  | 0, _, _ => fun _ _ _ _ h => h.elim
  | _ + 1, 0, h => absurd h (by omega)
  | j + 1, k + 1, hjk => fun st P d r h => by
    have ih := copied_eq j k (by omega)
    have kd := h.kd
    have il := fun env => isi_eq (env := env) kd "list" (by simp)
    have it := fun env => isi_eq (env := env) kd "tuple" (by simp)
    have id' := fun env => isi_eq (env := env) kd "dict" (by simp)
    show ∃ d' ex, f_copied (FC k) [d] st = _ ∧ _
    unfold f_copied
    cases d with
    | tup ds =>
      obtain ⟨h1, rs, rfl, h3⟩ := h
      obtain ⟨ds', ex, e, e3⟩ := lcC_run (d := .tup ds) ih h3 h1 (fun _ => rfl)
      have hl := Parts.len h3
      have hl' := Parts.len e3
      have e2 : c_copied_1 (FC k) [.val (.tup ds), .none, .none] st = some (.lst ds', st ++ ex) := e
      refine ⟨.tup ds', ex, ?_, by omega, rs, rfl, e3⟩
      simp [b_copied, i_copied_1, it, kdS, e2, dOf]
    | ref n =>
      obtain ⟨h0, ⟨ds, rs, h1, h2, rfl, h4⟩ | ⟨kvs, rs, h1, h2, h3, h4, rfl, h6⟩⟩ := h
      · have hlt := (List.getElem?_eq_some_iff.mp h1).1
        obtain ⟨ds', ex, e, e3⟩ := lcC_run (d := .ref n) ih h4 h2 (fun ex => by
          have : (st ++ ex)[n]? = some (.lst ds) := by rw [List.getElem?_append_left hlt]; exact h1
          simp [this])
        have hl := Parts.len h4
        have hl' := Parts.len e3
        have e2 : c_copied_2 (FC k) [.val (.ref n), .none, .none] st = some (.lst ds', st ++ ex) := e
        refine ⟨.ref (st.length + ex.length), ex ++ [.lst ds'], ?_, ⟨by omega, by simp⟩, .inl ⟨ds', rs, ?_, by omega, rfl, ?_⟩⟩
        · simp [b_copied, i_copied_1, i_copied_2, il, it, kdS, h1, e2]
        · rw [← List.append_assoc, List.getElem?_append_right (by simp)]; simp
        · rw [← List.append_assoc]
          refine Parts.mono (fun _ _ _ q => q) ?_ (e3.app [.lst ds'])
          intro m q
          unfold Rg at q ⊢
          simp only [List.length_append, List.length_singleton]
          omega
      · obtain ⟨vs, ex, e2, hv, e3⟩ := dcC_run ih h1 h2 h3 h4 h6
        have hz1 : ((kvs.map (·.1)).zip vs).map (·.1) = kvs.map (·.1) := by rw [List.map_fst_zip]; simp [hv]
        have hz2 : ((kvs.map (·.1)).zip vs).map (·.2) = vs := by rw [List.map_snd_zip]; simp [hv]
        refine ⟨.ref (st.length + ex.length), ex ++ [.dX (st.length + ex.length) ((kvs.map (·.1)).zip vs)], ?_, ⟨by omega, by simp⟩, .inr ⟨(kvs.map (·.1)).zip vs, rs, ?_, ?_, ?_, ?_, ?_, ?_⟩⟩
        · simp [b_copied, i_copied_1, i_copied_2, i_copied_3, il, it, id', kdS, h1, e2]
        · rw [← List.append_assoc, List.getElem?_append_right (by simp)]; simp
        · rw [List.length_zip, List.length_map]; omega
        · rw [hz1]; exact h3
        · intro p hp
          have : p.1 ∈ kvs.map (·.1) := by rw [← hz1]; exact List.mem_map.mpr ⟨p, hp, rfl⟩
          obtain ⟨q, hq, e⟩ := List.mem_map.mp this
          rw [← e]; exact h4 q hq
        · rw [hz1]
        · rw [hz2, ← List.append_assoc]
          refine Parts.mono (fun _ _ _ q => q) ?_ (e3.app _)
          intro m q
          unfold Rg at q ⊢
          simp only [List.length_append, List.length_singleton]
          omega
    | non => exact ⟨.non, [], by simp [b_copied, i_copied_1, i_copied_2, i_copied_3, il, it, id', kdS], h⟩
    | bl b => exact ⟨.bl b, [], by simp [b_copied, i_copied_1, i_copied_2, i_copied_3, il, it, id', kdS], h⟩
    | int i => exact ⟨.int i, [], by simp [b_copied, i_copied_1, i_copied_2, i_copied_3, il, it, id', kdS], h⟩
    | str x => exact ⟨.str x, [], by simp [b_copied, i_copied_1, i_copied_2, i_copied_3, il, it, id', kdS], h⟩
    | _ => exact kd.elim
end Law

set_option maxHeartbeats 4000000
namespace Law
open PySem L2 Gx
def FS : Nat → MFn
  | 0 => F0__law_spoil
  | k + 1 => f__law_spoil (FS k)
theorem FS8 : F__law_spoil = FS 8 := rfl
/-- it runs, and changes nothing outside -/
def Sp (S : MFn) (k : Nat) : Prop := ∀ (st : Store) (P : Nat → Prop) (d r : D), Ok st k P d r → ∃ st', S [d] st = some (.non, st') ∧ st'.length = st.length ∧ ∀ m, ¬ P m → st'[m]? = st[m]?
theorem Parts.keep {st st' : Store} {k : Nat} {P Q : Nat → Prop} {ds rs : List D} (hs : ∀ m, ¬ Q m → st'[m]? = st[m]?) (hd : ∀ m, P m → ¬ Q m) (h : Parts (Ok st k) P ds rs) : Parts (Ok st' k) P ds rs :=
  Parts.impl (P0 := P) (fun R d r hq q => Ok.congr (fun m x a b => by rw [hs m (hd m (hq m a))]; exact b) (fun _ q => q) q) (fun _ q => q) h
/-- for x in d: f(x) -/
theorem loopS_run {S : MFn} {st : Store} {k : Nat} {P : Nat → Prop} {d : D} {ds rs : List D} (ih : Sp S k) (hp : Parts (Ok st k) P ds rs) (hs : ∀ st', (∀ m, ¬ P m → st'[m]? = st[m]?) → seqOf [] st' (.d d) = some ds) :
    ∃ x st', mFor (mSeq (mVar 0)) (gN 1) (mExpr (mCall S (mCons (mVar 1) mNil))) [.val d, .none, .none] st = some (.nx, [.val d, x, .none], st') ∧ st'.length = st.length ∧ ∀ m, ¬ P m → st'[m]? = st[m]? := by
  have hs' : ∀ env st', seqOf env st' (.d d) = seqOf [] st' (.d d) := fun env st' => by cases d <;> rfl
  obtain ⟨env', st', h1, h2⟩ := for_seqR (m := mVar 0) (g := gN 1) (body := mExpr (mCall S (mCons (mVar 1) mNil))) (env := [.val d, .none, .none]) (st := st) (st1 := st) (d := d) (xs := ds)
    (fun i env st' => (∃ x, env = [.val d, x, .none]) ∧ st'.length = st.length ∧ (∀ m, ¬ P m → st'[m]? = st[m]?) ∧ ∃ P' rs', (∀ m, P' m → P m) ∧ Parts (Ok st' k) P' (ds.drop i) rs') rfl ⟨⟨.none, rfl⟩, rfl, fun _ _ => rfl, P, rs, fun _ q => q, hp⟩ (fun i env st' q => by rw [hs']; exact hs st' q.2.2.1)
    (by
      rintro i hi env st' ⟨⟨x, rfl⟩, h1, h2, P', rs', h3, h4⟩
      rw [List.drop_eq_getElem_cons hi] at h4
      cases rs' with
      | nil => exact h4.elim
      | cons r rs' =>
        obtain ⟨P1, P2, a1, a2, a3, a4, a5⟩ := h4
        obtain ⟨st2, b1, b2, b3⟩ := ih _ _ _ _ a4
        refine ⟨[.val d, .val ds[i], .none], by simp, .nx, [.val d, .val ds[i], .none], st2, by simp [b1], .inl rfl, ⟨_, rfl⟩, by rw [b2, h1], fun m hm => ?_, P2, rs', fun m q => h3 m (a2 m q), Parts.keep b3 (fun m q z => a3 m z q) a5⟩
        rw [b3 m (fun z => hm (h3 m (a1 m z))), h2 m hm])
  obtain ⟨⟨x, rfl⟩, h3, h4, _⟩ := h2
  exact ⟨x, st', h1, h3, h4⟩
/-- for k in list(d): f(d[k]) -/
theorem loopD_run {S : MFn} {st : Store} {k n : Nat} {P : Nat → Prop} {kvs : List (D × D)} {rs : List D} (ih : Sp S k) (hx : st[n]? = some (.dX n kvs)) (hl : kvs.length ≤ 1000) (nd : (kvs.map (·.1)).Nodup) (hk : ∀ p ∈ kvs, (mkOf p.1).isSome = true)
    (hp : Parts (Ok st k) (fun m => P m ∧ m ≠ n) (kvs.map (·.2)) rs) :
    ∃ x st', l__law_spoil_2 S [.val (.ref n), .none, .none] st = some (.nx, [.val (.ref n), .none, x], st') ∧ st'.length = st.length ∧ ∀ m, ¬ (P m ∧ m ≠ n) → st'[m]? = st[m]? := by
  have hm0 : mFrz (mFListX (mVar 0)) [.val (.ref n), .none, .none] st = some (.d (.lst (kvs.map (·.1))), st) := by
    simp [asX_st hx, dOf]
  obtain ⟨env', st', h1, h2⟩ := for_seqR (m := mFrz (mFListX (mVar 0))) (g := gN 2) (body := b__law_spoil_2 S) (env := [.val (.ref n), .none, .none]) (st := st) (st1 := st) (d := .lst (kvs.map (·.1))) (xs := kvs.map (·.1))
    (fun i env st' => (∃ x, env = [.val (.ref n), .none, x]) ∧ st'.length = st.length ∧ (∀ m, ¬ (P m ∧ m ≠ n) → st'[m]? = st[m]?) ∧ ∃ P' rs', (∀ m, P' m → (P m ∧ m ≠ n)) ∧ Parts (Ok st' k) P' ((kvs.map (·.2)).drop i) rs') hm0 ⟨⟨.none, rfl⟩, rfl, fun _ _ => rfl, _, rs, fun _ q => q, hp⟩ (fun i env st' q => rfl)
    (by
      rintro i hi env st' ⟨⟨x, rfl⟩, h1, h2, P', rs', h3, h4⟩
      have hi1 : i < kvs.length := by simpa using hi
      have hi2 : i < (kvs.map (·.2)).length := by simpa using hi1
      rw [List.drop_eq_getElem_cons hi2] at h4
      cases rs' with
      | nil => exact h4.elim
      | cons r rs' =>
        obtain ⟨P1, P2, a1, a2, a3, a4, a5⟩ := h4
        obtain ⟨st2, b1, b2, b3⟩ := ih _ _ _ _ a4
        have hx' : st'[n]? = some (.dX n kvs) := by rw [h2 n (fun q => q.2 rfl)]; exact hx
        have hm : kvs[i] ∈ kvs := List.getElem_mem hi1
        have e1 : (kvs.map (·.1))[i] = kvs[i].1 := by simp
        have e2 : (kvs.map (·.2))[i] = kvs[i].2 := by simp
        rw [e2] at b1
        refine ⟨[.val (.ref n), .none, .val kvs[i].1], by simp, .nx, [.val (.ref n), .none, .val kvs[i].1], st2, ?_, .inl rfl, ⟨_, rfl⟩, by rw [b2, h1], fun m hm => ?_, P2, rs', fun m q => h3 m (a2 m q), Parts.keep b3 (fun m q z => a3 m z q) a5⟩
        · unfold b__law_spoil_2
          simp [asX_st hx', hk _ hm, lookX_nd nd (show (kvs[i].1, kvs[i].2) ∈ kvs from hm), b1]
        · rw [b3 m (fun z => hm (h3 m (a1 m z))), h2 m hm])
  obtain ⟨⟨x, rfl⟩, h3, h4, _⟩ := h2
  exact ⟨x, st', h1, h3, h4⟩
theorem spoil_eq : ∀ (k : Nat), Sp (FS k) k
  | 0 => fun _ _ _ _ h => h.elim
  | k + 1 => fun st P d r h => by
    have ih := spoil_eq k
    have kd := h.kd
    have il := fun env => isi_eq (env := env) kd "list" (by simp)
    have it := fun env => isi_eq (env := env) kd "tuple" (by simp)
    have id' := fun env => isi_eq (env := env) kd "dict" (by simp)
    show ∃ st', f__law_spoil (FS k) [d] st = _ ∧ _
    unfold f__law_spoil
    cases d with
    | tup ds =>
      obtain ⟨h1, rs, rfl, h3⟩ := h
      obtain ⟨x, st', e, e2, e3⟩ := loopS_run (d := .tup ds) ih h3 (fun _ _ => rfl)
      have e' : l__law_spoil_3 (FS k) [.val (.tup ds), .none, .none] st = some (.nx, [.val (.tup ds), x, .none], st') := e
      exact ⟨st', by simp [b__law_spoil, i__law_spoil_1, i__law_spoil_2, i__law_spoil_3, il, it, id', kdS, e'], e2, e3⟩
    | ref n =>
      obtain ⟨h0, ⟨ds, rs, h1, h2, rfl, h4⟩ | ⟨kvs, rs, h1, h2, h3, h4, rfl, h6⟩⟩ := h
      · obtain ⟨x, st', e, e2, e3⟩ := loopS_run (d := .ref n) ih h4 (fun st' q => by
          have : st'[n]? = some (.lst ds) := by rw [q n (fun z => z.2 rfl)]; exact h1
          simp [this])
        have e' : l__law_spoil_1 (FS k) [.val (.ref n), .none, .none] st = some (.nx, [.val (.ref n), x, .none], st') := e
        have hn : st'[n]? = some (.lst ds) := by rw [e3 n (fun z => z.2 rfl)]; exact h1
        refine ⟨st'.set n (.lst (ds ++ [.str "spoiled"])), ?_, by simp [e2], fun m hm => ?_⟩
        · simp [b__law_spoil, i__law_spoil_3, il, kdS, h1, e', hn, show ds.length < 16000000 by omega]
        · have hmn : n ≠ m := fun q => hm (q ▸ h0)
          rw [List.getElem?_set_ne hmn]
          exact e3 m (fun z => hm z.1)
      · obtain ⟨x, st', e', e2, e3⟩ := loopD_run ih h1 h2 h3 h4 h6
        have hn : st'[n]? = some (.dX n kvs) := by rw [e3 n (fun z => z.2 rfl)]; exact h1
        refine ⟨st'.set n (.dX n (putX kvs (.str "spoiled") (.int 1))), ?_, by simp [e2], fun m hm => ?_⟩
        · simp [b__law_spoil, i__law_spoil_3, i__law_spoil_2, il, id', kdS, h1, e', isX_of hn, mkOf, show kvs.length < 16000000 by omega]
        · have hmn : n ≠ m := fun q => hm (q ▸ h0)
          rw [List.getElem?_set_ne hmn]
          exact e3 m (fun z => hm z.1)
    | non => exact ⟨st, by simp [b__law_spoil, i__law_spoil_1, i__law_spoil_2, i__law_spoil_3, il, it, id', kdS], rfl, fun _ _ => rfl⟩
    | bl b => exact ⟨st, by simp [b__law_spoil, i__law_spoil_1, i__law_spoil_2, i__law_spoil_3, il, it, id', kdS], rfl, fun _ _ => rfl⟩
    | int i => exact ⟨st, by simp [b__law_spoil, i__law_spoil_1, i__law_spoil_2, i__law_spoil_3, il, it, id', kdS], rfl, fun _ _ => rfl⟩
    | str x => exact ⟨st, by simp [b__law_spoil, i__law_spoil_1, i__law_spoil_2, i__law_spoil_3, il, it, id', kdS], rfl, fun _ _ => rfl⟩
    | _ => exact kd.elim
end Law

set_option maxHeartbeats 4000000
namespace Law
open PySem L2 Gx
/-! ### data without references, of a bounded depth -/
def Pd (n : Nat) (x : D) : Prop := ∃ p : PyData, (∀ dr, toP dr x = some p) ∧ p.canLay0 = true ∧ p.depth ≤ n
theorem Pd.mono {n m : Nat} {x : D} (h : Pd n x) (hm : n ≤ m) : Pd m x := let ⟨p, a, b, c⟩ := h; ⟨p, a, b, by omega⟩
theorem pd_non : Pd 0 .non := ⟨.none, fun _ => by simp [toP], by simp [PyData.canLay0], by simp [PyData.depth]⟩
theorem pd_bl (b : Bool) : Pd 0 (.bl b) := ⟨.bool b, fun _ => by simp [toP], by simp [PyData.canLay0], by simp [PyData.depth]⟩
theorem pd_int (i : Int) : Pd 0 (.int i) := ⟨.int i, fun _ => by simp [toP], by simp [PyData.canLay0], by simp [PyData.depth]⟩
theorem pd_str {x : Str} (h : PyData.strOk x = true) : Pd 0 (.str x) := ⟨.str x, fun _ => by simp [toP], h, by simp [PyData.depth]⟩
theorem pds {n : Nat} : ∀ {xs : List D}, (∀ x ∈ xs, Pd n x) → ∃ ps : List PyData, (∀ dr, toPs dr xs = some ps) ∧ PyData.canLayAll0 ps = true ∧ PyData.depthAll ps ≤ n
  | [], _ => ⟨[], fun _ => by simp [toPs], by simp [PyData.canLayAll0], by simp [PyData.depthAll]⟩
  | x :: xs, h => by
    obtain ⟨p, a, b, c⟩ := h x (by simp)
    obtain ⟨ps, a', b', c'⟩ := pds (xs := xs) fun y hy => h y (by simp [hy])
    exact ⟨p :: ps, fun dr => by simp [toPs, a dr, a' dr], by simp [PyData.canLayAll0, b, b'], by simp only [PyData.depthAll]; omega⟩
theorem pd_lst {n : Nat} {xs : List D} (h : ∀ x ∈ xs, Pd n x) : Pd (n + 1) (.lst xs) := by
  obtain ⟨ps, a, b, c⟩ := pds h
  exact ⟨.list ps, fun dr => by simp [toP, a dr], by simpa [PyData.canLay0] using b, by simp only [PyData.depth]; omega⟩
theorem pd_tup {n : Nat} {xs : List D} (h : ∀ x ∈ xs, Pd n x) : Pd (n + 1) (.tup xs) := by
  obtain ⟨ps, a, b, c⟩ := pds h
  exact ⟨.tuple ps, fun dr => by simp [toP, a dr], by simpa [PyData.canLay0] using b, by simp only [PyData.depth]; omega⟩
theorem pd_same {neg : Bool} {env : Gx.Env} {st : Store} {x : D} (h : Pd 60 x) : f2Eq neg env st (.d x) (.d x) = some (.d (.bl (!neg)), st) := by
  obtain ⟨p, a, b, c⟩ := h
  have a1 : toPR env st (.d x) = some p := a _
  unfold f2Eq
  rw [a1]
  dsimp only
  rw [if_pos (by unfold SeqAt.shaped; simp [b]; omega), SeqAt.eqv_refl p b]
  cases neg <;> rfl
theorem pd_at {x : D} (h : Pd 0 x) : Pd 1 (.lst [.str "value", x, .bl (isBl x)]) := pd_lst fun y hy => by
  simp only [List.mem_cons, List.not_mem_nil, or_false] at hy
  rcases hy with rfl | rfl | rfl
  · exact pd_str (by decide +kernel)
  · exact h
  · exact pd_bl _
def FV : Nat → MFn
  | 0 => F0__law_value
  | k + 1 => f__law_value (FV k)
theorem FV6 : F__law_value = FV 6 := rfl
section
variable {ns : List Int} {st : Store} {t : Tp}
/-- the store with another tape -/
abbrev Wt (ns : List Int) (st : Store) (t : Tp) : Store := st.set 0 (tpO ns t)
theorem wt_len (t : Tp) : (Wt ns st t).length = st.length := by simp
theorem wt_tape (h : 0 < st.length) (t : Tp) (ex : List SO) : (Wt ns st t ++ ex)[0]? = some (tpO ns t) := by
  rw [List.getElem?_append_left (by simpa using h)]; simp [h]
theorem wt_set (h : 0 < st.length) (t t' : Tp) (ex : List SO) : (Wt ns st t ++ ex).set 0 (tpO ns t') = Wt ns st t' ++ ex := by
  rw [List.set_append_left _ _ (by simpa using h), List.set_set]
theorem wt_get (h : 0 < st.length) (t t' : Tp) (ex ex' : List SO) {m : Nat} {x : SO} (hm : 0 < m) (e : (Wt ns st t ++ ex)[m]? = some x) : (Wt ns st t' ++ (ex ++ ex'))[m]? = some x := by
  by_cases q : m < st.length
  · rw [List.getElem?_append_left (by simpa using q)] at e ⊢
    rw [List.getElem?_set_ne (by omega)] at e ⊢
    exact e
  · rw [List.getElem?_append_right (by simpa using q)] at e ⊢
    rw [wt_len] at e ⊢
    rw [List.getElem?_append_left (List.getElem?_eq_some_iff.mp e).1]
    exact e
theorem Ok.wt (h : 0 < st.length) {t t' : Tp} {ex ex' : List SO} {k a b : Nat} {d r : D} (ha : 0 < a) {Q : Nat → Prop} (hQ : ∀ m, Q m → Rg a b m) (o : Ok (Wt ns st t ++ ex) k Q d r) : Ok (Wt ns st t' ++ (ex ++ ex')) k Q d r :=
  Ok.congr (fun m x hm e => wt_get h t t' ex ex' (by have := (hQ m hm).1; omega) e) (fun _ q => q) o
theorem Parts.wt (h : 0 < st.length) {t t' : Tp} {ex ex' : List SO} {k a b : Nat} {ds rs : List D} (ha : 0 < a) {Q : Nat → Prop} (hQ : ∀ m, Q m → Rg a b m) (o : Parts (Ok (Wt ns st t ++ ex) k) Q ds rs) : Parts (Ok (Wt ns st t' ++ (ex ++ ex')) k) Q ds rs :=
  Parts.impl (P0 := Q) (fun _ _ _ hq o => Ok.wt h ha (fun m q => hQ m (hq m q)) o) (fun _ q => q) o
end
theorem next_wt {ns : List Int} {st : Store} (h : 0 < st.length) (t : Tp) (ex : List SO) (m : Nat) (h0 : 0 < m) (h1 : m < 2 ^ 60) :
    ∃ (v : Nat) (t' : Tp), v < m ∧ f__law_next [.ref 0, .int m] (Wt ns st t ++ ex) = some (.int v, Wt ns st t' ++ ex) := by
  obtain ⟨v, t', a, b⟩ := next_eq (ns := ns) (t := t) (r := 0) (m := m) (wt_tape h t ex) h0 h1
  rw [wt_set h] at b
  exact ⟨v, t', a, b⟩
/-- a value, and the store behind it -/
def Vl (ns : List Int) (S : MFn) (deep : Nat) : Prop := ∀ (st : Store) (t : Tp), st[0]? = some (tpO ns t) → ∃ d t' ex r, S [.ref 0, .int deep] st = some (d, Wt ns st t' ++ ex) ∧ Ok (Wt ns st t' ++ ex) (deep + 1) (Rg st.length (st.length + ex.length)) d r ∧ Pd (2 * deep + 1) r
theorem parts_run {ns : List Int} {S : MFn} {deep : Nat} {st : Store} {t : Tp} {kd : D} (ih : Vl ns S deep) (h : 0 < st.length) :
    ∃ ds t' ex rs, c__law_value_1 S [.val (.ref 0), .val (.int ((deep + 1 : Nat) : Int)), .val kd, .none, .none, .none] (Wt ns st t) = some (.lst ds, Wt ns st t' ++ ex) ∧ ds.length ≤ 3 ∧ Parts (Ok (Wt ns st t' ++ ex) (deep + 1)) (Rg st.length (st.length + ex.length)) ds rs ∧ ∀ r ∈ rs, Pd (2 * deep + 1) r := by
  obtain ⟨v, t1, hv, e1⟩ := next_wt (ns := ns) h t [] 4 (by decide) (by decide)
  rw [List.append_nil, List.append_nil] at e1
  have hm : mRng1 (mCall f__law_next (mCons (mVar 0) (mCons (mC (.int 4)) mNil))) [.val (.ref 0), .val (.int ((deep + 1 : Nat) : Int)), .val kd, .none, .none, .none] (Wt ns st t) = some (.rng 0 v, Wt ns st t1) := by
    have e1' : f__law_next [.ref 0, .int 4] (Wt ns st t) = some (.int v, Wt ns st t1) := e1
    simp [e1', show inR (v : Int) = true by unfold inR; exact decide_eq_true (by omega)]
  obtain ⟨acc', st', h2, h3⟩ := lcGo_ind (j := 5) (e := mCall S (mCons (mVar 0) (mCons (mSub (mVar 1) (mC (.int 1))) mNil))) (env := wipeE [.val (.ref 0), .val (.int ((deep + 1 : Nat) : Int)), .val kd, .none, .none, .none] [5]) (chk := fun st => decide (srcItems [.val (.ref 0), .val (.int ((deep + 1 : Nat) : Int)), .val kd, .none, .none, .none] st (.rng 0 v) = some (rngItems 0 v)))
    (fun xs st' acc => ∃ t' ex, st' = Wt ns st t' ++ ex ∧ acc.length + xs.length ≤ 3 ∧ ∃ rs, Parts (Ok (Wt ns st t' ++ ex) (deep + 1)) (Rg st.length (st.length + ex.length)) acc rs ∧ ∀ r ∈ rs, Pd (2 * deep + 1) r) (by
      rintro x xs st' acc ⟨t', ex, rfl, h1, rs, h2, h2p⟩
      obtain ⟨d, t'', ex2, r, b1, b2, b3⟩ := ih (Wt ns st t' ++ ex) t' (wt_tape h t' ex)
      have ew : Wt ns (Wt ns st t' ++ ex) t'' ++ ex2 = Wt ns st t'' ++ (ex ++ ex2) := by
        show (Wt ns st t' ++ ex).set 0 (tpO ns t'') ++ ex2 = _
        rw [wt_set h, List.append_assoc]
      rw [ew] at b1 b2
      have el : (Wt ns st t' ++ ex).length = st.length + ex.length := by simp
      rw [el] at b2
      refine ⟨decide_eq_true rfl, d, Wt ns st t'' ++ (ex ++ ex2), ?_, by simp at h1; omega, t'', ex ++ ex2, rfl, by simp at h1 ⊢; omega, rs ++ [r], ?_, fun z hz => (List.mem_append.mp hz).elim (h2p z) fun hz => by simp at hz; subst hz; exact b3⟩
      · have e2 : ((deep + 1 : Nat) : Int) - 1 = (deep : Int) := by omega
        simp [wipeE, b1, -List.append_assoc]
      · refine Parts.mono (fun _ _ _ q => q) ?_ (Parts.snoc (Parts.wt (t' := t'') (ex' := ex2) h h (fun _ q => q) h2) ?_ b2)
        · intro m q
          unfold Rg at q ⊢
          simp only [List.length_append] at q ⊢
          omega
        · intro m q z
          unfold Rg at q z
          omega) (by
      rintro st' acc _
      exact decide_eq_true rfl) (rngItems 0 v) (Wt ns st t1) [] ⟨t1, [], by simp, by simp [rngItems]; omega, [], trivial, by simp⟩
  obtain ⟨t', ex, rfl, h4, rs, h5, h6⟩ := h3
  refine ⟨acc', t', ex, rs, ?_, by simpa using h4, h5, h6⟩
  unfold c__law_value_1 mLc
  rw [hm]; dsimp only [srcItems]
  dsimp only [srcItems] at h2
  rw [h2]
theorem Parts.rep {R : (Nat → Prop) → D → D → Prop} {P1 : Nat → Prop} {k v r : D} (hv : R P1 v r) : ∀ {kvs : List (D × D)} {rs : List D} {P : Nat → Prop}, (kvs.map (·.1)).Nodup → Parts R P (kvs.map (·.2)) rs → (∀ m, P m → ¬ P1 m) → (∃ p ∈ kvs, p.1 = k) →
    ∃ rs', Parts R (fun m => P m ∨ P1 m) ((kvs.map fun p => if p.1 = k then (p.1, v) else p).map (·.2)) rs' ∧ ∀ z ∈ rs', z ∈ rs ∨ z = r
  | [], rs, P, _, _, _, ⟨p, hp, _⟩ => nomatch hp
  | p :: kvs, [], P, _, h, _, _ => h.elim
  | p :: kvs, s :: rs, P, nd, ⟨Q1, Q2, h1, h2, h3, h4, h5⟩, hd, hx => by
    rw [List.map_cons, List.nodup_cons] at nd
    rw [List.map_cons, List.map_cons]
    by_cases e : p.1 = k
    · have hsame : (kvs.map fun p => if p.1 = k then (p.1, v) else p) = kvs := by
        conv => rhs; rw [← List.map_id kvs]
        refine List.map_congr_left fun q hq => ?_
        have : ¬ q.1 = k := fun z => nd.1 (List.mem_map.mpr ⟨q, hq, z.trans e.symm⟩)
        rw [if_neg this]; rfl
      rw [hsame, if_pos e]
      exact ⟨r :: rs, ⟨P1, Q2, fun m q => .inr q, fun m q => .inl (h2 m q), fun m q z => hd m (h2 m z) q, hv, h5⟩, fun z hz => by rcases List.mem_cons.mp hz with e | e; exact .inr e; exact .inl (List.mem_cons_of_mem _ e)⟩
    · rw [if_neg e]
      obtain ⟨q, hq, e2⟩ := hx
      have hq' : ∃ p ∈ kvs, p.1 = k := by
        rcases List.mem_cons.mp hq with z | z
        · subst z; exact absurd e2 e
        · exact ⟨q, z, e2⟩
      obtain ⟨rs', hr, hr2⟩ := Parts.rep hv nd.2 h5 (fun m q => hd m (h2 m q)) hq'
      exact ⟨s :: rs', ⟨Q1, fun m => Q2 m ∨ P1 m, fun m q => .inl (h1 m q), fun m q => q.elim (fun q => .inl (h2 m q)) .inr, fun m q z => z.elim (h3 m q) (hd m (h1 m q)), h4, hr⟩, fun z hz => by
        rcases List.mem_cons.mp hz with e | e
        · exact .inl (by rw [e]; simp)
        · exact (hr2 z e).elim (fun q => .inl (List.mem_cons_of_mem _ q)) .inr⟩
theorem Parts.putX {R : (Nat → Prop) → D → D → Prop} {P P1 : Nat → Prop} {k v r : D} {kvs : List (D × D)} {rs : List D} (hv : R P1 v r) (nd : (kvs.map (·.1)).Nodup) (h : Parts R P (kvs.map (·.2)) rs) (hd : ∀ m, P m → ¬ P1 m) :
    ∃ rs', Parts R (fun m => P m ∨ P1 m) ((putX kvs k v).map (·.2)) rs' ∧ ∀ z ∈ rs', z ∈ rs ∨ z = r := by
  unfold Gx.putX
  split
  · rename_i hc
    obtain ⟨p, hp, e⟩ := List.any_eq_true.mp hc
    exact Parts.rep hv nd h hd ⟨p, hp, of_decide_eq_true e⟩
  · rw [List.map_append]
    exact ⟨_, Parts.snoc h hd hv, fun z hz => (List.mem_append.mp hz).elim .inl fun q => .inr (by simpa using q)⟩
theorem putX_nd {kvs : List (D × D)} {k v : D} (nd : (kvs.map (·.1)).Nodup) : ((putX kvs k v).map (·.1)).Nodup := by
  unfold putX
  split
  · rw [List.map_map]
    have : ((fun p : D × D => p.1) ∘ fun p => if p.1 = k then (p.1, v) else p) = (·.1) := funext fun p => by
      show (if p.1 = k then (p.1, v) else p).1 = p.1
      split <;> rfl
    rw [this]; exact nd
  · rename_i hn
    rw [List.map_append, List.nodup_append]
    refine ⟨nd, by simp, fun x hx y hy e => ?_⟩
    simp only [List.map_cons, List.map_nil, List.mem_singleton] at hy
    subst hy e
    obtain ⟨z, hz, e⟩ := List.mem_map.mp hx
    exact hn (List.any_eq_true.mpr ⟨z, hz, decide_eq_true e⟩)
theorem putX_ok {kvs : List (D × D)} {k v : D} (h : ∀ p ∈ kvs, (mkOf p.1).isSome = true) (hk : (mkOf k).isSome = true) : ∀ p ∈ putX kvs k v, (mkOf p.1).isSome = true := by
  unfold putX
  split
  · intro p hp
    obtain ⟨q, hq, rfl⟩ := List.mem_map.mp hp
    have : (if q.1 = k then (q.1, v) else q).1 = q.1 := by split <;> rfl
    rw [this]; exact h q hq
  · intro p hp
    rcases List.mem_append.mp hp with hp | hp
    · exact h p hp
    · simp only [List.mem_singleton] at hp; subst hp; exact hk
theorem putX_len (kvs : List (D × D)) (k v : D) : (putX kvs k v).length ≤ kvs.length + 1 := by
  unfold putX; split <;> simp
theorem tl1 (A : Store) (a b : SO) : (A ++ [a, b])[A.length]? = some a := by simp
theorem tl2 (A : Store) (a b : SO) : (A ++ [a, b])[A.length + 1]? = some b := by simp
theorem tls (A : Store) (a b c : SO) : (A ++ [a, b]).set (A.length + 1) c = A ++ [a, c] := by
  rw [List.set_append_right _ _ (by omega)]; simp
theorem putX_key {kvs : List (D × D)} {k v : D} {p : D × D} (h : p ∈ putX kvs k v) : p.1 = k ∨ ∃ q ∈ kvs, q.1 = p.1 := by
  unfold putX at h
  split at h
  · obtain ⟨q, hq, rfl⟩ := List.mem_map.mp h
    exact .inr ⟨q, hq, by split <;> rfl⟩
  · rcases List.mem_append.mp h with h | h
    · exact .inr ⟨p, h, rfl⟩
    · simp only [List.mem_singleton] at h; subst h; exact .inl rfl
theorem names_run {ns : List Int} {S : MFn} {dp : Int} {st : Store} {t : Tp} {kd : D} {ex : List SO} {ds rs : List D} {dd : Nat} {pn : Nat} (h : 0 < st.length) (hl : ds.length ≤ 3) (hpd : ∀ r ∈ rs, Pd pn r) (hp : Parts (Ok (Wt ns st t ++ ex) dd) (Rg st.length (st.length + ex.length)) ds rs) :
    ∃ x t' kvs rs', l__law_value_1 S [.val (.ref 0), .val (.int dp), .val kd, .val (.ref (st.length + ex.length)), .val (.ref (st.length + ex.length + 1)), .none] ((Wt ns st t ++ ex) ++ [.lst ds, .dX (st.length + ex.length + 1) []]) =
        some (.nx, [.val (.ref 0), .val (.int dp), .val kd, .val (.ref (st.length + ex.length)), .val (.ref (st.length + ex.length + 1)), x], (Wt ns st t' ++ ex) ++ [.lst ds, .dX (st.length + ex.length + 1) kvs]) ∧
      kvs.length ≤ 3 ∧ (kvs.map (·.1)).Nodup ∧ (∀ p ∈ kvs, (mkOf p.1).isSome = true) ∧ Parts (Ok (Wt ns st t ++ ex) dd) (Rg st.length (st.length + ex.length)) (kvs.map (·.2)) rs' ∧ (∀ r ∈ rs', Pd pn r) ∧ ∀ p ∈ kvs, Pd 1 p.1 := by
  generalize hq : st.length + ex.length = q at hp ⊢
  have hA : ∀ t', (Wt ns st t' ++ ex).length = q := fun t' => by rw [← hq]; simp
  have g1 : ∀ t' b, (Wt ns st t' ++ ex ++ [SO.lst ds, b])[q]? = some (.lst ds) := fun t' b => by have := tl1 (Wt ns st t' ++ ex) (.lst ds) b; rwa [hA] at this
  have g2 : ∀ t' b, (Wt ns st t' ++ ex ++ [SO.lst ds, b])[q + 1]? = some b := fun t' b => by have := tl2 (Wt ns st t' ++ ex) (.lst ds) b; rwa [hA] at this
  have g3 : ∀ t' b c, (Wt ns st t' ++ ex ++ [SO.lst ds, b]).set (q + 1) c = Wt ns st t' ++ ex ++ [SO.lst ds, c] := fun t' b c => by have := tls (Wt ns st t' ++ ex) (.lst ds) b c; rwa [hA] at this
  have hm : m1 (mVar 3) f1Len [.val (.ref 0), .val (.int dp), .val kd, .val (.ref q), .val (.ref (q + 1)), .none] ((Wt ns st t ++ ex) ++ [.lst ds, .dX (q + 1) []]) = some (.d (.int ds.length), (Wt ns st t ++ ex) ++ [.lst ds, .dX (q + 1) []]) := by
    have := g1 t (.dX (q + 1) [])
    simp [this, -List.append_assoc]
  obtain ⟨env', st', h1, h2⟩ := for_rng (m := m1 (mVar 3) f1Len) (g := gN 5) (body := b__law_value_1 S) (n := ds.length)
    (fun i env st' => ∃ x t' kvs rs1 rs2 Q R', env = [.val (.ref 0), .val (.int dp), .val kd, .val (.ref q), .val (.ref (q + 1)), x] ∧ st' = (Wt ns st t' ++ ex) ++ [.lst ds, .dX (q + 1) kvs] ∧ kvs.length ≤ i ∧ (kvs.map (·.1)).Nodup ∧ (∀ p ∈ kvs, (mkOf p.1).isSome = true) ∧
      Parts (Ok (Wt ns st t ++ ex) dd) Q (kvs.map (·.2)) rs1 ∧ Parts (Ok (Wt ns st t ++ ex) dd) R' (ds.drop i) rs2 ∧ (∀ m, Q m → Rg st.length q m) ∧ (∀ m, R' m → Rg st.length q m) ∧ (∀ m, Q m → ¬ R' m) ∧ (∀ r ∈ rs1, Pd pn r) ∧ (∀ r ∈ rs2, Pd pn r) ∧ ∀ p ∈ kvs, Pd 1 p.1) hm (by omega)
    (by exact ⟨.none, t, [], [], rs, fun _ => False, Rg st.length q, rfl, rfl, by simp, by simp, by simp, trivial, by simpa using hp, fun _ q => q.elim, fun _ q => q, fun _ q => q.elim, by simp, hpd, by simp⟩)
    (by
      rintro i env st' hi ⟨x, t', kvs, rs1, rs2, Q, R', rfl, rfl, b1, b2, b3, b4, b5, b6, b7, b8, c1, c2, c3⟩
      rw [List.drop_eq_getElem_cons hi] at b5
      cases rs2 with
      | nil => exact b5.elim
      | cons r rs2 =>
        obtain ⟨P1, P2, a1, a2, a3, a4, a5⟩ := b5
        obtain ⟨v, t2, hv, e1⟩ := next_wt (ns := ns) h t' (ex ++ [.lst ds, .dX (q + 1) kvs]) 3 (by decide) (by decide)
        rw [← List.append_assoc, ← List.append_assoc] at e1
        have e1' : f__law_next [.ref 0, .int 3] (Wt ns st t' ++ ex ++ [.lst ds, .dX (q + 1) kvs]) = some (.int v, Wt ns st t2 ++ ex ++ [.lst ds, .dX (q + 1) kvs]) := e1
        obtain ⟨key, hkey, hsome, hkp⟩ : ∃ key : D, ([D.int i, .tup [.str "a", .int i], .str "n"] : List D)[v]? = some key ∧ (mkOf key).isSome = true ∧ Pd 1 key := by
          match v, hv with
          | 0, _ => exact ⟨_, rfl, rfl, (pd_int _).mono (by omega)⟩
          | 1, _ =>
            refine ⟨_, rfl, rfl, pd_tup fun y hy => ?_⟩
            simp only [List.mem_cons, List.not_mem_nil, or_false] at hy
            rcases hy with rfl | rfl
            · exact pd_str (by decide +kernel)
            · exact pd_int _
          | 2, _ => exact ⟨_, rfl, rfl, (pd_str (by decide +kernel)).mono (by omega)⟩
        obtain ⟨rs', hr, hr2⟩ := Parts.putX (k := key) a4 b2 b4 (fun m q z => b8 m q (a1 m z))
        refine ⟨_, rfl, .nx, [.val (.ref 0), .val (.int dp), .val kd, .val (.ref q), .val (.ref (q + 1)), .val (.int i)], Wt ns st t2 ++ ex ++ [.lst ds, .dX (q + 1) (putX kvs key ds[i])], ?_, .inl rfl, .val (.int i), t2, putX kvs key ds[i], rs', rs2, fun m => Q m ∨ P1 m, P2, rfl, rfl,
          by have := putX_len kvs key ds[i]; omega, putX_nd b2, putX_ok b3 hsome, hr, a5, fun m z => z.elim (b6 m) (fun z => b7 m (a1 m z)), fun m z => b7 m (a2 m z), fun m z z2 => z.elim (fun z => b8 m z (a2 m z2)) (fun z => a3 m z z2), fun z hz => (hr2 z hz).elim (c1 z) fun e => c2 z (by rw [e]; simp), fun z hz => c2 z (by simp [hz]), fun p hp => (putX_key hp).elim (fun e => by rw [e]; exact hkp) fun ⟨q, hq, e⟩ => by rw [← e]; exact c3 q hq⟩
        have g1' := g1 t' (.dX (q + 1) kvs)
        have g2' := g2 t2 (.dX (q + 1) kvs)
        have hx := isX_of g2'
        have hi' : ds[i]? = some ds[i] := List.getElem?_eq_getElem hi
        have hz : kvs.length < 16000000 := by omega
        unfold b__law_value_1
        simp only [ev_mStX, ev_mIx, ev_m2', ev_mFrz, ev_mFLst, ev_mCons, ev_mTup, ev_mCall]
        simp [g1', hi, e1', hkey, hsome, hx, hz, g3, dOf, -List.append_assoc])
  obtain ⟨x, t', kvs, rs1, rs2, Q, R', rfl, rfl, b1, b2, b3, b4, b5, b6, b7, b8, c1, c2, c3⟩ := h2
  exact ⟨x, t', kvs, rs1, h1, by omega, b2, b3, Parts.mono (fun _ _ _ q => q) b6 b4, c1, c3⟩
end Law

set_option maxHeartbeats 4000000
namespace Law
open PySem L2 Gx
theorem pow25 : cPow 10 25 = true := by decide
theorem ok_atom {st : Store} {k : Nat} {P : Nat → Prop} {x : D} (h : isAt x = true) : Ok st (k + 1) P x (.lst [.str "value", x, .bl (isBl x)]) := by
  cases x <;> first | exact ⟨h, rfl⟩ | cases h
theorem pd_rows {n : Nat} : ∀ {kvs : List (D × D)} {rs : List D}, (∀ p ∈ kvs, Pd 1 p.1) → (∀ r ∈ rs, Pd (2 * n + 1) r) → ∀ y ∈ List.zipWith dRow (kvs.map (·.1)) rs, Pd (2 * n + 2) y
  | [], _, _, _, y, hy => by simp at hy
  | _ :: _, [], _, _, y, hy => by simp at hy
  | p :: kvs, r :: rs, hk, hr, y, hy => by
    rw [List.map_cons, List.zipWith_cons_cons] at hy
    rcases List.mem_cons.mp hy with e | e
    · subst e
      unfold dRow
      exact pd_lst fun z hz => by
        simp only [List.mem_cons, List.not_mem_nil, or_false] at hz
        rcases hz with rfl | rfl
        · exact (hk p (by simp)).mono (by omega)
        · exact hr _ (by simp)
    · exact pd_rows (fun q hq => hk q (by simp [hq])) (fun q hq => hr q (by simp [hq])) y e
theorem value_eq (ns : List Int) : ∀ (k deep : Nat), deep < k → Vl ns (FV k) deep
  | 0, _, h => absurd h (Nat.not_lt_zero _)
  | k + 1, deep, hk => fun st t ht => by
    have h : 0 < st.length := (List.getElem?_eq_some_iff.mp ht).1
    have est : Wt ns st t = st := by
      apply List.ext_getElem?
      intro i
      by_cases e : 0 = i
      · subst e; rw [List.getElem?_set_self h, ht]
      · rw [List.getElem?_set_ne e]
    obtain ⟨v1, t1, hv1, e1⟩ := next_wt (ns := ns) h t [] 7 (by decide) (by decide)
    rw [List.append_nil, List.append_nil, est] at e1
    have e1' : f__law_next [.ref 0, .int 7] st = some (.int v1, Wt ns st t1) := e1
    show ∃ d t' ex r, f__law_value (FV k) [.ref 0, .int deep] st = _ ∧ _
    unfold f__law_value
    by_cases hA : deep = 0 ∨ v1 < 2
    · obtain ⟨v2, t2, hv2, e2⟩ := next_wt (ns := ns) h t1 [] 6 (by decide) (by decide)
      rw [List.append_nil, List.append_nil] at e2
      have e2' : f__law_next [.ref 0, .int 6] (Wt ns st t1) = some (.int v2, Wt ns st t2) := e2
      obtain ⟨x, hx, hat, hpd⟩ : ∃ x : D, ([D.int 3, .int (-1), .non, .str "word", .bl true, .int 10000000000000000000000000] : List D)[v2]? = some x ∧ isAt x = true ∧ Pd 0 x := by
        match v2, hv2 with
        | 0, _ => exact ⟨_, rfl, rfl, pd_int _⟩
        | 1, _ => exact ⟨_, rfl, rfl, pd_int _⟩
        | 2, _ => exact ⟨_, rfl, rfl, pd_non⟩
        | 3, _ => exact ⟨_, rfl, rfl, pd_str (by decide +kernel)⟩
        | 4, _ => exact ⟨_, rfl, rfl, pd_bl _⟩
        | 5, _ => exact ⟨_, rfl, rfl, pd_int _⟩
      refine ⟨x, t2, [], _, ?_, ok_atom hat, (pd_at hpd).mono (by omega)⟩
      rw [List.append_nil]
      rcases hA with hA | hA
      · subst hA
        simp [b__law_value, i__law_value_1, e1', e2', hx, pow25, dOf, -List.append_assoc]
      · have hA' : (v1 : Int) < 2 := by omega
        by_cases hd : deep = 0
        · subst hd
          simp [b__law_value, i__law_value_1, e1', e2', hx, pow25, dOf, -List.append_assoc]
        · simp [b__law_value, i__law_value_1, e1', e2', hx, pow25, dOf, hA', hd, -List.append_assoc]
    · obtain ⟨dp, rfl⟩ : ∃ dp, deep = dp + 1 := ⟨deep - 1, by omega⟩
      have hv2 : ¬ (v1 : Int) < 2 := by omega
      have hd0 : ¬ ((dp : Int) + 1 = 0) := by omega
      obtain ⟨ds, t', ex, rs, p1, p2, p3, p4⟩ := parts_run (ns := ns) (S := FV k) (kd := .int v1) (t := t1) (value_eq ns k dp (by omega)) h
      have p1' : c__law_value_1 (FV k) [.val (.ref 0), .val (.int ((dp : Int) + 1)), .val (.int v1), .none, .none, .none] (Wt ns st t1) = some (.lst ds, Wt ns st t' ++ ex) := p1
      have hl := Parts.len p3
      have pdl : ∀ (x : Str), PyData.strOk x = true → Pd (2 * (dp + 1) + 1) (.lst (.str x :: rs)) := fun x hx => (pd_lst (n := 2 * dp + 1) fun y hy => by
        rcases List.mem_cons.mp hy with e | e
        · rw [e]; exact (pd_str hx).mono (by omega)
        · exact p4 y e).mono (by omega)
      have hq1 : ((Wt ns st t' ++ ex) ++ [SO.lst ds])[st.length + ex.length]? = some (.lst ds) := by
        rw [List.getElem?_append_right (by simp)]; simp
      by_cases h4 : v1 < 4
      · have h4' : (v1 : Int) < 4 := by omega
        refine ⟨.ref (st.length + ex.length), t', ex ++ [.lst ds], .lst (.str "list" :: rs), ?_, ⟨⟨by omega, by simp⟩, .inl ⟨ds, rs, by rw [← List.append_assoc]; exact hq1, by omega, rfl, ?_⟩⟩, pdl _ (by decide +kernel)⟩
        · rw [← List.append_assoc]
          simp [b__law_value, i__law_value_1, i__law_value_2, e1', p1', hv2, hd0, h4', -List.append_assoc]
        · refine Parts.mono (fun _ _ _ q => q) ?_ (Parts.wt (t' := t') (ex' := [.lst ds]) h h (fun _ q => q) p3)
          intro m q
          unfold Rg at q ⊢
          simp only [List.length_append, List.length_singleton]
          omega
      · have h4' : ¬ (v1 : Int) < 4 := by omega
        by_cases h5 : v1 = 4
        · subst h5
          refine ⟨.tup ds, t', ex ++ [.lst ds], .lst (.str "tuple" :: rs), ?_, ⟨by omega, rs, rfl, ?_⟩, pdl _ (by decide +kernel)⟩
          · rw [← List.append_assoc]
            have p2' : c__law_value_1 (FV k) [.val (.ref 0), .val (.int ((dp : Int) + 1)), .val (.int 4), .none, .none, .none] (Wt ns st t1) = some (.lst ds, Wt ns st t' ++ ex) := p1'
            simp [b__law_value, i__law_value_1, i__law_value_2, i__law_value_3, e1', p2', hd0, hq1, -List.append_assoc]
          · refine Parts.mono (fun _ _ _ q => q) ?_ (Parts.wt (t' := t') (ex' := [.lst ds]) h h (fun _ q => q) p3)
            intro m q
            unfold Rg at q ⊢
            simp only [List.length_append, List.length_singleton]
            omega
        · have h5' : ¬ (v1 : Int) = 4 := by omega
          obtain ⟨x, t2, kvs, rs', n1, n2, n3, n4, n5, n6, n7⟩ := names_run (S := FV k) (dp := (dp : Int) + 1) (kd := .int v1) h p2 p4 p3
          have hl' := Parts.len n5
          have hq2 : ((Wt ns st t2 ++ ex) ++ [SO.lst ds, .dX (st.length + ex.length + 1) kvs])[st.length + ex.length + 1]? = some (.dX (st.length + ex.length + 1) kvs) := by
            rw [List.getElem?_append_right (by simp)]
            simp [show st.length + ex.length + 1 - (st.length + ex.length) = 1 by omega]
          have n1' := n1
          rw [show (Wt ns st t' ++ ex) ++ [SO.lst ds, .dX (st.length + ex.length + 1) []] = ((Wt ns st t' ++ ex) ++ [.lst ds]) ++ [.dX (st.length + ex.length + 1) []] by rw [List.append_assoc (Wt ns st t' ++ ex)]; rfl] at n1'
          refine ⟨.ref (st.length + ex.length + 1), t2, ex ++ [.lst ds, .dX (st.length + ex.length + 1) kvs], .lst (.str "dict" :: List.zipWith dRow (kvs.map (·.1)) rs'), ?_, ⟨⟨by omega, by simp; omega⟩, .inr ⟨kvs, rs', by rw [← List.append_assoc]; exact hq2, by omega, n3, n4, rfl, ?_⟩⟩, (pd_lst (n := 2 * dp + 2) fun y hy => by
            rcases List.mem_cons.mp hy with e | e
            · rw [e]; exact (pd_str (by decide +kernel)).mono (by omega)
            · exact pd_rows n7 n6 y e).mono (by omega)⟩
          · rw [← List.append_assoc]
            simp [b__law_value, i__law_value_1, i__law_value_2, i__law_value_3, e1', p1', hv2, hd0, h4', h5', n1', -List.append_assoc]
          · refine Parts.mono (fun _ _ _ q => q) ?_ (Parts.wt (t' := t2) (ex' := [.lst ds, .dX (st.length + ex.length + 1) kvs]) h h (fun _ q => q) n5)
            intro m q
            unfold Rg at q ⊢
            simp only [List.length_append, List.length_cons, List.length_nil]
            omega
end Law

set_option maxHeartbeats 4000000
namespace Law
open PySem L2 Gx
@[simp] theorem sk_0 : PyData.strOk (Str.ofString "kept") = true := by decide +kernel
@[simp] theorem sk_1 : PyData.strOk (Str.ofString "log") = true := by decide +kernel
@[simp] theorem sn_0_1 : ¬ (Str.ofString "kept" = Str.ofString "log") := by decide +kernel
@[simp] theorem sn_1_0 : ¬ (Str.ofString "log" = Str.ofString "kept") := by decide +kernel

theorem Ok.le {st : Store} {P : Nat → Prop} {d r : D} : ∀ {j k : Nat}, j ≤ k → Ok st j P d r → Ok st k P d r := by
  intro j k h
  induction h with
  | refl => exact id
  | step _ ih => exact fun q => Ok.up (ih q)
theorem F_plain {st : Store} {P : Nat → Prop} {d r : D} {j : Nat} (hj : j ≤ 8) (h : Ok st j P d r) : F__law_plain [d] st = some (r, st) := plain_eq 8 st P d r (Ok.le hj h)
theorem F_copy {st : Store} {P : Nat → Prop} {d r : D} {j : Nat} (hj : j ≤ 8) (h : Ok st j P d r) : ∃ d' ex, F_copied [d] st = some (d', st ++ ex) ∧ Ok (st ++ ex) j (Rg st.length (st.length + ex.length)) d' r := copied_eq j 8 hj st P d r h
theorem F_spoil {st : Store} {P : Nat → Prop} {d r : D} {j : Nat} (hj : j ≤ 8) (h : Ok st j P d r) : ∃ st', F__law_spoil [d] st = some (.non, st') ∧ st'.length = st.length ∧ ∀ m, ¬ P m → st'[m]? = st[m]? := spoil_eq 8 st P d r (Ok.le hj h)
/-! ### what the law has: the tape, the disk; F: where they stand -/
def diskO (dk : D) (lg : Nat) : SO := .ins "Disk" [("kept", dk), ("log", .ref lg)]
@[simp] theorem fld_k (dk : D) (lg : Nat) : fldOf ctab "kept" (some (diskO dk lg)) = some dk := (rfl)
@[simp] theorem fld_l (dk : D) (lg : Nat) : fldOf ctab "log" (some (diskO dk lg)) = some (.ref lg) := (rfl)
@[simp] theorem put_k (dk v : D) (lg : Nat) : fldPut ctab "kept" v (some (diskO dk lg)) = some (diskO v lg) := (rfl)
@[simp] theorem put_l (dk : D) (lg n : Nat) : fldPut ctab "log" (.ref n) (some (diskO dk lg)) = some (diskO dk n) := (rfl)
structure Jd (ns : List Int) (F : Nat → Prop) (st : Store) (saved : D) (ents : List D) : Prop where
  ex : ∃ (t : Tp) (dk : D) (lg : Nat) (es : List D) (Pk Pe : Nat → Prop), st[0]? = some (tpO ns t) ∧ st[1]? = some (diskO dk lg) ∧ st[lg]? = some (.lst es) ∧ 2 ≤ lg ∧
    F 0 ∧ F 1 ∧ F lg ∧ (∀ m, Pk m → F m ∧ 2 ≤ m ∧ m ≠ lg) ∧ (∀ m, Pe m → F m ∧ 2 ≤ m ∧ m ≠ lg) ∧ Ok st 4 Pk dk saved ∧ Parts (Ok st 5) Pe es ents
  lt : ∀ m, F m → m < st.length
  pk : Pd 20 saved
  pe : ∀ r ∈ ents, Pd 20 r
section
variable {ns : List Int} {F : Nat → Prop} {st st' : Store} {saved : D} {ents : List D}
theorem Jd.keep (h : Jd ns F st saved ents) (hl : st.length ≤ st'.length) (hk : ∀ m, F m → st'[m]? = st[m]?) : Jd ns F st' saved ents := by
  obtain ⟨⟨t, dk, lg, es, Pk, Pe, h0, h1, h2, h3, f0, f1, f2, a, b, c, d⟩, lt, pk, pe⟩ := h
  refine ⟨⟨t, dk, lg, es, Pk, Pe, by rw [hk 0 f0]; exact h0, by rw [hk 1 f1]; exact h1, by rw [hk lg f2]; exact h2, h3, f0, f1, f2, a, b, ?_, ?_⟩, fun m q => Nat.lt_of_lt_of_le (lt m q) hl, pk, pe⟩
  · exact Ok.congr (fun m x q e => by rw [hk m (a m q).1]; exact e) (fun _ q => q) c
  · exact Parts.impl (P0 := Pe) (fun Q d r hq o => Ok.congr (fun m x q e => by rw [hk m (b m (hq m q)).1]; exact e) (fun _ q => q) o) (fun _ q => q) d
theorem Jd.app (h : Jd ns F st saved ents) (ex : List SO) : Jd ns F (st ++ ex) saved ents :=
  h.keep (by simp) fun m q => by rw [List.getElem?_append_left (h.lt m q)]
/-- the tape goes on -/
theorem Jd.tape (h : Jd ns F st saved ents) (t : Tp) (ex : List SO) : Jd ns F (Wt ns st t ++ ex) saved ents := by
  have hh := h
  obtain ⟨⟨t0, dk, lg, es, Pk, Pe, h0, h1, h2, h3, f0, f1, f2, a, b, c, d⟩, lt, pk, pe⟩ := h
  have hl : 0 < st.length := lt 0 f0
  have g : ∀ m x, 0 < m → st[m]? = some x → (Wt ns st t ++ ex)[m]? = some x := fun m x hm e => by
    rw [List.getElem?_append_left (by simpa using (List.getElem?_eq_some_iff.mp e).1), List.getElem?_set_ne (by omega)]; exact e
  refine ⟨⟨t, dk, lg, es, Pk, Pe, wt_tape hl t ex, g 1 _ (by omega) h1, g lg _ (by omega) h2, h3, f0, f1, f2, a, b, ?_, ?_⟩, fun m q => by have := lt m q; simp; omega, pk, pe⟩
  · exact Ok.congr (fun m x q e => g m x (by have := (a m q).2.1; omega) e) (fun _ q => q) c
  · exact Parts.impl (P0 := Pe) (fun Q d r hq o => Ok.congr (fun m x q e => g m x (by have := (b m (hq m q)).2.1; omega) e) (fun _ q => q) o) (fun _ q => q) d
theorem Jd.len (h : Jd ns F st saved ents) : 0 < st.length := by
  obtain ⟨⟨t0, dk, lg, es, Pk, Pe, h0, _⟩, _⟩ := h
  exact (List.getElem?_eq_some_iff.mp h0).1
theorem Jd.tp (h : Jd ns F st saved ents) : ∃ t, st[0]? = some (tpO ns t) := by
  obtain ⟨⟨t0, dk, lg, es, Pk, Pe, h0, _⟩, _⟩ := h
  exact ⟨t0, h0⟩
/-- a value of the law's own, beside -/
def Own (F : Nat → Prop) (st : Store) (j : Nat) (d r : D) : Prop := ∃ Q : Nat → Prop, Ok st j Q d r ∧ (∀ m, Q m → ¬ F m) ∧ ∀ m, Q m → 2 ≤ m ∧ m < st.length
theorem Jd.two (h : Jd ns F st saved ents) : 2 ≤ st.length := by
  obtain ⟨⟨t0, dk, lg, es, Pk, Pe, h0, h1, h2, h3, _⟩, _⟩ := h
  have := (List.getElem?_eq_some_iff.mp h1).1
  omega
theorem Jd.next (h : Jd ns F st saved ents) (m : Nat) (h0 : 0 < m) (h1 : m < 2 ^ 60) : ∃ (v : Nat) (t' : Tp), v < m ∧ f__law_next [.ref 0, .int m] st = some (.int v, Wt ns st t') ∧ Jd ns F (Wt ns st t') saved ents := by
  obtain ⟨t, ht⟩ := h.tp
  obtain ⟨v, t', a, b⟩ := next_eq (ns := ns) (t := t) (r := 0) (m := m) ht h0 h1
  have := h.tape t' []
  rw [List.append_nil] at this
  exact ⟨v, t', a, b, this⟩
theorem Own.tape {j : Nat} {d r : D} (h : 0 < st.length) (o : Own F st j d r) (t : Tp) : Own F (Wt ns st t) j d r := by
  obtain ⟨Q, a, b, c⟩ := o
  exact ⟨Q, Ok.congr (fun m x q e => by rw [List.getElem?_set_ne (by have := (c m q).1; omega)]; exact e) (fun _ q => q) a, b, fun m q => by have := c m q; simp; exact this⟩
theorem Own.app {j : Nat} {d r : D} (o : Own F st j d r) (ex : List SO) : Own F (st ++ ex) j d r := by
  obtain ⟨Q, a, b, c⟩ := o
  exact ⟨Q, a.app ex, b, fun m q => by have := c m q; simp; omega⟩
theorem Jd.value (h : Jd ns F st saved ents) : ∃ d st1 r, F__law_value [.ref 0, .int 3] st = some (d, st1) ∧ Jd ns F st1 saved ents ∧ Own F st1 4 d r ∧ Pd 7 r := by
  obtain ⟨t, ht⟩ := h.tp
  obtain ⟨d, t', ex, r, a, b, c⟩ := value_eq ns 6 3 (by omega) st t ht
  refine ⟨d, _, r, a, h.tape t' ex, ⟨_, b, fun m q z => ?_, fun m q => ?_⟩, c⟩
  · have := h.lt m z
    have := q.1
    omega
  · have h2 := h.two
    have := q.1
    have := q.2
    simp
    omega
theorem Jd.copy {j : Nat} {d r : D} {P : Nat → Prop} (h : Jd ns F st saved ents) (hj : j ≤ 8) (o : Ok st j P d r) : ∃ d' ex, F_copied [d] st = some (d', st ++ ex) ∧ Jd ns F (st ++ ex) saved ents ∧ Own F (st ++ ex) j d' r := by
  obtain ⟨d', ex, a, b⟩ := F_copy hj o
  have h2 := h.two
  exact ⟨d', ex, a, h.app ex, _, b, fun m q z => by have := h.lt m z; have := q.1; omega, fun m q => by have := q.1; have := q.2; simp; omega⟩
theorem Jd.spoil {j : Nat} {d r : D} (h : Jd ns F st saved ents) (hj : j ≤ 8) (o : Own F st j d r) : ∃ st', F__law_spoil [d] st = some (.non, st') ∧ Jd ns F st' saved ents := by
  obtain ⟨Q, a, b, c⟩ := o
  obtain ⟨st', e1, e2, e3⟩ := F_spoil hj a
  exact ⟨st', e1, h.keep (by omega) fun m q => e3 m fun z => b m z q⟩
theorem Jd.told (h : Jd ns F st saved ents) : ∃ d' ex, f_Disk_saved [.ref 1] st = some (d', st ++ ex) ∧ Jd ns F (st ++ ex) saved ents ∧ Own F (st ++ ex) 4 d' saved := by
  have hh := h
  obtain ⟨⟨t0, dk, lg, es, Pk, Pe, h0, h1, h2, h3, f0, f1, f2, a, b, c, d⟩, _⟩ := h
  obtain ⟨d', ex, e1, e2, e3⟩ := hh.copy (by omega) c
  refine ⟨d', ex, ?_, e2, e3⟩
  simp [f_Disk_saved, b_Disk_saved, h1, e1]
theorem Jd.log (h : Jd ns F st saved ents) (hl : ents.length ≤ 1000) : ∃ dk lg P, st[1]? = some (diskO dk lg) ∧ Ok st 6 P (.ref lg) (.lst (.str "list" :: ents)) := by
  obtain ⟨⟨t0, dk, lg, es, Pk, Pe, h0, h1, h2, h3, f0, f1, f2, a, b, c, d⟩, _⟩ := h
  have := Parts.len d
  exact ⟨dk, lg, fun m => m = lg ∨ Pe m, h1, .inl rfl, .inl ⟨es, ents, h2, by omega, rfl, Parts.mono (fun _ _ _ q => q) (fun m q => ⟨.inr q, (b m q).2.2⟩) d⟩⟩
theorem Jd.entries (h : Jd ns F st saved ents) (hl : ents.length ≤ 1000) : ∃ d' ex, f_Disk_entries [.ref 1] st = some (d', st ++ ex) ∧ Jd ns F (st ++ ex) saved ents ∧ Own F (st ++ ex) 6 d' (.lst (.str "list" :: ents)) := by
  obtain ⟨dk, lg, P, h1, o⟩ := h.log hl
  obtain ⟨d', ex, e1, e2, e3⟩ := h.copy (by omega) o
  refine ⟨d', ex, ?_, e2, e3⟩
  simp [f_Disk_entries, b_Disk_entries, h1, e1]
theorem set_app1 {A : Store} (h : 1 < A.length) (x y z : SO) : (A.set 1 x ++ [z]).set 1 y = A.set 1 y ++ [z] := by
  rw [List.set_append_left _ _ (by simpa using h), List.set_set]
theorem Jd.save {d r : D} (h : Jd ns F st saved ents) (o : Own F st 4 d r) (hp : Pd 20 r) : ∃ st' F', f_Disk_save [.ref 1, d] st = some (.non, st') ∧ Jd ns F' st' r [] ∧ Own F' st' 4 d r := by
  have hh := h
  obtain ⟨Q, oa, ob, oc⟩ := o
  obtain ⟨d', ex, e1, e2⟩ := F_copy (j := 4) (by omega) oa
  obtain ⟨⟨t0, dk, lg, es, Pk, Pe, h0, h1, h2, h3, f0, f1, f2, a, b, c, dd⟩, lt, pk, pe⟩ := h
  have l0 := hh.len
  have l2 := hh.two
  have hlE : (st ++ ex).length = st.length + ex.length := by simp
  have hlt1 : 1 < (st ++ ex).length := by omega
  have g1 : (st ++ ex)[1]? = some (diskO dk lg) := by rw [List.getElem?_append_left (by omega)]; exact h1
  have ge : ∀ m x, m ≠ 1 → (st ++ ex)[m]? = some x → ((st ++ ex).set 1 (diskO d' (st.length + ex.length)) ++ [SO.lst []])[m]? = some x := fun m x hm e => by
    rw [List.getElem?_append_left (by simpa using (List.getElem?_eq_some_iff.mp e).1), List.getElem?_set_ne (fun q => hm q.symm)]; exact e
  generalize hA : st ++ ex = A at g1 hlE hlt1 ge e1 e2
  have gA : (A.set 1 (diskO d' lg) ++ [SO.lst []])[1]? = some (diskO d' lg) := by
    rw [List.getElem?_append_left (by simpa using hlt1)]; simp [hlt1]
  refine ⟨A.set 1 (diskO d' (st.length + ex.length)) ++ [.lst []], fun m => m = 0 ∨ m = 1 ∨ (st.length ≤ m ∧ m < st.length + ex.length + 1), ?_, ?_, ?_⟩
  · simp [f_Disk_save, b_Disk_save, e1, g1, gA, hlE, set_app1 hlt1]
  · refine ⟨⟨t0, d', st.length + ex.length, [], Rg st.length (st.length + ex.length), fun _ => False, ge 0 _ (by omega) ?_, ?_, ?_, by omega, .inl rfl, .inr (.inl rfl), .inr (.inr ⟨by omega, by omega⟩), fun m q => ⟨.inr (.inr ⟨q.1, by have := q.2; omega⟩), by have := q.1; omega, by have := q.2; omega⟩, fun m q => q.elim, ?_, trivial⟩, fun m q => ?_, hp, by simp⟩
    · rw [← hA, List.getElem?_append_left l0]; exact h0
    · rw [List.getElem?_append_left (by simpa using hlt1)]; simp [hlt1]
    · rw [List.getElem?_append_right (by simp [hlE])]; simp [hlE]
    · exact Ok.congr (fun m x q e => ge m x (by have := q.1; omega) e) (fun _ q => q) e2
    · simp only [List.length_append, List.length_set, List.length_singleton, hlE]
      omega
  · refine ⟨Q, Ok.congr (fun m x q e => ge m x (by have := (oc m q).1; omega) (by rw [← hA, List.getElem?_append_left (oc m q).2]; exact e)) (fun _ q => q) oa, fun m q z => ?_, fun m q => ⟨(oc m q).1, ?_⟩⟩
    · have := oc m q
      omega
    · have := (oc m q).2
      simp only [List.length_append, List.length_set, List.length_singleton, hlE]
      omega
def entR (i : Int) (r : D) : D := .lst [.str "tuple", .lst [.str "value", .str "entry", .bl false], .lst [.str "value", .int i, .bl false], r]
theorem Jd.write {d r : D} {i : Int} (h : Jd ns F st saved ents) (o : Own F st 4 d r) (hp : Pd 7 r) (hl : ents.length ≤ 1000) : ∃ st' F', f_Disk_write [.ref 1, .tup [.str "entry", .int i, d]] st = some (.non, st') ∧ Jd ns F' st' saved (ents ++ [entR i r]) ∧ Own F' st' 4 d r := by
  have hh := h
  obtain ⟨Q, oa, ob, oc⟩ := o
  have oe : Ok st 5 Q (.tup [.str "entry", .int i, d]) (entR i r) :=
    ⟨by simp, _, rfl, fun _ => False, Q, fun _ q => q.elim, fun _ q => q, fun _ q => q.elim, ⟨rfl, rfl⟩, fun _ => False, Q, fun _ q => q.elim, fun _ q => q, fun _ q => q.elim, ⟨rfl, rfl⟩, Q, fun _ => False, fun _ q => q, fun _ q => q.elim, fun _ _ q => q, oa, trivial⟩
  obtain ⟨d', ex, e1, e2⟩ := F_copy (j := 5) (by omega) oe
  obtain ⟨⟨t0, dk, lg, es, Pk, Pe, h0, h1, h2, h3, f0, f1, f2, a, b, c, dd⟩, lt, pk, pe⟩ := h
  have l0 := hh.len
  have l2 := hh.two
  have hes := Parts.len dd
  have hlE : (st ++ ex).length = st.length + ex.length := by simp
  have hlg := lt lg f2
  have g1 : (st ++ ex)[1]? = some (diskO dk lg) := by rw [List.getElem?_append_left (by omega)]; exact h1
  have g2 : (st ++ ex)[lg]? = some (.lst es) := by rw [List.getElem?_append_left hlg]; exact h2
  have gl : ∀ m x, st[m]? = some x → (st ++ ex)[m]? = some x := fun m x e => by rw [List.getElem?_append_left (List.getElem?_eq_some_iff.mp e).1]; exact e
  have ge : ∀ m x, m ≠ lg → (st ++ ex)[m]? = some x → ((st ++ ex).set lg (.lst (es ++ [d'])))[m]? = some x := fun m x hm e => by
    rw [List.getElem?_set_ne (fun q => hm q.symm)]; exact e
  have gs : ((st ++ ex).set lg (.lst (es ++ [d'])))[lg]? = some (.lst (es ++ [d'])) := by rw [List.getElem?_set_self (by omega)]
  have hz : es.length < 16000000 := by omega
  generalize hA : st ++ ex = A at g1 g2 gl hlE ge gs e1 e2
  refine ⟨A.set lg (.lst (es ++ [d'])), fun m => F m ∨ Rg st.length (st.length + ex.length) m, ?_, ?_, ?_⟩
  · simp [f_Disk_write, b_Disk_write, e1, h1, h2, g2, hz]
  · refine ⟨⟨t0, dk, lg, es ++ [d'], Pk, fun m => Pe m ∨ Rg st.length (st.length + ex.length) m, ge 0 _ (by omega) (gl 0 _ h0), ge 1 _ (by omega) g1, gs, h3, .inl f0, .inl f1, .inl f2, fun m q => ⟨.inl (a m q).1, (a m q).2⟩, fun m q => ?_, ?_, ?_⟩, fun m q => ?_, pk, fun z hz => ?_⟩
    · rcases q with q | q
      · exact ⟨.inl (b m q).1, (b m q).2⟩
      · exact ⟨.inr q, by have := q.1; omega, by have := q.1; omega⟩
    · exact Ok.congr (fun m x q e => ge m x (a m q).2.2 (gl m x e)) (fun _ q => q) c
    · refine Parts.snoc (Parts.impl (P0 := Pe) (fun R d r hq o => Ok.congr (fun m x q e => ge m x (b m (hq m q)).2.2 (gl m x e)) (fun _ q => q) o) (fun _ q => q) dd) (fun m q z => ?_) (Ok.congr (fun m x q e => ge m x (by have := q.1; omega) e) (fun _ q => q) e2)
      have := lt m (b m q).1
      have := z.1
      omega
    · rw [List.length_set, hlE]
      rcases q with q | q
      · have := lt m q; omega
      · exact q.2
    · rcases List.mem_append.mp hz with q | q
      · exact pe z q
      · simp only [List.mem_singleton] at q
        subst q
        have pv : ∀ x : D, Pd 0 x → Pd 7 (.lst [.str "value", x, .bl false]) := fun x hx => (pd_lst (n := 0) fun y hy => by
          simp only [List.mem_cons, List.not_mem_nil, or_false] at hy
          rcases hy with rfl | rfl | rfl
          · exact pd_str (by decide +kernel)
          · exact hx
          · exact pd_bl _).mono (by omega)
        unfold entR
        exact (pd_lst (n := 7) fun y hy => by
          simp only [List.mem_cons, List.not_mem_nil, or_false] at hy
          rcases hy with rfl | rfl | rfl | rfl
          · exact (pd_str (by decide +kernel)).mono (by omega)
          · exact pv _ (pd_str (by decide +kernel))
          · exact pv _ (pd_int _)
          · exact hp).mono (by omega)
  · refine ⟨Q, Ok.congr (fun m x q e => ge m x (fun z => ob m q (z ▸ f2)) (gl m x e)) (fun _ q => q) oa, fun m q z => ?_, fun m q => ⟨(oc m q).1, ?_⟩⟩
    · rcases z with z | z
      · exact ob m q z
      · have := (oc m q).2
        have := z.1
        omega
    · have := (oc m q).2
      rw [List.length_set, hlE]
      omega
end
end Law

set_option maxHeartbeats 4000000
namespace Law
open PySem L2 Gx
@[simp] theorem isI_1 (dk : D) (lg : Nat) : isIns "Disk" "saved" (some (diskO dk lg)) = true := (rfl)
@[simp] theorem isI_2 (dk : D) (lg : Nat) : isIns "Disk" "entries" (some (diskO dk lg)) = true := (rfl)
@[simp] theorem isI_3 (dk : D) (lg : Nat) : isIns "Disk" "save" (some (diskO dk lg)) = true := (rfl)
@[simp] theorem isI_4 (dk : D) (lg : Nat) : isIns "Disk" "write" (some (diskO dk lg)) = true := (rfl)
section
variable {ns : List Int} {F : Nat → Prop} {st st' : Store} {saved : D} {ents : List D}
theorem Jd.one (h : Jd ns F st saved ents) : ∃ dk lg, st[1]? = some (diskO dk lg) := by
  obtain ⟨⟨t0, dk, lg, es, Pk, Pe, h0, h1, _⟩, _⟩ := h
  exact ⟨dk, lg, h1⟩
end
def Ev (sc : D) (a3 : D) (a4 : List D) (a5 a6 a7 a8 a9 a10 : Gx.Slot) : Gx.Env := [.val sc, .val (.ref 0), .val (.ref 1), .val a3, .own (.lst a4), a5, a6, a7, a8, a9, a10]
theorem own_plain {F : Nat → Prop} {st : Store} {j : Nat} {d r : D} (hj : j ≤ 8) (o : Own F st j d r) : F__law_plain [d] st = some (r, st) := by
  obtain ⟨Q, a, _⟩ := o
  exact F_plain hj a
theorem plain_at {st : Store} {x : D} (h : isAt x = true) : F__law_plain [x] st = some (.lst [.str "value", x, .bl (isBl x)], st) := F_plain (j := 1) (P := fun _ => True) (by omega) (ok_atom h)
/-- the deed -/
theorem deed_run {ns : List Int} {F : Nat → Prop} {st : Store} {saved d r sc : D} {ents : List D} {k v : Nat} {a9 a10 : Gx.Slot} (h : Jd ns F st saved ents) (o : Own F st 4 d r) (hp : Pd 7 r) (hl : ents.length ≤ k) (hk : k ≤ 40) :
    ∃ st' F' saved' ents', i_law_3 (Ev sc saved ents (.val (.int k)) (.val d) (.val r) (.val (.int v)) a9 a10) st = some (.nx, Ev sc saved' ents' (.val (.int k)) (.val d) (.val r) (.val (.int v)) a9 a10, st') ∧
      Jd ns F' st' saved' ents' ∧ Own F' st' 4 d r ∧ ents'.length ≤ k + 1 := by
  obtain ⟨dk, lg, h1⟩ := h.one
  by_cases hv : v = 0
  · subst hv
    obtain ⟨st', F', e, j, o'⟩ := h.save o (hp.mono (by omega))
    refine ⟨st', F', r, [], ?_, j, o', by simp⟩
    unfold i_law_3 Ev
    simp [h1, e]
  · have hv' : ¬ (v : Int) = 0 := by omega
    obtain ⟨st', F', e, j, o'⟩ := h.write (i := k) o hp (by omega)
    refine ⟨st', F', saved, ents ++ [entR k r], ?_, j, o', by simp; omega⟩
    have p1 := plain_at (st := st') (x := .str "entry") rfl
    have p2 := plain_at (st := st') (x := .int k) rfl
    have hz : ents.length < 16000000 := by omega
    unfold i_law_3 Ev
    simp [h1, e, hv', hv, p1, p2, hz, dOf, entR, isBl]
theorem pd_rows2 {ents : List D} (h : ∀ r ∈ ents, Pd 20 r) : Pd 60 (.lst (.str "list" :: ents)) := (pd_lst (n := 20) fun y hy => by
  rcases List.mem_cons.mp hy with e | e
  · rw [e]; exact (pd_str (by decide +kernel)).mono (by omega)
  · exact h y e).mono (by omega)
/-- what was saved, told and compared -/
theorem told_run {ns : List Int} {F : Nat → Prop} {st : Store} {saved sc : D} {ents : List D} {a5 a6 a7 a8 a9 a10 : Gx.Slot} (h : Jd ns F st saved ents) :
    ∃ st' d, mSq (mSet 9 (mMeth "Disk" "saved" f_Disk_saved (mVar 2) mNil)) (mSq i_law_4 (mExpr (mCall F__law_spoil (mCons (mVar 9) mNil)))) (Ev sc saved ents a5 a6 a7 a8 a9 a10) st = some (.nx, Ev sc saved ents a5 a6 a7 a8 (.val d) a10, st') ∧ Jd ns F st' saved ents := by
  obtain ⟨dk, lg, h1⟩ := h.one
  obtain ⟨d, ex, e, j, o⟩ := h.told
  obtain ⟨st', e2, j2⟩ := j.spoil (by omega) o
  have ep := own_plain (by omega) o
  have hs := fun env => pd_same (neg := true) (env := env) (st := st ++ ex) (j.pk.mono (show 20 ≤ 60 by omega))
  refine ⟨st', d, ?_, j2⟩
  unfold Ev i_law_4
  simp [h1, e, e2, ep, hs]
/-- the entries, told and compared -/
theorem rows_run {ns : List Int} {F : Nat → Prop} {st : Store} {saved sc : D} {ents : List D} {a5 a6 a7 a8 a9 a10 : Gx.Slot} (h : Jd ns F st saved ents) (hl : ents.length ≤ 100) :
    ∃ st' d, mSq (mSet 10 (mMeth "Disk" "entries" f_Disk_entries (mVar 2) mNil)) (mSq i_law_5 (mExpr (mCall F__law_spoil (mCons (mVar 10) mNil)))) (Ev sc saved ents a5 a6 a7 a8 a9 a10) st = some (.nx, Ev sc saved ents a5 a6 a7 a8 a9 (.val d), st') ∧ Jd ns F st' saved ents := by
  obtain ⟨dk, lg, h1⟩ := h.one
  obtain ⟨d, ex, e, j, o⟩ := h.entries (by omega)
  obtain ⟨st', e2, j2⟩ := j.spoil (by omega) o
  have ep := own_plain (by omega) o
  have hs := fun env => pd_same (neg := true) (env := env) (st := st ++ ex) (pd_rows2 j.pe)
  have hz : 1 + ents.length ≤ 16000000 := by omega
  refine ⟨st', d, ?_, j2⟩
  unfold Ev i_law_5
  simp [h1, e, e2, ep, hs, hz, dOf]
theorem turn_run {ns : List Int} {F : Nat → Prop} {st : Store} {saved sc : D} {ents : List D} {k : Nat} {a6 a7 a8 a9 a10 : Gx.Slot} (h : Jd ns F st saved ents) (hl : ents.length ≤ k) (hk : k ≤ 40) :
    ∃ st' F' saved' ents' b6 b7 b8 b9 b10, b_law_1 (Ev sc saved ents (.val (.int k)) a6 a7 a8 a9 a10) st = some (.nx, Ev sc saved' ents' (.val (.int k)) b6 b7 b8 b9 b10, st') ∧ Jd ns F' st' saved' ents' ∧ ents'.length ≤ k + 1 := by
  obtain ⟨d, s1, r, e1, j1, o1, hp⟩ := h.value
  have e2 := own_plain (by omega) o1
  obtain ⟨Q1, oo1, _⟩ := id o1
  obtain ⟨d2, ex, e3, j3, o3⟩ := j1.copy (j := 4) (by omega) oo1
  have e4 := own_plain (by omega) o3
  have hs := fun env => pd_same (neg := true) (env := env) (st := s1 ++ ex) (hp.mono (show 7 ≤ 60 by omega))
  obtain ⟨v, t, hv, e5, j5⟩ := j3.next 5 (by omega) (by omega)
  have e5' : f__law_next [.ref 0, .int 5] (s1 ++ ex) = some (.int v, Wt ns (s1 ++ ex) t) := e5
  have o5 := Own.tape (ns := ns) j3.len (o1.app ex) t
  obtain ⟨s6, F6, saved', ents', e6, j6, o6, hl6⟩ := deed_run (sc := sc) (v := v) (a9 := a9) (a10 := a10) j5 o5 hp hl hk
  obtain ⟨s7, e7, j7⟩ := j6.spoil (by omega) o6
  obtain ⟨s8, d8, e8, j8⟩ := told_run (sc := sc) (a5 := .val (.int k)) (a6 := .val d) (a7 := .val r) (a8 := .val (.int v)) (a9 := a9) (a10 := a10) j7
  obtain ⟨s9, d9, e9, j9⟩ := rows_run (sc := sc) (a5 := .val (.int k)) (a6 := .val d) (a7 := .val r) (a8 := .val (.int v)) (a9 := .val d8) (a10 := a10) j8 (by omega)
  refine ⟨s9, F6, saved', ents', .val d, .val r, .val (.int v), .val d8, .val d9, ?_, j9, hl6⟩
  have k1 : mSet 6 (mCall F__law_value (mCons (mVar 1) (mCons (mC (.int 3)) mNil))) (Ev sc saved ents (.val (.int k)) a6 a7 a8 a9 a10) st = some (.nx, Ev sc saved ents (.val (.int k)) (.val d) a7 a8 a9 a10, s1) := by
    unfold Ev; simp [e1]
  have k2 : mSet 7 (mCall F__law_plain (mCons (mVar 6) mNil)) (Ev sc saved ents (.val (.int k)) (.val d) a7 a8 a9 a10) s1 = some (.nx, Ev sc saved ents (.val (.int k)) (.val d) (.val r) a8 a9 a10, s1) := by
    unfold Ev; simp [e2]
  have k3 : i_law_2 (Ev sc saved ents (.val (.int k)) (.val d) (.val r) a8 a9 a10) s1 = some (.nx, Ev sc saved ents (.val (.int k)) (.val d) (.val r) a8 a9 a10, s1 ++ ex) := by
    unfold Ev i_law_2; simp [e3, e4, hs]
  have k4 : mSet 8 (mCall f__law_next (mCons (mVar 1) (mCons (mC (.int 5)) mNil))) (Ev sc saved ents (.val (.int k)) (.val d) (.val r) a8 a9 a10) (s1 ++ ex) = some (.nx, Ev sc saved ents (.val (.int k)) (.val d) (.val r) (.val (.int v)) a9 a10, Wt ns (s1 ++ ex) t) := by
    unfold Ev; simp [e5', -List.set_append]
  have k6 : mExpr (mCall F__law_spoil (mCons (mVar 6) mNil)) (Ev sc saved' ents' (.val (.int k)) (.val d) (.val r) (.val (.int v)) a9 a10) s6 = some (.nx, Ev sc saved' ents' (.val (.int k)) (.val d) (.val r) (.val (.int v)) a9 a10, s7) := by
    unfold Ev; simp [e7]
  unfold b_law_1
  rw [sq_step k1, sq_step k2, sq_step k3, sq_step k4, sq_step e6, sq_step k6]
  -- the two last parts
  have assoc : ∀ (a b c x : MS) (E : Gx.Env) (s : Store) (E1 : Gx.Env) (s1 : Store), mSq a (mSq b c) E s = some (.nx, E1, s1) → mSq a (mSq b (mSq c x)) E s = x E1 s1 := by
    intro a b c x E s E1 s1 hh
    simp only [ev_mSq] at hh ⊢
    cases ha : a E s with
    | none => rw [ha] at hh; cases hh
    | some p =>
      obtain ⟨f, E2, s2⟩ := p
      rw [ha] at hh
      cases f <;> simp at hh ⊢
      cases hb : b E2 s2 with
      | none => rw [hb] at hh; cases hh
      | some p =>
        obtain ⟨f, E3, s3⟩ := p
        rw [hb] at hh
        cases f <;> simp at hh ⊢
        rw [hh]
        rfl
  rw [assoc _ _ _ _ _ _ _ _ e8]
  exact e9
end Law

set_option maxHeartbeats 4000000
namespace Law
open PySem L2 Gx
theorem copy_non (st : Store) : F_copied [.non] st = some (.non, st) := by
  have kd : KdOk st .non := trivial
  have il := fun env => isi_eq (env := env) kd "list" (by simp)
  have it := fun env => isi_eq (env := env) kd "tuple" (by simp)
  have id' := fun env => isi_eq (env := env) kd "dict" (by simp)
  show f_copied (FC 7) [.non] st = _
  unfold f_copied
  simp [b_copied, i_copied_1, i_copied_2, i_copied_3, il, it, id', kdS]
/-- a value whose plain form is that of an empty list -/
theorem ok_empty {st : Store} {k : Nat} {P : Nat → Prop} {d : D} (h : Ok st k P d (.lst [.str "list"])) : ∃ n, d = .ref n ∧ st[n]? = some (.lst []) := by
  cases k with
  | zero => exact h.elim
  | succ k =>
    cases d with
    | tup ds =>
      obtain ⟨_, rs, e, _⟩ := h
      injection e with e
      injection e with e _
      injection e with e
      exact absurd e (by decide +kernel)
    | ref n =>
      obtain ⟨_, ⟨ds, rs, h1, h2, e, h4⟩ | ⟨kvs, rs, h1, h2, h3, h4, e, h6⟩⟩ := h
      · injection e with e
        injection e with _ e
        subst e
        cases ds with
        | nil => exact ⟨n, rfl, h1⟩
        | cons _ _ => exact h4.elim
      · injection e with e
        injection e with e _
        injection e with e
        exact absurd e (by decide +kernel)
    | _ =>
      obtain ⟨_, e⟩ := h
      injection e with e
      injection e with _ e
      cases e
theorem law_true (ns : List Int) (hl : ns.length ≤ 63) (hb : ∀ z ∈ ns, PySem.Builtin.Int.intBits z ≤ 1048576) : ∃ st, f_law [.lst (ns.map .int)] [] = some (.bl true, st) := by
  rw [cut_it]
  have e0 : SO.lst [D.lst (dI ns), D.int 0, D.int 0, D.int 11] = tpO ns ⟨0, 0, 11⟩ := rfl
  have hmk : mMake "Disk" f_Disk___init__ mNil [.val (.lst (dI ns)), .val (.ref 0), .none, .none, .none, .none, .none, .none, .none, .none, .none] [tpO ns ⟨0, 0, 11⟩] = some (.d (.ref 1), [tpO ns ⟨0, 0, 11⟩, diskO .non 2, .lst []]) := by
    simp [f_Disk___init__, b_Disk___init__]
    rfl
  generalize hS : ([tpO ns ⟨0, 0, 11⟩, diskO .non 2, .lst []] : Store) = S at hmk
  have hp0 : F__law_plain [.non] S = some (.lst [.str "value", .non, .bl false], S) := plain_at rfl
  have J0 : Jd ns (fun m => m ≤ 2) S (.lst [.str "value", .non, .bl false]) [] := by
    rw [← hS]
    exact ⟨⟨⟨0, 0, 11⟩, .non, 2, [], fun _ => False, fun _ => False, rfl, rfl, rfl, by omega, by omega, by omega, by omega, fun m q => q.elim, fun m q => q.elim, ok_atom (k := 3) rfl, trivial⟩, fun m q => by simp; omega, (pd_at pd_non).mono (by omega), by simp⟩
  have hd1 : S[1]? = some (diskO .non 2) := by rw [← hS]; rfl
  have htold : f_Disk_saved [.ref 1] S = some (.non, S) := by
    simp [f_Disk_saved, b_Disk_saved, hd1, copy_non]
  obtain ⟨d1, ex1, er, J1, o1⟩ := J0.entries (by simp)
  obtain ⟨Q1, oo1, _⟩ := o1
  obtain ⟨n1, rfl, hn1⟩ := ok_empty oo1
  have hcmp := fun env => ev_eqV (neg := true) (env := env) (st := S ++ ex1) (vw_ref (xs := []) hn1 rfl) (vw_ok (x := .lst []) rfl) (by simp) (by simp)
  obtain ⟨v, t, hv, hn, J2⟩ := J1.next 40 (by omega) (by omega)
  have hn' : f__law_next [.ref 0, .int 40] (S ++ ex1) = some (.int v, Wt ns (S ++ ex1) t) := hn
  generalize hS2 : Wt ns (S ++ ex1) t = S2 at J2 hn'
  have hsum : ∃ m : Nat, (1 : Int) + (v : Int) = (m : Int) ∧ m ≤ 40 := ⟨1 + v, by omega, by omega⟩
  obtain ⟨m, hm, hm40⟩ := hsum
  obtain ⟨env', st', hfor, hI⟩ := for_rng (m := mAdd (mC (.int 1)) (mCall f__law_next (mCons (mVar 1) (mCons (mC (.int 40)) mNil)))) (g := gN 5) (body := b_law_1) (env := Ev (.lst (dI ns)) (.lst [.str "value", .non, .bl false]) [] .none .none .none .none .none .none) (st := S ++ ex1) (st1 := S2) (n := m)
    (fun k env st => ∃ F saved ents b5 b6 b7 b8 b9 b10, env = Ev (.lst (dI ns)) saved ents b5 b6 b7 b8 b9 b10 ∧ Jd ns F st saved ents ∧ ents.length ≤ k) (by unfold Ev; simp [hn', hm]) (by omega)
    (by exact ⟨_, _, [], _, _, _, _, _, _, rfl, J2, by simp⟩)
    (by
      rintro k env st hk ⟨F, saved, ents, b5, b6, b7, b8, b9, b10, rfl, J, hl⟩
      obtain ⟨st', F', saved', ents', c6, c7, c8, c9, c10, e, J', hl'⟩ := turn_run (sc := .lst (dI ns)) (a6 := b6) (a7 := b7) (a8 := b8) (a9 := b9) (a10 := b10) J hl (by omega)
      exact ⟨Ev (.lst (dI ns)) saved ents (.val (.int k)) b6 b7 b8 b9 b10, rfl, .nx, _, st', e, .inl rfl, F', saved', ents', _, _, _, _, _, _, rfl, J', hl'⟩)
  obtain ⟨F, saved, ents, b5, b6, b7, b8, b9, b10, rfl, J, hle⟩ := hI
  obtain ⟨dk, lg, g1⟩ := J.one
  obtain ⟨d2, ex2, e2, J2', o2⟩ := J.told
  have p2 := own_plain (by omega) o2
  obtain ⟨dk3, lg3, g3⟩ := J2'.one
  obtain ⟨d3, ex3, e3, J3, o3⟩ := J2'.entries (by omega)
  have p3 := own_plain (by omega) o3
  have q2 := fun env => pd_same (neg := false) (env := env) (st := st' ++ ex2) (J2'.pk.mono (show 20 ≤ 60 by omega))
  have q3 := fun env => pd_same (neg := false) (env := env) (st := st' ++ ex2 ++ ex3) (pd_rows2 J3.pe)
  have hz : 1 + ents.length ≤ 16000000 := by omega
  have hfor' : l_law_1 [.val (.lst (dI ns)), .val (.ref 0), .val (.ref 1), .val (.lst [.str "value", .non, .bl false]), .own (.lst []), .none, .none, .none, .none, .none, .none] (S ++ ex1) = some (.nx, [.val (.lst (dI ns)), .val (.ref 0), .val (.ref 1), .val saved, .own (.lst ents), b5, b6, b7, b8, b9, b10], st') := hfor
  refine ⟨st' ++ ex2 ++ ex3, ?_⟩
  have k1 : mSet 1 (mAlloc (mFLst (mCons (mFrz (m1F (mVar 0) f1List)) (mCons (mC (.int 0)) (mCons (mC (.int 0)) (mCons (mC (.int 11)) mNil)))))) [.val (.lst (dI ns)), .none, .none, .none, .none, .none, .none, .none, .none, .none, .none] [] = some (.nx, [.val (.lst (dI ns)), .val (.ref 0), .none, .none, .none, .none, .none, .none, .none, .none, .none], [tpO ns ⟨0, 0, 11⟩]) := by
    simp [e0, dOf]
  have k2 : mSet 2 (mMake "Disk" f_Disk___init__ mNil) [.val (.lst (dI ns)), .val (.ref 0), .none, .none, .none, .none, .none, .none, .none, .none, .none] [tpO ns ⟨0, 0, 11⟩] = some (.nx, [.val (.lst (dI ns)), .val (.ref 0), .val (.ref 1), .none, .none, .none, .none, .none, .none, .none, .none], S) := by
    rw [ev_mSet, hmk]
    rfl
  unfold f_law
  rw [ev_mFn]
  show fin (b_law [.val (.lst (dI ns)), .none, .none, .none, .none, .none, .none, .none, .none, .none, .none] []) = _
  unfold b_law
  rw [sq_step k1, sq_step k2]
  simp [hp0, i_law_1, hd1, htold, er, hcmp, hfor', g1, e2, p2, q2, g3, e3, p3, q3, hz, dOf, -List.append_assoc]
end Law

theorem Law.walk {l : PySem.W.OpenLaw} {q : PySem.Program} {loose : List PySem.Str} {XP : (PySem.Str → Option PySem.Value) → PySem.Heap → Prop} {YP : PySem.World → PySem.Heap → Prop} {d : PySem.DefRec} {K : PySem.Params → PySem.W.Frag} (hn : l.most = some 63) (hdf : d.params.defaults = [])
    (hY : ∀ (w : PySem.World) (h : PySem.Heap), YP w h → (K w.params).In h)
    (F : ∀ (w : PySem.World) (mg : PySem.Str → Option PySem.Value) (fa : PySem.Addr) (h : PySem.Heap), (K w.params).In h → h.Ns PySem.mainGlobals mg → mg d.name = some (.ref fa) →
      ∃ fd : PySem.FuncData, (∀ (s : PySem.Shared) (u : PySem.Value), PySem.BindsTo s fd ⟨[u], []⟩ [("_law_script", u)]) ∧ ∀ base : PySem.Heap, (K w.params).In base → base.Ns PySem.mainGlobals mg → L2.FnOk l.prog w (K w.params) mg base L2.CX0 14 fa fd ["_law_script"] (Gx.spM ⟨K w.params, w⟩ 1 Law.f_law)) :
    PySem.W.WalkO q loose XP YP l.row.toRowW d [] (fun f vs => PySem.call f vs) :=
  L2.walk_ofB (n := 63) (k := 14) (x := "_law_script") (CX := fun _ => L2.CX0) (sp := fun w => Gx.spM ⟨K w.params, w⟩ 1 Law.f_law) hn (by decide) hdf ⟨rfl, by decide, by decide⟩ hY F (fun w H a ns hl hb _ hS => Gx.law_sp hS (Law.law_true ns hl hb)) fun _ _ _ _ _ z => z
open PySem PySem.W PyProof.Rows in
set_option maxRecDepth 100000 in
set_option maxHeartbeats 0 in
theorem PySem.Challenge.cw_commonage_k29_disks_holds : PySem.Challenge.rw_commonage_k29_disks.Holds := by
  w_on; o_law; k_head; (case hw => w_witness2)
  k_fill
  refine Law.walk (l := PySem.Challenge.rw_commonage_k29_disks) rfl rfl (fun w h Y => PySem.W.kIn_of Y) ?F
  case F =>
    intro w mg fa h KX G hmg
    refine' Law.all_mk KX G hmg ?q_Disk ?pg_Disk ?hd_Disk ?po_Disk ?sa_Disk ?mk_Disk ?kc_Disk ?no_Disk_kept ?no_Disk_log ?a0 ?l0 ?c0 ?k0 ?i0 ?a1 ?l1 ?c1 ?k1 ?a2 ?l2 ?c2 ?k2 ?a3 ?l3 ?c3 ?k3 ?i3 ?a4 ?l4 ?c4 ?k4 ?i4 ?a5 ?l5 ?c5 ?k5 ?a6 ?l6 ?c6 ?k6 ?a7 ?l7 ?c7 ?k7 ?i7 ?a8 ?l8 ?c8 ?k8 ?i8 ?a9 ?l9 ?c9 ?k9 ?a10 ?l10 ?c10 ?k10 ?z_list ?z_range ?z_isinstance ?z_dict ?z_tuple ?z_len ?z_int ?z_abs ?z_bool
    (case q_Disk => k_is)
    (case pg_Disk => k_is)
    (case hd_Disk => k_is)
    (case po_Disk => k_is)
    (case sa_Disk => k_is)
    (case mk_Disk => k_is)
    (case kc_Disk => k_is)
    (case no_Disk_kept => k_is)
    (case no_Disk_log => k_is)
    (case a0 => k_is)
    (case l0 => k_is)
    (case c0 => k_is)
    (case k0 => k_is)
    (case i0 => k_is)
    (case a1 => k_is)
    (case l1 => k_is)
    (case c1 => k_is)
    (case k1 => k_is)
    (case a2 => k_is)
    (case l2 => k_is)
    (case c2 => k_is)
    (case k2 => k_is)
    (case a3 => k_is)
    (case l3 => k_is)
    (case c3 => k_is)
    (case k3 => k_is)
    (case i3 => k_is)
    (case a4 => k_is)
    (case l4 => k_is)
    (case c4 => k_is)
    (case k4 => k_is)
    (case i4 => k_is)
    (case a5 => k_is)
    (case l5 => k_is)
    (case c5 => k_is)
    (case k5 => k_is)
    (case a6 => k_is)
    (case l6 => k_is)
    (case c6 => k_is)
    (case k6 => k_is)
    (case a7 => k_is)
    (case l7 => k_is)
    (case c7 => k_is)
    (case k7 => k_is)
    (case i7 => k_is)
    (case a8 => k_is)
    (case l8 => k_is)
    (case c8 => k_is)
    (case k8 => k_is)
    (case i8 => k_is)
    (case a9 => k_is)
    (case l9 => k_is)
    (case c9 => k_is)
    (case k9 => k_is)
    (case a10 => k_is)
    (case l10 => k_is)
    (case c10 => k_is)
    (case k10 => k_is)
    (case z_list => k_is)
    (case z_range => k_is)
    (case z_isinstance => k_is)
    (case z_dict => k_is)
    (case z_tuple => k_is)
    (case z_len => k_is)
    (case z_int => k_is)
    (case z_abs => k_is)
    (case z_bool => k_is)
