import PyProof.Rows.All
import Wide.All
import OpenK.AllK
import Wide.FinOn
import HandS.ForMost
import HandS.TupMul
import HandS.TupAny
import HandS.IsInst
import HandS.Wide
import HandS.Conv
import HandS.Flow
import HandS.EndBits
import HandS.EndTab
import HandS.SortInts
import HandS.Deep
import HandS.TupLe
import HandS.DictComp
import HandS.Style
import HandS.More
import HandS.WideBits
import KE.SortData
import KE.OsSort
import HandS.TupSets
import KE.KDictPairs
import KE.KDictCopyH
import HandS.DictTup
import HandS.SetFor
import HandS.Strs
import PyProof.Rows.SetFrom
import KE.SortKeyHeap
import HandS.SortKw
import HandS.Nested
import KE.KNestM
import KE.KEqNest
import KE.DataCmp
import PySem.Challenge.RW_commonage_k09_whole_fresh_copies_have_wh
set_option Elab.async false
set_option linter.all false
set_option maxRecDepth 100000
/-! Gx: a deterministic semantics over data and a store, sound over the hand layer. -/
namespace Gx
open PySem L2

/-! ### data -/
inductive D where
  | non | bl (b : Bool) | int (i : Int) | str (x : Str) | ty (n : String)
  | tup (xs : List D) | lst (xs : List D)
  | dct (ks : List Key) (vs : List D)
  | dtt (ks : List (List Key)) (vs : List D)
  | ref (n : Nat)
  | fn (a : Addr)
  deriving Inhabited

mutual
def D.eqb : D → D → Bool
  | .non, .non => true
  | .bl a, .bl b => a == b
  | .int a, .int b => a == b
  | .str a, .str b => decide (a = b)
  | .ty a, .ty b => a == b
  | .tup a, .tup b => D.eqbs a b
  | .lst a, .lst b => D.eqbs a b
  | .dct k a, .dct l b => decide (k = l) && D.eqbs a b
  | .dtt k a, .dtt l b => decide (k = l) && D.eqbs a b
  | .ref a, .ref b => a == b
  | .fn a, .fn b => a == b
  | _, _ => false
def D.eqbs : List D → List D → Bool
  | [], [] => true
  | a :: as, b :: bs => D.eqb a b && D.eqbs as bs
  | _, _ => false
end
mutual
theorem D.eqb_eq : ∀ (a b : D), D.eqb a b = true → a = b
  | .non, b, h => by cases b <;> simp_all [D.eqb]
  | .bl _, b, h => by cases b <;> simp_all [D.eqb]
  | .int _, b, h => by cases b <;> simp_all [D.eqb]
  | .str _, b, h => by cases b <;> simp_all [D.eqb]
  | .ty _, b, h => by cases b <;> simp_all [D.eqb]
  | .tup xs, b, h => by cases b <;> simp only [D.eqb, Bool.false_eq_true] at h; rw [D.eqbs_eq _ _ h]
  | .lst xs, b, h => by cases b <;> simp only [D.eqb, Bool.false_eq_true] at h; rw [D.eqbs_eq _ _ h]
  | .dct k xs, b, h => by cases b <;> simp only [D.eqb, Bool.false_eq_true, Bool.and_eq_true, decide_eq_true_eq] at h; rw [h.1, D.eqbs_eq _ _ h.2]
  | .dtt k xs, b, h => by cases b <;> simp only [D.eqb, Bool.false_eq_true, Bool.and_eq_true, decide_eq_true_eq] at h; rw [h.1, D.eqbs_eq _ _ h.2]
  | .ref _, b, h => by cases b <;> simp_all [D.eqb]
  | .fn _, b, h => by cases b <;> simp_all [D.eqb]
theorem D.eqbs_eq : ∀ (a b : List D), D.eqbs a b = true → a = b
  | [], b, h => by cases b <;> simp_all [D.eqbs]
  | a :: as, b, h => by
    cases b with
    | nil => simp [D.eqbs] at h
    | cons b bs =>
      simp only [D.eqbs, Bool.and_eq_true] at h
      rw [D.eqb_eq _ _ h.1, D.eqbs_eq _ _ h.2]
end
mutual
theorem D.eqb_refl : ∀ (a : D), D.eqb a a = true
  | .non => by simp [D.eqb]
  | .bl _ => by simp [D.eqb]
  | .int _ => by simp [D.eqb]
  | .str _ => by simp [D.eqb]
  | .ty _ => by simp [D.eqb]
  | .tup xs => by simp [D.eqb, D.eqbs_refl xs]
  | .lst xs => by simp [D.eqb, D.eqbs_refl xs]
  | .dct k xs => by simp [D.eqb, D.eqbs_refl xs]
  | .dtt k xs => by simp [D.eqb, D.eqbs_refl xs]
  | .ref _ => by simp [D.eqb]
  | .fn _ => by simp [D.eqb]
theorem D.eqbs_refl : ∀ (a : List D), D.eqbs a a = true
  | [] => by simp [D.eqbs]
  | a :: as => by simp [D.eqbs, D.eqb_refl a, D.eqbs_refl as]
end
instance : DecidableEq D := fun a b => if h : D.eqb a b = true then isTrue (D.eqb_eq a b h) else isFalse (fun e => h (e ▸ D.eqb_refl a))

/-- a mutable object -/
inductive SO where
  | lst (xs : List D)
  | tup (xs : List D)
  | dK (kvs : List (Key × D))
  | dT (kvs : List (List Key × D))
  | ins (C : Addr) (fs : List (Str × D))
  | tab (n : Nat) (P : Addr) (q : Str)
  | dF (kvs : List (Key × D))
  deriving Inhabited, DecidableEq
abbrev Store := List SO
/-- a local slot -/
inductive Slot where
  | none
  | val (d : D)
  | own (o : SO)
  deriving Inhabited, DecidableEq
abbrev Env := List Slot
/-- an expression's answer: data, or the object that a local slot owns -/
inductive R where
  | d (d : D)
  | loc (i : Nat)
  deriving Inhabited, DecidableEq

/-! ### what represents what -/
section
variable (K : PySem.W.Frag) (F : Hp) (μ : List Addr)
mutual
def Rep : D → V → Prop
  | .non, v => v = .non
  | .bl b, v => v = .bl b
  | .int i, v => v = .int i
  | .str x, v => v = .str x
  | .ty n, v => v = .ty n
  | .tup ds, v => ∃ a vs, v = .ref a ∧ SqT K F a vs ∧ Reps ds vs
  | .lst ds, v => ∃ a vs, v = .ref a ∧ SqL K F a vs ∧ Reps ds vs
  | .dct ks ds, v => ∃ a vs, v = .ref a ∧ Rd F a (.dK (ks.zip vs)) ∧ ks.length = ds.length ∧ Reps ds vs
  | .dtt ks ds, v => ∃ a vs, v = .ref a ∧ Rd F a (.dT (ks.zip vs)) ∧ ks.length = ds.length ∧ Reps ds vs
  | .ref n, v => ∃ a, v = .ref a ∧ μ[n]? = some a
  | .fn a, v => v = .ref a
def Reps : List D → List V → Prop
  | [], [] => True
  | d :: ds, v :: vs => Rep d v ∧ Reps ds vs
  | [], _ :: _ => False
  | _ :: _, [] => False
end
def RepKV {κ : Type} : List (κ × D) → List (κ × V) → Prop
  | [], [] => True
  | p :: ps, q :: qs => p.1 = q.1 ∧ Rep K F μ p.2 q.2 ∧ RepKV ps qs
  | [], _ :: _ => False
  | _ :: _, [] => False
def SORep : SO → HO → Prop
  | .lst ds, .lst vs => Reps K F μ ds vs
  | .tup ds, .tup vs => Reps K F μ ds vs
  | .dK ps, .dK qs => RepKV K F μ ps qs
  | .dT ps, .dT qs => RepKV K F μ ps qs
  | .ins C ps, .ins C' _ qs => C = C' ∧ RepKV K F μ ps qs
  | .tab n P q, .tbl ps => μ[n]? = some P ∧ TriplesOk ps.toList ∧ ∀ (pos : Pos) (cv : Value), codeAmong pos ps.toList = some cv → ∃ c, cv = .ref c ∧ F c = some (LamX.CodeO c q)
  | .dF ps, .frz _ u => match u with | .dK qs => RepKV K F μ ps qs | _ => False
  | _, _ => False
end
section
variable {K : PySem.W.Frag} {F F' : Hp} {μ μ' : List Addr}
theorem Rd.mono (h : ∀ a o, F a = some o → F' a = some o) {a : Addr} {u : HO} (r : Rd F a u) : Rd F' a u := by
  rcases r with r | ⟨o, r⟩
  · exact .inl (h _ _ r)
  · exact .inr ⟨o, h _ _ r⟩
theorem SqL.mono (h : ∀ a o, F a = some o → F' a = some o) {a : Addr} {xs : List V} (r : SqL K F a xs) : SqL K F' a xs := by
  rcases r with r | r
  · exact .inl (Rd.mono h r)
  · exact .inr r
theorem SqT.mono (h : ∀ a o, F a = some o → F' a = some o) {a : Addr} {xs : List V} (r : SqT K F a xs) : SqT K F' a xs := by
  rcases r with r | r
  · exact .inl (Rd.mono h r)
  · exact .inr r
mutual
theorem Rep.mono (h : ∀ a o, F a = some o → F' a = some o) (g : ∀ (n : Nat) (a : Addr), μ[n]? = some a → μ'[n]? = some a) : ∀ (d : D) (v : V), Rep K F μ d v → Rep K F' μ' d v
  | .non, v, r => r
  | .bl b, v, r => r
  | .int i, v, r => r
  | .str x, v, r => r
  | .ty n, v, r => r
  | .tup ds, v, r => by
    obtain ⟨a, vs, e, s, q⟩ := r
    exact ⟨a, vs, e, SqT.mono h s, Reps.mono h g ds vs q⟩
  | .lst ds, v, r => by
    obtain ⟨a, vs, e, s, q⟩ := r
    exact ⟨a, vs, e, SqL.mono h s, Reps.mono h g ds vs q⟩
  | .dct ks ds, v, r => by
    obtain ⟨a, vs, e, s, l, q⟩ := r
    exact ⟨a, vs, e, Rd.mono h s, l, Reps.mono h g ds vs q⟩
  | .dtt ks ds, v, r => by
    obtain ⟨a, vs, e, s, l, q⟩ := r
    exact ⟨a, vs, e, Rd.mono h s, l, Reps.mono h g ds vs q⟩
  | .ref n, v, r => by
    obtain ⟨a, e, q⟩ := r
    exact ⟨a, e, g _ _ q⟩
  | .fn a, v, r => r
theorem Reps.mono (h : ∀ a o, F a = some o → F' a = some o) (g : ∀ (n : Nat) (a : Addr), μ[n]? = some a → μ'[n]? = some a) : ∀ (ds : List D) (vs : List V), Reps K F μ ds vs → Reps K F' μ' ds vs
  | [], [], _ => trivial
  | d :: ds, v :: vs, r => ⟨Rep.mono h g d v r.1, Reps.mono h g ds vs r.2⟩
  | [], _ :: _, r => r.elim
  | _ :: _, [], r => r.elim
end
theorem RepKV.mono {κ : Type} (h : ∀ a o, F a = some o → F' a = some o) (g : ∀ (n : Nat) (a : Addr), μ[n]? = some a → μ'[n]? = some a) : ∀ (ps : List (κ × D)) (qs : List (κ × V)), RepKV K F μ ps qs → RepKV K F' μ' ps qs
  | [], [], _ => trivial
  | p :: ps, q :: qs, r => ⟨r.1, Rep.mono h g _ _ r.2.1, RepKV.mono h g ps qs r.2.2⟩
  | [], _ :: _, r => r.elim
  | _ :: _, [], r => r.elim
theorem SORep.mono (h : ∀ a o, F a = some o → F' a = some o) (g : ∀ (n : Nat) (a : Addr), μ[n]? = some a → μ'[n]? = some a) (so : SO) (o : HO) (r : SORep K F μ so o) : SORep K F' μ' so o := by
  cases so <;> cases o <;> first | exact r.elim | exact Reps.mono h g _ _ r | exact RepKV.mono h g _ _ r | exact ⟨r.1, RepKV.mono h g _ _ r.2⟩ | exact ⟨g _ _ r.1, r.2.1, fun pos cv hc => let ⟨c, e, q⟩ := r.2.2 pos cv hc; ⟨c, e, h _ _ q⟩⟩ | (rename_i u; cases u <;> first | exact r.elim | exact RepKV.mono h g _ _ r)
theorem Reps.length : ∀ {ds : List D} {vs : List V}, Reps K F μ ds vs → ds.length = vs.length
  | [], [], _ => rfl
  | d :: ds, v :: vs, r => by simp [Reps.length r.2]
  | [], _ :: _, r => r.elim
  | _ :: _, [], r => r.elim
theorem Reps.append : ∀ {ds es : List D} {vs ws : List V}, Reps K F μ ds vs → Reps K F μ es ws → Reps K F μ (ds ++ es) (vs ++ ws)
  | [], _, [], _, _, s => s
  | d :: ds, _, v :: vs, _, r, s => ⟨r.1, Reps.append r.2 s⟩
  | [], _, _ :: _, _, r, _ => r.elim
  | _ :: _, _, [], _, r, _ => r.elim
theorem Reps.get : ∀ {ds : List D} {vs : List V} {i : Nat} {d : D}, Reps K F μ ds vs → ds[i]? = some d → ∃ v, vs[i]? = some v ∧ Rep K F μ d v
  | [], [], _, _, _, e => by simp at e
  | d :: ds, v :: vs, 0, _, r, e => by simp at e; subst e; exact ⟨v, rfl, r.1⟩
  | d :: ds, v :: vs, i + 1, _, r, e => by
    obtain ⟨w, h1, h2⟩ := Reps.get (i := i) r.2 (by simpa using e)
    exact ⟨w, by simpa using h1, h2⟩
  | [], _ :: _, _, _, r, _ => r.elim
  | _ :: _, [], _, _, r, _ => r.elim
theorem Reps.get' : ∀ {ds : List D} {vs : List V} {i : Nat} {v : V}, Reps K F μ ds vs → vs[i]? = some v → ∃ d, ds[i]? = some d ∧ Rep K F μ d v
  | [], [], _, _, _, e => by simp at e
  | d :: ds, v :: vs, 0, _, r, e => by simp at e; subst e; exact ⟨d, rfl, r.1⟩
  | d :: ds, v :: vs, i + 1, _, r, e => by
    obtain ⟨w, h1, h2⟩ := Reps.get' (i := i) r.2 (by simpa using e)
    exact ⟨w, by simpa using h1, h2⟩
  | [], _ :: _, _, _, r, _ => r.elim
  | _ :: _, [], _, _, r, _ => r.elim
theorem Reps.set {d : D} {v : V} (h : Rep K F μ d v) : ∀ {ds : List D} {vs : List V} (i : Nat), Reps K F μ ds vs → Reps K F μ (ds.set i d) (vs.set i v)
  | [], [], _, _ => trivial
  | _ :: _, _ :: _, 0, r => ⟨h, r.2⟩
  | _ :: _, _ :: _, i + 1, r => ⟨r.1, Reps.set h i r.2⟩
  | [], _ :: _, _, r => r.elim
  | _ :: _, [], _, r => r.elim
theorem Reps.take : ∀ {ds : List D} {vs : List V} (n : Nat), Reps K F μ ds vs → Reps K F μ (ds.take n) (vs.take n)
  | [], [], n, _ => by simp [Reps]
  | _ :: _, _ :: _, 0, r => trivial
  | _ :: _, _ :: _, n + 1, r => ⟨r.1, Reps.take n r.2⟩
  | [], _ :: _, _, r => r.elim
  | _ :: _, [], _, r => r.elim
theorem Reps.drop : ∀ {ds : List D} {vs : List V} (n : Nat), Reps K F μ ds vs → Reps K F μ (ds.drop n) (vs.drop n)
  | [], [], n, _ => by simp [Reps]
  | _ :: _, _ :: _, 0, r => r
  | _ :: _, _ :: _, n + 1, r => Reps.drop n r.2
  | [], _ :: _, _, r => r.elim
  | _ :: _, [], _, r => r.elim
theorem Reps.ints : ∀ {ns : List Int} {vs : List V}, Reps K F μ (ns.map D.int) vs → vs = ns.map V.int
  | [], [], _ => rfl
  | n :: ns, v :: vs, r => by
    have e : v = .int n := r.1
    rw [e, Reps.ints (ns := ns) r.2]; rfl
  | [], _ :: _, r => r.elim
  | _ :: _, [], r => r.elim
theorem Reps.of_ints : ∀ (ns : List Int), Reps K F μ (ns.map D.int) (ns.map V.int)
  | [] => trivial
  | n :: ns => ⟨rfl, Reps.of_ints ns⟩
theorem Reps.bls : ∀ {bs : List Bool} {vs : List V}, Reps K F μ (bs.map D.bl) vs → vs = bs.map V.bl
  | [], [], _ => rfl
  | n :: ns, v :: vs, r => by
    have e : v = .bl n := r.1
    rw [e, Reps.bls (bs := ns) r.2]; rfl
  | [], _ :: _, r => r.elim
  | _ :: _, [], r => r.elim
end

/-! ### worlds -/
structure Wd (K : PySem.W.Frag) (F : Hp) (μ : List Addr) (H : Hp) (st : Store) : Prop where
  sub : ∀ a o, F a = some o → H a = some o
  len : μ.length = st.length
  nd : μ.Nodup
  nf : ∀ a ∈ μ, F a = none
  obj : ∀ (n : Nat) (so : SO) (a : Addr), st[n]? = some so → μ[n]? = some a → ∃ o, H a = some o ∧ SORep K F μ so o
structure Stp (F : Hp) (μ : List Addr) (H : Hp) (F' : Hp) (μ' : List Addr) (H' : Hp) : Prop where
  fF : ∀ a o, F a = some o → F' a = some o
  fm : ∃ ex, μ' = μ ++ ex ∧ ∀ a ∈ ex, H a = none
  frame : ∀ a o, H a = some o → a ∉ μ → H' a = some o
  live : ∀ a, H a ≠ none → H' a ≠ none
  newF : ∀ a, F' a ≠ none → F a ≠ none ∨ H a = none
  frz : ∀ a od u, H a = some (.frz od u) → H' a = some (.frz od u)
section
variable {K : PySem.W.Frag} {F F1 F2 : Hp} {μ μ1 μ2 : List Addr} {H H1 H2 : Hp} {st : Store}
theorem Stp.refl : Stp F μ H F μ H := ⟨fun _ _ h => h, ⟨[], by simp, by simp⟩, fun _ _ h _ => h, fun _ h => h, fun _ h => .inl h, fun _ _ _ h => h⟩
theorem Stp.trans (a : Stp F μ H F1 μ1 H1) (b : Stp F1 μ1 H1 F2 μ2 H2) : Stp F μ H F2 μ2 H2 := by
  obtain ⟨e1, h1, n1⟩ := a.fm
  obtain ⟨e2, h2, n2⟩ := b.fm
  refine ⟨fun x o h => b.fF x o (a.fF x o h), ⟨e1 ++ e2, by rw [h2, h1, List.append_assoc], fun x hx => ?_⟩, fun x o h hn => ?_, fun x h => b.live x (a.live x h), fun x h => ?_, fun x od u h => b.frz x od u (a.frz x od u h)⟩
  · rcases List.mem_append.mp hx with q | q
    · exact n1 x q
    · exact Classical.byContradiction fun c => a.live x c (n2 x q)
  · refine b.frame x o (a.frame x o h hn) fun q => ?_
    rw [h1] at q
    rcases List.mem_append.mp q with q | q
    · exact hn q
    · rw [n1 x q] at h; cases h
  · rcases b.newF x h with q | q
    · exact a.newF x q
    · exact .inr (Classical.byContradiction fun c => a.live x c q)
theorem Stp.pre (a : Stp F μ H F1 μ1 H1) : ∀ (n : Nat) (x : Addr), μ[n]? = some x → μ1[n]? = some x := fun n x h => by
  obtain ⟨e1, h1, _⟩ := a.fm
  rw [h1, List.getElem?_append_left (List.getElem?_eq_some_iff.mp h).1]
  exact h
theorem Stp.rep (a : Stp F μ H F1 μ1 H1) {d : D} {v : V} (r : Rep K F μ d v) : Rep K F1 μ1 d v := Rep.mono a.fF a.pre d v r
theorem Stp.reps (a : Stp F μ H F1 μ1 H1) {d : List D} {v : List V} (r : Reps K F μ d v) : Reps K F1 μ1 d v := Reps.mono a.fF a.pre d v r
end

/-! ### local slots -/
def ownAt (env : Env) (σ : L2.St) (i : Nat) (a : Addr) : Prop := ∃ so, env[i]? = some (.own so) ∧ σ[i]? = some (some (.ref a))
def SlotOk (K : PySem.W.Frag) (F : Hp) (μ : List Addr) (H : Hp) : Slot → Option V → Prop
  | .none, _ => True
  | .val d, o => ∃ v, o = some v ∧ Rep K F μ d v
  | .own so, o => ∃ a u, o = some (.ref a) ∧ F a = none ∧ a ∉ μ ∧ H a = some u ∧ SORep K F μ so u
structure EnvOk (K : PySem.W.Frag) (F : Hp) (μ : List Addr) (H : Hp) (env : Env) (σ : L2.St) : Prop where
  len : env.length = σ.length
  slot : ∀ (i : Nat) (s : Slot) (o : Option V), env[i]? = some s → σ[i]? = some o → SlotOk K F μ H s o
  sep : ∀ (i j : Nat) (a : Addr), i ≠ j → ownAt env σ i a → ownAt env σ j a → False
def RRep (K : PySem.W.Frag) (F : Hp) (μ : List Addr) (env : Env) (σ : L2.St) : R → V → Prop
  | .d d, v => Rep K F μ d v
  | .loc i, v => ∃ a, v = .ref a ∧ ownAt env σ i a
section
variable {K : PySem.W.Frag} {F F1 F2 : Hp} {μ μ1 μ2 : List Addr} {H H1 H2 : Hp} {st : Store} {env : Env} {σ : L2.St}
theorem SlotOk.step (a : Stp F μ H F1 μ1 H1) {s : Slot} {o : Option V} (h : SlotOk K F μ H s o) : SlotOk K F1 μ1 H1 s o := by
  cases s with
  | none => trivial
  | val d => obtain ⟨v, e, r⟩ := h; exact ⟨v, e, a.rep r⟩
  | own so =>
    obtain ⟨x, u, e, f, m, h1, r⟩ := h
    refine ⟨x, u, e, ?_, ?_, a.frame _ _ h1 m, SORep.mono a.fF a.pre _ _ r⟩
    · exact Classical.byContradiction fun c => by
        rcases a.newF x c with q | q
        · exact q f
        · rw [h1] at q; cases q
    · obtain ⟨ex, e1, n1⟩ := a.fm
      rw [e1]
      intro q
      rcases List.mem_append.mp q with q | q
      · exact m q
      · rw [n1 x q] at h1; cases h1
theorem EnvOk.step (a : Stp F μ H F1 μ1 H1) (h : EnvOk K F μ H env σ) : EnvOk K F1 μ1 H1 env σ := ⟨h.len, fun i s o e1 e2 => (h.slot i s o e1 e2).step a, h.sep⟩
theorem RRep.step (a : Stp F μ H F1 μ1 H1) {r : R} {v : V} (h : RRep K F μ env σ r v) : RRep K F1 μ1 env σ r v := by
  cases r with
  | d d => exact a.rep h
  | loc i => exact h
end

/-! ### expressions -/
abbrev ME := Env → Store → Option (R × Store)
abbrev MF := Env → Store → Option (SO × Store)
abbrev MT := Env → Store → Option (Bool × Store)
abbrev MA := Env → Store → Option (List D × Store)
def SimE (K : PySem.W.Frag) (te : TE) (m : ME) : Prop :=
  ∀ (σ : L2.St) (F : Hp) (μ : List Addr) (H : Hp) (env : Env) (st : Store) (r : R) (st' : Store) (Q : VK), Wd K F μ H st → EnvOk K F μ H env σ → m env st = some (r, st') →
    (∀ v F' μ' H', Wd K F' μ' H' st' → Stp F μ H F' μ' H' → RRep K F' μ' env σ r v → Q v H') → te σ H Q
/-- a fresh object -/
def SimF (K : PySem.W.Frag) (te : TE) (m : MF) : Prop :=
  ∀ (σ : L2.St) (F : Hp) (μ : List Addr) (H : Hp) (env : Env) (st : Store) (so : SO) (st' : Store) (Q : VK), Wd K F μ H st → EnvOk K F μ H env σ → m env st = some (so, st') →
    (∀ a u F' μ' H', Wd K F' μ' H' st' → Stp F μ H F' μ' H' → H a = none → F' a = none → a ∉ μ' → H' a = some u → SORep K F' μ' so u → Q (.ref a) H') → te σ H Q
def SimT (K : PySem.W.Frag) (te : TT) (m : MT) : Prop :=
  ∀ (σ : L2.St) (F : Hp) (μ : List Addr) (H : Hp) (env : Env) (st : Store) (b : Bool) (st' : Store) (Q : Bool → Hp → Prop), Wd K F μ H st → EnvOk K F μ H env σ → m env st = some (b, st') →
    (∀ F' μ' H', Wd K F' μ' H' st' → Stp F μ H F' μ' H' → Q b H') → te σ H Q
/-- arguments: all of them data -/
def SimA (K : PySem.W.Frag) (te : TA) (m : MA) : Prop :=
  ∀ (σ : L2.St) (F : Hp) (μ : List Addr) (H : Hp) (env : Env) (st : Store) (ds : List D) (st' : Store) (Q : List V → Hp → Prop), Wd K F μ H st → EnvOk K F μ H env σ → m env st = some (ds, st') →
    (∀ vs F' μ' H', Wd K F' μ' H' st' → Stp F μ H F' μ' H' → Reps K F' μ' ds vs → Q vs H') → te σ H Q
structure XE (X : Cx) (e : Expr) (m : ME) : Prop where
  h : ∃ te, PE X e te ∧ SimE X.K te m
structure XF (X : Cx) (e : Expr) (m : MF) : Prop where
  h : ∃ te, PE X e te ∧ SimF X.K te m
structure XT (X : Cx) (e : Expr) (m : MT) : Prop where
  h : ∃ te, PT X e te ∧ SimT X.K te m
structure XW (X : Cx) (e : Expr) (m : MT) : Prop where
  h : ∃ te, PW X e te ∧ SimT X.K te m
structure XA (X : Cx) (e : List Expr) (m : MA) : Prop where
  h : ∃ te, PA X e te ∧ SimA X.K te m
end Gx

set_option maxHeartbeats 1000000
namespace Gx
open PySem L2

/-! ### helpers -/
theorem PE.or {X : Cx} {e : Expr} {t u : TE} (a : PE X e t) (b : PE X e u) : PE X e (fun σ H Q => t σ H Q ∨ u σ H Q) :=
  ⟨fun pins s σ H Q I h => h.elim (a.run pins s σ H Q I) (b.run pins s σ H Q I)⟩
theorem OpR.or {X : Cx} {f : Value → Value → Sem Value} {r u : R2} (a : OpR X f r) (b : OpR X f u) : OpR X f (fun x y H Q => r x y H Q ∨ u x y H Q) :=
  fun pins s σ H x y v w Q I rx ry h => h.elim (a pins s σ H x y v w Q I rx ry) (b pins s σ H x y v w Q I rx ry)
theorem ne_mem {μ : List Addr} {a p : Addr} (h : a ∈ μ) (n : p ∉ μ) : a ≠ p := fun e => n (e ▸ h)
section
variable {K : PySem.W.Frag} {F F1 : Hp} {μ μ1 : List Addr} {H H1 : Hp} {st st1 : Store}
theorem Wd.upd_new (w : Wd K F μ H st) {p : Addr} {o : HO} (hp : H p = none) (hμ : p ∉ μ) : Wd K (upd F p o) μ (upd H p o) st := by
  have hF : F p = none := by
    cases e : F p with
    | none => rfl
    | some u => rw [w.sub _ _ e] at hp; cases hp
  refine ⟨fun a u e => ?_, w.len, w.nd, fun a ha => ?_, fun n so a e1 e2 => ?_⟩
  · by_cases h : a = p
    · subst h; rw [upd_same] at e ⊢; exact e
    · rw [upd_ne h] at e ⊢; exact w.sub _ _ e
  · rw [upd_ne (ne_mem ha hμ)]; exact w.nf a ha
  · obtain ⟨u, h1, h2⟩ := w.obj n so a e1 e2
    refine ⟨u, ?_, SORep.mono (fun b o' e => ?_) (fun _ _ e => e) _ _ h2⟩
    · rw [upd_ne (ne_mem (List.mem_of_getElem? e2) hμ)]; exact h1
    · rw [upd_ne (fun q => by subst q; rw [hF] at e; cases e)]; exact e
theorem Wd.out (w : Wd K F μ H st) {p : Addr} (hp : H p = none) : p ∉ μ := fun h => by
  obtain ⟨n, hn⟩ := List.getElem?_of_mem h
  have hl : n < st.length := by rw [← w.len]; exact (List.getElem?_eq_some_iff.mp hn).1
  obtain ⟨u, h1, _⟩ := w.obj n _ p (List.getElem?_eq_getElem hl) hn
  rw [hp] at h1; cases h1
theorem Wd.Fnone (w : Wd K F μ H st) {p : Addr} (hp : H p = none) : F p = none := by
  cases e : F p with
  | none => rfl
  | some u => rw [w.sub _ _ e] at hp; cases hp
theorem Wd.lay (w : Wd K F μ H st) {p : Addr} {o : HO} (hp : H p = none) : Wd K (upd F p o) μ (upd H p o) st := w.upd_new hp (w.out hp)
theorem Stp.lay {p : Addr} {o : HO} (hp : H p = none) (hF : F p = none) : Stp F μ H (upd F p o) μ (upd H p o) := by
  refine ⟨fun a u e => ?_, ⟨[], by simp, by simp⟩, fun a u e _ => ?_, fun a h => ?_, fun a h => ?_, fun a od u e => ?_⟩
  · rw [upd_ne (fun q => by subst q; rw [hF] at e; cases e)]; exact e
  · rw [upd_ne (fun q => by subst q; rw [hp] at e; cases e)]; exact e
  · by_cases q : a = p
    · subst q; exact absurd hp h
    · rw [upd_ne q]; exact h
  · by_cases q : a = p
    · subst q; exact .inr hp
    · rw [upd_ne q] at h; exact .inl h
  · rw [upd_ne (fun q => by subst q; rw [hp] at e; cases e)]; exact e
/-- a new object, left out of F -/
theorem Wd.lay0 (w : Wd K F μ H st) {p : Addr} {o : HO} (hp : H p = none) : Wd K F μ (upd H p o) st := by
  have hμ := w.out hp
  refine ⟨fun a u e => ?_, w.len, w.nd, w.nf, fun n so a e1 e2 => ?_⟩
  · rw [upd_ne (fun q => by subst q; rw [w.Fnone hp] at e; cases e)]; exact w.sub _ _ e
  · obtain ⟨u, h1, h2⟩ := w.obj n so a e1 e2
    exact ⟨u, by rw [upd_ne (ne_mem (List.mem_of_getElem? e2) hμ)]; exact h1, h2⟩
theorem Stp.lay0 {p : Addr} {o : HO} (hp : H p = none) : Stp F μ H F μ (upd H p o) := by
  refine ⟨fun a u e => e, ⟨[], by simp, by simp⟩, fun a u e _ => ?_, fun a h => ?_, fun a h => .inl h, fun a od u e => ?_⟩
  · rw [upd_ne (fun q => by subst q; rw [hp] at e; cases e)]; exact e
  · by_cases q : a = p
    · subst q; exact absurd hp h
    · rw [upd_ne q]; exact h
  · rw [upd_ne (fun q => by subst q; rw [hp] at e; cases e)]; exact e
/-- a tracked object that nobody owns becomes data -/
theorem Wd.freeze (w : Wd K F μ H st) {p : Addr} {o : HO} (hp : H p = some o) (hF : F p = none) (hμ : p ∉ μ) : Wd K (upd F p o) μ H st := by
  refine ⟨fun a u e => ?_, w.len, w.nd, fun a ha => ?_, fun n so a e1 e2 => ?_⟩
  · by_cases h : a = p
    · subst h; rw [upd_same] at e; cases e; exact hp
    · rw [upd_ne h] at e; exact w.sub _ _ e
  · rw [upd_ne (ne_mem ha hμ)]; exact w.nf a ha
  · obtain ⟨u, h1, h2⟩ := w.obj n so a e1 e2
    refine ⟨u, h1, SORep.mono (fun b o' e => ?_) (fun _ _ e => e) _ _ h2⟩
    rw [upd_ne (fun q => by subst q; rw [hF] at e; cases e)]; exact e
theorem Stp.freeze {F' H' : Hp} {μ' : List Addr} (a : Stp F μ H F' μ' H') {p : Addr} {o : HO} (h0 : H p = none) (hF : F' p = none) : Stp F μ H (upd F' p o) μ' H' := by
  refine ⟨fun b u e => ?_, a.fm, a.frame, a.live, fun b h => ?_, a.frz⟩
  · have q := a.fF b u e
    rw [upd_ne (fun z => by subst z; rw [hF] at q; cases q)]; exact q
  · by_cases q : b = p
    · subst q; exact .inr h0
    · rw [upd_ne q] at h; exact a.newF b h
theorem fresh_of (a : Stp F μ H F1 μ1 H1) {p : Addr} (h : H1 p = none) : H p = none := Classical.byContradiction fun c => a.live p c h
theorem pre_snoc (μ : List Addr) (p : Addr) : ∀ (n : Nat) (a : Addr), μ[n]? = some a → (μ ++ [p])[n]? = some a := fun n a e => by
  rw [List.getElem?_append_left (List.getElem?_eq_some_iff.mp e).1]; exact e
/-- .. becomes an object of the store -/
theorem Wd.alloc (w : Wd K F μ H st) {p : Addr} {o : HO} {so : SO} (hp : H p = some o) (hF : F p = none) (hμ : p ∉ μ) (r : SORep K F μ so o) : Wd K F (μ ++ [p]) H (st ++ [so]) := by
  refine ⟨w.sub, by simp [w.len], ?_, fun a ha => ?_, fun n so' a e1 e2 => ?_⟩
  · rw [List.nodup_append]
    refine ⟨w.nd, by simp, fun a ha b hb => ?_⟩
    simp at hb; subst hb
    exact fun e => hμ (e ▸ ha)
  · rcases List.mem_append.mp ha with h | h
    · exact w.nf a h
    · simp at h; subst h; exact hF
  · by_cases hn : n < st.length
    · rw [List.getElem?_append_left hn] at e1
      rw [List.getElem?_append_left (by rw [w.len]; exact hn)] at e2
      obtain ⟨u, h1, h2⟩ := w.obj n so' a e1 e2
      exact ⟨u, h1, SORep.mono (fun _ _ e => e) (pre_snoc μ p) _ _ h2⟩
    · rw [List.getElem?_append_right (by omega)] at e1
      rw [List.getElem?_append_right (by rw [w.len]; omega), w.len] at e2
      have hz : n - st.length = 0 := by
        have := (List.getElem?_eq_some_iff.mp e1).1
        simp at this; omega
      rw [hz] at e1 e2
      simp at e1 e2; subst e1; subst e2
      exact ⟨o, hp, SORep.mono (fun _ _ e => e) (pre_snoc μ p) _ _ r⟩
theorem Stp.alloc {F' H' : Hp} {μ' : List Addr} (a : Stp F μ H F' μ' H') {p : Addr} (h0 : H p = none) : Stp F μ H F' (μ' ++ [p]) H' := by
  obtain ⟨ex, e, n⟩ := a.fm
  refine ⟨a.fF, ⟨ex ++ [p], by rw [e, List.append_assoc], fun b hb => ?_⟩, a.frame, a.live, a.newF, a.frz⟩
  rcases List.mem_append.mp hb with h | h
  · exact n b h
  · simp at h; subst h; exact h0
end

/-! ### reading data -/
/-- the items of a list -/
def asL (env : Env) (st : Store) : R → Option (List D)
  | .d (.lst xs) => some xs
  | .d (.ref n) => match st[n]? with | some (.lst xs) => some xs | _ => none
  | .loc i => match env[i]? with | some (.own (.lst xs)) => some xs | _ => none
  | _ => none
def asU : R → Option (List D)
  | .d (.tup xs) => some xs
  | _ => none
section
variable {K : PySem.W.Frag} {F : Hp} {μ : List Addr} {H : Hp} {st : Store} {env : Env} {σ : L2.St} {r : R} {v : V} {xs : List D}
theorem asL_ok (w : Wd K F μ H st) (en : EnvOk K F μ H env σ) (q : RRep K F μ env σ r v) (h : asL env st r = some xs) : ∃ a vs, v = .ref a ∧ SqL K H a vs ∧ Reps K F μ xs vs := by
  unfold asL at h
  split at h
  · cases h
    obtain ⟨a, vs, e, s, q⟩ := q
    exact ⟨a, vs, e, SqL.mono w.sub s, q⟩
  · rename_i n
    split at h
    · rename_i ys hs
      cases h
      obtain ⟨a, e, hm⟩ := q
      obtain ⟨o, h1, h2⟩ := w.obj n _ a hs hm
      cases o <;> first | exact h2.elim | skip
      exact ⟨a, _, e, .of h1, h2⟩
    · cases h
  · rename_i i
    split at h
    · rename_i ys hs
      cases h
      obtain ⟨a, e, so, h1, h2⟩ := q
      obtain ⟨b, u, h3, h4, h5, h6, h7⟩ := en.slot i _ _ h1 h2
      cases h3
      rw [hs] at h1; cases h1
      cases u <;> first | exact h7.elim | skip
      exact ⟨a, _, e, .of h6, h7⟩
    · cases h
  · cases h
theorem asU_ok (w : Wd K F μ H st) (q : RRep K F μ env σ r v) (h : asU r = some xs) : ∃ a vs, v = .ref a ∧ SqT K H a vs ∧ Reps K F μ xs vs := by
  unfold asU at h
  split at h
  · cases h
    obtain ⟨a, vs, e, s, q⟩ := q
    exact ⟨a, vs, e, SqT.mono w.sub s, q⟩
  · cases h
end

/-! ### names and constants -/
section
variable {X : Cx}
def mVar (i : Nat) : ME := fun env st => match env[i]? with
  | some (.val d) => some (.d d, st)
  | some (.own _) => some (.loc i, st)
  | _ => none
def mC (d : D) : ME := fun _ st => some (.d d, st)
theorem simVar {K : PySem.W.Frag} {i : Nat} : SimE K (tVar i) (mVar i) := by
  intro σ F μ H env st r st' Q w en h k
  unfold mVar at h
  have hl : ∀ s, env[i]? = some s → ∃ o, σ[i]? = some o := fun s e => by
    have h1 := (List.getElem?_eq_some_iff.mp e).1
    rw [en.len] at h1
    exact ⟨_, List.getElem?_eq_getElem h1⟩
  split at h
  · rename_i d e
    cases h
    obtain ⟨o, ho⟩ := hl _ e
    obtain ⟨v, e1, r1⟩ := en.slot i _ _ e ho
    subst e1
    exact ⟨v, ho, k v F μ H w Stp.refl r1⟩
  · rename_i so e
    cases h
    obtain ⟨o, ho⟩ := hl _ e
    obtain ⟨a, u, e1, _⟩ := en.slot i _ _ e ho
    subst e1
    exact ⟨.ref a, ho, k (.ref a) F μ H w Stp.refl ⟨a, rfl, so, e, ho⟩⟩
  · cases h
theorem xv (i : Nat) {x : Str} {pos : Pos} (hN : X.N[i]? = some x := by rfl) (hv : Vis X.env.scope x := by first | exact Or.inl rfl | exact Or.inr (Or.inl rfl) | exact Or.inr (Or.inr rfl)) (hd : (x == ("__debug__" : Str)) = false := by decide)
    (hcd : (x == ("__classdict__" : Str)) = false := by decide) : XE X (.Name x pos) (mVar i) := ⟨_, pe_var hN hv hd hcd, simVar⟩
theorem simC {K : PySem.W.Frag} {v : V} {d : D} (h : ∀ F μ, Rep K F μ d v) : SimE K (tC v) (mC d) := by
  intro σ F μ H env st r st' Q w en e k
  cases e
  exact k v F μ H w Stp.refl (h F μ)
theorem xint {i : Int} {j pos} : XE X (.Constant (.int i) j pos) (mC (.int i)) := ⟨_, pe_int, simC fun _ _ => rfl⟩
theorem xbl {b : Bool} {j pos} : XE X (.Constant (.bool b) j pos) (mC (.bl b)) := ⟨_, pe_bl, simC fun _ _ => rfl⟩
theorem xnon {j pos} : XE X (.Constant .none j pos) (mC .non) := ⟨_, pe_non, simC fun _ _ => rfl⟩
theorem xstr {x : Str} {j pos} : XE X (.Constant (.str x) j pos) (mC (.str x)) := ⟨_, pe_str, simC fun _ _ => rfl⟩
/-- a builtin type's name as a value -/
theorem xty {x : Str} {n : String} {pos : Pos} (hg : Gl X x) (hm : X.mg x = none) (hv : bootBuiltins x = some (.type n)) (hn : x ≠ "__name__" := by decide) (hd : (x == ("__debug__" : Str)) = false := by decide) : XE X (.Name x pos) (mC (.ty n)) :=
  ⟨_, pe_bltn (v := .ty n) hg hm hv rfl hn hd, simC fun _ _ => rfl⟩
end

/-! ### two operands -/
def m2 (a b : ME) (f : Env → Store → R → R → Option (R × Store)) : ME := fun env st =>
  match a env st with
  | some (x, st1) => match b env st1 with
    | some (y, st2) => f env st2 x y
    | none => none
  | none => none
/-- what a rule on two values needs to answer as f -/
def Sim2 (K : PySem.W.Frag) (r : R2) (f : Env → Store → R → R → Option (R × Store)) : Prop :=
  ∀ (σ : L2.St) (F : Hp) (μ : List Addr) (H : Hp) (env : Env) (st : Store) (x y : R) (v u : V) (z : R) (st' : Store) (Q : VK), Wd K F μ H st → EnvOk K F μ H env σ → RRep K F μ env σ x v → RRep K F μ env σ y u → f env st x y = some (z, st') →
    (∀ v F' μ' H', Wd K F' μ' H' st' → Stp F μ H F' μ' H' → RRep K F' μ' env σ z v → Q v H') → r v u H Q
theorem sim2 {K : PySem.W.Frag} {ta tb : TE} {a b : ME} {r : R2} {f : Env → Store → R → R → Option (R × Store)} (ha : SimE K ta a) (hb : SimE K tb b) (hr : Sim2 K r f) : SimE K (tOp r ta tb) (m2 a b f) := by
  intro σ F μ H env st z st' Q w en h k
  unfold m2 at h
  split at h
  · rename_i x st1 e1
    split at h
    · rename_i y st2 e2
      refine ha σ F μ H env st x st1 _ w en e1 fun v F1 μ1 H1 w1 s1 r1 => ?_
      refine hb σ F1 μ1 H1 env st1 y st2 _ w1 (en.step s1) e2 fun u F2 μ2 H2 w2 s2 r2 => ?_
      exact hr σ F2 μ2 H2 env st2 x y v u z st' Q w2 ((en.step s1).step s2) (r1.step s2) r2 h fun v' F' μ' H' w' s' r' => k v' F' μ' H' w' ((s1.trans s2).trans s') r'
    · cases h
  · cases h
def fOr (f g : Env → Store → R → R → Option (R × Store)) : Env → Store → R → R → Option (R × Store) := fun env st x y => match f env st x y with | some z => some z | none => g env st x y
theorem Sim2.or {K : PySem.W.Frag} {r u : R2} {f g : Env → Store → R → R → Option (R × Store)} (hr : Sim2 K r f) (hu : Sim2 K u g) :
    Sim2 K (fun x y H Q => r x y H Q ∨ u x y H Q) (fOr f g) := by
  intro σ F μ H env st x y v u z st' Q w en rx ry h k
  unfold fOr at h
  split at h
  · rename_i e; cases h
    exact .inl (hr σ F μ H env st x y _ _ z st' Q w en rx ry e k)
  · exact .inr (hu σ F μ H env st x y _ _ z st' Q w en rx ry h k)
/-- ints only -/
def f2I (C : Int → Int → Bool) (g : Int → Int → D) : Env → Store → R → R → Option (R × Store) := fun _ st x y =>
  match x, y with
  | .d (.int i), .d (.int j) => if C i j then some (.d (g i j), st) else none
  | _, _ => none
theorem sim2I {K : PySem.W.Frag} {C : Int → Int → Prop} {g : Int → Int → V} {c : Int → Int → Bool} {g' : Int → Int → D} (hc : ∀ i j, c i j = true → C i j) (hg : ∀ F μ i j, Rep K F μ (g' i j) (g i j)) : Sim2 K (rI C g) (f2I c g') := by
  intro σ F μ H env st x y v u z st' Q w en rx ry h k
  unfold f2I at h
  split at h
  · split at h
    · rename_i hcc
      cases h
      exact ⟨_, _, rx, ry, hc _ _ hcc, k _ F μ H w Stp.refl (hg _ _ _ _)⟩
    · cases h
  · cases h
theorem sim2I0 {K : PySem.W.Frag} {g : Int → Int → V} {g' : Int → Int → D} (hg : ∀ F μ i j, Rep K F μ (g' i j) (g i j)) : Sim2 K (rI0 g) (f2I (fun _ _ => true) g') := by
  intro σ F μ H env st x y v u z st' Q w en rx ry h k
  unfold f2I at h
  split at h
  · cases h
    exact ⟨_, _, rx, ry, k _ F μ H w Stp.refl (hg _ _ _ _)⟩
  · cases h

def cMul (i j : Int) : Bool := decide (-(2 ^ 64) < i ∧ i < 2 ^ 64) || decide (-(2 ^ 64) < j ∧ j < 2 ^ 64)
theorem cMul_ok (i j : Int) (h : cMul i j = true) : CMul i j := by
  unfold cMul at h; rw [Bool.or_eq_true, decide_eq_true_eq, decide_eq_true_eq] at h; exact h
def cPos (_ j : Int) : Bool := decide (0 < j)
def cDivW (i j : Int) : Bool := decide (0 < j) && decide (j.natAbs.log2 < 9000)
theorem cDivW_ok (i j : Int) (h : cDivW i j = true) : CDivW i j := by
  unfold cDivW at h; rw [Bool.and_eq_true, decide_eq_true_eq, decide_eq_true_eq] at h; exact h
def cPow (i j : Int) : Bool := decide (0 ≤ j) && decide (j ≤ 1000000) && decide (i.natAbs < 2 ^ 64)
theorem cPow_ok (i j : Int) (h : cPow i j = true) : CPow i j := by
  unfold cPow at h; rw [Bool.and_eq_true, Bool.and_eq_true, decide_eq_true_eq, decide_eq_true_eq, decide_eq_true_eq] at h; exact ⟨h.1.1, h.1.2, h.2⟩

/-- tuples: x + y -/
def f2Cat : Env → Store → R → R → Option (R × Store) := fun _ st x y =>
  match x, y with
  | .d (.tup xs), .d (.tup ys) => if xs.length + ys.length ≤ 16000000 then some (.d (.tup (xs ++ ys)), st) else none
  | _, _ => none
theorem small16 {n : Nat} (h : n ≤ 16000000) : n ≤ sizeLine := by rw [sizeLine_eq]; omega
theorem sim2Cat {K : PySem.W.Frag} : Sim2 K (rCatA K) f2Cat := by
  intro σ F μ H env st x y v u z st' Q w en rx ry h k
  unfold f2Cat at h
  split at h
  · rename_i xs ys
    split at h
    · rename_i hz
      cases h
      obtain ⟨a, vs, e1, s1, q1⟩ := rx
      obtain ⟨b, us, e2, s2, q2⟩ := ry
      have l1 := q1.length
      have l2 := q2.length
      refine ⟨a, b, vs, us, e1, e2, SqT.mono w.sub s1, SqT.mono w.sub s2, small16 (by omega), fun e => ?_, fun _ e => ?_, fun _ _ p hp => ?_⟩
      · refine k _ F μ H w Stp.refl ⟨b, us, rfl, s2, ?_⟩
        subst e
        have : xs = [] := List.eq_nil_of_length_eq_zero l1
        subst this; exact q2
      · refine k _ F μ H w Stp.refl ⟨a, vs, rfl, s1, ?_⟩
        subst e
        have : ys = [] := List.eq_nil_of_length_eq_zero l2
        subst this; rw [List.append_nil]; exact q1
      · have s := Stp.lay (F := F) (μ := μ) (o := .tup (vs ++ us)) hp (w.Fnone hp)
        exact k _ _ μ _ (w.lay hp) s ⟨p, vs ++ us, rfl, .of upd_same, (s.reps q1).append (s.reps q2)⟩
    · cases h
  · cases h
/-- a + b: ints, tuples -/
def mAdd (a b : ME) : ME := m2 a b (fOr (f2I (fun _ _ => true) fun i j => .int (i + j)) f2Cat)
def mSub (a b : ME) : ME := m2 a b (f2I (fun _ _ => true) fun i j => .int (i - j))
def f2RepT : Env → Store → R → R → Option (R × Store) := fun _ st x y =>
  match x, y with
  | .d (.tup xs), .d (.int k) => if xs.length = 1 ∧ 1 ≤ k ∧ k ≤ 1000 then some (.d (.tup (List.replicate k.toNat xs).flatten), st) else none
  | _, _ => none
def mMul (a b : ME) : ME := m2 a b (f2I cMul fun i j => .int (i * j))
def mMod (a b : ME) : ME := m2 a b (f2I cPos fun i j => .int (i % j))
def mFdiv (a b : ME) : ME := m2 a b (f2I cDivW fun i j => .int (i / j))
def mPow (a b : ME) : ME := m2 a b (f2I cPow fun i j => .int (i ^ j.toNat))
section
variable {X : Cx} {a b c : Expr} {ma mb mc : ME} {pos : Pos}
theorem xop {op : Operator} {r : R2} {f} (ho : OpR X (binaryOp op) r) (hs : Sim2 X.K r f) (ha : XE X a ma) (hb : XE X b mb) : XE X (.BinOp a op b pos) (m2 ma mb f) := by
  obtain ⟨ta, pa, sa⟩ := ha
  obtain ⟨tb, pb, sb⟩ := hb
  exact ⟨_, pe_op ho pa pb, sim2 sa sb hs⟩
theorem xadd (ha : XE X a ma) (hb : XE X b mb) : XE X (.BinOp a .Add b pos) (mAdd ma mb) := xop (OpR.or op_add op_catA) ((sim2I0 (g := fun i j => .int (i + j)) (g' := fun i j => .int (i + j)) fun _ _ _ _ => rfl).or sim2Cat) ha hb
theorem xsub (ha : XE X a ma) (hb : XE X b mb) : XE X (.BinOp a .Sub b pos) (mSub ma mb) := xop op_sub (sim2I0 fun _ _ _ _ => rfl) ha hb
theorem xmul (ha : XE X a ma) (hb : XE X b mb) : XE X (.BinOp a .Mult b pos) (mMul ma mb) := xop op_mul (sim2I cMul_ok fun _ _ _ _ => rfl) ha hb
theorem xmod (ha : XE X a ma) (hb : XE X b mb) : XE X (.BinOp a .Mod b pos) (mMod ma mb) := xop op_mod (sim2I (fun _ _ h => of_decide_eq_true h) fun _ _ _ _ => rfl) ha hb
theorem xfdiv (ha : XE X a ma) (hb : XE X b mb) : XE X (.BinOp a .FloorDiv b pos) (mFdiv ma mb) := xop op_fdivW (sim2I cDivW_ok fun _ _ _ _ => rfl) ha hb
theorem xpow (ha : XE X a ma) (hb : XE X b mb) : XE X (.BinOp a .Pow b pos) (mPow ma mb) := xop op_pow (sim2I cPow_ok fun _ _ _ _ => rfl) ha hb
/-- comparisons of ints -/
def mLt (a b : ME) : ME := m2 a b (f2I (fun _ _ => true) fun i j => .bl (decide (i < j)))
def mLe (a b : ME) : ME := m2 a b (f2I (fun _ _ => true) fun i j => .bl (decide (i ≤ j)))
def mGt (a b : ME) : ME := m2 a b (f2I (fun _ _ => true) fun i j => .bl (decide (j < i)))
def mGe (a b : ME) : ME := m2 a b (f2I (fun _ _ => true) fun i j => .bl (decide (j ≤ i)))
theorem xcmp {op : CmpOp} {r : R2} {f} (ho : OpR X (compareOp op) r) (hs : Sim2 X.K r f) (ha : XE X a ma) (hb : XE X b mb) (hm : behindInMarks op b = false) : XE X (.Compare a [op] [b] pos) (m2 ma mb f) := by
  obtain ⟨ta, pa, sa⟩ := ha
  obtain ⟨tb, pb, sb⟩ := hb
  exact ⟨_, pe_cmpR ho pa pb hm, sim2 sa sb hs⟩
end
end Gx

set_option maxHeartbeats 1000000
namespace Gx
open PySem L2
/-! ### == and != over data -/
mutual
/-- data as the model's data; dr tells what a reference is worth -/
def toP (dr : Nat → Option PyData) : D → Option PyData
  | .non => some .none
  | .bl b => some (.bool b)
  | .int i => some (.int i)
  | .str x => some (.str x)
  | .tup xs => (toPs dr xs).map .tuple
  | .lst xs => (toPs dr xs).map .list
  | .ref n => dr n
  | _ => none
def toPs (dr : Nat → Option PyData) : List D → Option (List PyData)
  | [] => some []
  | x :: xs => match toP dr x with
    | some y => (toPs dr xs).map (y :: ·)
    | none => none
end
/-- a list in the store, of data without references; of such lists -/
def dr0 : Nat → Option PyData := fun _ => none
def drS (dr : Nat → Option PyData) (st : Store) : Nat → Option PyData := fun n => match st[n]? with
  | some (.lst xs) => (toPs dr xs).map .list
  | _ => none
def dr2 (st : Store) : Nat → Option PyData := drS (drS dr0 st) st
def toPR (env : Env) (st : Store) (r : R) : Option PyData :=
  match r with
  | .d d => toP (dr2 st) d
  | .loc _ => match asL env st r with | some xs => (toPs (dr2 st) xs).map .list | none => none
section
variable {K : PySem.W.Frag} {F : Hp} {μ : List Addr} {H : Hp} {st : Store} {env : Env} {σ : L2.St}
mutual
theorem toP_ok (w : Wd K F μ H st) {dr : Nat → Option PyData} (hd : ∀ (n : Nat) (a : Addr) (p : PyData), μ[n]? = some a → dr n = some p → Dp K H (.ref a) p) : ∀ (d : D) (v : V) (p : PyData), Rep K F μ d v → toP dr d = some p → Dp K H v p
  | .non, v, p, r, h => by simp only [toP] at h; cases h; cases r; exact .non
  | .bl b, v, p, r, h => by simp only [toP] at h; cases h; cases r; exact .bl b
  | .int b, v, p, r, h => by simp only [toP] at h; cases h; cases r; exact .int b
  | .str b, v, p, r, h => by simp only [toP] at h; cases h; cases r; exact .str b
  | .tup ds, v, p, r, h => by
    simp only [toP, Option.map_eq_some_iff] at h
    obtain ⟨ps, h, rfl⟩ := h
    obtain ⟨a, vs, rfl, s, q⟩ := r
    exact .tup (SqT.mono w.sub s) (toPs_ok w hd ds vs ps q h)
  | .lst ds, v, p, r, h => by
    simp only [toP, Option.map_eq_some_iff] at h
    obtain ⟨ps, h, rfl⟩ := h
    obtain ⟨a, vs, rfl, s, q⟩ := r
    exact .lst (SqL.mono w.sub s) (toPs_ok w hd ds vs ps q h)
  | .ref n, v, p, r, h => by
    simp only [toP] at h
    obtain ⟨a, rfl, hm⟩ := r
    exact hd n a p hm h
  | .ty _, v, p, r, h => by simp only [toP] at h; cases h
  | .dct _ _, v, p, r, h => by simp only [toP] at h; cases h
  | .dtt _ _, v, p, r, h => by simp only [toP] at h; cases h
  | .fn _, v, p, r, h => by simp only [toP] at h; cases h
theorem toPs_ok (w : Wd K F μ H st) {dr : Nat → Option PyData} (hd : ∀ (n : Nat) (a : Addr) (p : PyData), μ[n]? = some a → dr n = some p → Dp K H (.ref a) p) : ∀ (ds : List D) (vs : List V) (ps : List PyData), Reps K F μ ds vs → toPs dr ds = some ps → DpAll K H vs ps
  | [], [], ps, r, h => by simp only [toPs] at h; cases h; exact .nil
  | d :: ds, v :: vs, ps, r, h => by
    simp only [toPs] at h
    split at h
    · rename_i y e
      rw [Option.map_eq_some_iff] at h
      obtain ⟨qs, h, rfl⟩ := h
      exact .cons (toP_ok w hd d v y r.1 e) (toPs_ok w hd ds vs qs r.2 h)
    · cases h
  | [], _ :: _, _, r, _ => r.elim
  | _ :: _, [], _, r, _ => r.elim
end
theorem drS_ok (w : Wd K F μ H st) {dr : Nat → Option PyData} (hd : ∀ (n : Nat) (a : Addr) (p : PyData), μ[n]? = some a → dr n = some p → Dp K H (.ref a) p) : ∀ (n : Nat) (a : Addr) (p : PyData), μ[n]? = some a → drS dr st n = some p → Dp K H (.ref a) p := fun n a p hm h => by
  unfold drS at h
  split at h
  · rename_i xs e
    rw [Option.map_eq_some_iff] at h
    obtain ⟨ps, h, rfl⟩ := h
    obtain ⟨o, h1, h2⟩ := w.obj n _ a e hm
    cases o <;> first | exact h2.elim | skip
    exact .lst (.of h1) (toPs_ok w hd _ _ _ h2 h)
  · cases h
theorem dr2_ok (w : Wd K F μ H st) : ∀ (n : Nat) (a : Addr) (p : PyData), μ[n]? = some a → dr2 st n = some p → Dp K H (.ref a) p := drS_ok w (drS_ok w fun _ _ _ _ h => nomatch h)
theorem toPR_ok (w : Wd K F μ H st) (en : EnvOk K F μ H env σ) {r : R} {v : V} {p : PyData} (q : RRep K F μ env σ r v) (h : toPR env st r = some p) : Dp K H v p := by
  unfold toPR at h
  split at h
  · exact toP_ok w (dr2_ok w) _ _ _ q h
  · split at h
    · rename_i xs e
      rw [Option.map_eq_some_iff] at h
      obtain ⟨ps, h, rfl⟩ := h
      obtain ⟨a, vs, rfl, s, q⟩ := asL_ok w en q e
      exact .lst s (toPs_ok w (dr2_ok w) _ _ _ q h)
    · cases h
end
def f2Eq (neg : Bool) : Env → Store → R → R → Option (R × Store) := fun env st x y =>
  match toPR env st x, toPR env st y with
  | some p, some q => if SeqAt.shaped p && SeqAt.shaped q then some (.d (.bl (if neg then !PyData.eqv p q else PyData.eqv p q)), st) else none
  | _, _ => none
theorem sim2EqD {K : PySem.W.Frag} : Sim2 K (rEqD K) (f2Eq false) := by
  intro σ F μ H env st x y v u z st' Q w en rx ry h k
  unfold f2Eq at h
  split at h
  · rename_i p q e1 e2
    split at h
    · rename_i hs
      rw [Bool.and_eq_true] at hs
      cases h
      exact ⟨p, q, toPR_ok w en rx e1, toPR_ok w en ry e2, hs.1, hs.2, k _ F μ H w Stp.refl rfl⟩
    · cases h
  · cases h
theorem sim2NeD {K : PySem.W.Frag} : Sim2 K (rNeD K) (f2Eq true) := by
  intro σ F μ H env st x y v u z st' Q w en rx ry h k
  unfold f2Eq at h
  split at h
  · rename_i p q e1 e2
    split at h
    · rename_i hs
      rw [Bool.and_eq_true] at hs
      cases h
      exact ⟨p, q, toPR_ok w en rx e1, toPR_ok w en ry e2, hs.1, hs.2, k _ F μ H w Stp.refl rfl⟩
    · cases h
  · cases h
def mEq (a b : ME) : ME := m2 a b (f2Eq false)
def mNe (a b : ME) : ME := m2 a b (f2Eq true)

/-! ### tests from values -/
def mTest (m : ME) : MT := fun env st => match m env st with
  | some (.d (.bl b), st') => some (b, st')
  | _ => none
theorem simTest {K : PySem.W.Frag} {te : TE} {m : ME} (h : SimE K te m) : SimT K (tTest te) (mTest m) := by
  intro σ F μ H env st b st' Q w en e k
  unfold mTest at e
  split at e
  · rename_i e1
    cases e
    exact h σ F μ H env st _ _ _ w en e1 fun v F' μ' H' w' s' r' => ⟨b, r', k F' μ' H' w' s'⟩
  · cases e
theorem simB {K : PySem.W.Frag} {te : TE} {m : ME} (h : SimE K te m) : SimT K (tB te) (mTest m) := simTest h
section
variable {X : Cx} {a b c e : Expr} {ma mb mc m : ME} {mt mu : MT} {pos : Pos} {rest es : List Expr} {mA : MA}
theorem xcmpT {op : CmpOp} {r : R2} {f} (ho : OpR X (compareOp op) r) (hs : Sim2 X.K r f) (ha : XE X a ma) (hb : XE X b mb) (hm : behindInMarks op b = false) : XT X (.Compare a [op] [b] pos) (mTest (m2 ma mb f)) := by
  obtain ⟨ta, pa, sa⟩ := ha
  obtain ⟨tb, pb, sb⟩ := hb
  exact ⟨_, pt_cmpR ho pa pb hm, simTest (sim2 sa sb hs)⟩
/-- the operators' facts: o, by the op -/
structure CmpK (X : Cx) (op : CmpOp) (f : Env → Store → R → R → Option (R × Store)) : Prop where
  h : ∃ r, OpR X (compareOp op) r ∧ Sim2 X.K r f
theorem kLt : CmpK X .Lt (f2I (fun _ _ => true) fun i j => .bl (decide (i < j))) := ⟨_, op_lt, sim2I0 fun _ _ _ _ => rfl⟩
theorem kLe : CmpK X .LtE (f2I (fun _ _ => true) fun i j => .bl (decide (i ≤ j))) := ⟨_, op_le, sim2I0 fun _ _ _ _ => rfl⟩
theorem kGt : CmpK X .Gt (f2I (fun _ _ => true) fun i j => .bl (decide (j < i))) := ⟨_, op_gt, sim2I0 fun _ _ _ _ => rfl⟩
theorem kGe : CmpK X .GtE (f2I (fun _ _ => true) fun i j => .bl (decide (j ≤ i))) := ⟨_, op_ge, sim2I0 fun _ _ _ _ => rfl⟩
theorem kEq (hu : X.A.units + 64 < cLine) : CmpK X .Eq (f2Eq false) := ⟨_, op_eqD hu, sim2EqD⟩
theorem kNe (hu : X.A.units + 64 < cLine) : CmpK X .NotEq (f2Eq true) := ⟨_, op_neD hu, sim2NeD⟩
theorem xc {op : CmpOp} {f} (k : CmpK X op f) (ha : XE X a ma) (hb : XE X b mb) (hm : behindInMarks op b = false := by first | exact nomark _ | rfl) : XE X (.Compare a [op] [b] pos) (m2 ma mb f) := by
  obtain ⟨r, h1, h2⟩ := k
  exact xcmp h1 h2 ha hb hm
theorem xct {op : CmpOp} {f} (k : CmpK X op f) (ha : XE X a ma) (hb : XE X b mb) (hm : behindInMarks op b = false := by first | exact nomark _ | rfl) : XT X (.Compare a [op] [b] pos) (mTest (m2 ma mb f)) := by
  obtain ⟨r, h1, h2⟩ := k
  exact xcmpT h1 h2 ha hb hm
/-- an expression (no comparison, and, or, not) as a test -/
theorem xtv (h : XE X e m) (he : ∀ whole, isTrue e X.env whole = (do let v ← whole; standAt e.pos; holding [v] (truthy v)) := by intro _; rfl) : XT X e (mTest m) := by
  obtain ⟨t, p, s⟩ := h
  exact ⟨_, pt_val p he, simB s⟩

/-! ### and, or, not -/
def mAndT (t u : MT) : MT := fun env st => match t env st with
  | some (true, st1) => u env st1
  | some (false, st1) => some (false, st1)
  | none => none
def mOrT (t u : MT) : MT := fun env st => match t env st with
  | some (true, st1) => some (true, st1)
  | some (false, st1) => u env st1
  | none => none
def mNotT (t : MT) : MT := fun env st => match t env st with
  | some (b, st1) => some (!b, st1)
  | none => none
theorem simAnd {K : PySem.W.Frag} {t u : TT} (h : SimT K t mt) (h2 : SimT K u mu) : SimT K (tAnd t u) (mAndT mt mu) := by
  intro σ F μ H env st b st' Q w en e k
  unfold mAndT at e
  split at e
  · rename_i st1 e1
    refine h σ F μ H env st true _ _ w en e1 fun F1 μ1 H1 w1 s1 => ?_
    rw [if_pos rfl]
    exact h2 σ F1 μ1 H1 env st1 b st' Q w1 (en.step s1) e fun F2 μ2 H2 w2 s2 => k F2 μ2 H2 w2 (s1.trans s2)
  · rename_i st1 e1
    cases e
    refine h σ F μ H env st false _ _ w en e1 fun F1 μ1 H1 w1 s1 => ?_
    rw [if_neg Bool.false_ne_true]
    exact k F1 μ1 H1 w1 s1
  · cases e
theorem simOr {K : PySem.W.Frag} {t u : TT} (h : SimT K t mt) (h2 : SimT K u mu) : SimT K (tOr t u) (mOrT mt mu) := by
  intro σ F μ H env st b st' Q w en e k
  unfold mOrT at e
  split at e
  · rename_i st1 e1
    cases e
    refine h σ F μ H env st true _ _ w en e1 fun F1 μ1 H1 w1 s1 => ?_
    rw [if_pos rfl]
    exact k F1 μ1 H1 w1 s1
  · rename_i st1 e1
    refine h σ F μ H env st false _ _ w en e1 fun F1 μ1 H1 w1 s1 => ?_
    rw [if_neg Bool.false_ne_true]
    exact h2 σ F1 μ1 H1 env st1 b st' Q w1 (en.step s1) e fun F2 μ2 H2 w2 s2 => k F2 μ2 H2 w2 (s1.trans s2)
  · cases e
theorem simNot {K : PySem.W.Frag} {t : TT} (h : SimT K t mt) : SimT K (tNot t) (mNotT mt) := by
  intro σ F μ H env st b st' Q w en e k
  unfold mNotT at e
  split at e
  · rename_i c st1 e1
    cases e
    exact h σ F μ H env st c _ _ w en e1 fun F1 μ1 H1 w1 s1 => k F1 μ1 H1 w1 s1
  · cases e
theorem xw1a (h : XT X a mt) : XW X (.BoolOp .And [a] pos) mt := let ⟨t, p, s⟩ := h; ⟨t, pw_and1 p, s⟩
theorem xw1o (h : XT X a mt) : XW X (.BoolOp .Or [a] pos) mt := let ⟨t, p, s⟩ := h; ⟨t, pw_or1 p, s⟩
theorem xwa (h : XT X a mt) (h2 : XW X (.BoolOp .And (b :: rest) pos) mu) : XW X (.BoolOp .And (a :: b :: rest) pos) (mAndT mt mu) := let ⟨t, p, s⟩ := h; let ⟨u, q, z⟩ := h2; ⟨_, pw_and p q, simAnd s z⟩
theorem xwo (h : XT X a mt) (h2 : XW X (.BoolOp .Or (b :: rest) pos) mu) : XW X (.BoolOp .Or (a :: b :: rest) pos) (mOrT mt mu) := let ⟨t, p, s⟩ := h; let ⟨u, q, z⟩ := h2; ⟨_, pw_or p q, simOr s z⟩
theorem xwt (h : XW X a mt) : XT X a mt := let ⟨t, p, s⟩ := h; ⟨t, p.pt, s⟩
theorem xnott (h : XT X a mt) : XT X (.UnaryOp .Not a pos) (mNotT mt) := let ⟨t, p, s⟩ := h; ⟨_, pt_not p, simNot s⟩
/-- as values, all of them bools -/
def mAndV (a b : ME) : ME := fun env st => match a env st with
  | some (.d (.bl true), st1) => b env st1
  | some (.d (.bl false), st1) => some (.d (.bl false), st1)
  | _ => none
def mOrV (a b : ME) : ME := fun env st => match a env st with
  | some (.d (.bl true), st1) => some (.d (.bl true), st1)
  | some (.d (.bl false), st1) => b env st1
  | _ => none
def mNotV (a : ME) : ME := fun env st => match a env st with
  | some (.d (.bl b), st1) => some (.d (.bl (!b)), st1)
  | _ => none
theorem simAndV {K : PySem.W.Frag} {t u : TE} (h : SimE K t ma) (h2 : SimE K u mb) : SimE K (tAndV t u) (mAndV ma mb) := by
  intro σ F μ H env st r st' Q w en e k
  unfold mAndV at e
  split at e
  · rename_i st1 e1
    refine h σ F μ H env st (.d (.bl true)) _ _ w en e1 fun v F1 μ1 H1 w1 s1 r1 => ⟨true, r1, ?_⟩
    rw [if_pos rfl]
    exact h2 σ F1 μ1 H1 env st1 _ st' Q w1 (en.step s1) e fun v F2 μ2 H2 w2 s2 => k v F2 μ2 H2 w2 (s1.trans s2)
  · rename_i st1 e1
    cases e
    refine h σ F μ H env st (.d (.bl false)) _ _ w en e1 fun v F1 μ1 H1 w1 s1 r1 => ⟨false, r1, ?_⟩
    rw [if_neg Bool.false_ne_true]
    exact k _ F1 μ1 H1 w1 s1 rfl
  · cases e
theorem simOrV {K : PySem.W.Frag} {t u : TE} (h : SimE K t ma) (h2 : SimE K u mb) : SimE K (tOrV t u) (mOrV ma mb) := by
  intro σ F μ H env st r st' Q w en e k
  unfold mOrV at e
  split at e
  · rename_i st1 e1
    cases e
    refine h σ F μ H env st (.d (.bl true)) _ _ w en e1 fun v F1 μ1 H1 w1 s1 r1 => ⟨true, r1, ?_⟩
    rw [if_pos rfl]
    exact k _ F1 μ1 H1 w1 s1 rfl
  · rename_i st1 e1
    refine h σ F μ H env st (.d (.bl false)) _ _ w en e1 fun v F1 μ1 H1 w1 s1 r1 => ⟨false, r1, ?_⟩
    rw [if_neg Bool.false_ne_true]
    exact h2 σ F1 μ1 H1 env st1 _ st' Q w1 (en.step s1) e fun v F2 μ2 H2 w2 s2 => k v F2 μ2 H2 w2 (s1.trans s2)
  · cases e
theorem simNotV {K : PySem.W.Frag} {t : TE} (h : SimE K t ma) : SimE K (tNotV t) (mNotV ma) := by
  intro σ F μ H env st r st' Q w en e k
  unfold mNotV at e
  split at e
  · rename_i b st1 e1
    cases e
    exact h σ F μ H env st (.d (.bl b)) _ _ w en e1 fun v F1 μ1 H1 w1 s1 r1 => ⟨b, r1, k _ F1 μ1 H1 w1 s1 rfl⟩
  · cases e
theorem xone {op : BoolOp} (h : XE X a ma) : XE X (.BoolOp op [a] pos) ma := let ⟨t, p, s⟩ := h; ⟨t, pe_one p, s⟩
theorem xand (h : XE X a ma) (h2 : XE X (.BoolOp .And (b :: rest) pos) mb) : XE X (.BoolOp .And (a :: b :: rest) pos) (mAndV ma mb) := let ⟨t, p, s⟩ := h; let ⟨u, q, z⟩ := h2; ⟨_, pe_and p q, simAndV s z⟩
theorem xor (h : XE X a ma) (h2 : XE X (.BoolOp .Or (b :: rest) pos) mb) : XE X (.BoolOp .Or (a :: b :: rest) pos) (mOrV ma mb) := let ⟨t, p, s⟩ := h; let ⟨u, q, z⟩ := h2; ⟨_, pe_or p q, simOrV s z⟩
theorem xnot (h : XE X a ma) : XE X (.UnaryOp .Not a pos) (mNotV ma) := let ⟨t, p, s⟩ := h; ⟨_, pe_not p, simNotV s⟩
def mIfE (t : MT) (a b : ME) : ME := fun env st => match t env st with
  | some (true, st1) => a env st1
  | some (false, st1) => b env st1
  | none => none
theorem xife {c : Expr} (hc : XT X c mt) (ha : XE X a ma) (hb : XE X b mb) : XE X (.IfExp c a b pos) (mIfE mt ma mb) := by
  obtain ⟨t, p, s⟩ := hc
  obtain ⟨ta, pa, sa⟩ := ha
  obtain ⟨tb, pb, sb⟩ := hb
  refine ⟨_, pe_ifExp p pa pb, ?_⟩
  intro σ F μ H env st r st' Q w en e k
  unfold mIfE at e
  split at e
  · rename_i st1 e1
    refine s σ F μ H env st _ st1 _ w en e1 fun F1 μ1 H1 w1 s1 => ?_
    rw [if_pos rfl]
    exact sa σ F1 μ1 H1 env st1 _ st' Q w1 (en.step s1) e fun v F2 μ2 H2 w2 s2 => k v F2 μ2 H2 w2 (s1.trans s2)
  · rename_i st1 e1
    refine s σ F μ H env st _ st1 _ w en e1 fun F1 μ1 H1 w1 s1 => ?_
    rw [if_neg Bool.false_ne_true]
    exact sb σ F1 μ1 H1 env st1 _ st' Q w1 (en.step s1) e fun v F2 μ2 H2 w2 s2 => k v F2 μ2 H2 w2 (s1.trans s2)
  · cases e

/-! ### arguments, displays -/
def mNil : MA := fun _ st => some ([], st)
def mCons (m : ME) (r : MA) : MA := fun env st => match m env st with
  | some (.d d, st1) => match r env st1 with
    | some (ds, st2) => some (d :: ds, st2)
    | none => none
  | _ => none
theorem simNil {K : PySem.W.Frag} : SimA K tNil mNil := by
  intro σ F μ H env st ds st' Q w en e k
  cases e
  exact k [] F μ H w Stp.refl trivial
theorem simCons {K : PySem.W.Frag} {t : TE} {u : TA} (h : SimE K t m) (h2 : SimA K u mA) : SimA K (tCons t u) (mCons m mA) := by
  intro σ F μ H env st ds st' Q w en e k
  unfold mCons at e
  split at e
  · rename_i d st1 e1
    split at e
    · rename_i ds st2 e2
      cases e
      refine h σ F μ H env st _ st1 _ w en e1 fun v F1 μ1 H1 w1 s1 r1 => ?_
      refine h2 σ F1 μ1 H1 env st1 _ _ _ w1 (en.step s1) e2 fun vs F2 μ2 H2 w2 s2 r2 => ?_
      exact k _ F2 μ2 H2 w2 (s1.trans s2) ⟨s2.rep r1, r2⟩
    · cases e
  · cases e
theorem xnil : XA X [] mNil := ⟨_, pa_nil, simNil⟩
theorem xcons (h : XE X e m) (h2 : XA X es mA) (hs : starEach (e :: es) X.env = (false, eval e X.env) :: starEach es X.env := by rfl) : XA X (e :: es) (mCons m mA) :=
  let ⟨t, p, s⟩ := h; let ⟨u, q, z⟩ := h2; ⟨_, pa_cons p q hs, simCons s z⟩
def mTup (a : MA) : ME := fun env st => match a env st with
  | some (ds, st1) => if ds.length ≤ 16000000 then some (.d (.tup ds), st1) else none
  | none => none
theorem xtup {x1} (h : XA X es mA) : XE X (.Tuple es x1 pos) (mTup mA) := by
  obtain ⟨t, p, s⟩ := h
  refine ⟨_, pe_tup p, ?_⟩
  intro σ F μ H env st r st' Q w en e k
  unfold mTup at e
  split at e
  · rename_i ds st1 e1
    split at e
    · rename_i hz
      cases e
      refine s σ F μ H env st _ _ _ w en e1 fun vs F1 μ1 H1 w1 s1 r1 => ⟨small16 (by rw [← r1.length]; exact hz), fun p hp => ?_⟩
      have s2 := Stp.lay (F := F1) (μ := μ1) (o := .tup vs) hp (w1.Fnone hp)
      exact k _ _ μ1 _ (w1.lay hp) (s1.trans s2) ⟨p, vs, rfl, .of upd_same, s2.reps r1⟩
    · cases e
  · cases e
/-- fresh objects -/
def mFLst (a : MA) : MF := fun env st => match a env st with
  | some (ds, st1) => if ds.length ≤ 16000000 then some (.lst ds, st1) else none
  | none => none
theorem xflst (h : XA X es mA) : XF X (.List es pos) (mFLst mA) := by
  obtain ⟨t, p, s⟩ := h
  refine ⟨_, pe_lst p, ?_⟩
  intro σ F μ H env st so st' Q w en e k
  unfold mFLst at e
  split at e
  · rename_i ds st1 e1
    split at e
    · rename_i hz
      cases e
      refine s σ F μ H env st _ _ _ w en e1 fun vs F1 μ1 H1 w1 s1 r1 => ⟨small16 (by rw [← r1.length]; exact hz), fun p hp => ?_⟩
      exact k p (.lst vs) F1 μ1 _ (w1.lay0 hp) (s1.trans (Stp.lay0 hp)) (fresh_of s1 hp) (w1.Fnone hp) (w1.out hp) upd_same r1
    · cases e
  · cases e
/-- as data -/
def dOf : SO → Option D
  | .lst xs => some (.lst xs)
  | .tup xs => some (.tup xs)
  | .dK kvs => some (.dct (kvs.map (·.1)) (kvs.map (·.2)))
  | .dT kvs => some (.dtt (kvs.map (·.1)) (kvs.map (·.2)))
  | .ins _ _ => none
  | .tab _ _ _ => none
  | .dF _ => none
def mFrz (f : MF) : ME := fun env st => match f env st with
  | some (so, st1) => match dOf so with | some d => some (.d d, st1) | none => none
  | none => none
end
section
variable {K : PySem.W.Frag} {F : Hp} {μ : List Addr}
theorem RepKV.split {κ : Type} : ∀ {ps : List (κ × D)} {qs : List (κ × V)}, RepKV K F μ ps qs → Reps K F μ (ps.map (·.2)) (qs.map (·.2)) ∧ qs = (ps.map (·.1)).zip (qs.map (·.2))
  | [], [], _ => ⟨trivial, rfl⟩
  | p :: ps, q :: qs, r => by
    obtain ⟨h1, h2⟩ := RepKV.split r.2.2
    refine ⟨⟨r.2.1, h1⟩, ?_⟩
    show q :: qs = (p.1, q.2) :: ((ps.map (·.1)).zip (qs.map (·.2)))
    rw [← h2, r.1]
  | [], _ :: _, r => r.elim
  | _ :: _, [], r => r.elim
theorem dOf_ok {F' : Hp} {so : SO} {u : HO} {d : D} {a : Addr} (h : dOf so = some d) (r : SORep K F μ so u) (e : F a = some u) : Rep K F μ d (.ref a) := by
  cases so <;> cases u <;> first | exact r.elim | skip
  · cases h; exact ⟨a, _, rfl, .of e, r⟩
  · cases h; exact ⟨a, _, rfl, .of e, r⟩
  · cases h
    obtain ⟨h1, h2⟩ := RepKV.split r
    exact ⟨a, _, rfl, .inl (by rw [← h2]; exact e), by simp, h1⟩
  · cases h
    obtain ⟨h1, h2⟩ := RepKV.split r
    exact ⟨a, _, rfl, .inl (by rw [← h2]; exact e), by simp, h1⟩
  · cases h
  · cases h
  · cases h
end
theorem simFrz {K : PySem.W.Frag} {t : TE} {f : MF} (h : SimF K t f) : SimE K t (mFrz f) := by
  intro σ F μ H env st r st' Q w en e k
  unfold mFrz at e
  split at e
  · rename_i so st1 e1
    split at e
    · rename_i d hd
      cases e
      refine h σ F μ H env st _ _ _ w en e1 fun a u F1 μ1 H1 w1 s1 h0 f1 m1 h1 r1 => ?_
      have s2 := s1.freeze (o := u) h0 f1
      have ext : ∀ b o, F1 b = some o → upd F1 a u b = some o := fun b o e => by rw [upd_ne (fun q => by subst q; rw [f1] at e; cases e)]; exact e
      exact k _ _ μ1 H1 (w1.freeze h1 f1 m1) s2 (dOf_ok (F' := F1) hd (SORep.mono ext (fun _ _ e => e) _ _ r1) upd_same)
    · cases e
  · cases e
/-- as an object of the store -/
def mAlloc (f : MF) : ME := fun env st => match f env st with
  | some (so, st1) => some (.d (.ref st1.length), st1 ++ [so])
  | none => none
theorem simAlloc {K : PySem.W.Frag} {t : TE} {f : MF} (h : SimF K t f) : SimE K t (mAlloc f) := by
  intro σ F μ H env st r st' Q w en e k
  unfold mAlloc at e
  split at e
  · rename_i so st1 e1
    cases e
    refine h σ F μ H env st _ _ _ w en e1 fun a u F1 μ1 H1 w1 s1 h0 f1 m1 h1 r1 => ?_
    refine k _ F1 (μ1 ++ [a]) H1 (w1.alloc h1 f1 m1 r1) (s1.alloc h0) ⟨a, rfl, ?_⟩
    rw [← w1.len]; simp
  · cases e
section
variable {X : Cx} {e : Expr} {f : MF}
theorem xfrz (h : XF X e f) : XE X e (mFrz f) := let ⟨t, p, s⟩ := h; ⟨t, p, simFrz s⟩
theorem xalloc (h : XF X e f) : XE X e (mAlloc f) := let ⟨t, p, s⟩ := h; ⟨t, p, simAlloc s⟩
end
end Gx

set_option maxHeartbeats 1000000
namespace Gx
open PySem L2

/-! ### subscripts -/
def keyOf : D → Option Key
  | .int i => some (.inl i)
  | .str x => some (.inr x)
  | _ => none
def valD {κ : Type} [DecidableEq κ] (kvs : List (κ × D)) (k : κ) : Option D := (kvs.find? fun kv => decide (kv.1 = k)).map (·.2)
/-- the entries of a dict with keys ints and texts -/
def asK (env : Env) (st : Store) : R → Option (List (Key × D))
  | .d (.dct ks vs) => some (ks.zip vs)
  | .d (.ref n) => match st[n]? with | some (.dK xs) => some xs | some (.dF xs) => some xs | _ => none
  | .loc i => match env[i]? with | some (.own (.dK xs)) => some xs | _ => none
  | _ => none
section
variable {K : PySem.W.Frag} {F : Hp} {μ : List Addr} {H : Hp} {st : Store} {env : Env} {σ : L2.St} {r : R} {v : V}
theorem RepKV.zip {κ : Type} : ∀ {ks : List κ} {ds : List D} {vs : List V}, Reps K F μ ds vs → RepKV K F μ (ks.zip ds) (ks.zip vs)
  | [], _, _, _ => by simp [RepKV]
  | k :: ks, [], [], _ => by simp [RepKV]
  | k :: ks, d :: ds, v :: vs, r => ⟨rfl, r.1, RepKV.zip r.2⟩
  | _ :: _, [], _ :: _, r => r.elim
  | _ :: _, _ :: _, [], r => r.elim
theorem RepKV.val {κ : Type} [DecidableEq κ] (k : κ) : ∀ {ps : List (κ × D)} {qs : List (κ × V)}, RepKV K F μ ps qs → (∀ d, valD ps k = some d → ∃ v, valV qs k = some v ∧ Rep K F μ d v) ∧ (valD ps k = none → valV qs k = none)
  | [], [], _ => ⟨fun d h => by simp [valD] at h, fun _ => rfl⟩
  | p :: ps, q :: qs, r => by
    obtain ⟨h1, h2⟩ := RepKV.val k r.2.2
    unfold valD valV at *
    by_cases e : p.1 = k
    · have e' : q.1 = k := r.1 ▸ e
      simp only [List.find?_cons, e, e', decide_true, Option.map_some, Option.some.injEq]
      exact ⟨fun d hd => ⟨q.2, rfl, hd ▸ r.2.1⟩, fun h => by cases h⟩
    · have e' : ¬ q.1 = k := r.1 ▸ e
      simp only [List.find?_cons, e, e', decide_false]
      exact ⟨h1, h2⟩
  | [], _ :: _, r => r.elim
  | _ :: _, [], r => r.elim
theorem asK_ok (w : Wd K F μ H st) (en : EnvOk K F μ H env σ) {xs : List (Key × D)} (q : RRep K F μ env σ r v) (h : asK env st r = some xs) : ∃ a vs, v = .ref a ∧ Rd H a (.dK vs) ∧ RepKV K F μ xs vs := by
  unfold asK at h
  split at h
  · cases h
    obtain ⟨a, vs, e, s, l, q⟩ := q
    exact ⟨a, _, e, Rd.mono w.sub s, .zip q⟩
  · rename_i n
    split at h
    · rename_i ys hs
      cases h
      obtain ⟨a, e, hm⟩ := q
      obtain ⟨o, h1, h2⟩ := w.obj n _ a hs hm
      cases o <;> first | exact h2.elim | skip
      exact ⟨a, _, e, .of h1, h2⟩
    · rename_i ys hs
      cases h
      obtain ⟨a, e, hm⟩ := q
      obtain ⟨o, h1, h2⟩ := w.obj n _ a hs hm
      cases o <;> first | exact h2.elim | skip
      rename_i od u
      cases u <;> first | exact h2.elim | skip
      exact ⟨a, _, e, .inr ⟨od, h1⟩, h2⟩
    · cases h
  · rename_i i
    split at h
    · rename_i ys hs
      cases h
      obtain ⟨a, e, so, h1, h2⟩ := q
      obtain ⟨b, u, h3, h4, h5, h6, h7⟩ := en.slot i _ _ h1 h2
      cases h3
      rw [hs] at h1; cases h1
      cases u <;> first | exact h7.elim | skip
      exact ⟨a, _, e, .of h6, h7⟩
    · cases h
  · cases h
theorem keyOf_ok {d : D} {k : Key} {v : V} (h : keyOf d = some k) (r : Rep K F μ d v) : v = kV k := by
  cases d <;> simp only [keyOf] at h <;> cases h
  · exact r
  · exact r
end
def f2IxL : Env → Store → R → R → Option (R × Store) := fun env st x y =>
  match asL env st x, y with
  | some xs, .d (.int i) => match atI xs i with | some d => some (.d d, st) | none => none
  | _, _ => none
def f2IxU : Env → Store → R → R → Option (R × Store) := fun env st x y =>
  match asU x, y with
  | some xs, .d (.int i) => match atI xs i with | some d => some (.d d, st) | none => none
  | _, _ => none
def f2IxK : Env → Store → R → R → Option (R × Store) := fun env st x y =>
  match asK env st x, y with
  | some xs, .d d => match keyOf d with
    | some k => match valD xs k with | some z => some (.d z, st) | none => none
    | none => none
  | _, _ => none
theorem atI_rep {K : PySem.W.Frag} {F : Hp} {μ : List Addr} {xs : List D} {vs : List V} {i : Int} {d : D} (r : Reps K F μ xs vs) (h : atI xs i = some d) : ∃ v, atI vs i = some v ∧ Rep K F μ d v := by
  unfold atI at *
  rw [← r.length]
  cases e : ixN xs.length i with
  | none => rw [e] at h; cases h
  | some j =>
    rw [e] at h
    exact r.get h
def rDGet : R2 := fun x y H Q => ∃ a v, x = .ref a ∧ DGet H a y (some v) ∧ Q v H
section
variable {K : PySem.W.Frag}
theorem sim2IxL : Sim2 K (rIxL K) f2IxL := by
  intro σ F μ H env st x y v u z st' Q w en rx ry h k
  unfold f2IxL at h
  split at h
  · rename_i xs i e1
    split at h
    · rename_i d e2
      cases h
      obtain ⟨a, vs, e, s, q⟩ := asL_ok w en rx e1
      obtain ⟨v', h1, h2⟩ := atI_rep q e2
      exact ⟨a, vs, i, v', e, ry, s, h1, k v' F μ H w Stp.refl h2⟩
    · cases h
  · cases h
theorem sim2IxU : Sim2 K (rIxT K) f2IxU := by
  intro σ F μ H env st x y v u z st' Q w en rx ry h k
  unfold f2IxU at h
  split at h
  · rename_i xs i e1
    split at h
    · rename_i d e2
      cases h
      obtain ⟨a, vs, e, s, q⟩ := asU_ok w rx e1
      obtain ⟨v', h1, h2⟩ := atI_rep q e2
      exact ⟨a, vs, i, v', e, ry, s, h1, k v' F μ H w Stp.refl h2⟩
    · cases h
  · cases h
theorem sim2IxK : Sim2 K rDGet f2IxK := by
  intro σ F μ H env st x y v u z st' Q w en rx ry h k
  unfold f2IxK at h
  split at h
  · rename_i xs d e1
    split at h
    · rename_i kk e2
      split at h
      · rename_i z' e3
        cases h
        obtain ⟨a, vs, e, s, q⟩ := asK_ok w en rx e1
        obtain ⟨v', h1, h2⟩ := (RepKV.val kk q).1 _ e3
        exact ⟨a, v', e, .inl ⟨vs, kk, s, keyOf_ok e2 ry, h1.symm⟩, k v' F μ H w Stp.refl h2⟩
      · cases h
    · cases h
  · cases h
theorem m2_or {a b : ME} {f g : Env → Store → R → R → Option (R × Store)} {env : Env} {st : Store} {z : R × Store} (h : m2 a b (fOr f g) env st = some z) : m2 a b f env st = some z ∨ m2 a b g env st = some z := by
  unfold m2 at *
  split at h
  · rename_i x st1 e1
    split at h
    · rename_i y st2 e2
      unfold fOr at h
      split at h
      · rename_i e3; cases h; exact .inl e3
      · exact .inr h
    · cases h
  · cases h
theorem simOr2 {ta tb : TE} {a b : ME} {f g} (h1 : SimE K ta (m2 a b f)) (h2 : SimE K tb (m2 a b g)) : SimE K (fun σ H Q => ta σ H Q ∨ tb σ H Q) (m2 a b (fOr f g)) := by
  intro σ F μ H env st r st' Q w en e k
  rcases m2_or e with e | e
  · exact .inl (h1 σ F μ H env st r st' Q w en e k)
  · exact .inr (h2 σ F μ H env st r st' Q w en e k)
end
def fIx := fOr (fOr f2IxL f2IxU) f2IxK
def mIx (a b : ME) : ME := m2 a b fIx
section
variable {X : Cx} {a b c e : Expr} {ma mb mc m : ME} {pos : Pos}
theorem xix (hu : X.A.units + 1 < cLine) (ha : XE X a ma) (hb : XE X b mb) (hs : PlainIx b := by exact fun _ _ => rfl) (hn : NoSl b := by exact fun _ _ => rfl) : XE X (.Subscript a b pos) (mIx ma mb) := by
  obtain ⟨ta, pa, sa⟩ := ha
  obtain ⟨tb, pb, sb⟩ := hb
  exact ⟨_, PE.or (pe_ix (ix_list.or ix_tup) pa pb hs) (pe_dget hu pa pb hn), simOr2 (sim2 sa sb (sim2IxL.or sim2IxU)) (sim2 (r := rDGet) sa sb sim2IxK)⟩

/-! ### slices -/
abbrev MO := Env → Store → Option (Option Int × Store)
def SimO (K : PySem.W.Frag) (te : TO) (m : MO) : Prop :=
  ∀ (σ : L2.St) (F : Hp) (μ : List Addr) (H : Hp) (env : Env) (st : Store) (o : Option Int) (st' : Store) (Q : Option Int → Hp → Prop), Wd K F μ H st → EnvOk K F μ H env σ → m env st = some (o, st') →
    (∀ F' μ' H', Wd K F' μ' H' st' → Stp F μ H F' μ' H' → Q o H') → te σ H Q
structure XO (X : Cx) (e : Option Expr) (m : MO) : Prop where
  h : ∃ te, PO X e te ∧ SimO X.K te m
def mNoPart : MO := fun _ st => some (none, st)
def mPart (m : ME) : MO := fun env st => match m env st with | some (.d (.int i), st1) => some (some i, st1) | _ => none
theorem xno : XO X none mNoPart := by
  refine ⟨_, po_none, ?_⟩
  intro σ F μ H env st o st' Q w en e k
  cases e
  exact k F μ H w Stp.refl
theorem xsome (h : XE X e m) : XO X (some e) (mPart m) := by
  obtain ⟨t, p, s⟩ := h
  refine ⟨_, po_some p, ?_⟩
  intro σ F μ H env st o st' Q w en h k
  unfold mPart at h
  split at h
  · rename_i i st1 e1
    cases h
    exact s σ F μ H env st _ _ _ w en e1 fun v F1 μ1 H1 w1 s1 r1 => ⟨i, r1, k F1 μ1 H1 w1 s1⟩
  · cases h
def cutD (xs : List D) (lo hi : Option Int) : List D := (xs.drop (HT.sIx xs.length 0 lo)).take (HT.sIx xs.length xs.length hi - HT.sIx xs.length 0 lo)
theorem cut_rep {K : PySem.W.Frag} {F : Hp} {μ : List Addr} {xs : List D} {vs : List V} {lo hi : Option Int} (r : Reps K F μ xs vs) : Reps K F μ (cutD xs lo hi) (cutV vs lo hi) := by
  unfold cutD cutV
  rw [← r.length]
  exact (r.drop _).take _
theorem cut_whole {xs : List D} {lo hi : Option Int} (h : HT.sIx xs.length 0 lo = 0 ∧ HT.sIx xs.length xs.length hi = xs.length) : cutD xs lo hi = xs := by
  unfold cutD
  rw [h.1, h.2]
  simp
def mSl (a : ME) (lo hi : MO) : ME := fun env st => match a env st with
  | some (x, st1) => match lo env st1 with
    | some (l, st2) => match hi env st2 with
      | some (u, st3) => match x with
        | .d (.tup xs) => some (.d (.tup (cutD xs l u)), st3)
        | r => match asL env st3 r with | some xs => some (.d (.lst (cutD xs l u)), st3) | none => none
      | none => none
    | none => none
  | none => none
theorem xsl {p2 : Pos} {lo hi : Option Expr} {ml mh : MO} (ha : XE X a ma) (hl : XO X lo ml) (hh : XO X hi mh) : XE X (.Subscript a (.Slice lo hi none p2) pos) (mSl ma ml mh) := by
  obtain ⟨ta, pa, sa⟩ := ha
  obtain ⟨tl, pl, sl⟩ := hl
  obtain ⟨th, ph, sh⟩ := hh
  refine ⟨_, pe_slice (SlR.or sl_tupA sl_list) pa pl ph, ?_⟩
  intro σ F μ H env st r st' Q w en h k
  unfold mSl at h
  split at h
  · rename_i x st1 e1
    split at h
    · rename_i l st2 e2
      split at h
      · rename_i u st3 e3
        refine sa σ F μ H env st x st1 _ w en e1 fun v F1 μ1 H1 w1 s1 r1 => ?_
        refine sl σ F1 μ1 H1 env st1 l st2 _ w1 (en.step s1) e2 fun F2 μ2 H2 w2 s2 => ?_
        refine sh σ F2 μ2 H2 env st2 u st3 _ w2 ((en.step s1).step s2) e3 fun F3 μ3 H3 w3 s3 => ?_
        have sA := (s1.trans s2).trans s3
        have r3 := (r1.step s2).step s3
        split at h
        · rename_i xs
          cases h
          obtain ⟨a, vs, e, s, q⟩ := r3
          refine .inl ⟨a, vs, e, SqT.mono w3.sub s, fun hw => ?_, fun hw p hp => ?_⟩
          · refine k _ F3 μ3 H3 w3 sA ⟨a, vs, rfl, s, ?_⟩
            rw [← q.length] at hw
            rw [cut_whole hw]; exact q
          · have sl := Stp.lay (F := F3) (μ := μ3) (o := .tup (cutV vs l u)) hp (w3.Fnone hp)
            exact k _ _ μ3 _ (w3.lay hp) (sA.trans sl) ⟨p, _, rfl, .of upd_same, sl.reps (cut_rep q)⟩
        · split at h
          · rename_i xs e4
            cases h
            obtain ⟨a, vs, e, s, q⟩ := asL_ok w3 (((en.step s1).step s2).step s3) r3 e4
            refine .inr ⟨a, vs, e, s, fun p hp => ?_⟩
            have sl := Stp.lay (F := F3) (μ := μ3) (o := .lst (cutV vs l u)) hp (w3.Fnone hp)
            exact k _ _ μ3 _ (w3.lay hp) (sA.trans sl) ⟨p, _, rfl, .of upd_same, sl.reps (cut_rep q)⟩
          · cases h
      · cases h
    · cases h
  · cases h

/-! ### calls of built-ins with one argument -/
def m1 (a : ME) (f : Env → Store → R → Option (R × Store)) : ME := fun env st => match a env st with | some (x, st1) => f env st1 x | none => none
def Sim1 (K : PySem.W.Frag) (r : List V → Hp → VK → Prop) (f : Env → Store → R → Option (R × Store)) : Prop :=
  ∀ (σ : L2.St) (F : Hp) (μ : List Addr) (H : Hp) (env : Env) (st : Store) (x : R) (v : V) (z : R) (st' : Store) (Q : VK), Wd K F μ H st → EnvOk K F μ H env σ → RRep K F μ env σ x v → f env st x = some (z, st') →
    (∀ v F' μ' H', Wd K F' μ' H' st' → Stp F μ H F' μ' H' → RRep K F' μ' env σ z v → Q v H') → r [v] H Q
theorem sim1 {K : PySem.W.Frag} {ta : TE} {r : List V → Hp → VK → Prop} {f} (ha : SimE K ta ma) (hr : Sim1 K r f) : SimE K (tCB r (tCons ta tNil)) (m1 ma f) := by
  intro σ F μ H env st z st' Q w en h k
  unfold m1 at h
  split at h
  · rename_i x st1 e1
    refine ha σ F μ H env st x st1 _ w en e1 fun v F1 μ1 H1 w1 s1 r1 => ?_
    exact hr σ F1 μ1 H1 env st1 x v z st' Q w1 (en.step s1) r1 h fun v' F' μ' H' w' s' r' => k v' F' μ' H' w' (s1.trans s') r'
  · cases h
theorem Sim1.or {K : PySem.W.Frag} {r u : List V → Hp → VK → Prop} {f g : Env → Store → R → Option (R × Store)} (hr : Sim1 K r f) (hu : Sim1 K u g) :
    Sim1 K (fun x H Q => r x H Q ∨ u x H Q) (fun env st x => match f env st x with | some z => some z | none => g env st x) := by
  intro σ F μ H env st x v z st' Q w en rx h k
  dsimp only at h
  split at h
  · rename_i e; cases h
    exact .inl (hr σ F μ H env st x _ z st' Q w en rx e k)
  · exact .inr (hu σ F μ H env st x _ z st' Q w en rx h k)
theorem xcallB {x : Str} {p : Pos} {id : String} {r : List V → Hp → VK → Prop} {f} (hc : CallR X (.builtin id) r) (hs : Sim1 X.K r f) (hg : Gl X x) (hm : X.mg x = none) (hv : bootBuiltins x = some (.builtin id)) (ha : XE X e m) (hn : x ≠ "__name__" := by decide)
    (hdb : (x == ("__debug__" : Str)) = false := by decide) (he : starEach (e :: []) X.env = (false, eval e X.env) :: starEach [] X.env := by rfl) (hpl : (backTo pos (starEach [] X.env)).any (·.1) = false := by rfl) : XE X (.Call (.Name x p) [e] [] pos) (m1 m f) := by
  obtain ⟨t, pe, s⟩ := ha
  exact ⟨_, pe_callB hc hg hm hv (pa_cons pe pa_nil he) hn hdb he hpl, sim1 s hs⟩
theorem xcallTy {x : Str} {p : Pos} {T : String} {r : List V → Hp → VK → Prop} {f} (hc : CallR X (.type T) r) (hs : Sim1 X.K r f) (hg : Gl X x) (hm : X.mg x = none) (hv : bootBuiltins x = some (.type T)) (ha : XE X e m) (hn : x ≠ "__name__" := by decide)
    (hdb : (x == ("__debug__" : Str)) = false := by decide) (he : starEach (e :: []) X.env = (false, eval e X.env) :: starEach [] X.env := by rfl) (hpl : (backTo pos (starEach [] X.env)).any (·.1) = false := by rfl) : XE X (.Call (.Name x p) [e] [] pos) (m1 m f) := by
  obtain ⟨t, pe, s⟩ := ha
  exact ⟨_, pe_callTy hc hg hm hv (pa_cons pe pa_nil he) hn hdb he hpl, sim1 s hs⟩
/-- len -/
def seqOf (env : Env) (st : Store) (r : R) : Option (List D) := match asU r with | some xs => some xs | none => asL env st r
def f1Len : Env → Store → R → Option (R × Store) := fun env st x => match seqOf env st x with
  | some xs => some (.d (.int xs.length), st)
  | none => match asK env st x with | some kvs => some (.d (.int kvs.length), st) | none => none
theorem seqOf_ok {K : PySem.W.Frag} {F : Hp} {μ : List Addr} {H : Hp} {st : Store} {env : Env} {σ : L2.St} {r : R} {v : V} {xs : List D} (w : Wd K F μ H st) (en : EnvOk K F μ H env σ) (q : RRep K F μ env σ r v) (h : seqOf env st r = some xs) :
    ∃ a vs, v = .ref a ∧ (SqL K H a vs ∨ SqT K H a vs) ∧ Reps K F μ xs vs := by
  unfold seqOf at h
  split at h
  · rename_i ys e
    cases h
    obtain ⟨a, vs, e, s, q⟩ := asU_ok w q e
    exact ⟨a, vs, e, .inr s, q⟩
  · obtain ⟨a, vs, e, s, q⟩ := asL_ok w en q h
    exact ⟨a, vs, e, .inl s, q⟩
theorem RepKV.length {K : PySem.W.Frag} {F : Hp} {μ : List Addr} {κ : Type} : ∀ {ps : List (κ × D)} {qs : List (κ × V)}, RepKV K F μ ps qs → ps.length = qs.length
  | [], [], _ => rfl
  | p :: ps, q :: qs, r => by simp [RepKV.length r.2.2]
  | [], _ :: _, r => r.elim
  | _ :: _, [], r => r.elim
theorem sim1Len {K : PySem.W.Frag} : Sim1 K (fun xs H Q => (∃ p ys, xs = [.ref p] ∧ (SqL K H p ys ∨ SqT K H p ys) ∧ Q (.int ys.length) H) ∨ (∃ d kvs, xs = [.ref d] ∧ Rd H d (.dK kvs) ∧ Q (.int kvs.length) H)) f1Len := by
  intro σ F μ H env st x v z st' Q w en rx h k
  unfold f1Len at h
  split at h
  · rename_i xs e
    cases h
    obtain ⟨a, vs, rfl, s, q⟩ := seqOf_ok w en rx e
    exact .inl ⟨a, vs, rfl, s, k _ F μ H w Stp.refl (by show V.int vs.length = V.int xs.length; rw [q.length])⟩
  · split at h
    · rename_i kvs e
      cases h
      obtain ⟨a, vs, rfl, s, q⟩ := asK_ok w en rx e
      exact .inr ⟨a, vs, rfl, s, k _ F μ H w Stp.refl (by show V.int vs.length = V.int kvs.length; rw [q.length])⟩
    · cases h
theorem call_lenRd : CallR X (.builtin "len") (fun xs H Q => ∃ d kvs, xs = [.ref d] ∧ Rd H d (.dK kvs) ∧ Q (.int kvs.length) H) := by
  intro pins s σ H xs us Q I r h
  obtain ⟨d, kvs, rfl, hd, q⟩ := h
  obtain ⟨u, rfl, r1⟩ := vals1 r
  cases r1
  exact d_len I hd fun t s' I' => ⟨.int kvs.length, H, I', ⟨t, rfl⟩, q⟩
theorem xlen {x : Str} {p : Pos} (hg : Gl X x) (hm : X.mg x = none) (hv : bootBuiltins x = some (.builtin "len")) (ha : XE X e m) (hn : x ≠ "__name__" := by decide)
    (hdb : (x == ("__debug__" : Str)) = false := by decide) (he : starEach (e :: []) X.env = (false, eval e X.env) :: starEach [] X.env := by rfl) (hpl : (backTo pos (starEach [] X.env)).any (·.1) = false := by rfl) : XE X (.Call (.Name x p) [e] [] pos) (m1 m f1Len) :=
  xcallB (call_len_seq.or call_lenRd) sim1Len hg hm hv ha hn hdb he hpl
/-- int of an int, a bool -/
def f1Int : Env → Store → R → Option (R × Store) := fun _ st x => match x with
  | .d (.int i) => some (.d (.int i), st)
  | .d (.bl b) => some (.d (.int (if b then 1 else 0)), st)
  | _ => none
theorem sim1Int {K : PySem.W.Frag} : Sim1 K (fun xs H Q => (∃ i, xs = [.int i] ∧ Q (.int i) H) ∨ ∃ k, xs = [.bl k] ∧ Q (.int (if k then 1 else 0)) H) f1Int := by
  intro σ F μ H env st x v z st' Q w en rx h k
  unfold f1Int at h
  split at h
  · cases h; cases rx
    exact .inl ⟨_, rfl, k _ F μ H w Stp.refl rfl⟩
  · cases h; cases rx
    exact .inr ⟨_, rfl, k _ F μ H w Stp.refl rfl⟩
  · cases h
theorem xint1 {x : Str} {p : Pos} (hg : Gl X x) (hm : X.mg x = none) (hv : bootBuiltins x = some (.type "int")) (ha : XE X e m) (hn : x ≠ "__name__" := by decide)
    (hdb : (x == ("__debug__" : Str)) = false := by decide) (he : starEach (e :: []) X.env = (false, eval e X.env) :: starEach [] X.env := by rfl) (hpl : (backTo pos (starEach [] X.env)).any (·.1) = false := by rfl) : XE X (.Call (.Name x p) [e] [] pos) (m1 m f1Int) :=
  xcallTy call_int1 sim1Int hg hm hv ha hn hdb he hpl
/-- abs -/
def f1Abs : Env → Store → R → Option (R × Store) := fun _ st x => match x with
  | .d (.int i) => some (.d (.int (if i < 0 then -i else i)), st)
  | _ => none
theorem xabs {x : Str} {p : Pos} (hg : Gl X x) (hm : X.mg x = none) (hv : bootBuiltins x = some (.builtin "abs")) (ha : XE X e m) (hn : x ≠ "__name__" := by decide)
    (hdb : (x == ("__debug__" : Str)) = false := by decide) (he : starEach (e :: []) X.env = (false, eval e X.env) :: starEach [] X.env := by rfl) (hpl : (backTo pos (starEach [] X.env)).any (·.1) = false := by rfl) : XE X (.Call (.Name x p) [e] [] pos) (m1 m f1Abs) := by
  refine xcallB call_abs ?_ hg hm hv ha hn hdb he hpl
  intro σ F μ H env st x v z st' Q w en rx h k
  unfold f1Abs at h
  split at h
  · cases h; cases rx
    exact ⟨_, rfl, k _ F μ H w Stp.refl rfl⟩
  · cases h
/-- tuple(x) -/
def f1Tup : Env → Store → R → Option (R × Store) := fun env st x => match seqOf env st x with
  | some xs => some (.d (.tup xs), st)
  | none => none
theorem xtuple {x : Str} {p : Pos} (hg : Gl X x) (hm : X.mg x = none) (hv : bootBuiltins x = some (.type "tuple")) (ha : XE X e m) (hn : x ≠ "__name__" := by decide)
    (hdb : (x == ("__debug__" : Str)) = false := by decide) (he : starEach (e :: []) X.env = (false, eval e X.env) :: starEach [] X.env := by rfl) (hpl : (backTo pos (starEach [] X.env)).any (·.1) = false := by rfl) : XE X (.Call (.Name x p) [e] [] pos) (m1 m f1Tup) := by
  refine xcallTy call_tuple_of ?_ hg hm hv ha hn hdb he hpl
  intro σ F μ H env st x v z st' Q w en rx h k
  unfold f1Tup at h
  split at h
  · rename_i xs e1
    cases h
    unfold seqOf at e1
    split at e1
    · rename_i ys e2
      cases e1
      cases x with
      | loc i => cases e2
      | d d =>
        cases d <;> cases e2
        obtain ⟨a, vs, e, s, q⟩ := rx
        exact ⟨a, vs, by rw [e], .inr ⟨SqT.mono w.sub s, k _ F μ H w Stp.refl ⟨a, vs, rfl, s, q⟩⟩⟩
    · obtain ⟨a, vs, rfl, s, q⟩ := asL_ok w en rx e1
      refine ⟨a, vs, rfl, .inl ⟨s, fun p hp => ?_⟩⟩
      have sl := Stp.lay (F := F) (μ := μ) (o := .tup vs) hp (w.Fnone hp)
      exact k _ _ μ _ (w.lay hp) sl ⟨p, _, rfl, .of upd_same, sl.reps q⟩
  · cases h
/-- all, any, of bools -/
def bools : List D → Option (List Bool)
  | [] => some []
  | .bl b :: r => (bools r).map (b :: ·)
  | _ => none
theorem bools_ok : ∀ {xs : List D} {bs : List Bool}, bools xs = some bs → xs = bs.map D.bl
  | [], bs, h => by cases h; rfl
  | .bl b :: r, bs, h => by
    simp only [bools, Option.map_eq_some_iff] at h
    obtain ⟨cs, h, rfl⟩ := h
    rw [bools_ok h]; rfl
  | .non :: _, _, h | .int _ :: _, _, h | .str _ :: _, _, h | .ty _ :: _, _, h | .tup _ :: _, _, h | .lst _ :: _, _, h | .dct _ _ :: _, _, h | .dtt _ _ :: _, _, h | .ref _ :: _, _, h | .fn _ :: _, _, h => by simp [bools] at h
def f1All : Env → Store → R → Option (R × Store) := fun env st x => match asL env st x with
  | some xs => match bools xs with | some bs => some (.d (.bl (bs.all id)), st) | none => none
  | none => none
def f1Any : Env → Store → R → Option (R × Store) := fun env st x => match asL env st x with
  | some xs => match bools xs with | some bs => some (.d (.bl (bs.any id)), st) | none => none
  | none => none
theorem xall {x : Str} {p : Pos} (hc : X.calm = true) (hg : Gl X x) (hm : X.mg x = none) (hv : bootBuiltins x = some (.builtin "all")) (ha : XE X e m) (hn : x ≠ "__name__" := by decide)
    (hdb : (x == ("__debug__" : Str)) = false := by decide) (he : starEach (e :: []) X.env = (false, eval e X.env) :: starEach [] X.env := by rfl) (hpl : (backTo pos (starEach [] X.env)).any (·.1) = false := by rfl) : XE X (.Call (.Name x p) [e] [] pos) (m1 m f1All) := by
  refine xcallB (cr_all hc) ?_ hg hm hv ha hn hdb he hpl
  intro σ F μ H env st x v z st' Q w en rx h k
  unfold f1All at h
  split at h
  · rename_i xs e1
    split at h
    · rename_i bs e2
      cases h
      obtain ⟨a, vs, rfl, s, q⟩ := asL_ok w en rx e1
      rw [bools_ok e2] at q
      rw [q.bls] at s
      exact ⟨a, bs, rfl, s, k _ F μ H w Stp.refl rfl⟩
    · cases h
  · cases h
theorem xany {x : Str} {p : Pos} (hc : X.calm = true) (hg : Gl X x) (hm : X.mg x = none) (hv : bootBuiltins x = some (.builtin "any")) (ha : XE X e m) (hn : x ≠ "__name__" := by decide)
    (hdb : (x == ("__debug__" : Str)) = false := by decide) (he : starEach (e :: []) X.env = (false, eval e X.env) :: starEach [] X.env := by rfl) (hpl : (backTo pos (starEach [] X.env)).any (·.1) = false := by rfl) : XE X (.Call (.Name x p) [e] [] pos) (m1 m f1Any) := by
  refine xcallB (cr_any hc) ?_ hg hm hv ha hn hdb he hpl
  intro σ F μ H env st x v z st' Q w en rx h k
  unfold f1Any at h
  split at h
  · rename_i xs e1
    split at h
    · rename_i bs e2
      cases h
      obtain ⟨a, vs, rfl, s, q⟩ := asL_ok w en rx e1
      rw [bools_ok e2] at q
      rw [q.bls] at s
      exact ⟨a, bs, rfl, s, k _ F μ H w Stp.refl rfl⟩
    · cases h
  · cases h
/-- a call of a built-in with two arguments -/
theorem xcallB2 {b' : Expr} {mb' : ME} {x : Str} {p : Pos} {id : String} {r : List V → Hp → VK → Prop} {f} (hc : CallR X (.builtin id) r) (hs : Sim2 X.K (fun v u H Q => r [v, u] H Q) f) (hg : Gl X x) (hm : X.mg x = none) (hv : bootBuiltins x = some (.builtin id)) (ha : XE X e m) (hb : XE X b' mb') (hn : x ≠ "__name__" := by decide)
    (hdb : (x == ("__debug__" : Str)) = false := by decide) (he : starEach [e, b'] X.env = (false, eval e X.env) :: starEach [b'] X.env := by rfl) (he2 : starEach (b' :: []) X.env = (false, eval b' X.env) :: starEach [] X.env := by rfl) (hpl : (backTo pos (starEach [b'] X.env)).any (·.1) = false := by rfl) :
    XE X (.Call (.Name x p) [e, b'] [] pos) (m2 m mb' f) := by
  obtain ⟨t, pe, s⟩ := ha
  obtain ⟨t', pe', s'⟩ := hb
  exact ⟨_, pe_callB hc hg hm hv (pa_cons pe (pa_cons pe' pa_nil he2) he) hn hdb he hpl, sim2 (r := fun v u H Q => r [v, u] H Q) s s' hs⟩
theorem sim2c {K : PySem.W.Frag} {f : Int → Int → Int} : Sim2 K (fun v u H Q => (fun (xs : List V) H (Q : VK) => ∃ i j, xs = [V.int i, V.int j] ∧ Q (.int (f i j)) H) [v, u] H Q) (f2I (fun _ _ => true) fun i j => .int (f i j)) := by
  intro σ F μ H env st x y v u z st' Q w en rx ry h k
  unfold f2I at h
  split at h
  · cases h
    cases rx; cases ry
    exact ⟨_, _, rfl, k _ F μ H w Stp.refl rfl⟩
  · cases h
def fMax := f2I (fun _ _ => true) fun i j => .int (if j > i then j else i)
def fMin := f2I (fun _ _ => true) fun i j => .int (if j < i then j else i)
theorem xmax {b' : Expr} {mb' : ME} {x : Str} {p : Pos} (hc : X.calm = true) (hg : Gl X x) (hm : X.mg x = none) (hv : bootBuiltins x = some (.builtin "max")) (ha : XE X e m) (hb : XE X b' mb') (hn : x ≠ "__name__" := by decide)
    (hdb : (x == ("__debug__" : Str)) = false := by decide) (he : starEach [e, b'] X.env = (false, eval e X.env) :: starEach [b'] X.env := by rfl) (he2 : starEach (b' :: []) X.env = (false, eval b' X.env) :: starEach [] X.env := by rfl) (hpl : (backTo pos (starEach [b'] X.env)).any (·.1) = false := by rfl) :
    XE X (.Call (.Name x p) [e, b'] [] pos) (m2 m mb' fMax) :=
  xcallB2 (call_max2 hc) (sim2c (f := fun i j => if j > i then j else i)) hg hm hv ha hb hn hdb he he2 hpl
theorem xmin {b' : Expr} {mb' : ME} {x : Str} {p : Pos} (hc : X.calm = true) (hg : Gl X x) (hm : X.mg x = none) (hv : bootBuiltins x = some (.builtin "min")) (ha : XE X e m) (hb : XE X b' mb') (hn : x ≠ "__name__" := by decide)
    (hdb : (x == ("__debug__" : Str)) = false := by decide) (he : starEach [e, b'] X.env = (false, eval e X.env) :: starEach [b'] X.env := by rfl) (he2 : starEach (b' :: []) X.env = (false, eval b' X.env) :: starEach [] X.env := by rfl) (hpl : (backTo pos (starEach [b'] X.env)).any (·.1) = false := by rfl) :
    XE X (.Call (.Name x p) [e, b'] [] pos) (m2 m mb' fMin) :=
  xcallB2 (call_min2 hc) (sim2c (f := fun i j => if j < i then j else i)) hg hm hv ha hb hn hdb he he2 hpl
/-- isinstance(x, T) -/
def tyOf (env : Env) (st : Store) : R → Option String
  | .d .non => some "NoneType"
  | .d (.bl _) => some "bool"
  | .d (.int _) => some "int"
  | .d (.str _) => some "str"
  | .d (.tup _) => some "tuple"
  | .d (.lst _) => some "list"
  | .d (.dct _ _) => some "dict"
  | .d (.ref n) => match st[n]? with | some (.lst _) => some "list" | some (.dK _) => some "dict" | some (.dT _) => some "dict" | _ => none
  | .loc i => match env[i]? with | some (.own (.lst _)) => some "list" | some (.own (.dK _)) => some "dict" | some (.own (.dT _)) => some "dict" | _ => none
  | _ => none
theorem tyT {K : PySem.W.Frag} {H : Hp} {a : Addr} {vs : List V} (s : SqT K H a vs) : TyX K H (.ref a) (.type "tuple") := by
  rcases s with (h | ⟨o, h⟩) | ⟨o, its, n, h1, h2, _⟩
  · exact .base (.tup h)
  · exact .fTuple h
  · exact .kTuple h1 h2
theorem tyL {K : PySem.W.Frag} {H : Hp} {a : Addr} {vs : List V} (s : SqL K H a vs) : TyX K H (.ref a) (.type "list") := by
  rcases s with (h | ⟨o, h⟩) | ⟨o, its, n, h1, h2, _⟩
  · exact .base (.lst h)
  · exact .base (.frz h)
  · exact .kList h1 h2
theorem tyD {K : PySem.W.Frag} {H : Hp} {a : Addr} {kvs : List (Key × V)} (s : Rd H a (.dK kvs)) : TyX K H (.ref a) (.type "dict") := by
  rcases s with h | ⟨o, h⟩
  · exact .base (.dK h)
  · exact .fDict h
theorem tyOf_ok {K : PySem.W.Frag} {F : Hp} {μ : List Addr} {H : Hp} {st : Store} {env : Env} {σ : L2.St} {r : R} {v : V} {T : String} (w : Wd K F μ H st) (en : EnvOk K F μ H env σ) (q : RRep K F μ env σ r v) (h : tyOf env st r = some T) : TyX K H v (.type T) := by
  unfold tyOf at h
  split at h
  · cases h; cases q; exact .base .non
  · cases h; cases q; exact .base (.bl _)
  · cases h; cases q; exact .base (.int _)
  · cases h; cases q; exact .base (.str _)
  · cases h; obtain ⟨a, vs, rfl, s, q⟩ := q; exact tyT (SqT.mono w.sub s)
  · cases h; obtain ⟨a, vs, rfl, s, q⟩ := q; exact tyL (SqL.mono w.sub s)
  · cases h; obtain ⟨a, vs, rfl, s, l, q⟩ := q; exact tyD (Rd.mono w.sub s)
  · rename_i n
    obtain ⟨a, rfl, hm⟩ := q
    split at h
    · rename_i e; cases h
      obtain ⟨o, h1, h2⟩ := w.obj n _ a e hm
      cases o <;> first | exact h2.elim | skip
      exact .base (.lst h1)
    · rename_i e; cases h
      obtain ⟨o, h1, h2⟩ := w.obj n _ a e hm
      cases o <;> first | exact h2.elim | skip
      exact .base (.dK h1)
    · rename_i e; cases h
      obtain ⟨o, h1, h2⟩ := w.obj n _ a e hm
      cases o <;> first | exact h2.elim | skip
      exact .base (.dT h1)
    · cases h
  · rename_i i
    obtain ⟨a, rfl, so, g1, g2⟩ := q
    obtain ⟨b, u, h3, h4, h5, h6, h7⟩ := en.slot i _ _ g1 g2
    cases h3
    rw [g1] at h
    split at h
    · rename_i e; cases e; cases h
      cases u <;> first | exact h7.elim | skip
      exact .base (.lst h6)
    · rename_i e; cases e; cases h
      cases u <;> first | exact h7.elim | skip
      exact .base (.dK h6)
    · rename_i e; cases e; cases h
      cases u <;> first | exact h7.elim | skip
      exact .base (.dT h6)
    · cases h
  · cases h
def f2Isi (T : String) : Env → Store → R → R → Option (R × Store) := fun env st x y => match y with
  | .d (.ty n) => if n = T then match tyOf env st x with
      | some S => match kitB S T with | some b => some (.d (.bl b), st) | none => none
      | none => none
    else none
  | _ => none
theorem xisi {b' : Expr} {mb' : ME} {x : Str} {p : Pos} {T : String} (hg : Gl X x) (hm : X.mg x = none) (hv : bootBuiltins x = some (.builtin "isinstance")) (ha : XE X e m) (hb : XE X b' mb') (hn : x ≠ "__name__" := by decide)
    (hdb : (x == ("__debug__" : Str)) = false := by decide) (he : starEach [e, b'] X.env = (false, eval e X.env) :: starEach [b'] X.env := by rfl) (he2 : starEach (b' :: []) X.env = (false, eval b' X.env) :: starEach [] X.env := by rfl) (hpl : (backTo pos (starEach [b'] X.env)).any (·.1) = false := by rfl) :
    XE X (.Call (.Name x p) [e, b'] [] pos) (m2 m mb' (f2Isi T)) := by
  refine xcallB2 call_isi ?_ hg hm hv ha hb hn hdb he he2 hpl
  intro σ F μ H env st x y v u z st' Q w en rx ry h k
  unfold f2Isi at h
  split at h
  · rename_i n
    split at h
    · rename_i hnT
      subst hnT
      split at h
      · rename_i S e1
        split at h
        · rename_i b e2
          cases h
          cases ry
          exact ⟨v, .ty n, _, _, b, rfl, .ty n, tyOf_ok w en rx e1, kit_ty e2, k _ F μ H w Stp.refl rfl⟩
        · cases h
      · cases h
    · cases h
  · cases h
end
end Gx

set_option maxHeartbeats 1000000
namespace Gx
open PySem L2

/-! ### one reading for all contexts -/
def tOfM (K : PySem.W.Frag) (m : ME) : TE := fun σ H Q => ∃ F μ env st r st', Wd K F μ H st ∧ EnvOk K F μ H env σ ∧ m env st = some (r, st') ∧ ∀ v F' μ' H', Wd K F' μ' H' st' → Stp F μ H F' μ' H' → RRep K F' μ' env σ r v → Q v H'
def tOfT (K : PySem.W.Frag) (m : MT) : TT := fun σ H Q => ∃ F μ env st r st', Wd K F μ H st ∧ EnvOk K F μ H env σ ∧ m env st = some (r, st') ∧ ∀ F' μ' H', Wd K F' μ' H' st' → Stp F μ H F' μ' H' → Q r H'
theorem simOfM {K : PySem.W.Frag} {m : ME} : SimE K (tOfM K m) m := fun σ F μ H env st r st' Q w en e k => ⟨F, μ, env, st, r, st', w, en, e, k⟩
theorem simOfT {K : PySem.W.Frag} {m : MT} : SimT K (tOfT K m) m := fun σ F μ H env st r st' Q w en e k => ⟨F, μ, env, st, r, st', w, en, e, k⟩
theorem XE.pe {X : Cx} {e : Expr} {m : ME} (h : XE X e m) : PE X e (tOfM X.K m) := by
  obtain ⟨t, p, s⟩ := h
  exact ⟨fun pins sh σ H Q I ⟨F, μ, env, st, r, st', w, en, e1, k⟩ => p.run pins sh σ H Q I (s σ F μ H env st r st' Q w en e1 k)⟩
theorem XT.pt {X : Cx} {e : Expr} {m : MT} (h : XT X e m) : PT X e (tOfT X.K m) := by
  obtain ⟨t, p, s⟩ := h
  exact ⟨fun pins sh σ H Q I ⟨F, μ, env, st, r, st', w, en, e1, k⟩ => p.run pins sh σ H Q I (s σ F μ H env st r st' Q w en e1 k)⟩

/-! ### slots stored -/
section
variable {K : PySem.W.Frag} {F : Hp} {μ : List Addr} {H : Hp} {st : Store} {env : Env} {σ : L2.St}
theorem EnvOk.set (en : EnvOk K F μ H env σ) (i : Nat) {s : Slot} {o : Option V} (h : SlotOk K F μ H s o) (hs : ∀ a j, j ≠ i → (∃ so, s = .own so) → o = some (.ref a) → ownAt env σ j a → False) : EnvOk K F μ H (env.set i s) (σ.set i o) := by
  have own' : ∀ j a, ownAt (env.set i s) (σ.set i o) j a → (j = i ∧ (∃ so, s = .own so) ∧ o = some (.ref a)) ∨ (j ≠ i ∧ ownAt env σ j a) := by
    rintro j a ⟨so, h1, h2⟩
    by_cases hj : j = i
    · subst hj
      have hl := (List.getElem?_eq_some_iff.mp h1).1
      rw [List.length_set] at hl
      rw [List.getElem?_set_self hl] at h1
      have hl2 := (List.getElem?_eq_some_iff.mp h2).1
      rw [List.length_set] at hl2
      rw [List.getElem?_set_self hl2] at h2
      exact .inl ⟨rfl, ⟨so, Option.some.inj h1⟩, Option.some.inj h2⟩
    · rw [List.getElem?_set_ne (Ne.symm hj)] at h1 h2
      exact .inr ⟨hj, so, h1, h2⟩
  refine ⟨by simp [en.len], fun j t u h1 h2 => ?_, fun j k a hjk h1 h2 => ?_⟩
  · by_cases hj : j = i
    · subst hj
      have hl := (List.getElem?_eq_some_iff.mp h1).1
      rw [List.length_set] at hl
      rw [List.getElem?_set_self hl] at h1
      have hl2 := (List.getElem?_eq_some_iff.mp h2).1
      rw [List.length_set] at hl2
      rw [List.getElem?_set_self hl2] at h2
      cases h1; cases h2; exact h
    · rw [List.getElem?_set_ne (Ne.symm hj)] at h1 h2
      exact en.slot j t u h1 h2
  · rcases own' j a h1 with ⟨rfl, e1, e2⟩ | ⟨n1, o1⟩
    · rcases own' k a h2 with ⟨rfl, _, _⟩ | ⟨n2, o2⟩
      · exact hjk rfl
      · exact hs a k n2 e1 e2 o2
    · rcases own' k a h2 with ⟨rfl, e1, e2⟩ | ⟨n2, o2⟩
      · exact hs a j n1 e1 e2 o1
      · exact en.sep j k a hjk o1 o2
theorem EnvOk.val (en : EnvOk K F μ H env σ) (i : Nat) {d : D} {v : V} (r : Rep K F μ d v) : EnvOk K F μ H (env.set i (.val d)) (σ.set i (some v)) :=
  en.set i ⟨v, rfl, r⟩ fun a j _ ⟨so, e⟩ => nomatch e
def wipeE (env : Env) : List Nat → Env
  | [] => env
  | v :: vs => (wipeE env vs).set v .none
theorem EnvOk.wipe (en : EnvOk K F μ H env σ) : ∀ vs : List Nat, EnvOk K F μ H (wipeE env vs) (L2.wipe σ vs)
  | [] => en
  | v :: vs => (EnvOk.wipe en vs).set v trivial fun a j _ ⟨so, e⟩ => nomatch e
end
theorem wipe_get (σ : L2.St) : ∀ (vs : List Nat) (i : Nat), (L2.wipe σ vs)[i]? = if i ∈ vs then (σ[i]?).map (fun _ => none) else σ[i]?
  | [], i => by simp [L2.wipe]
  | v :: vs, i => by
    show ((L2.wipe σ vs).set v none)[i]? = _
    rw [List.getElem?_set, wipe_length]
    by_cases h : v = i
    · subst h
      by_cases hl : v < σ.length
      · simp [hl]
      · simp [hl]
    · rw [if_neg h, wipe_get σ vs i]
      have : i ≠ v := Ne.symm h
      simp [this]
theorem wipe_set {σ : L2.St} {vs : List Nat} {j : Nat} (hj : j ∈ vs) (x : Option V) : L2.wipe ((L2.wipe σ vs).set j x) vs = L2.wipe σ vs := by
  apply List.ext_getElem?
  intro i
  rw [wipe_get, wipe_get, List.getElem?_set, wipe_length, wipe_get]
  by_cases hi : i ∈ vs
  · simp only [hi, if_true]
    by_cases h : j = i
    · subst h
      by_cases hl : j < σ.length
      · simp [hl]
      · simp [hl]
    · simp only [h, if_false, Option.map_map]
      rfl
  · simp only [hi, if_false]
    have : j ≠ i := fun e => hi (e ▸ hj)
    simp [this]

/-! ### what is walked -/
inductive Src where
  | rng (lo : Int) (n : Nat)
  | seq (r : R)
  | txt (x : Str)
  deriving DecidableEq
def txtItems (x : Str) : List D := x.cps.toList.map fun c => .str ⟨#[c]⟩
def isTup : R → Bool
  | .d (.tup _) => true
  | _ => false
def rngItems (lo : Int) (n : Nat) : List D := (List.range n).map fun (k : Nat) => .int (lo + k)
def srcItems (env : Env) (st : Store) : Src → Option (List D)
  | .rng lo n => some (rngItems lo n)
  | .seq r => seqOf env st r
  | .txt x => some (txtItems x)
def SrcOk (K : PySem.W.Frag) (F : Hp) (μ : List Addr) (env : Env) (σ : L2.St) (src : Src) (J : It) : Prop := match src with
  | .rng lo n => J = Itr lo n
  | .seq r => ∃ a, RRep K F μ env σ r (.ref a) ∧ ((isTup r = true ∧ J = Itt K a) ∨ (isTup r = false ∧ J = Itl K a))
  | .txt x => J = Its x
def AtJ (J : It) (H : Hp) (vs : List V) : Prop := (∀ i, i < vs.length → J.go i H ∧ ∀ x H', J.yld i H x H' → H' = H ∧ vs[i]? = some x) ∧ J.stop vs.length H
def isData : Src → Bool
  | .rng _ _ => true
  | .seq (.d _) => true
  | .txt _ => true
  | _ => false
section
variable {K : PySem.W.Frag} {F F1 : Hp} {μ μ1 : List Addr} {H H1 : Hp} {st : Store} {env env1 : Env} {σ σ1 : L2.St} {src : Src} {J : It} {xs : List D}
theorem SrcOk.step (a : Stp F μ H F1 μ1 H1) (h : SrcOk K F μ env σ src J) : SrcOk K F1 μ1 env σ src J := by
  cases src with
  | rng lo n => exact h
  | seq r => obtain ⟨b, q, z⟩ := h; exact ⟨b, q.step a, z⟩
  | txt x => exact h
theorem SrcOk.data (hd : isData src = true) (hF : ∀ a o, F a = some o → F1 a = some o) (hm : ∀ (n : Nat) (a : Addr), μ[n]? = some a → μ1[n]? = some a) (h : SrcOk K F μ env σ src J) : SrcOk K F1 μ1 env1 σ1 src J := by
  cases src with
  | rng lo n => exact h
  | seq r =>
    cases r with
    | loc i => cases hd
    | d d => obtain ⟨b, q, z⟩ := h; exact ⟨b, Rep.mono hF hm _ _ q, z⟩
  | txt x => exact h
theorem txt_reps : ∀ l : List Nat, Reps K F μ (l.map fun c => D.str ⟨#[c]⟩) (l.map fun c => V.str ⟨#[c]⟩)
  | [] => trivial
  | _ :: l => ⟨rfl, txt_reps l⟩
theorem rng_reps : ∀ (lo : Int) (n : Nat), Reps K F μ (rngItems lo n) ((List.range n).map fun (k : Nat) => V.int (lo + k)) := by
  intro lo n
  unfold rngItems
  generalize List.range n = l
  induction l with
  | nil => trivial
  | cons k l ih => exact ⟨rfl, ih⟩
theorem srcAt (w : Wd K F μ H st) (en : EnvOk K F μ H env σ) (h : SrcOk K F μ env σ src J) (e : srcItems env st src = some xs) : ∃ vs, AtJ J H vs ∧ Reps K F μ xs vs := by
  cases src with
  | rng lo n =>
    cases e
    have h : J = Itr lo n := h
    subst h
    refine ⟨_, ⟨fun i hi => ⟨?_, fun x H' y => ?_⟩, ?_⟩, rng_reps lo n⟩
    · show i < n
      simpa using hi
    · obtain ⟨e, y⟩ := y
      refine ⟨e, ?_⟩
      rw [y]
      simp at hi
      simp [hi]
    · show n ≤ _
      simp
  | seq r =>
    obtain ⟨a, q, z⟩ := h
    have e : seqOf env st r = some xs := e
    unfold seqOf at e
    rcases z with ⟨t, rfl⟩ | ⟨t, rfl⟩
    · cases r with
      | loc i => cases t
      | d d =>
        cases d <;> cases t
        cases e
        obtain ⟨b, vs, e1, s, q⟩ := asU_ok (r := .d (.tup _)) w q rfl
        cases e1
        refine ⟨vs, ⟨fun i hi => ⟨⟨vs, vs[i], s, by simp [hi]⟩, fun x H' y => ⟨y.1, y.2 vs s⟩⟩, ⟨vs, s, Nat.le_refl _⟩⟩, q⟩
    · split at e
      · rename_i ys e2
        cases r with
        | loc i => cases e2
        | d d => cases d <;> simp_all [isTup, asU]
      · obtain ⟨b, vs, e1, s, q⟩ := asL_ok w en q e
        cases e1
        exact ⟨vs, ⟨fun i hi => ⟨⟨vs, vs[i], s, by simp [hi]⟩, fun x H' y => ⟨y.1, y.2 vs s⟩⟩, ⟨vs, s, Nat.le_refl _⟩⟩, q⟩
  | txt x =>
    cases e
    have h : J = Its x := h
    subst h
    refine ⟨_, ⟨fun i hi => ⟨?_, fun v H' y => ?_⟩, ?_⟩, txt_reps x.cps.toList⟩
    · show i < x.cps.size
      simpa using hi
    · obtain ⟨e, c, hc, y⟩ := y
      refine ⟨e, ?_⟩
      rw [y]
      have hc' : x.cps.toList[i]? = some c := by simpa using hc
      simp [hc']
    · show x.cps.size ≤ _
      simp
end
abbrev MI := Env → Store → Option (Src × Store)
def SimI (K : PySem.W.Frag) (wi : TI) (mi : MI) : Prop :=
  ∀ (σ : L2.St) (F : Hp) (μ : List Addr) (H : Hp) (env : Env) (st : Store) (src : Src) (st' : Store) (R : It → Hp → Prop), Wd K F μ H st → EnvOk K F μ H env σ → mi env st = some (src, st') →
    (∀ J F' μ' H', Wd K F' μ' H' st' → Stp F μ H F' μ' H' → SrcOk K F' μ' env σ src J → R J H') → wi σ H R
structure XI (X : Cx) (tg iter : Expr) (mi : MI) : Prop where
  h : ∃ wi, PI X tg iter wi ∧ SimI X.K wi mi
section
variable {X : Cx} {tg e a b : Expr} {m ma mb : ME} {p pos : Pos}
def inR (j : Int) : Bool := decide (-(2 ^ 62) ≤ j ∧ j < 2 ^ 62)
def mRng1 (m : ME) : MI := fun env st => match m env st with
  | some (.d (.int j), st1) => if inR j then some (.rng 0 j.toNat, st1) else none
  | _ => none
def mRng2 (a b : ME) : MI := fun env st => match a env st with
  | some (.d (.int i), st1) => match b env st1 with
    | some (.d (.int j), st2) => if inR i && inR j then some (.rng i (j - i).toNat, st2) else none
    | _ => none
  | _ => none
theorem xrange1 (hg : Gl X "range") (hm : X.mg "range" = none) (ha : XE X a ma) (hs : starEach [a] X.env = [(false, eval a X.env)] := by rfl) : XI X tg (.Call (.Name "range" p) [a] [] pos) (mRng1 ma) := by
  obtain ⟨t, pa, s⟩ := ha
  refine ⟨_, pi_range1 hg hm (pa_cons pa pa_nil hs) hs, ?_⟩
  intro σ F μ H env st src st' R w en e k
  unfold mRng1 at e
  split at e
  · rename_i j st1 e1
    split at e
    · rename_i hr
      cases e
      have hr := of_decide_eq_true hr
      exact s σ F μ H env st _ _ _ w en e1 fun v F1 μ1 H1 w1 s1 r1 => ⟨j, by rw [show v = V.int j from r1], hr.1, hr.2, k _ F1 μ1 H1 w1 s1 rfl⟩
    · cases e
  · cases e
theorem xrange2 (hg : Gl X "range") (hm : X.mg "range" = none) (ha : XE X a ma) (hb : XE X b mb) (hs : starEach [a, b] X.env = [(false, eval a X.env), (false, eval b X.env)] := by rfl) (hs2 : starEach [b] X.env = [(false, eval b X.env)] := by rfl) :
    XI X tg (.Call (.Name "range" p) [a, b] [] pos) (mRng2 ma mb) := by
  obtain ⟨t, pa, s⟩ := ha
  obtain ⟨t', pb, s'⟩ := hb
  refine ⟨_, pi_range2 hg hm (pa_cons pa (pa_cons pb pa_nil hs2) (by rw [hs, hs2])) hs hs2, ?_⟩
  intro σ F μ H env st src st' R w en e k
  unfold mRng2 at e
  split at e
  · rename_i i st1 e1
    split at e
    · rename_i j st2 e2
      split at e
      · rename_i hr
        cases e
        rw [Bool.and_eq_true] at hr
        have h1 := of_decide_eq_true hr.1
        have h2 := of_decide_eq_true hr.2
        refine s σ F μ H env st _ _ _ w en e1 fun v F1 μ1 H1 w1 s1 r1 => ?_
        refine s' σ F1 μ1 H1 env _ _ _ _ w1 (en.step s1) e2 fun u F2 μ2 H2 w2 s2 r2 => ⟨i, j, by rw [show v = V.int i from r1, show u = V.int j from r2], ⟨h1.1, h1.2, h2.1, h2.2⟩, k _ F2 μ2 H2 w2 (s1.trans s2) rfl⟩
      · cases e
    · cases e
  · cases e
theorem PI.or {wi wj : TI} (h : PI X tg e wi) (h' : PI X tg e wj) : PI X tg e (fun σ H R => wi σ H R ∨ wj σ H R) :=
  ⟨fun pins s σ H R I q => q.elim (h.run pins s σ H R I) (h'.run pins s σ H R I)⟩
def mSeq (m : ME) : MI := fun env st => match m env st with
  | some (r, st1) => match seqOf env st1 r with
    | some _ => some (.seq r, st1)
    | none => none
  | none => none
theorem xseq (h : XE X e m) : XI X tg e (mSeq m) := by
  obtain ⟨t, p, s⟩ := h
  refine ⟨_, PI.or (pi_list p) (pi_tup p), ?_⟩
  intro σ F μ H env st src st' R w en e k
  unfold mSeq at e
  split at e
  · rename_i r st1 e1
    split at e
    · rename_i xs e2
      cases e
      cases ht : isTup r with
      | true =>
        refine .inr (s σ F μ H env st _ _ _ w en e1 fun v F1 μ1 H1 w1 s1 r1 => ?_)
        cases r with
        | loc i => cases ht
        | d d =>
          cases d <;> cases ht
          obtain ⟨a, vs, rfl, sq, q⟩ := asU_ok (r := .d (.tup _)) w1 r1 rfl
          exact ⟨a, rfl, ⟨vs, sq⟩, k _ F1 μ1 H1 w1 s1 ⟨a, r1, .inl ⟨rfl, rfl⟩⟩⟩
      | false =>
        refine .inl (s σ F μ H env st _ _ _ w en e1 fun v F1 μ1 H1 w1 s1 r1 => ?_)
        have e3 : asL env st' r = some xs := by
          unfold seqOf at e2
          split at e2
          · rename_i ys e4
            cases r with
            | loc i => cases e4
            | d d => cases d <;> simp_all [isTup, asU]
          · exact e2
        obtain ⟨a, vs, rfl, sq, q⟩ := asL_ok w1 (en.step s1) r1 e3
        exact ⟨a, rfl, ⟨vs, sq⟩, k _ F1 μ1 H1 w1 s1 ⟨a, r1, .inr ⟨ht, rfl⟩⟩⟩
    · cases e
  · cases e
end

section
variable {X : Cx} {tg e : Expr} {m : ME}
/-- a text, sign by sign; or a list or tuple -/
def mSeqS (m : ME) : MI := fun env st => match m env st with
  | some (.d (.str x), st1) => some (.txt x, st1)
  | some (r, st1) => match seqOf env st1 r with
    | some _ => some (.seq r, st1)
    | none => none
  | none => none
theorem xseqS (h : XE X e m) : XI X tg e (mSeqS m) := by
  obtain ⟨ws, ps, ss⟩ := xseq (tg := tg) h
  obtain ⟨t, p, s⟩ := h
  refine ⟨_, PI.or ps (pi_str p), ?_⟩
  intro σ F μ H env st src st' R w en e k
  unfold mSeqS at e
  split at e
  · rename_i x st1 e1
    cases e
    exact .inr (s σ F μ H env st _ _ _ w en e1 fun v F1 μ1 H1 w1 s1 r1 => ⟨x, r1, k _ F1 μ1 H1 w1 s1 rfl⟩)
  · rename_i r st1 hno e1
    refine .inl (ss σ F μ H env st src st' R w en ?_ k)
    unfold mSeq
    rw [e1]
    exact e
  · cases e
end

/-! ### list comprehensions -/
def lcGo (j : Nat) (t : MT) (e : ME) (env : Env) (chk : Store → Bool) : List D → Store → List D → Option (List D × Store)
  | [], st, acc => if chk st then some (acc, st) else none
  | x :: xs, st, acc => if chk st then
      match t (env.set j (.val x)) st with
      | some (true, st1) => match e (env.set j (.val x)) st1 with
        | some (.d d, st2) => if acc.length < 16000000 then lcGo j t e env chk xs st2 (acc ++ [d]) else none
        | _ => none
      | some (false, st1) => lcGo j t e env chk xs st1 acc
      | none => none
    else none
def mLc (mi : MI) (j : Nat) (t : MT) (e : ME) (vs : List Nat) : MF := fun env st => match mi env st with
  | some (src, st1) => match srcItems env st1 src with
    | some xs => match lcGo j t e (wipeE env vs) (fun st => decide (srcItems env st src = some xs)) xs st1 [] with
      | some (acc, st2) => some (.lst acc, st2)
      | none => none
    | none => none
  | none => none
def mYes : MT := fun _ st => some (true, st)
theorem lc_by {J : It} {n : Nat} {g : TG} {tt : TT} {te : TE} {vs : List Nat} {σ : L2.St} {H1 : Hp} {D : Addr} {Qd : Hp → Prop} (Pv : Nat → Hp → Prop) (h0 : Pv 0 (upd H1 D (.lst [])))
    (hs : ∀ i H, i < n → Pv i H → J.go i H ∧ ∀ x H', J.yld i H x H' → g x (L2.wipe σ vs) H' fun σ2 H2 => L2.wipe σ2 vs = L2.wipe σ vs ∧ tt σ2 H2 fun b H3 =>
      if b = true then te σ2 H3 fun y H4 => ∃ acc, H4 D = some (.lst acc) ∧ acc.length < sizeLine ∧ Pv (i + 1) (upd H4 D (.lst (acc ++ [y]))) else Pv (i + 1) H3) (hd : ∀ H, Pv n H → J.stop n H ∧ Qd H) :
    ∃ W : Nat → Nat → Hp → Prop, (∃ m, W 0 m (upd H1 D (.lst []))) ∧ ∀ i m H, W i m H →
      (J.stop i H ∧ Qd H) ∨ (J.go i H ∧ ∃ Nx : Hp → Prop, (∀ H', Nx H' → ∃ m', m' < m ∧ W (i + 1) m' H') ∧ ∀ x H', J.yld i H x H' → g x (L2.wipe σ vs) H' fun σ2 H2 => L2.wipe σ2 vs = L2.wipe σ vs ∧ tt σ2 H2 fun b H3 =>
        if b = true then te σ2 H3 fun y H4 => ∃ acc, H4 D = some (.lst acc) ∧ acc.length < sizeLine ∧ Nx (upd H4 D (.lst (acc ++ [y]))) else Nx H3) := by
  refine ⟨fun i m H => m = n - i ∧ i ≤ n ∧ Pv i H, ⟨n, by simp, Nat.zero_le _, h0⟩, ?_⟩
  rintro i m H ⟨rfl, hi, p⟩
  by_cases hlt : i < n
  · obtain ⟨h1, h2⟩ := hs i H hlt p
    exact .inr ⟨h1, Pv (i + 1), fun H' p' => ⟨n - (i + 1), by omega, rfl, hlt, p'⟩, h2⟩
  · have e : i = n := by omega
    subst e
    exact .inl (hd H p)
section
variable {K : PySem.W.Frag} {F F' : Hp} {μ μ' : List Addr} {H H' : Hp} {st : Store}
/-- an object that nobody knows changes -/
theorem Wd.poke (w : Wd K F μ H st) {p : Addr} {o : HO} (hF : F p = none) (hμ : p ∉ μ) : Wd K F μ (upd H p o) st := by
  refine ⟨fun a u e => ?_, w.len, w.nd, w.nf, fun n so a e1 e2 => ?_⟩
  · rw [upd_ne (fun q => by subst q; rw [hF] at e; cases e)]; exact w.sub _ _ e
  · obtain ⟨u, h1, h2⟩ := w.obj n so a e1 e2
    exact ⟨u, by rw [upd_ne (ne_mem (List.mem_of_getElem? e2) hμ)]; exact h1, h2⟩
theorem Stp.poke (s : Stp F μ H F' μ' H') {p : Addr} {o : HO} (h0 : H p = none) : Stp F μ H F' μ' (upd H' p o) := by
  refine ⟨s.fF, s.fm, fun a u e n => ?_, fun a h => ?_, s.newF, fun a od u e => ?_⟩
  · rw [upd_ne (fun q => by subst q; rw [h0] at e; cases e)]; exact s.frame a u e n
  · by_cases q : a = p
    · subst q; exact absurd h0 h
    · rw [upd_ne q]; exact s.live a h
  · rw [upd_ne (fun q => by subst q; rw [h0] at e; cases e)]; exact s.frz a od u e
/-- what is new stays unknown -/
theorem Stp.out (s : Stp F μ H F' μ' H') {p : Addr} (hF : F p = none) (hμ : p ∉ μ) (h : H p ≠ none) : F' p = none ∧ p ∉ μ' := by
  refine ⟨Classical.byContradiction fun c => ?_, fun q => ?_⟩
  · rcases s.newF p c with z | z
    · exact z hF
    · exact h z
  · obtain ⟨ex, e, n⟩ := s.fm
    rw [e] at q
    rcases List.mem_append.mp q with q | q
    · exact hμ q
    · exact h (n p q)
end
theorem simLc {K : PySem.W.Frag} {wi : TI} {mi : MI} {j : Nat} {tt : TT} {mt : MT} {te : TE} {me : ME} {vs : List Nat} (hi : SimI K wi mi) (ht : SimT K tt mt) (he : SimE K te me) (hj : j ∈ vs) : SimF K (tLc wi (gName j) tt te vs) (mLc mi j mt me vs) := by
  intro σ F μ H env st so st' Q w en e k
  unfold mLc at e
  split at e
  · rename_i src st1 e1
    split at e
    · rename_i xs e2
      split at e
      · rename_i acc st2 e3
        cases e
        refine hi σ F μ H env st src st1 _ w en e1 fun J F1 μ1 H1 w1 s1 hJ D hD => ?_
        have hD0 : H D = none := fresh_of s1 hD
        refine lc_by (n := xs.length) (fun i Hc => i ≤ xs.length ∧ ∃ F2 μ2 stc ac av, Wd K F2 μ2 Hc stc ∧ Stp F μ H F2 μ2 Hc ∧ Stp F1 μ1 H1 F2 μ2 Hc ∧ F2 D = none ∧ D ∉ μ2 ∧ Hc D = some (.lst av) ∧ Reps K F2 μ2 ac av ∧
          lcGo j mt me (wipeE env vs) (fun st => decide (srcItems env st src = some xs)) (xs.drop i) stc ac = some (acc, st')) ?_ ?_ ?_
        · refine ⟨Nat.zero_le _, F1, μ1, st1, [], [], w1.lay0 hD, s1.trans (Stp.lay0 hD), Stp.lay0 hD, w1.Fnone hD, w1.out hD, upd_same, trivial, ?_⟩
          simpa using e3
        · rintro i Hc hin ⟨_, F2, μ2, stc, ac, av, w2, s2, s2', f2, m2', hDc, r2, go⟩
          rw [List.drop_eq_getElem_cons hin] at go
          unfold lcGo at go
          split at go
          · rename_i hck
            have hck := of_decide_eq_true hck
            have en2 := en.step s2
            obtain ⟨vs2, ⟨a1, a2⟩, rr⟩ := srcAt w2 en2 (hJ.step s2') hck
            have hl := rr.length
            obtain ⟨g1, g2⟩ := a1 i (by omega)
            refine ⟨g1, fun x H' y => ?_⟩
            obtain ⟨eH, ex⟩ := g2 x H' y
            subst eH
            obtain ⟨d, ed, rd⟩ := rr.get' ex
            have ed' : xs[i] = d := by
              have := List.getElem?_eq_getElem hin
              rw [this] at ed; exact Option.some.inj ed
            rw [ed'] at go
            show L2.wipe ((L2.wipe σ vs).set j (some x)) vs = L2.wipe σ vs ∧ _
            refine ⟨wipe_set hj _, ?_⟩
            have enb : EnvOk K F2 μ2 H' ((wipeE env vs).set j (.val d)) ((L2.wipe σ vs).set j (some x)) := (en2.wipe vs).val j rd
            split at go
            · rename_i st3 e4
              refine ht _ F2 μ2 H' _ stc _ st3 _ w2 enb e4 fun F3 μ3 H3 w3 s3 => ?_
              rw [if_pos rfl]
              split at go
              · rename_i d2 st4 e5
                split at go
                · rename_i hz
                  refine he _ F3 μ3 H3 _ st3 _ st4 _ w3 (enb.step s3) e5 fun v F4 μ4 H4 w4 s4 r4 => ?_
                  have o3 := s3.out f2 m2' (by rw [hDc]; simp)
                  have hD3 := s3.frame D _ hDc m2'
                  have o4 := s4.out o3.1 o3.2 (by rw [hD3]; simp)
                  have hD4 := s4.frame D _ hD3 o3.2
                  have s24 := s3.trans s4
                  refine ⟨av, hD4, ?_, hin, F4, μ4, st4, ac ++ [d2], av ++ [v], w4.poke o4.1 o4.2, (s2.trans s24).poke hD0, (s2'.trans s24).poke hD, o4.1, o4.2, upd_same, (s24.reps r2).append ⟨r4, trivial⟩, go⟩
                  rw [← r2.length, sizeLine_eq]; omega
                · cases go
              · cases go
            · rename_i st3 e4
              refine ht _ F2 μ2 H' _ stc _ st3 _ w2 enb e4 fun F3 μ3 H3 w3 s3 => ?_
              rw [if_neg Bool.false_ne_true]
              have o3 := s3.out f2 m2' (by rw [hDc]; simp)
              exact ⟨hin, F3, μ3, st3, ac, av, w3, s2.trans s3, s2'.trans s3, o3.1, o3.2, s3.frame D _ hDc m2', s3.reps r2, go⟩
            · cases go
          · cases go
        · rintro Hc ⟨_, F2, μ2, stc, ac, av, w2, s2, s2', f2, m2', hDc, r2, go⟩
          rw [List.drop_length] at go
          unfold lcGo at go
          split at go
          · rename_i hck
            have hck := of_decide_eq_true hck
            cases go
            obtain ⟨vs2, ⟨a1, a2⟩, rr⟩ := srcAt w2 (en.step s2) (hJ.step s2') hck
            rw [rr.length]
            exact ⟨a2, k D _ F2 μ2 Hc w2 s2 hD0 f2 m2' hDc r2⟩
          · cases go
      · cases e
    · cases e
  · cases e
section
variable {X : Cx}
theorem xlc {elt tg iter : Expr} {scope : Scope} {own : List (Str × Nat)} {pos : Pos} {mi : MI} {j : Nat} {me : ME} (hc : X.calm = true) (hN : X.N.Nodup) (hi : XI X tg iter mi) (ok : BlkOk X.N X.env.scope scope own)
    (hg : ∀ (s : Shared) (H : Hp) (C : Addr) (cl : List (Str × Addr)) (fp : List Addr), PG (X.blk s H scope (compEnvC scope cl C X.env) fp) tg (gName j))
    (he : ∀ (s : Shared) (H : Hp) (C : Addr) (cl : List (Str × Addr)) (fp : List Addr), XE (X.blk s H scope (compEnvC scope cl C X.env) fp) elt me) (hj : j ∈ own.map (·.2) := by decide) (hs : ∀ x, foldedSetIterable iter X.env x = pure x := by intro _; rfl) :
    XF X (.ListComp elt [⟨tg, iter, [], 0⟩] scope pos) (mLc mi j mYes me (own.map (·.2))) := by
  obtain ⟨wi, p, s⟩ := hi
  refine ⟨_, pe_lc hc hN p ok hg (fun _ _ _ _ _ => pts_nil) (fun s H C cl fp => (he s H C cl fp).pe) hs, simLc s ?_ simOfM hj⟩
  intro σ F μ H env st b st' Q w en e k
  cases e
  exact k F μ H w Stp.refl
theorem xlcIf {elt tg iter c : Expr} {scope : Scope} {own : List (Str × Nat)} {pos : Pos} {mi : MI} {j : Nat} {mt : MT} {me : ME} (hc : X.calm = true) (hN : X.N.Nodup) (hi : XI X tg iter mi) (ok : BlkOk X.N X.env.scope scope own)
    (hg : ∀ (s : Shared) (H : Hp) (C : Addr) (cl : List (Str × Addr)) (fp : List Addr), PG (X.blk s H scope (compEnvC scope cl C X.env) fp) tg (gName j)) (ht : ∀ (s : Shared) (H : Hp) (C : Addr) (cl : List (Str × Addr)) (fp : List Addr), XT (X.blk s H scope (compEnvC scope cl C X.env) fp) c mt)
    (he : ∀ (s : Shared) (H : Hp) (C : Addr) (cl : List (Str × Addr)) (fp : List Addr), XE (X.blk s H scope (compEnvC scope cl C X.env) fp) elt me) (hj : j ∈ own.map (·.2) := by decide) (hs : ∀ x, foldedSetIterable iter X.env x = pure x := by intro _; rfl) :
    XF X (.ListComp elt [⟨tg, iter, [c], 0⟩] scope pos) (mLc mi j mt me (own.map (·.2))) := by
  obtain ⟨wi, p, s⟩ := hi
  exact ⟨_, pe_lc hc hN p ok hg (fun s H C cl fp => pts_one (ht s H C cl fp).pt) (fun s H C cl fp => (he s H C cl fp).pe) hs, simLc s simOfT simOfM hj⟩
end
end Gx

set_option maxHeartbeats 1000000
namespace Gx
open PySem L2

/-! ### statements -/
inductive Fl where
  | nx | bk | ct | rt (d : D)
abbrev Out := Fl × Env × Store
abbrev MS := Env → Store → Option Out
/-- what is known grows -/
structure Gr (Fg : Hp) (μg : List Addr) (F : Hp) (μ : List Addr) : Prop where
  f : ∀ a o, Fg a = some o → F a = some o
  m : ∀ (n : Nat) (a : Addr), μg[n]? = some a → μ[n]? = some a
theorem Gr.refl {F : Hp} {μ : List Addr} : Gr F μ F μ := ⟨fun _ _ e => e, fun _ _ e => e⟩
theorem Gr.trans {F F1 F2 : Hp} {μ μ1 μ2 : List Addr} (a : Gr F μ F1 μ1) (b : Gr F1 μ1 F2 μ2) : Gr F μ F2 μ2 := ⟨fun x o e => b.f x o (a.f x o e), fun n x e => b.m n x (a.m n x e)⟩
theorem Stp.gr {F F1 : Hp} {μ μ1 : List Addr} {H H1 : Hp} (a : Stp F μ H F1 μ1 H1) : Gr F μ F1 μ1 := ⟨a.fF, a.pre⟩
structure SOk (K : PySem.W.Frag) (F0 : Hp) (μ0 : List Addr) (H0 : Hp) (Fg : Hp) (μg : List Addr) (F : Hp) (μ : List Addr) (H : Hp) (env : Env) (σ : L2.St) (st : Store) : Prop where
  wd : Wd K F μ H st
  en : EnvOk K F μ H env σ
  stp : Stp F0 μ0 H0 F μ H
  own0 : ∀ (i : Nat) (a : Addr), ownAt env σ i a → H0 a = none
  gr : Gr Fg μg F μ
def Post (K : PySem.W.Frag) (F0 : Hp) (μ0 : List Addr) (H0 : Hp) (Fg : Hp) (μg : List Addr) (D : Ends) : Out → Prop
  | (.nx, env, st) => ∀ σ F μ H, SOk K F0 μ0 H0 Fg μg F μ H env σ st → D.nx σ H
  | (.bk, env, st) => ∀ σ F μ H, SOk K F0 μ0 H0 Fg μg F μ H env σ st → D.bk σ H
  | (.ct, env, st) => ∀ σ F μ H, SOk K F0 μ0 H0 Fg μg F μ H env σ st → D.ct σ H
  | (.rt d, _, st) => ∀ v F μ H, Wd K F μ H st → Stp F0 μ0 H0 F μ H → Rep K F μ d v → D.rt v H
def SimS (K : PySem.W.Frag) (t : TS) (ms : MS) : Prop :=
  ∀ (F0 : Hp) (μ0 : List Addr) (H0 : Hp) (Fg : Hp) (μg : List Addr) (σ : L2.St) (F : Hp) (μ : List Addr) (H : Hp) (env : Env) (st : Store) (out : Out) (D : Ends), SOk K F0 μ0 H0 Fg μg F μ H env σ st → ms env st = some out → Post K F0 μ0 H0 Fg μg D out → t D σ H
structure XS (X : Cx) (st : Stmt) (ms : MS) : Prop where
  h : ∃ t, PS X st t ∧ SimS X.K t ms
structure XSs (X : Cx) (st : List Stmt) (ms : MS) : Prop where
  h : ∃ t, PSs X st t ∧ SimS X.K t ms
section
variable {K : PySem.W.Frag} {F0 Fg F F' : Hp} {μ0 μg μ μ' : List Addr} {H0 H H' : Hp} {env : Env} {σ : L2.St} {st st' : Store}
theorem SOk.step (o : SOk K F0 μ0 H0 Fg μg F μ H env σ st) (w : Wd K F' μ' H' st') (s : Stp F μ H F' μ' H') : SOk K F0 μ0 H0 Fg μg F' μ' H' env σ st' := ⟨w, o.en.step s, o.stp.trans s, o.own0, o.gr.trans s.gr⟩
theorem ownAt_set {i j : Nat} {a : Addr} {s : Slot} {v : Option V} (h : ownAt (env.set i s) (σ.set i v) j a) : (j = i ∧ (∃ so, s = .own so) ∧ v = some (.ref a)) ∨ (j ≠ i ∧ ownAt env σ j a) := by
  obtain ⟨so, h1, h2⟩ := h
  by_cases hj : j = i
  · subst hj
    have hl := (List.getElem?_eq_some_iff.mp h1).1
    rw [List.length_set] at hl
    rw [List.getElem?_set_self hl] at h1
    have hl2 := (List.getElem?_eq_some_iff.mp h2).1
    rw [List.length_set] at hl2
    rw [List.getElem?_set_self hl2] at h2
    exact .inl ⟨rfl, ⟨so, Option.some.inj h1⟩, Option.some.inj h2⟩
  · rw [List.getElem?_set_ne (Ne.symm hj)] at h1 h2
    exact .inr ⟨hj, so, h1, h2⟩
theorem SOk.val (o : SOk K F0 μ0 H0 Fg μg F μ H env σ st) (i : Nat) {d : D} {v : V} (r : Rep K F μ d v) : SOk K F0 μ0 H0 Fg μg F μ H (env.set i (.val d)) (σ.set i (some v)) st :=
  ⟨o.wd, o.en.val i r, o.stp, fun j a h => by
    rcases ownAt_set h with ⟨_, ⟨so, e⟩, _⟩ | ⟨_, h⟩
    · cases e
    · exact o.own0 j a h, o.gr⟩
/-- a fresh object given to a name -/
theorem SOk.own (o : SOk K F0 μ0 H0 Fg μg F μ H env σ st) (w : Wd K F' μ' H' st') (s : Stp F μ H F' μ' H') (i : Nat) {a : Addr} {u : HO} {so : SO} (h0 : H a = none) (hF : F' a = none) (hm : a ∉ μ') (hu : H' a = some u) (r : SORep K F' μ' so u) :
    SOk K F0 μ0 H0 Fg μg F' μ' H' (env.set i (.own so)) (σ.set i (some (.ref a))) st' := by
  have o' := o.step w s
  refine ⟨w, o'.en.set i ⟨a, u, rfl, hF, hm, hu, r⟩ fun b j hj _ e hb => ?_, o'.stp, fun j b h => ?_, o'.gr⟩
  · cases e
    obtain ⟨so', h1, h2⟩ := hb
    obtain ⟨c, u', e1, _, _, e2, _⟩ := o.en.slot j _ _ h1 h2
    cases e1
    rw [h0] at e2; cases e2
  · rcases ownAt_set h with ⟨_, _, e⟩ | ⟨_, h⟩
    · cases e; exact fresh_of o.stp h0
    · exact o.own0 j b h
/-- an owned object becomes data -/
theorem SOk.freeze (o : SOk K F0 μ0 H0 Fg μg F μ H env σ st) {i : Nat} {so : SO} {d : D} (h : env[i]? = some (.own so)) (hd : dOf so = some d) : ∃ F', SOk K F0 μ0 H0 Fg μg F' μ H (env.set i (.val d)) σ st := by
  have hl : i < σ.length := by rw [← o.en.len]; exact (List.getElem?_eq_some_iff.mp h).1
  obtain ⟨a, u, e, hF, hm, hu, r⟩ := o.en.slot i _ _ h (List.getElem?_eq_getElem hl)
  have hσ : σ[i]? = some (some (.ref a)) := by rw [List.getElem?_eq_getElem hl, e]
  have h00 := o.own0 i a ⟨so, h, hσ⟩
  have ext : ∀ b o, F b = some o → upd F a u b = some o := fun b o e2 => by rw [upd_ne (fun q => by subst q; rw [hF] at e2; cases e2)]; exact e2
  have hset : σ.set i (some (.ref a)) = σ := by
    apply List.ext_getElem?
    intro j
    rw [List.getElem?_set]
    by_cases hj : i = j
    · subst hj; rw [if_pos rfl, if_pos hl, hσ]
    · rw [if_neg hj]
  refine ⟨upd F a u, o.wd.freeze hu hF hm, ⟨by simp [o.en.len], fun j t v h1 h2 => ?_, fun j k b hjk h1 h2 => ?_⟩, o.stp.freeze h00 hF, fun j b h' => ?_, o.gr.trans ⟨ext, fun _ _ e => e⟩⟩
  · by_cases hj : i = j
    · subst hj
      have hl2 := (List.getElem?_eq_some_iff.mp h).1
      rw [List.getElem?_set_self hl2] at h1
      cases h1
      rw [hσ] at h2; cases h2
      exact ⟨.ref a, rfl, dOf_ok (F' := F) hd (SORep.mono ext (fun _ _ e => e) _ _ r) upd_same⟩
    · rw [List.getElem?_set_ne hj] at h1
      have q := o.en.slot j t v h1 h2
      cases t with
      | none => trivial
      | val d => obtain ⟨x, e1, r1⟩ := q; exact ⟨x, e1, Rep.mono ext (fun _ _ e => e) _ _ r1⟩
      | own so' =>
        obtain ⟨b, u', e1, f1, m1, h3, r1⟩ := q
        refine ⟨b, u', e1, ?_, m1, h3, SORep.mono ext (fun _ _ e => e) _ _ r1⟩
        rw [upd_ne]
        · exact f1
        · intro q
          subst q
          subst e1
          exact o.en.sep i j b hj ⟨so, h, hσ⟩ ⟨so', h1, h2⟩
  · rw [← hset] at h1 h2
    rcases ownAt_set h1 with ⟨_, ⟨_, e⟩, _⟩ | ⟨_, h1⟩
    · cases e
    · rcases ownAt_set h2 with ⟨_, ⟨_, e⟩, _⟩ | ⟨_, h2⟩
      · cases e
      · exact o.en.sep j k b hjk h1 h2
  · rw [← hset] at h'
    rcases ownAt_set h' with ⟨_, ⟨_, e⟩, _⟩ | ⟨_, h'⟩
    · cases e
    · exact o.own0 j b h'
end

def mSkip : MS := fun env st => some (.nx, env, st)
def mSq (a b : MS) : MS := fun env st => match a env st with
  | some (.nx, env1, st1) => b env1 st1
  | r => r
theorem simSkip {K : PySem.W.Frag} : SimS K tNext mSkip := by
  intro F0 μ0 H0 Fg μg σ F μ H env st out D o e k
  cases e
  exact k σ F μ H o
theorem simSq {K : PySem.W.Frag} {t u : TS} {a b : MS} (ha : SimS K t a) (hb : SimS K u b) : SimS K (tSeq t u) (mSq a b) := by
  intro F0 μ0 H0 Fg μg σ F μ H env st out D o e k
  unfold mSq at e
  split at e
  · rename_i env1 st1 e1
    exact ha F0 μ0 H0 Fg μg σ F μ H env st _ _ o e1 fun σ' F' μ' H' o' => hb F0 μ0 H0 Fg μg σ' F' μ' H' env1 st1 out D o' e k
  · rename_i hne
    refine ha F0 μ0 H0 Fg μg σ F μ H env st out _ o e ?_
    obtain ⟨f, env1, st1⟩ := out
    cases f with
    | nx => exact absurd e (hne env1 st1)
    | bk => exact k
    | ct => exact k
    | rt d => exact k
section
variable {X : Cx} {s : Stmt} {ss : List Stmt} {a b : MS} {e : Expr} {me : ME} {mf : MF} {pos : Pos}
theorem xs_nil : XSs X [] mSkip := ⟨_, pss_nil, simSkip⟩
theorem xs_cons (h : XS X s a) (h2 : XSs X ss b) : XSs X (s :: ss) (mSq a b) := let ⟨t, p, q⟩ := h; let ⟨u, p', q'⟩ := h2; ⟨_, pss_cons p p', simSq q q'⟩
theorem xs_one (h : XS X s a) : XSs X [s] a := let ⟨t, p, q⟩ := h; ⟨_, pss_one p, q⟩
/-- the owned object of slot i is data from here on -/
def mFz (i : Nat) : MS := fun env st => match env[i]? with
  | some (.own so) => match dOf so with | some d => some (.nx, env.set i (.val d), st) | none => none
  | _ => some (.nx, env, st)
theorem xs_fz (i : Nat) (h : XSs X ss a) : XSs X ss (mSq (mFz i) a) := by
  obtain ⟨t, p, q⟩ := h
  refine ⟨t, p, ?_⟩
  intro F0 μ0 H0 Fg μg σ F μ H env st out D o e k
  unfold mSq at e
  cases e1 : mFz i env st with
  | none => rw [e1] at e; cases e
  | some z =>
    rw [e1] at e
    unfold mFz at e1
    split at e1
    · rename_i so h1
      split at e1
      · rename_i d hd
        cases e1
        obtain ⟨F', o'⟩ := o.freeze h1 hd
        exact q F0 μ0 H0 Fg μg σ F' μ H _ st out D o' e k
      · cases e1
    · cases e1
      exact q F0 μ0 H0 Fg μg σ F μ H env st out D o e k
/-- name = e -/
def mSet (i : Nat) (me : ME) : MS := fun env st => match me env st with
  | some (.d d, st1) => some (.nx, env.set i (.val d), st1)
  | _ => none
def mSetO (i : Nat) (mf : MF) : MS := fun env st => match mf env st with
  | some (so, st1) => some (.nx, env.set i (.own so), st1)
  | none => none
theorem simSet {K : PySem.W.Frag} {i : Nat} {t : TE} (h : SimE K t me) : SimS K (tAsg t (gName i)) (mSet i me) := by
  intro F0 μ0 H0 Fg μg σ F μ H env st out D o e k
  unfold mSet at e
  split at e
  · rename_i d st1 e1
    cases e
    exact h σ F μ H env st _ _ _ o.wd o.en e1 fun v F1 μ1 H1 w1 s1 r1 => k _ F1 μ1 H1 ((o.step w1 s1).val i r1)
  · cases e
theorem simSetO {K : PySem.W.Frag} {i : Nat} {t : TE} (h : SimF K t mf) : SimS K (tAsg t (gName i)) (mSetO i mf) := by
  intro F0 μ0 H0 Fg μg σ F μ H env st out D o e k
  unfold mSetO at e
  split at e
  · rename_i so st1 e1
    cases e
    exact h σ F μ H env st _ _ _ o.wd o.en e1 fun a u F1 μ1 H1 w1 s1 h0 f1 m1 h1 r1 => k _ F1 μ1 H1 (o.own w1 s1 i h0 f1 m1 h1 r1)
  · cases e
theorem xset {i : Nat} {x : Str} {pos' : Pos} (hN : X.N.Nodup) (hi : X.N[i]? = some x) (hx : Loc X.env.scope x) (he : XE X e me) (hs : swapsWith e (some (.Name x pos')) pos.line X.env = pure false := by rfl) (hf : X.fn x = true ∨ X.env.scope.names.lookup x = some .local := by first | exact .inl rfl | exact .inr rfl | assumption) :
    XS X (.Assign [.Name x pos'] e pos) (mSet i me) := let ⟨t, p, q⟩ := he; ⟨_, ps_set hN hi hx p hs hf, simSet q⟩
theorem xsetO {i : Nat} {x : Str} {pos' : Pos} (hN : X.N.Nodup) (hi : X.N[i]? = some x) (hx : Loc X.env.scope x) (he : XF X e mf) (hs : swapsWith e (some (.Name x pos')) pos.line X.env = pure false := by rfl) (hf : X.fn x = true ∨ X.env.scope.names.lookup x = some .local := by first | exact .inl rfl | exact .inr rfl | assumption) :
    XS X (.Assign [.Name x pos'] e pos) (mSetO i mf) := let ⟨t, p, q⟩ := he; ⟨_, ps_set hN hi hx p hs hf, simSetO q⟩
/-- name = [..] on one line, the name a local -/
structure XLA (X : Cx) (i : Nat) (s : Stmt) (mf : MF) : Prop where
  h : ∃ t, PS X s (tAsg t (gName i)) ∧ SimF X.K t mf
theorem xla {elt tg iter : Expr} {scope : Scope} {own : List (Str × Nat)} {mi : MI} {j i : Nat} {y : Str} {py spos : Pos} (hc : X.calm = true) (hN : X.N.Nodup) (hy : X.N[i]? = some y) (hyl : X.env.scope.names.lookup y = some .local)
    (hsw : swapsWith (.ListComp elt [⟨tg, iter, [], 0⟩] scope pos) (some (.Name y py)) spos.line X.env = pure true) (hi : XI X tg iter mi) (ok : BlkOk X.N X.env.scope scope own)
    (hg : ∀ (s : Shared) (H : Hp) (C : Addr) (cl : List (Str × Addr)) (fp : List Addr), PG (X.blk s H scope (compEnvC scope cl C X.env) fp) tg (gName j))
    (he : ∀ (s : Shared) (H : Hp) (C : Addr) (cl : List (Str × Addr)) (fp : List Addr), XE (X.blk s H scope (compEnvC scope cl C X.env) fp) elt me) (hj : j ∈ own.map (·.2) := by decide) (hs : ∀ x, foldedSetIterable iter X.env x = pure x := by intro _; rfl) :
    XLA X i (.Assign [.Name y py] (.ListComp elt [⟨tg, iter, [], 0⟩] scope pos) spos) (mLc mi j mYes me (own.map (·.2))) := by
  obtain ⟨wi, p, s⟩ := hi
  refine ⟨_, ps_setLc hc hN hy hyl hsw p ok hg (fun _ _ _ _ _ => pts_nil) (fun s H C cl fp => (he s H C cl fp).pe) hs, simLc s ?_ simOfM hj⟩
  intro σ F μ H env st b st' Q w en e k
  cases e
  exact k F μ H w Stp.refl
theorem xlaIf {elt tg iter c : Expr} {scope : Scope} {own : List (Str × Nat)} {mi : MI} {mt : MT} {j i : Nat} {y : Str} {py spos : Pos} (hc : X.calm = true) (hN : X.N.Nodup) (hy : X.N[i]? = some y) (hyl : X.env.scope.names.lookup y = some .local)
    (hsw : swapsWith (.ListComp elt [⟨tg, iter, [c], 0⟩] scope pos) (some (.Name y py)) spos.line X.env = pure true) (hi : XI X tg iter mi) (ok : BlkOk X.N X.env.scope scope own)
    (hg : ∀ (s : Shared) (H : Hp) (C : Addr) (cl : List (Str × Addr)) (fp : List Addr), PG (X.blk s H scope (compEnvC scope cl C X.env) fp) tg (gName j)) (ht : ∀ (s : Shared) (H : Hp) (C : Addr) (cl : List (Str × Addr)) (fp : List Addr), XT (X.blk s H scope (compEnvC scope cl C X.env) fp) c mt)
    (he : ∀ (s : Shared) (H : Hp) (C : Addr) (cl : List (Str × Addr)) (fp : List Addr), XE (X.blk s H scope (compEnvC scope cl C X.env) fp) elt me) (hj : j ∈ own.map (·.2) := by decide) (hs : ∀ x, foldedSetIterable iter X.env x = pure x := by intro _; rfl) :
    XLA X i (.Assign [.Name y py] (.ListComp elt [⟨tg, iter, [c], 0⟩] scope pos) spos) (mLc mi j mt me (own.map (·.2))) := by
  obtain ⟨wi, p, s⟩ := hi
  exact ⟨_, ps_setLc hc hN hy hyl hsw p ok hg (fun s H C cl fp => pts_one (ht s H C cl fp).pt) (fun s H C cl fp => (he s H C cl fp).pe) hs, simLc s simOfT simOfM hj⟩
theorem xla_o {i : Nat} (h : XLA X i s mf) : XS X s (mSetO i mf) := let ⟨t, p, q⟩ := h; ⟨_, p, simSetO q⟩
theorem xla_d {i : Nat} (h : XLA X i s mf) : XS X s (mSet i (mFrz mf)) := let ⟨t, p, q⟩ := h; ⟨_, p, simSet (simFrz q)⟩
theorem xla_a {i : Nat} (h : XLA X i s mf) : XS X s (mSet i (mAlloc mf)) := let ⟨t, p, q⟩ := h; ⟨_, p, simSet (simAlloc q)⟩
/-- e -/
def mExpr (me : ME) : MS := fun env st => match me env st with | some (_, st1) => some (.nx, env, st1) | none => none
theorem xexpr (he : XE X e me) (hs : swapsWith e none pos.line X.env = pure false := by rfl) : XS X (.Expr e pos) (mExpr me) := by
  obtain ⟨t, p, q⟩ := he
  refine ⟨_, ps_expr p hs, ?_⟩
  intro F0 μ0 H0 Fg μg σ F μ H env st out D o e k
  unfold mExpr at e
  split at e
  · rename_i r st1 e1
    cases e
    exact q σ F μ H env st _ _ _ o.wd o.en e1 fun v F1 μ1 H1 w1 s1 r1 => k _ F1 μ1 H1 (o.step w1 s1)
  · cases e
/-- return e -/
def mRet (me : ME) : MS := fun env st => match me env st with
  | some (.d d, st1) => some (.rt d, env, st1)
  | some (.loc i, st1) => match env[i]? with
    | some (.own so) => match dOf so with | some d => some (.rt d, env, st1) | none => none
    | _ => none
  | none => none
theorem xret (he : XE X e me) : XS X (.Return (some e) pos) (mRet me) := by
  obtain ⟨t, p, q⟩ := he
  refine ⟨_, ps_ret p, ?_⟩
  intro F0 μ0 H0 Fg μg σ F μ H env st out D o e k
  unfold mRet at e
  split at e
  · rename_i d st1 e1
    cases e
    exact q σ F μ H env st _ _ _ o.wd o.en e1 fun v F1 μ1 H1 w1 s1 r1 => k v F1 μ1 H1 w1 (o.stp.trans s1) r1
  · rename_i i st1 e1
    split at e
    · rename_i so h1
      split at e
      · rename_i d hd
        cases e
        refine q σ F μ H env st _ _ _ o.wd o.en e1 fun v F1 μ1 H1 w1 s1 r1 => ?_
        obtain ⟨F', o'⟩ := (o.step w1 s1).freeze h1 hd
        obtain ⟨a, rfl, so', g1, g2⟩ := r1
        have hl := (List.getElem?_eq_some_iff.mp h1).1
        obtain ⟨v, ev, rv⟩ := o'.en.slot i _ _ (List.getElem?_set_self hl) g2
        cases ev
        exact k (.ref a) F' μ1 H1 o'.wd o'.stp rv
      · cases e
    · cases e
  · cases e
def mRetN : MS := fun env st => some (.rt .non, env, st)
theorem xretN : XS X (.Return none pos) mRetN := by
  refine ⟨_, ps_retN, ?_⟩
  intro F0 μ0 H0 Fg μg σ F μ H env st out D o e k
  cases e
  exact k .non F μ H o.wd o.stp rfl
theorem xpass : XS X (.Pass pos) mSkip := ⟨_, ps_pass, simSkip⟩
def mBrk : MS := fun env st => some (.bk, env, st)
def mCnt : MS := fun env st => some (.ct, env, st)
theorem xbreak : XS X (.Break pos) mBrk := ⟨_, ps_break, by
  intro F0 μ0 H0 Fg μg σ F μ H env st out D o e k
  cases e
  exact k σ F μ H o⟩
theorem xcont : XS X (.Continue pos) mCnt := ⟨_, ps_continue, by
  intro F0 μ0 H0 Fg μg σ F μ H env st out D o e k
  cases e
  exact k σ F μ H o⟩
theorem xnever : XS X s (fun _ _ => none) := ⟨_, ps_never, by
  intro F0 μ0 H0 Fg μg σ F μ H env st out D o e k
  cases e⟩
/-- if -/
def mIf (t : MT) (a b : MS) : MS := fun env st => match t env st with
  | some (true, st1) => a env st1
  | some (false, st1) => b env st1
  | none => none
theorem xif {c : Expr} {sa sb : List Stmt} {mt : MT} (hc : XT X c mt) (ha : XSs X sa a) (hb : XSs X sb b) : XS X (.If c sa sb pos) (mIf mt a b) := by
  obtain ⟨t, p, q⟩ := hc
  obtain ⟨ta, pa, qa⟩ := ha
  obtain ⟨tb, pb, qb⟩ := hb
  refine ⟨_, ps_if p pa pb, ?_⟩
  intro F0 μ0 H0 Fg μg σ F μ H env st out D o e k
  unfold mIf at e
  split at e
  · rename_i st1 e1
    refine q σ F μ H env st _ _ _ o.wd o.en e1 fun F1 μ1 H1 w1 s1 => ?_
    rw [if_pos rfl]
    exact qa F0 μ0 H0 Fg μg σ F1 μ1 H1 env st1 out D (o.step w1 s1) e k
  · rename_i st1 e1
    refine q σ F μ H env st _ _ _ o.wd o.en e1 fun F1 μ1 H1 w1 s1 => ?_
    rw [if_neg Bool.false_ne_true]
    exact qb F0 μ0 H0 Fg μg σ F1 μ1 H1 env st1 out D (o.step w1 s1) e k
  · cases e

/-! ### targets -/
abbrev MG := D → Env → Option Env
def SimG (K : PySem.W.Frag) (g : TG) (mg : MG) : Prop :=
  ∀ (F0 : Hp) (μ0 : List Addr) (H0 : Hp) (Fg : Hp) (μg : List Addr) (σ : L2.St) (F : Hp) (μ : List Addr) (H : Hp) (env : Env) (st : Store) (d : D) (v : V) (env' : Env) (Q : L2.St → Hp → Prop), SOk K F0 μ0 H0 Fg μg F μ H env σ st → Rep K F μ d v → mg d env = some env' →
    (∀ σ', SOk K F0 μ0 H0 Fg μg F μ H env' σ' st → Q σ' H) → g v σ H Q
def SimGs (K : PySem.W.Frag) (g : TGs) (mg : List D → Env → Option Env) : Prop :=
  ∀ (F0 : Hp) (μ0 : List Addr) (H0 : Hp) (Fg : Hp) (μg : List Addr) (σ : L2.St) (F : Hp) (μ : List Addr) (H : Hp) (env : Env) (st : Store) (d : List D) (v : List V) (env' : Env) (Q : L2.St → Hp → Prop), SOk K F0 μ0 H0 Fg μg F μ H env σ st → Reps K F μ d v → mg d env = some env' →
    (∀ σ', SOk K F0 μ0 H0 Fg μg F μ H env' σ' st → Q σ' H) → g v σ H Q
structure XG (X : Cx) (tg : Expr) (m : MG) : Prop where
  h : ∃ g, PG X tg g ∧ SimG X.K g m
structure XGs (X : Cx) (tg : List Expr) (m : List D → Env → Option Env) : Prop where
  h : ∃ g, PGs X tg g ∧ SimGs X.K g m
def gN (i : Nat) : MG := fun d env => some (env.set i (.val d))
theorem xgn {i : Nat} {x : Str} (hN : X.N.Nodup) (hi : X.N[i]? = some x) (hx : Loc X.env.scope x) (hf : X.fn x = true ∨ X.env.scope.names.lookup x = some .local := by first | exact .inl rfl | exact .inr rfl | assumption) : XG X (.Name x pos) (gN i) := by
  refine ⟨_, pg_name hN hi hx hf, ?_⟩
  intro F0 μ0 H0 Fg μg σ F μ H env st d v env' Q o r e k
  cases e
  exact k _ (o.val i r)
def gsN : List D → Env → Option Env := fun ds env => match ds with | [] => some env | _ => none
def gsC (m : MG) (n : List D → Env → Option Env) : List D → Env → Option Env := fun ds env => match ds with
  | d :: ds => match m d env with | some env1 => n ds env1 | none => none
  | [] => none
theorem xgs_nil : XGs X [] gsN := by
  refine ⟨_, pgs_nil, ?_⟩
  intro F0 μ0 H0 Fg μg σ F μ H env st d v env' Q o r e k
  cases d with
  | cons _ _ => cases e
  | nil =>
    cases e
    cases v with
    | cons _ _ => exact r.elim
    | nil => exact ⟨rfl, k σ o⟩
theorem xgs_cons {tg : Expr} {tgs : List Expr} {m : MG} {n : List D → Env → Option Env} (h1 : XG X tg m) (h2 : XGs X tgs n)
    (hs : (assignEach (tg :: tgs) X.env).map (·.2) = assign tg X.env :: (assignEach tgs X.env).map (·.2) := by rfl) : XGs X (tg :: tgs) (gsC m n) := by
  obtain ⟨g, p, q⟩ := h1
  obtain ⟨g', p', q'⟩ := h2
  refine ⟨_, pgs_cons p p' hs, ?_⟩
  intro F0 μ0 H0 Fg μg σ F μ H env st d v env' Q o r e k
  cases d with
  | nil => cases e
  | cons d ds =>
    cases v with
    | nil => exact r.elim
    | cons v vs =>
      unfold gsC at e
      dsimp only at e
      split at e
      · rename_i env1 e1
        exact ⟨v, vs, rfl, q F0 μ0 H0 Fg μg σ F μ H env st d v env1 _ o r.1 e1 fun σ1 o1 => q' F0 μ0 H0 Fg μg σ1 F μ H env1 st ds vs env' Q o1 r.2 e k⟩
      · cases e
def gT (n : Nat) (m : List D → Env → Option Env) : MG := fun d env => match d with | .tup ds => if ds.length = n then m ds env else none | _ => none
theorem xgtup {es : List Expr} {kk : Nat} {m : List D → Env → Option Env} {n : Nat} (hc : X.calm = true) (h : XGs X es m) (hn : (assignEach es X.env).length = n := by rfl) (hst : (assignEach es X.env).findIdx? (·.1) = none := by rfl) : XG X (.Tuple es kk pos) (gT n m) := by
  obtain ⟨g, p, q⟩ := h
  refine ⟨_, pg_tup hc p hn hst, ?_⟩
  intro F0 μ0 H0 Fg μg σ F μ H env st d v env' Q o r e k
  unfold gT at e
  split at e
  · rename_i ds
    split at e
    · rename_i hl
      obtain ⟨a, vs, rfl, s, rr⟩ := r
      exact ⟨a, vs, rfl, SqT.mono o.wd.sub s, by rw [← rr.length]; exact hl, q F0 μ0 H0 Fg μg σ F μ H env st ds vs env' Q o rr e k⟩
    · cases e
  · cases e
/-- target = e -/
def mAsg (g : MG) (me : ME) : MS := fun env st => match me env st with
  | some (.d d, st1) => match g d env with | some env1 => some (.nx, env1, st1) | none => none
  | _ => none
theorem xasg {tg : Expr} {m : MG} (he : XE X e me) (hg : XG X tg m) (hs : swapsWithSole [tg] e pos.line X.env = pure false := by rfl) (hw : swappedStores [tg] e X.env = pure none := by rfl) (h1 : (assignEach [tg] X.env).map (·.2) = [assign tg X.env] := by rfl) :
    XS X (.Assign [tg] e pos) (mAsg m me) := by
  obtain ⟨t, p, q⟩ := he
  obtain ⟨g, p', q'⟩ := hg
  refine ⟨_, ps_asg p p' hs hw h1, ?_⟩
  intro F0 μ0 H0 Fg μg σ F μ H env st out D o e k
  unfold mAsg at e
  split at e
  · rename_i d st1 e1
    split at e
    · rename_i env1 e2
      cases e
      exact q σ F μ H env st _ _ _ o.wd o.en e1 fun v F1 μ1 H1 w1 s1 r1 => q' F0 μ0 H0 Fg μg σ F1 μ1 H1 env _ d v env1 _ (o.step w1 s1) r1 e2 fun σ' o' => k σ' F1 μ1 H1 o'
    · cases e
  · cases e

/-! ### for -/
def forGo (g : MG) (body : MS) (chk : Env → Store → Bool) : List D → Env → Store → Option Out
  | [], env, st => if chk env st then some (.nx, env, st) else none
  | x :: xs, env, st => if chk env st then
      match g x env with
      | some env1 => match body env1 st with
        | some (.nx, env2, st2) => forGo g body chk xs env2 st2
        | some (.ct, env2, st2) => forGo g body chk xs env2 st2
        | some (.bk, env2, st2) => some (.nx, env2, st2)
        | some (.rt d, env2, st2) => some (.rt d, env2, st2)
        | none => none
      | none => none
    else none
def mFor (mi : MI) (g : MG) (body : MS) : MS := fun env st => match mi env st with
  | some (src, st1) => if isData src then match srcItems env st1 src with
      | some xs => forGo g body (fun env st => decide (srcItems env st src = some xs)) xs env st1
      | none => none
    else none
  | none => none
theorem simFor {K : PySem.W.Frag} {wi : TI} {mi : MI} {g : TG} {mg : MG} {tb : TS} {mb : MS} (hi : SimI K wi mi) (hg : SimG K g mg) (hb : SimS K tb mb) : SimS K (tFor wi g tb) (mFor mi mg mb) := by
  intro F0 μ0 H0 Fg μg σ F μ H env st out D o e k
  unfold mFor at e
  split at e
  · rename_i src st1 e1
    split at e
    · rename_i hdt
      split at e
      · rename_i xs e2
        refine hi σ F μ H env st src st1 _ o.wd o.en e1 fun J F1 μ1 H1 w1 s1 hJ => ?_
        have o1 := o.step w1 s1
        -- W i m: what is left leads to out
        refine ⟨fun i m σ' H' => m = xs.length - i ∧ i ≤ xs.length ∧ ∃ F2 μ2 env2 st2, SOk K F0 μ0 H0 Fg μg F2 μ2 H' env2 σ' st2 ∧ SrcOk K F2 μ2 env2 σ' src J ∧ forGo mg mb (fun env st => decide (srcItems env st src = some xs)) (xs.drop i) env2 st2 = some out,
          ⟨xs.length, by simp, Nat.zero_le _, F1, μ1, env, st1, o1, hJ, by simpa using e⟩, ?_⟩
        rintro i m σ' H' ⟨rfl, hi', F2, μ2, env2, st2, o2, hJ2, go⟩
        by_cases hlt : i < xs.length
        · rw [List.drop_eq_getElem_cons hlt] at go
          unfold forGo at go
          split at go
          · rename_i hck
            have hck := of_decide_eq_true hck
            obtain ⟨vs2, ⟨a1, a2⟩, rr⟩ := srcAt o2.wd o2.en hJ2 hck
            have hl := rr.length
            obtain ⟨g1, g2⟩ := a1 i (by omega)
            refine .inr ⟨g1, fun σ3 H3 => ∃ F3 μ3 env3 st3, SOk K F0 μ0 H0 Fg μg F3 μ3 H3 env3 σ3 st3 ∧ SrcOk K F3 μ3 env3 σ3 src J ∧ forGo mg mb (fun env st => decide (srcItems env st src = some xs)) (xs.drop (i + 1)) env3 st3 = some out,
              fun σ3 H3 ⟨F3, μ3, env3, st3, q1, q2, q3⟩ => ⟨xs.length - (i + 1), by omega, rfl, hlt, F3, μ3, env3, st3, q1, q2, q3⟩, fun x H3 y => ?_⟩
            obtain ⟨eH, ex⟩ := g2 x H3 y
            subst eH
            obtain ⟨d, ed, rd⟩ := rr.get' ex
            have ed' : xs[i] = d := by
              have := List.getElem?_eq_getElem hlt
              rw [this] at ed; exact Option.some.inj ed
            rw [ed'] at go
            have o2' : SOk K F0 μ0 H0 F2 μ2 F2 μ2 H3 env2 σ' st2 := ⟨o2.wd, o2.en, o2.stp, o2.own0, Gr.refl⟩
            have back : ∀ {σ4 F4 μ4 H4 env4 st4}, SOk K F0 μ0 H0 F2 μ2 F4 μ4 H4 env4 σ4 st4 → SOk K F0 μ0 H0 Fg μg F4 μ4 H4 env4 σ4 st4 ∧ SrcOk K F4 μ4 env4 σ4 src J := fun q =>
              ⟨⟨q.wd, q.en, q.stp, q.own0, o2.gr.trans q.gr⟩, hJ2.data hdt q.gr.f q.gr.m⟩
            split at go
            · rename_i env3 e3
              refine hg F0 μ0 H0 F2 μ2 σ' F2 μ2 H3 env2 st2 d x env3 _ o2' rd e3 fun σ3 o3 => ?_
              cases e4 : mb env3 st2 with
              | none => rw [e4] at go; cases go
              | some z =>
                obtain ⟨f, env4, st4⟩ := z
                rw [e4] at go
                refine hb F0 μ0 H0 F2 μ2 σ3 F2 μ2 H3 env3 st2 _ _ o3 e4 ?_
                cases f with
                | nx => exact fun σ5 F5 μ5 H5 q => ⟨F5, μ5, env4, st4, (back q).1, (back q).2, go⟩
                | ct => exact fun σ5 F5 μ5 H5 q => ⟨F5, μ5, env4, st4, (back q).1, (back q).2, go⟩
                | bk =>
                  cases go
                  exact fun σ5 F5 μ5 H5 q => k σ5 F5 μ5 H5 (back q).1
                | rt d =>
                  cases go
                  exact k
            · cases go
          · cases go
        · have hi2 : i = xs.length := by omega
          subst hi2
          rw [List.drop_length] at go
          unfold forGo at go
          split at go
          · rename_i hck
            have hck := of_decide_eq_true hck
            cases go
            obtain ⟨vs2, ⟨a1, a2⟩, rr⟩ := srcAt o2.wd o2.en hJ2 hck
            rw [rr.length]
            exact .inl ⟨a2, k σ' F2 μ2 H' o2⟩
          · cases go
      · cases e
    · cases e
  · cases e
theorem xfor {tg iter : Expr} {sb : List Stmt} {mi : MI} {mg : MG} {mb : MS} (hp : PassesOwn (model X.prog X.w) X.A X.env X.xe) (hc : X.calm = true) (hi : XI X tg iter mi) (hg : XG X tg mg) (hb : XSs X sb mb) (hs : ∀ x, foldedSetIterable iter X.env x = pure x := by intro _; rfl) :
    XS X (.For tg iter sb [] pos) (mFor mi mg mb) := by
  obtain ⟨wi, p, q⟩ := hi
  obtain ⟨g, p', q'⟩ := hg
  obtain ⟨t, p2, q2⟩ := hb
  exact ⟨_, ps_for hp hc p p' p2 hs, simFor q q' q2⟩
end

/-! ### defs -/
abbrev MFn := List D → Store → Option (D × Store)
def spM (K : PySem.W.Frag) (n : Nat) (m : MFn) : Sp := fun vs H Q _ => ∃ F μ ds st d st', Wd K F μ H st ∧ Reps K F μ ds vs ∧ ds.length = n ∧ m ds st = some (d, st') ∧
  ∀ v F' μ' H', Wd K F' μ' H' st' → Stp F μ H F' μ' H' → Rep K F' μ' d v → Q v H'
def mFn (n : Nat) (body : MS) : MFn := fun ds st => match body (ds.map .val ++ List.replicate (n - ds.length) .none) st with
  | some (.rt d, _, st1) => some (d, st1)
  | some (.nx, _, st1) => some (.non, st1)
  | _ => none
theorem start_ok {K : PySem.W.Frag} {F : Hp} {μ : List Addr} {H : Hp} {st : Store} {N : List Str} {ds : List D} {vs : List V} (w : Wd K F μ H st) (r : Reps K F μ ds vs) : SOk K F μ H F μ F μ H (ds.map .val ++ List.replicate (N.length - ds.length) .none) (L2.start N vs) st := by
  have nown : ∀ i a, ownAt (ds.map .val ++ List.replicate (N.length - ds.length) .none) (L2.start N vs) i a → False := by
    rintro i a ⟨so, h1, h2⟩
    have := List.mem_of_getElem? h1
    rcases List.mem_append.mp this with q | q
    · obtain ⟨d, _, e⟩ := List.mem_map.mp q
      cases e
    · have e := (List.mem_replicate.mp q).2
      cases e
  refine ⟨w, ⟨?_, fun i s o h1 h2 => ?_, fun i j a _ h _ => nown i a h⟩, Stp.refl, fun i a h => (nown i a h).elim, Gr.refl⟩
  · unfold L2.start
    simp [r.length]
  · by_cases hi : i < ds.length
    · rw [List.getElem?_append_left (by simpa using hi), List.getElem?_map] at h1
      rw [List.getElem?_eq_getElem hi] at h1
      simp only [Option.map_some, Option.some.injEq] at h1
      subst h1
      obtain ⟨v, e, rv⟩ := r.get (List.getElem?_eq_getElem hi)
      unfold L2.start at h2
      rw [List.getElem?_append_left (by rw [List.length_map, ← r.length]; exact hi), List.getElem?_map, e] at h2
      cases h2
      exact ⟨v, rfl, rv⟩
    · rw [List.getElem?_append_right (by simpa using hi), List.getElem?_replicate] at h1
      split at h1
      · cases h1; trivial
      · cases h1
theorem xfn {P : Program} {w : World} {K : PySem.W.Frag} {mg : Str → Option Value} {base : Heap} {x qual : Str} {s : Stmt} {f : Addr} {fd : FuncData} {N ps : List Str} {k : Nat} {body : MS} (F : Fun K x qual s f fd) (S : FnScope N ps (defScope s))
    (hb : ∀ (cdv : Value) (A : Around) (outer : List PySem.Env) (sh : Shared) (H : Hp) (E : XK), Room k (A.deeper (PyProof.Rows.envOfC qual (defScope s) sh.heap.objs.size f cdv)) → XSs (cxOf CX0 P w K mg base N qual (defScope s) f cdv A outer sh H E).nox (defBody s) body) :
    FnOk P w K mg base CX0 (k + 1) f fd ps (spM K ps.length (mFn N.length body)) := by
  refine F.ok S (fun vs H Q E h => ?_) (fun cdv A outer sh H vs Q E hr h => ?_)
  · obtain ⟨F, μ, ds, st, d, st', w, r, hl, _⟩ := h
    rw [← r.length]; exact hl
  · obtain ⟨F, μ, ds, st, d, st', w, r, hl, e, kk⟩ := h
    obtain ⟨t, p, q⟩ := hb cdv A outer sh H E hr
    refine ⟨t, p, ?_⟩
    unfold mFn at e
    cases e1 : body (ds.map .val ++ List.replicate (N.length - ds.length) .none) st with
    | none => rw [e1] at e; cases e
    | some z =>
      obtain ⟨fl, env1, st1⟩ := z
      rw [e1] at e
      refine q F μ H F μ _ F μ H _ st _ _ (start_ok w r) e1 ?_
      cases fl with
      | nx => cases e; exact fun σ F' μ' H' o => kk .non F' μ' H' o.wd o.stp rfl
      | rt d => cases e; exact kk
      | bk => cases e
      | ct => cases e
section
variable {X : Cx}
def mCall (c : MFn) (a : MA) : ME := fun env st => match a env st with
  | some (ds, st1) => match c ds st1 with
    | some (d, st2) => some (.d d, st2)
    | none => none
  | none => none
theorem simCall {K : PySem.W.Frag} {n : Nat} {c : MFn} {t : TA} {a : MA} {E : XK} (h : SimA K t a) (hn : ∀ env st ds st1, a env st = some (ds, st1) → ds.length = n) : SimE K (tCall (spM K n c) [] E t) (mCall c a) := by
  intro σ F μ H env st r st' Q w en e k
  unfold mCall at e
  split at e
  · rename_i ds st1 e1
    split at e
    · rename_i d st2 e2
      cases e
      refine h σ F μ H env st ds st1 _ w en e1 fun vs F1 μ1 H1 w1 s1 r1 => ?_
      rw [List.append_nil]
      exact ⟨F1, μ1, ds, st1, d, _, w1, r1, hn _ _ _ _ e1, e2, fun v F' μ' H' w' s' r' => k v F' μ' H' w' (s1.trans s') r'⟩
    · cases e
  · cases e
theorem len_nil : ∀ env st ds st1, mNil env st = some (ds, st1) → ds.length = 0 := fun env st ds st1 h => by cases h; rfl
theorem len_cons {m : ME} {r : MA} {n : Nat} (hr : ∀ env st ds st1, r env st = some (ds, st1) → ds.length = n) : ∀ env st ds st1, mCons m r env st = some (ds, st1) → ds.length = n + 1 := fun env st ds st1 h => by
  unfold mCons at h
  split at h
  · split at h
    · rename_i e2
      cases h
      rw [List.length_cons, hr _ _ _ _ e2]
    · cases h
  · cases h
theorem xcall {x : Str} {p pos : Pos} {e : Expr} {es : List Expr} {k n : Nat} {f : Addr} {fd : FuncData} {ps : List Str} {c : MFn} {m : MA} (F : FnOk X.prog X.w X.K X.mg X.base CX0 k f fd ps (spM X.K n c)) (hr : Room k X.A) (hg : Gl X x) (hm : X.mg x = some (.ref f)) (hk : PySem.W.keepIn X.K (.ref f) = true) (hb : Binds X.K fd ps [])
    (ha : XA X (e :: es) m) (hn : ∀ env st ds st1, m env st = some (ds, st1) → ds.length = n) (hdb : (x == ("__debug__" : Str)) = false := by decide) (he : starEach (e :: es) X.env = (false, eval e X.env) :: starEach es X.env := by rfl) (hpl : (backTo pos (starEach es X.env)).any (·.1) = false := by rfl) :
    XE X (.Call (.Name x p) (e :: es) [] pos) (mCall c m) := by
  obtain ⟨t, pa, s⟩ := ha
  exact ⟨_, pe_call F hr hg hm hk hb .nil pass0 pa hdb he hpl, simCall s hn⟩
theorem xcall0 {x : Str} {p pos : Pos} {k : Nat} {f : Addr} {fd : FuncData} {ps : List Str} {c : MFn} (F : FnOk X.prog X.w X.K X.mg X.base CX0 k f fd ps (spM X.K 0 c)) (hr : Room k X.A) (hg : Gl X x) (hm : X.mg x = some (.ref f)) (hk : PySem.W.keepIn X.K (.ref f) = true) (hb : Binds X.K fd ps [])
    (hdb : (x == ("__debug__" : Str)) = false := by decide) : XE X (.Call (.Name x p) [] [] pos) (mCall c mNil) :=
  ⟨_, pe_call0 F hr hg hm hk hb .nil pass0 hdb, simCall simNil len_nil⟩
/-- what a call of a def of the module needs, at one place -/
structure Fn (P : Program) (w : World) (K : PySem.W.Frag) (mg : Str → Option Value) (base : Heap) (k : Nat) (x : Str) (n : Nat) (c : MFn) : Prop where
  h : ∃ f fd ps, FnOk P w K mg base CX0 k f fd ps (spM K n c) ∧ mg x = some (.ref f) ∧ PySem.W.keepIn K (.ref f) = true ∧ Binds K fd ps []
theorem xcl {x : Str} {p pos : Pos} {e : Expr} {es : List Expr} {j k n : Nat} {c : MFn} {m : MA} (F : Fn X.prog X.w X.K X.mg X.base k x n c) (hr : Room j X.A) (hkj : k ≤ j) (hg : Gl X x)
    (ha : XA X (e :: es) m) (hn : ∀ env st ds st1, m env st = some (ds, st1) → ds.length = n) (hdb : (x == ("__debug__" : Str)) = false := by decide) (he : starEach (e :: es) X.env = (false, eval e X.env) :: starEach es X.env := by rfl) (hpl : (backTo pos (starEach es X.env)).any (·.1) = false := by rfl) :
    XE X (.Call (.Name x p) (e :: es) [] pos) (mCall c m) := by
  obtain ⟨f, fd, ps, h1, h2, h3, h4⟩ := F
  exact xcall h1 (hr.mono hkj) hg h2 h3 h4 ha hn hdb he hpl
theorem xcl0 {x : Str} {p pos : Pos} {j k : Nat} {c : MFn} (F : Fn X.prog X.w X.K X.mg X.base k x 0 c) (hr : Room j X.A) (hkj : k ≤ j) (hg : Gl X x) (hdb : (x == ("__debug__" : Str)) = false := by decide) : XE X (.Call (.Name x p) [] [] pos) (mCall c mNil) := by
  obtain ⟨f, fd, ps, h1, h2, h3, h4⟩ := F
  exact xcall0 h1 (hr.mono hkj) hg h2 h3 h4 hdb
end
end Gx

set_option maxHeartbeats 2000000
namespace L2
open PySem PySem.Spec PyProof.Rows
theorem tuple_mul1 (l : Addr) (items : Array Value) (n : Nat) (dd : Option Addr) (sl : Array (Option Value)) (u : Tok) :
    Meets (Builtin.«tuple.__mul__» ⟨[.ref l, .int 1 u], []⟩) (fun _ R s => s.heap.get? l = some { cls := .type "tuple", dict := dd, data := .seq items n, slots := sl } ∧
      R (.ok (.ret (Value.ref l))) s) :=
  .of_wp fun prog w A R s h => by
    obtain ⟨hp, g, d, tk, os⟩ := s
    obtain ⟨hl, h⟩ := h
    have f1 := AutoSeq1.idx_int
    have c0 : (decide ((1 : Int) < -(2 ^ 63)) || decide ((1 : Int) ≥ 2 ^ 63)) = false := by decide
    have c1 : (items.isEmpty || (1 : Int) == 1) = true := by simp
    wp_walk using wpAny_loadPart' hl
    exact ⟨_, rfl, h⟩
def rRepT1 (K : PySem.W.Frag) : R2 := fun x y H Q => ∃ l xs, x = .ref l ∧ y = .int 1 ∧ SqT K H l xs ∧ Q (.ref l) H
section
variable {X : Cx}
theorem op_repT1 : OpR X (binaryOp .Mult) (rRepT1 X.K) := by
  intro pins s σ H x y v u Q I rx ry h
  obtain ⟨l, xs, rfl, rfl, hT, q⟩ := h
  cases rx
  obtain ⟨t, rfl⟩ := ry
  obtain ⟨its, r, ⟨⟨cls, dd, data, sl⟩, ho, hc, n, hd⟩, hs⟩ := I.tuple hT
  simp only at hc hd
  subst hc hd
  exact wpAny_binaryOp_repeat_ref (T := "tuple") (U := "int") (by decide) ⟨_, ho, rfl⟩ (fun s' => typeIs_int s' 1 t) noFill_tuple_mul F.fills_int_mul F.slot_int_rmul repeat_tuple F.slot_int_index.lookup
    (call_meets F.slot_int_rmul (typeIs_int s 1 t) F.entry_int_rmul (F.args_int_rmul_2 _ _) (int_rmul_tuple 1 t l its.toArray n dd sl)
      ⟨ho, rfl, ⟨_, ho, rfl⟩, call_meets F.slot_tuple_mul ⟨_, ho, rfl⟩ F.entry_tuple_mul (F.args_tuple_mul_2 _ _) (tuple_mul1 l its.toArray n dd sl t) ⟨ho, ⟨.ref l, H, I, rfl, q⟩⟩⟩)
end
end L2
namespace Gx
open PySem L2
theorem Reps.rep {K : PySem.W.Frag} {F : Hp} {μ : List Addr} {xs : List D} {vs : List V} (r : Reps K F μ xs vs) : ∀ k : Nat, Reps K F μ (List.replicate k xs).flatten (List.replicate k vs).flatten
  | 0 => trivial
  | k + 1 => by
    rw [List.replicate_succ, List.replicate_succ, List.flatten_cons, List.flatten_cons]
    exact r.append (Reps.rep r k)
def f2RepTN : Env → Store → R → R → Option (R × Store) := fun _ st x y =>
  match x, y with
  | .d (.tup xs), .d (.int k) => if xs.isEmpty = false ∧ 2 ≤ k ∧ k ≤ 1000 ∧ xs.length ≤ 1000 then some (.d (.tup (List.replicate k.toNat xs).flatten), st) else none
  | _, _ => none
def f2RepT1 : Env → Store → R → R → Option (R × Store) := fun _ st x y =>
  match x, y with
  | .d (.tup xs), .d (.int k) => if k = 1 then some (.d (.tup xs), st) else none
  | _, _ => none
theorem sim2RepTN {K : PySem.W.Frag} : Sim2 K (rRepT K) f2RepTN := by
  intro σ F μ H env st x y v u z st' Q w en rx ry h k
  unfold f2RepTN at h
  split at h
  · rename_i xs i
    split at h
    · rename_i hc
      cases h
      obtain ⟨a, vs, rfl, s, q⟩ := rx
      refine ⟨a, i, vs, rfl, ry, SqT.mono w.sub s, fun e => ?_, hc.2.1, hc.2.2.1, by rw [← q.length]; exact hc.2.2.2, fun p hp => ?_⟩
      · subst e
        have : xs = [] := List.eq_nil_of_length_eq_zero q.length
        subst this; cases hc.1
      · have sl := Stp.lay (F := F) (μ := μ) (o := .tup (List.replicate i.toNat vs).flatten) hp (w.Fnone hp)
        exact k _ _ μ _ (w.lay hp) sl ⟨p, _, rfl, .of upd_same, (sl.reps q).rep _⟩
    · cases h
  · cases h
theorem sim2RepT1 {K : PySem.W.Frag} : Sim2 K (rRepT1 K) f2RepT1 := by
  intro σ F μ H env st x y v u z st' Q w en rx ry h k
  unfold f2RepT1 at h
  split at h
  · rename_i xs i
    split at h
    · rename_i hc
      cases h
      subst hc
      obtain ⟨a, vs, rfl, s, q⟩ := rx
      exact ⟨a, vs, rfl, ry, SqT.mono w.sub s, k _ F μ H w Stp.refl ⟨a, vs, rfl, s, q⟩⟩
    · cases h
  · cases h
/-- a * b: ints, a tuple and an int -/
def fMul := fOr (fOr (f2I cMul fun i j => .int (i * j)) f2RepTN) f2RepT1
def mMulA (a b : ME) : ME := m2 a b fMul
section
variable {X : Cx} {a b c e : Expr} {ma mb mc m : ME} {mf : MF} {pos : Pos}
theorem xmulA (ha : XE X a ma) (hb : XE X b mb) : XE X (.BinOp a .Mult b pos) (mMulA ma mb) :=
  xop (OpR.or (OpR.or op_mul op_repT) op_repT1) (((sim2I (C := CMul) (g := fun i j => .int (i * j)) (g' := fun i j => .int (i * j)) cMul_ok fun _ _ _ _ => rfl).or sim2RepTN).or sim2RepT1) ha hb
/-- [..] * n -/
def mFRep (f : MF) (b : ME) : MF := fun env st => match f env st with
  | some (.lst xs, st1) => match b env st1 with
    | some (.d (.int k), st2) => if -(2 ^ 62) ≤ k ∧ k < 2 ^ 62 ∧ xs.length * k.toNat ≤ 16000000 then some (.lst (List.replicate k.toNat xs).flatten, st2) else none
    | _ => none
  | _ => none
theorem xfrep (ha : XF X a mf) (hb : XE X b mb) : XF X (.BinOp a .Mult b pos) (mFRep mf mb) := by
  obtain ⟨t, p, s⟩ := ha
  obtain ⟨t', p', s'⟩ := hb
  refine ⟨_, pe_op op_rep p p', ?_⟩
  intro σ F μ H env st so st' Q w en e k
  unfold mFRep at e
  split at e
  · rename_i xs st1 e1
    split at e
    · rename_i kk st2 e2
      split at e
      · rename_i hc
        cases e
        refine s σ F μ H env st _ _ _ w en e1 fun a u F1 μ1 H1 w1 s1 h0 f1 m1 h1 r1 => ?_
        refine s' σ F1 μ1 H1 env _ _ _ _ w1 (en.step s1) e2 fun v F2 μ2 H2 w2 s2 r2 => ?_
        cases u <;> first | exact r1.elim | skip
        rename_i vs
        have hq := s2.frame a _ h1 m1
        have hl := Reps.length r1
        refine ⟨a, kk, vs, rfl, r2, hq, by omega, by omega, by rw [← hl, sizeLine_eq]; omega, fun p hp => ?_⟩
        exact k p _ F2 μ2 _ (w2.lay0 hp) ((s1.trans s2).trans (Stp.lay0 hp)) (fresh_of (s1.trans s2) hp) (w2.Fnone hp) (w2.out hp) upd_same ((s2.reps r1).rep _)
      · cases e
    · cases e
  · cases e
end
end Gx

set_option maxHeartbeats 2000000
namespace Gx
open PySem L2
section
variable {K : PySem.W.Frag} {F0 Fg F F' : Hp} {μ0 μg μ μ' : List Addr} {H0 H H' : Hp} {env : Env} {σ : L2.St} {st st' : Store}
theorem SOk.pokeOwn (o : SOk K F0 μ0 H0 Fg μg F μ H env σ st) {i : Nat} {so so' : SO} {u' : HO} {a : Addr} (h : env[i]? = some (.own so)) (hσ : σ[i]? = some (some (.ref a))) (r : SORep K F μ so' u') :
    SOk K F0 μ0 H0 Fg μg F μ (upd H a u') (env.set i (.own so')) σ st := by
  obtain ⟨a', u, e, hF, hm, hu, r0⟩ := o.en.slot i _ _ h hσ
  cases e
  have h00 := o.own0 i a ⟨so, h, hσ⟩
  have hset : σ.set i (some (.ref a)) = σ := by
    apply List.ext_getElem?
    intro j
    rw [List.getElem?_set]
    by_cases hj : i = j
    · subst hj; rw [if_pos rfl, if_pos (List.getElem?_eq_some_iff.mp hσ).1, hσ]
    · rw [if_neg hj]
  have own' : ∀ j b, ownAt (env.set i (.own so')) σ j b → ownAt env σ j b := fun j b hb => by
    rw [← hset] at hb
    rcases ownAt_set hb with ⟨rfl, _, e⟩ | ⟨_, hb⟩
    · cases e; exact ⟨so, h, hσ⟩
    · exact hb
  refine ⟨o.wd.poke hF hm, ⟨by simp [o.en.len], fun j t v h1 h2 => ?_, fun j k b hjk h1 h2 => o.en.sep j k b hjk (own' j b h1) (own' k b h2)⟩, o.stp.poke h00, fun j b hb => o.own0 j b (own' j b hb), o.gr⟩
  by_cases hj : i = j
  · subst hj
    rw [List.getElem?_set_self (List.getElem?_eq_some_iff.mp h).1] at h1
    cases h1
    rw [hσ] at h2; cases h2
    exact ⟨a, u', rfl, hF, hm, upd_same, r⟩
  · rw [List.getElem?_set_ne hj] at h1
    have q := o.en.slot j t v h1 h2
    cases t with
    | none => trivial
    | val d => exact q
    | own s2 =>
      obtain ⟨b, u2, e1, f1, m1, h3, r1⟩ := q
      subst e1
      exact ⟨b, u2, rfl, f1, m1, by rw [upd_ne (fun q => by subst q; exact o.en.sep i j b hj ⟨so, h, hσ⟩ ⟨s2, h1, h2⟩)]; exact h3, r1⟩
/-- an object of the store changes -/
theorem Wd.put (w : Wd K F μ H st) {n : Nat} {a : Addr} {so : SO} {u : HO} (hn : n < st.length) (hm : μ[n]? = some a) (r : SORep K F μ so u) : Wd K F μ (upd H a u) (st.set n so) := by
  have ha : a ∈ μ := List.mem_of_getElem? hm
  refine ⟨fun b o e => ?_, by simp [w.len], w.nd, w.nf, fun k so' b e1 e2 => ?_⟩
  · rw [upd_ne (fun q => by subst q; rw [w.nf _ ha] at e; cases e)]; exact w.sub _ _ e
  · by_cases hk : n = k
    · subst hk
      rw [List.getElem?_set_self hn] at e1
      cases e1
      rw [hm] at e2; cases e2
      exact ⟨u, upd_same, r⟩
    · rw [List.getElem?_set_ne hk] at e1
      obtain ⟨o, h1, h2⟩ := w.obj k so' b e1 e2
      refine ⟨o, ?_, h2⟩
      rw [upd_ne]
      · exact h1
      · rintro rfl
        have := (List.getElem?_inj (List.getElem?_eq_some_iff.mp hm).1 w.nd).mp (hm.trans e2.symm)
        exact hk this
/-- nothing locked -/
theorem SORep.free {so : SO} {u : HO} (r : SORep K F μ so u) (h : ∀ kvs, so ≠ .dF kvs) (od : Obj) (v : HO) : u ≠ .frz od v := by
  rintro rfl
  cases so <;> first | exact r.elim | exact h _ rfl
theorem Stp.put (w : Wd K F μ H st) {a : Addr} {u : HO} (ha : a ∈ μ) (hz : ∀ od v, H a ≠ some (.frz od v)) : Stp F μ H F μ (upd H a u) := by
  refine ⟨fun _ _ e => e, ⟨[], by simp, by simp⟩, fun b o e n => ?_, fun b h => ?_, fun _ h => .inl h, fun b od v e => ?_⟩
  · rw [upd_ne (ne_mem ha n).symm]; exact e
  · by_cases q : b = a
    · subst q; rw [upd_same]; simp
    · rw [upd_ne q]; exact h
  · rw [upd_ne (fun q => by subst q; exact hz od v e)]; exact e
end

/-! ### o[i] = v -/
def putD {κ : Type} [DecidableEq κ] (kvs : List (κ × D)) (k : κ) (v : D) : List (κ × D) :=
  if (kvs.any fun kv => decide (kv.1 = k)) = true then kvs.map (fun kv => if kv.1 = k then (kv.1, v) else kv) else kvs ++ [(k, v)]
section
variable {K : PySem.W.Frag} {F : Hp} {μ : List Addr}
theorem RepKV.append {κ : Type} : ∀ {ps : List (κ × D)} {qs : List (κ × V)} {ps' qs'}, RepKV K F μ ps qs → RepKV K F μ ps' qs' → RepKV K F μ (ps ++ ps') (qs ++ qs')
  | [], [], _, _, _, s => s
  | p :: ps, q :: qs, _, _, r, s => ⟨r.1, r.2.1, RepKV.append r.2.2 s⟩
  | [], _ :: _, _, _, r, _ => r.elim
  | _ :: _, [], _, _, r, _ => r.elim
theorem RepKV.anyk {κ : Type} [DecidableEq κ] (k : κ) : ∀ {ps : List (κ × D)} {qs : List (κ × V)}, RepKV K F μ ps qs → (ps.any fun kv => decide (kv.1 = k)) = (qs.any fun kv => decide (kv.1 = k))
  | [], [], _ => rfl
  | p :: ps, q :: qs, r => by rw [List.any_cons, List.any_cons, RepKV.anyk k r.2.2, r.1]
  | [], _ :: _, r => r.elim
  | _ :: _, [], r => r.elim
theorem RepKV.mapk {κ : Type} [DecidableEq κ] (k : κ) {d : D} {v : V} (h : Rep K F μ d v) : ∀ {ps : List (κ × D)} {qs : List (κ × V)}, RepKV K F μ ps qs →
    RepKV K F μ (ps.map fun kv => if kv.1 = k then (kv.1, d) else kv) (qs.map fun kv => if kv.1 = k then (kv.1, v) else kv)
  | [], [], _ => trivial
  | p :: ps, q :: qs, r => by
    have e := r.1
    by_cases hk : p.1 = k
    · have hk' : q.1 = k := e ▸ hk
      refine ⟨?_, ?_, RepKV.mapk k h r.2.2⟩
      · show (if p.1 = k then (p.1, d) else p).1 = (if q.1 = k then (q.1, v) else q).1
        rw [if_pos hk, if_pos hk']; exact e
      · show Rep K F μ (if p.1 = k then (p.1, d) else p).2 (if q.1 = k then (q.1, v) else q).2
        rw [if_pos hk, if_pos hk']; exact h
    · have hk' : ¬ q.1 = k := e ▸ hk
      refine ⟨?_, ?_, RepKV.mapk k h r.2.2⟩
      · show (if p.1 = k then (p.1, d) else p).1 = (if q.1 = k then (q.1, v) else q).1
        rw [if_neg hk, if_neg hk']; exact e
      · show Rep K F μ (if p.1 = k then (p.1, d) else p).2 (if q.1 = k then (q.1, v) else q).2
        rw [if_neg hk, if_neg hk']; exact r.2.1
  | [], _ :: _, r => r.elim
  | _ :: _, [], r => r.elim
theorem RepKV.put {κ : Type} [DecidableEq κ] (k : κ) {d : D} {v : V} (h : Rep K F μ d v) {ps : List (κ × D)} {qs : List (κ × V)} (r : RepKV K F μ ps qs) : RepKV K F μ (putD ps k d) (putK qs k v) := by
  unfold putD putK
  rw [← RepKV.anyk k r]
  split
  · exact RepKV.mapk k h r
  · exact r.append ⟨rfl, h, trivial⟩
end
def putL (so : SO) (i v : D) : Option SO := match so, i with
  | .lst xs, .int i => match ixN xs.length i with | some j => some (.lst (xs.set j v)) | none => none
  | _, _ => none
def putKv (so : SO) (i v : D) : Option SO := match so with
  | .dK kvs => match keyOf i with
    | some k => if kvs.length < 16000000 then some (.dK (putD kvs k v)) else none
    | none => none
  | _ => none
/-- a change of the object that r names -/
def chg (f : SO → Option SO) (env : Env) (st : Store) (r : R) : Option Out := match r with
  | .loc k => match env[k]? with
    | some (.own so) => match f so with | some so' => some (.nx, env.set k (.own so'), st) | none => none
    | _ => none
  | .d (.ref n) => match st[n]? with
    | some so => match f so with | some so' => some (.nx, env, st.set n so') | none => none
    | none => none
  | _ => none
def mSt (f : SO → D → D → Option SO) (o i v : ME) : MS := fun env st => match v env st with
  | some (.d dv, st1) => match o env st1 with
    | some (ro, st2) => match i env st2 with
      | some (.d di, st3) => chg (fun so => f so di dv) env st3 ro
      | _ => none
    | none => none
  | _ => none
/-- what stands at a changed object: the reading asks the old and gives the new -/
theorem chg_ok {K : PySem.W.Frag} {F0 Fg F : Hp} {μ0 μg μ : List Addr} {H0 H : Hp} {env : Env} {σ : L2.St} {st : Store} {r : R} {v : V} {f : SO → Option SO} {out : Out} {D : Ends} (o : SOk K F0 μ0 H0 Fg μg F μ H env σ st) (q : RRep K F μ env σ r v) (h : chg f env st r = some out)
    (k : Post K F0 μ0 H0 Fg μg D out) (hz : ∀ kvs, f (.dF kvs) = none := by intro _; rfl) : ∃ a so u so', v = .ref a ∧ H a = some u ∧ SORep K F μ so u ∧ f so = some so' ∧ ∀ u', SORep K F μ so' u' → D.nx σ (upd H a u') := by
  unfold chg at h
  split at h
  · rename_i i
    obtain ⟨a, rfl, so0, g1, g2⟩ := q
    rw [g1] at h
    dsimp only at h
    split at h
    · rename_i so' e2
      cases h
      obtain ⟨b, u, e3, hF, hm, hu, r0⟩ := o.en.slot i _ _ g1 g2
      cases e3
      exact ⟨a, so0, u, so', rfl, hu, r0, e2, fun u' ru => k σ F μ _ (o.pokeOwn g1 g2 ru)⟩
    · cases h
  · rename_i n
    obtain ⟨a, rfl, hm⟩ := q
    split at h
    · rename_i so e1
      split at h
      · rename_i so' e2
        cases h
        obtain ⟨u, hu, r0⟩ := o.wd.obj n so a e1 hm
        have hn := (List.getElem?_eq_some_iff.mp e1).1
        exact ⟨a, so, u, so', rfl, hu, r0, e2, fun u' ru => k σ F μ _ (o.step (o.wd.put hn hm ru) (Stp.put o.wd (List.mem_of_getElem? hm) fun od v z => SORep.free r0 (fun kvs q => by rw [q, hz] at e2; cases e2) od v (Option.some.inj (hu.symm.trans z))))⟩
      · cases h
    · cases h
  · cases h
section
variable {X : Cx} {o i e : Expr} {mo mi me : ME} {pos tpos : Pos} {s : Stmt}
theorem PS.or {t u : TS} (a : PS X s t) (b : PS X s u) : PS X s (fun D σ H => t D σ H ∨ u D σ H) := ⟨fun pins sh σ H D I h => h.elim (a.run pins sh σ H D I) (b.run pins sh σ H D I)⟩
def sOr (a b : MS) : MS := fun env st => match a env st with | some z => some z | none => b env st
theorem SimS.or {K : PySem.W.Frag} {t u : TS} {a b : MS} (h : SimS K t a) (h' : SimS K u b) : SimS K (fun D σ H => t D σ H ∨ u D σ H) (sOr a b) := by
  intro F0 μ0 H0 Fg μg σ F μ H env st out D o e k
  unfold sOr at e
  split at e
  · rename_i e1; cases e
    exact .inl (h F0 μ0 H0 Fg μg σ F μ H env st _ D o e1 k)
  · exact .inr (h' F0 μ0 H0 Fg μg σ F μ H env st _ D o e k)
def mStIx (o i v : ME) : MS := sOr (mSt putL o i v) (mSt putKv o i v)
theorem xstix (hu : X.A.units + 1 < cLine) (ho : XE X o mo) (hi : XE X i mi) (he : XE X e me) (hs : swapsWithSole [.Subscript o i tpos] e pos.line X.env = pure false := by rfl) (hw : swappedStores [.Subscript o i tpos] e X.env = pure none := by rfl)
    (h1 : (assignEach [.Subscript o i tpos] X.env).map (·.2) = [assign (.Subscript o i tpos) X.env] := by rfl)
    (ha : ∀ v, assign (.Subscript o i tpos) X.env v = (do
      let ov ← holding [v] (eval o X.env)
      let iv ← holding [v, ov] (eval i X.env)
      standAt tpos
      holding [v, ov, iv] (setItem ov iv v)
      release [v, ov, iv] []) := by intro _; rfl) (hs2 : swapsWith e (some (.Subscript o i tpos)) pos.line X.env = pure false := by rfl) : XS X (.Assign [.Subscript o i tpos] e pos) (mStIx mo mi me) := by
  obtain ⟨to, po, so⟩ := ho
  obtain ⟨ti, pi, si⟩ := hi
  obtain ⟨te, pe, se⟩ := he
  refine ⟨_, PS.or (ps_asg pe (pg_sub po pi set_list ha) hs hw h1) (ps_dput hu po pi pe hs2), SimS.or ?_ ?_⟩
  · intro F0 μ0 H0 Fg μg σ F μ H env st out D oo e k
    unfold mSt at e
    split at e
    · rename_i dv st1 e1
      split at e
      · rename_i ro st2 e2
        split at e
        · rename_i di st3 e3
          refine se σ F μ H env st _ _ _ oo.wd oo.en e1 fun v F1 μ1 H1 w1 s1 r1 => ?_
          refine so σ F1 μ1 H1 env st1 _ _ _ w1 (oo.en.step s1) e2 fun ov F2 μ2 H2 w2 s2 r2 => ?_
          refine si σ F2 μ2 H2 env st2 _ _ _ w2 ((oo.en.step s1).step s2) e3 fun iv F3 μ3 H3 w3 s3 r3 => ?_
          have o3 := ((oo.step w1 s1).step w2 s2).step w3 s3
          obtain ⟨a, so1, u, so2, rfl, hu1, ru, ef, kk⟩ := chg_ok o3 (r2.step s3) e k
          unfold putL at ef
          split at ef
          · rename_i xs ii
            split at ef
            · rename_i j hj
              cases ef
              cases u <;> first | exact ru.elim | skip
              rename_i vs
              refine ⟨a, vs, ii, j, rfl, r3, hu1, by rw [← ru.length]; exact hj, kk _ ?_⟩
              exact Reps.set ((s2.trans s3).rep r1) j ru
            · cases ef
          · cases ef
        · cases e
      · cases e
    · cases e
  · intro F0 μ0 H0 Fg μg σ F μ H env st out D oo e k
    unfold mSt at e
    split at e
    · rename_i dv st1 e1
      split at e
      · rename_i ro st2 e2
        split at e
        · rename_i di st3 e3
          refine se σ F μ H env st _ _ _ oo.wd oo.en e1 fun v F1 μ1 H1 w1 s1 r1 => ?_
          refine so σ F1 μ1 H1 env st1 _ _ _ w1 (oo.en.step s1) e2 fun ov F2 μ2 H2 w2 s2 r2 => ?_
          refine si σ F2 μ2 H2 env st2 _ _ _ w2 ((oo.en.step s1).step s2) e3 fun iv F3 μ3 H3 w3 s3 r3 => ?_
          have o3 := ((oo.step w1 s1).step w2 s2).step w3 s3
          obtain ⟨a, so1, u, so2, rfl, hu1, ru, ef, kk⟩ := chg_ok o3 (r2.step s3) e k
          unfold putKv at ef
          split at ef
          · rename_i kvs
            split at ef
            · rename_i kx hk
              split at ef
              · rename_i hl
                cases ef
                cases u <;> first | exact ru.elim | skip
                rename_i vs
                refine ⟨a, _, rfl, .inl ⟨vs, kx, hu1, keyOf_ok hk r3, by rw [← RepKV.length ru, sizeLine_eq]; omega, rfl⟩, kk _ ?_⟩
                exact RepKV.put kx ((s2.trans s3).rep r1) ru
              · cases ef
            · cases ef
          · cases ef
        · cases e
      · cases e
    · cases e

/-! ### o.append(e) -/
def appL (so : SO) (v : D) : Option SO := match so with
  | .lst xs => if xs.length < 16000000 then some (.lst (xs ++ [v])) else none
  | _ => none
def mApp (o v : ME) : MS := fun env st => match o env st with
  | some (ro, st1) => match v env st1 with
    | some (.d dv, st2) => match asL env st1 ro with
      | some _ => chg (fun so => appL so dv) env st2 ro
      | none => none
    | _ => none
  | none => none
theorem xapp {apos : Pos} (ho : XE X o mo) (he : XE X e me) (hs : swapsWith (.Call (.Attribute o "append" apos) [e] [] tpos) none pos.line X.env = pure false := by rfl)
    (hbase : attributeBase o "append" X.env (eval o X.env) = eval o X.env := by rfl)
    (hfew : ((backTo tpos (starEach (e :: []) X.env)).all (fun x => !x.1) && (backToKw tpos (keywordEach [] X.env)).all (fun x => x.1.isSome)
      && decide ((e :: []).length + ([] : List Keyword).length + (if ([] : List Keyword).isEmpty then 0 else 1) < 30)) = true := by rfl)
    (hline : (apos.endLine == tpos.line) = true := by rfl) (hst : starEach (e :: []) X.env = (false, eval e X.env) :: starEach [] X.env := by rfl) (hplain : (backTo tpos (starEach [] X.env)).any (·.1) = false := by rfl) :
    XS X (.Expr (.Call (.Attribute o "append" apos) [e] [] tpos) pos) (mApp mo me) := by
  obtain ⟨to, po, so⟩ := ho
  obtain ⟨te, pe, se⟩ := he
  refine ⟨_, ps_expr (pe_bm PySem.F.plainAttrs_list PySem.F.slot_list_append PySem.F.type_list_append mt_append po (pa_cons pe pa_nil hst) hbase hfew hline hst hplain) hs, ?_⟩
  intro F0 μ0 H0 Fg μg σ F μ H env st out D oo e k
  unfold mApp at e
  split at e
  · rename_i ro st1 e1
    split at e
    · rename_i dv st2 e2
      split at e
      · rename_i xs e3
        refine so σ F μ H env st _ _ _ oo.wd oo.en e1 fun ov F1 μ1 H1 w1 s1 r1 => ?_
        have en1 := oo.en.step s1
        obtain ⟨a, vs, rfl, sq, q⟩ := asL_ok w1 en1 r1 e3
        refine ⟨.inl ⟨rfl, vs, sq⟩, ?_⟩
        refine se σ F1 μ1 H1 env st1 _ _ _ w1 en1 e2 fun v F2 μ2 H2 w2 s2 r2 => ?_
        have o2 := (oo.step w1 s1).step w2 s2
        obtain ⟨a', so1, u, so2, e4, hu1, ru, ef, kk⟩ := chg_ok o2 (r1.step s2) e k
        cases e4
        unfold appL at ef
        split at ef
        · rename_i ys
          split at ef
          · rename_i hl
            cases ef
            cases u <;> first | exact ru.elim | skip
            rename_i us
            refine ⟨a, us, v, rfl, rfl, hu1, by rw [← ru.length, sizeLine_eq]; omega, kk _ ?_⟩
            exact ru.append ⟨r2, trivial⟩
          · cases ef
        · cases ef
      · cases e
    · cases e
  · cases e
end
end Gx

set_option maxHeartbeats 2000000
namespace Gx
open PySem L2
/-- the law's end -/
theorem law_sp {K : PySem.W.Frag} {H : Hp} {a : Addr} {ns : List Int} {m : MFn} (hS : SqL K H a (ns.map V.int)) (h : ∃ st, m [.lst (ns.map .int)] [] = some (.bl true, st)) : spM K 1 m [.ref a] H (fun v _ => v = .bl true) fun _ _ _ => False := by
  obtain ⟨st, h⟩ := h
  refine ⟨H, [], [.lst (ns.map .int)], [], _, st, ⟨fun _ _ e => e, rfl, List.nodup_nil, fun _ h => (nomatch h), fun n so b e _ => by simp at e⟩, ⟨⟨a, _, rfl, hS, Reps.of_ints ns⟩, trivial⟩, rfl, h, fun v F' μ' H' _ _ r => r⟩
section
variable {X : Cx} {a b c e : Expr} {ma mb mc m : ME} {pos : Pos}
def mNeg (a : ME) : ME := fun env st => match a env st with | some (.d (.int i), st1) => some (.d (.int (-i)), st1) | _ => none
theorem xneg (ha : XE X a ma) : XE X (.UnaryOp .USub a pos) (mNeg ma) := by
  obtain ⟨t, p, s⟩ := ha
  refine ⟨_, pe_un un_neg p, ?_⟩
  intro σ F μ H env st r st' Q w en e k
  unfold mNeg at e
  split at e
  · rename_i i st1 e1
    cases e
    exact s σ F μ H env st _ _ _ w en e1 fun v F1 μ1 H1 w1 s1 r1 => ⟨i, r1, k _ F1 μ1 H1 w1 s1 rfl⟩
  · cases e
/-- x, y = a, b -/
def mPar (i j : Nat) (a b : ME) : MS := fun env st => match a env st with
  | some (.d x, st1) => match b env st1 with
    | some (.d y, st2) => some (.nx, (env.set i (.val x)).set j (.val y), st2)
    | _ => none
  | _ => none
theorem xpar {i j : Nat} {x y : Str} {px py pt : Pos} {kt k2 pt2} {spos : Pos} (hN : X.N.Nodup) (ha : XE X a ma) (hb : XE X b mb)
    (hp : ∀ {ta tb : TE}, PE X a ta → PE X b tb → PS X (.Assign [.Tuple [.Name x px, .Name y py] kt pt] (.Tuple [a, b] k2 pt2) spos) (tPar i j (tCons ta (tCons tb tNil)))) : XS X (.Assign [.Tuple [.Name x px, .Name y py] kt pt] (.Tuple [a, b] k2 pt2) spos) (mPar i j ma mb) := by
  obtain ⟨ta, pa, sa⟩ := ha
  obtain ⟨tb, pb, sb⟩ := hb
  refine ⟨_, hp pa pb, ?_⟩
  intro F0 μ0 H0 Fg μg σ F μ H env st out D o e k
  unfold mPar at e
  split at e
  · rename_i x st1 e1
    split at e
    · rename_i y st2 e2
      cases e
      refine sa σ F μ H env st _ _ _ o.wd o.en e1 fun v F1 μ1 H1 w1 s1 r1 => ?_
      refine sb σ F1 μ1 H1 env st1 _ _ _ w1 (o.en.step s1) e2 fun u F2 μ2 H2 w2 s2 r2 => ⟨v, u, rfl, ?_⟩
      exact k _ F2 μ2 H2 ((((o.step w1 s1).step w2 s2).val i (s2.rep r1)).val j r2)
    · cases e
  · cases e
end
end Gx

set_option maxHeartbeats 2000000
namespace L2
open PySem PySem.Spec PyProof.Rows
def rGtT (K : PySem.W.Frag) : R2 := fun x y H Q => ∃ (a b : Addr) (ns ms : List Int), x = .ref a ∧ y = .ref b ∧ SqT K H a (ns.map V.int) ∧ SqT K H b (ms.map V.int) ∧
  Q (.bl (Ob.lexAt (fun j => decide (ns.getD j 0 = ms.getD j 0)) (fun j => decide (ms.getD j 0 < ns.getD j 0)) (decide (ns.length > ms.length)) 0 (min ns.length ms.length))) H
theorem op_gtT {X : Cx} (hu : X.A.units < cLine) : OpR X (compareOp .Gt) (rGtT X.K) := by
  intro pins s σ H x y v u Q I rx ry h
  obtain ⟨a, b, ns, ms, rfl, rfl, ha, hb, q⟩ := h
  cases rx
  cases ry
  obtain ⟨its, r1, p1, _⟩ := I.tuple ha
  obtain ⟨its2, r2, p2, _⟩ := I.tuple hb
  have i1 : IntsAre its ns := Vals.ints r1
  have i2 : IntsAre its2 ms := Vals.ints r2
  have e1 : its.toArray.size = ns.length := by rw [List.size_toArray]; exact i1.length
  have e2 : its2.toArray.size = ms.length := by rw [List.size_toArray]; exact i2.length
  have at1 : ∀ j (h1 : j < its.toArray.size), ∃ t, its.toArray[j] = .int (ns.getD j 0) t := fun j h1 => PyProof.Rows.IntsAre.int_at i1 _ _ (by simp at h1; simp [h1])
  have at2 : ∀ j (h1 : j < its2.toArray.size), ∃ t, its2.toArray[j] = .int (ms.getD j 0) t := fun j h1 => PyProof.Rows.IntsAre.int_at i2 _ _ (by simp at h1; simp [h1])
  have R := Ob.RcOp.tuples_gt (A := X.A) (s := s) (e := fun j => decide (ns.getD j 0 = ms.getD j 0)) (r := fun j => decide (ms.getD j 0 < ns.getD j 0)) p1 p2 hu (fun j h1 h2 => by
    obtain ⟨t, et⟩ := at1 j h1
    obtain ⟨t', et'⟩ := at2 j h2
    rw [et, et']
    have z : (ns.getD j 0 == ms.getD j 0) = decide (ns.getD j 0 = ms.getD j 0) := by
      by_cases q : ns.getD j 0 = ms.getD j 0
      · rw [decide_eq_true q]; exact beq_iff_eq.mpr q
      · rw [decide_eq_false q]; exact beq_eq_false_iff_ne.mpr q
    rw [← z]
    exact SeqAt.EqAt.int_int _ _ _ _) (fun j h1 h2 _ => by
    obtain ⟨t, et⟩ := at1 j h1
    obtain ⟨t', et'⟩ := at2 j h2
    rw [et, et']
    exact Ob.RcOp.gt_int _ _ _ _)
  rw [e1, e2] at R
  have z : wpAny (model X.prog X.w) X.A (compareOp .Gt (.ref a) (.ref b)) (EP X pins σ Q) X.xe s := R X.prog X.w X.xe (EP X pins σ Q) ⟨.bl _, H, I, rfl, q⟩
  exact z
end L2
namespace Gx
open PySem L2
section
variable {K : PySem.W.Frag} {F : Hp} {μ : List Addr} {H : Hp} {st : Store} {env : Env} {σ : L2.St}
/-- the numbers of a tuple of ints -/
def numsOf : List D → Option (List Int)
  | [] => some []
  | .int i :: r => (numsOf r).map (i :: ·)
  | _ => none
theorem numsOf_ok : ∀ {xs : List D} {ns : List Int}, numsOf xs = some ns → xs = ns.map D.int
  | [], ns, h => by cases h; rfl
  | .int b :: r, ns, h => by
    simp only [numsOf, Option.map_eq_some_iff] at h
    obtain ⟨cs, h, rfl⟩ := h
    rw [numsOf_ok h]; rfl
  | .non :: _, _, h | .bl _ :: _, _, h | .str _ :: _, _, h | .ty _ :: _, _, h | .tup _ :: _, _, h | .lst _ :: _, _, h | .dct _ _ :: _, _, h | .dtt _ _ :: _, _, h | .ref _ :: _, _, h | .fn _ :: _, _, h => by simp [numsOf] at h
def f2T (g : List Int → List Int → Bool) : Env → Store → R → R → Option (R × Store) := fun _ st x y => match asU x, asU y with
  | some xs, some ys => match numsOf xs, numsOf ys with
    | some ns, some ms => some (.d (.bl (g ns ms)), st)
    | _, _ => none
  | _, _ => none
theorem sim2T {g : List Int → List Int → Bool} {r : R2} (hr : ∀ (a b : Addr) (ns ms : List Int) (H : Hp) (Q : VK), SqT K H a (ns.map V.int) → SqT K H b (ms.map V.int) → Q (.bl (g ns ms)) H → r (.ref a) (.ref b) H Q) : Sim2 K r (f2T g) := by
  intro σ F μ H env st x y v u z st' Q w en rx ry h k
  unfold f2T at h
  split at h
  · rename_i xs ys e1 e2
    split at h
    · rename_i ns ms e3 e4
      cases h
      obtain ⟨a, vs, rfl, s1, q1⟩ := asU_ok w rx e1
      obtain ⟨b, us, rfl, s2, q2⟩ := asU_ok w ry e2
      rw [numsOf_ok e3] at q1
      rw [numsOf_ok e4] at q2
      rw [q1.ints] at s1
      rw [q2.ints] at s2
      exact hr a b ns ms H Q s1 s2 (k _ F μ H w Stp.refl rfl)
    · cases h
  · cases h
def gLe (ns ms : List Int) : Bool := Ob.lexAt (fun j => decide (ns.getD j 0 = ms.getD j 0)) (fun j => decide (ns.getD j 0 ≤ ms.getD j 0)) (decide (ns.length ≤ ms.length)) 0 (min ns.length ms.length)
def gGt (ns ms : List Int) : Bool := Ob.lexAt (fun j => decide (ns.getD j 0 = ms.getD j 0)) (fun j => decide (ms.getD j 0 < ns.getD j 0)) (decide (ns.length > ms.length)) 0 (min ns.length ms.length)
end
theorem hu65 {A : Around} {k : Nat} (hr : Room k A) : A.units + 65 < cLine := by
  have h := hr.un
  have h2 := hr.units
  omega
section
variable {X : Cx} {a b c e : Expr} {ma mb mc m : ME} {mt : MT} {pos : Pos} {es : List Expr} {mA : MA}
/-- comparisons of ints, of tuples of ints -/
def fLeU := fOr (f2I (fun _ _ => true) fun i j => .bl (decide (i ≤ j))) (f2T gLe)
def fGtU := fOr (f2I (fun _ _ => true) fun i j => .bl (decide (j < i))) (f2T gGt)
def fLtU := fOr (f2I (fun _ _ => true) fun i j => .bl (decide (i < j))) (f2T HT.lexLt)
theorem kLeU (hu : X.A.units < cLine) : CmpK X .LtE fLeU := ⟨_, OpR.or op_le (op_leT hu), (sim2I0 (g := fun i j => .bl (decide (i ≤ j))) (g' := fun i j => .bl (decide (i ≤ j))) fun _ _ _ _ => rfl).or (sim2T (r := rLeT X.K) fun a b ns ms H Q h1 h2 q => ⟨a, b, ns, ms, rfl, rfl, h1, h2, q⟩)⟩
theorem kGtU (hu : X.A.units < cLine) : CmpK X .Gt fGtU := ⟨_, OpR.or op_gt (op_gtT hu), (sim2I0 (g := fun i j => .bl (decide (j < i))) (g' := fun i j => .bl (decide (j < i))) fun _ _ _ _ => rfl).or (sim2T (r := rGtT X.K) fun a b ns ms H Q h1 h2 q => ⟨a, b, ns, ms, rfl, rfl, h1, h2, q⟩)⟩
theorem kLtU (hu : X.A.units < cLine) : CmpK X .Lt fLtU := ⟨_, OpR.or op_lt (op_ltT hu), (sim2I0 (g := fun i j => .bl (decide (i < j))) (g' := fun i j => .bl (decide (i < j))) fun _ _ _ _ => rfl).or (sim2T (r := rLtT X.K) fun a b ns ms H Q h1 h2 q => ⟨a, b, ns, ms, rfl, rfl, h1, h2, q⟩)⟩
/-- a op b op' c -/
def mChain (f g : Env → Store → R → R → Option (R × Store)) (a b c : ME) : ME := fun env st => match a env st with
  | some (x, st1) => match b env st1 with
    | some (y, st2) => match f env st2 x y with
      | some (.d (.bl true), st3) => match c env st3 with
        | some (z, st4) => g env st4 y z
        | none => none
      | some (.d (.bl false), st3) => some (.d (.bl false), st3)
      | _ => none
    | none => none
  | none => none
theorem simChain {K : PySem.W.Frag} {ta tb tc : TE} {r r' : R2} {f g} (ha : SimE K ta ma) (hb : SimE K tb mb) (hc : SimE K tc mc) (hr : Sim2 K r f) (hr' : Sim2 K r' g) : SimE K (tChain r r' ta tb tc) (mChain f g ma mb mc) := by
  intro σ F μ H env st z st' Q w en h k
  unfold mChain at h
  split at h
  · rename_i x st1 e1
    split at h
    · rename_i y st2 e2
      refine ha σ F μ H env st x st1 _ w en e1 fun v F1 μ1 H1 w1 s1 r1 => ?_
      refine hb σ F1 μ1 H1 env st1 y st2 _ w1 (en.step s1) e2 fun u F2 μ2 H2 w2 s2 r2 => ?_
      have en2 := (en.step s1).step s2
      split at h
      · rename_i st3 e3
        refine hr σ F2 μ2 H2 env st2 x y v u _ st3 _ w2 en2 (r1.step s2) r2 e3 fun v' F3 μ3 H3 w3 s3 r3 => ⟨true, r3, ?_⟩
        rw [if_pos rfl]
        split at h
        · rename_i z' st4 e4
          refine hc σ F3 μ3 H3 env st3 z' st4 _ w3 (en2.step s3) e4 fun q F4 μ4 H4 w4 s4 r4 => ?_
          exact hr' σ F4 μ4 H4 env st4 y z' u q z st' Q w4 ((en2.step s3).step s4) ((r2.step s3).step s4) r4 h fun v' F5 μ5 H5 w5 s5 r5 => k v' F5 μ5 H5 w5 ((((s1.trans s2).trans s3).trans s4).trans s5) r5
        · cases h
      · rename_i st3 e3
        cases h
        refine hr σ F2 μ2 H2 env st2 x y v u _ _ _ w2 en2 (r1.step s2) r2 e3 fun v' F3 μ3 H3 w3 s3 r3 => ⟨false, r3, ?_⟩
        rw [if_neg Bool.false_ne_true]
        exact k _ F3 μ3 H3 w3 ((s1.trans s2).trans s3) rfl
      · cases h
    · cases h
  · cases h
theorem xchain {op op' : CmpOp} {f g} (k : CmpK X op f) (k' : CmpK X op' g) (ha : XE X a ma) (hb : XE X b mb) (hc : XE X c mc) (hm : lastMarks [op, op'] [b, c] = false := by with_unfolding_all rfl) : XE X (.Compare a [op, op'] [b, c] pos) (mChain f g ma mb mc) := by
  obtain ⟨r, h1, h2⟩ := k
  obtain ⟨r', h1', h2'⟩ := k'
  obtain ⟨ta, pa, sa⟩ := ha
  obtain ⟨tb, pb, sb⟩ := hb
  obtain ⟨tc, pc, sc⟩ := hc
  exact ⟨_, pe_chain h1 h1' pa pb pc hm, simChain sa sb sc h2 h2'⟩
theorem xchaint {op op' : CmpOp} {f g} (k : CmpK X op f) (k' : CmpK X op' g) (ha : XE X a ma) (hb : XE X b mb) (hc : XE X c mc) (hm : lastMarks [op, op'] [b, c] = false := by with_unfolding_all rfl) : XT X (.Compare a [op, op'] [b, c] pos) (mTest (mChain f g ma mb mc)) := by
  obtain ⟨r, h1, h2⟩ := k
  obtain ⟨r', h1', h2'⟩ := k'
  obtain ⟨ta, pa, sa⟩ := ha
  obtain ⟨tb, pb, sb⟩ := hb
  obtain ⟨tc, pc, sc⟩ := hc
  exact ⟨_, pt_chain h1 h1' pa pb pc hm, simTest (simChain sa sb sc h2 h2')⟩
/-- x in a list of data; in a dict -/
def listP (env : Env) (st : Store) (r : R) : Option (List PyData) := match asL env st r with | some xs => toPs (dr2 st) xs | none => none
theorem listP_ok {K : PySem.W.Frag} {F : Hp} {μ : List Addr} {H : Hp} {st : Store} {env : Env} {σ : L2.St} {r : R} {v : V} {ps : List PyData} (w : Wd K F μ H st) (en : EnvOk K F μ H env σ) (q : RRep K F μ env σ r v) (h : listP env st r = some ps) : Dp K H v (.list ps) := by
  unfold listP at h
  split at h
  · rename_i xs e
    obtain ⟨a, vs, rfl, s, q⟩ := asL_ok w en q e
    exact .lst s (toPs_ok w (dr2_ok w) _ _ _ q h)
  · cases h
def f2In (neg : Bool) : Env → Store → R → R → Option (R × Store) := fun env st x y => match toPR env st x, listP env st y with
  | some p, some ps => if SeqAt.shaped p && SeqAt.shaped (.list ps) then some (.d (.bl (if neg then !(ps.any fun z => PyData.eqv z p) else ps.any fun z => PyData.eqv z p)), st) else none
  | _, _ => none
theorem sim2In {K : PySem.W.Frag} : Sim2 K (rInD K) (f2In false) := by
  intro σ F μ H env st x y v u z st' Q w en rx ry h k
  unfold f2In at h
  split at h
  · rename_i p q e1 e2
    split at h
    · rename_i hs
      rw [Bool.and_eq_true] at hs
      cases h
      exact ⟨p, q, toPR_ok w en rx e1, listP_ok w en ry e2, hs.1, hs.2, k _ F μ H w Stp.refl rfl⟩
    · cases h
  · cases h
theorem sim2NotIn {K : PySem.W.Frag} : Sim2 K (rNotInD K) (f2In true) := by
  intro σ F μ H env st x y v u z st' Q w en rx ry h k
  unfold f2In at h
  split at h
  · rename_i p q e1 e2
    split at h
    · rename_i hs
      rw [Bool.and_eq_true] at hs
      cases h
      exact ⟨p, q, toPR_ok w en rx e1, listP_ok w en ry e2, hs.1, hs.2, k _ F μ H w Stp.refl rfl⟩
    · cases h
  · cases h
def f2InK (neg : Bool) : Env → Store → R → R → Option (R × Store) := fun env st x y => match x, asK env st y with
  | .d d, some kvs => match keyOf d with
    | some k => some (.d (.bl (if neg then !(valD kvs k).isSome else (valD kvs k).isSome)), st)
    | none => none
  | _, _ => none
theorem sim2InK {K : PySem.W.Frag} (neg : Bool) : Sim2 K (fun y x H Q => ∃ a o, x = .ref a ∧ DGet H a y o ∧ Q (.bl (if neg then !o.isSome else o.isSome)) H) (f2InK neg) := by
  intro σ F μ H env st x y v u z st' Q w en rx ry h k
  unfold f2InK at h
  split at h
  · rename_i d kvs e1
    split at h
    · rename_i kk e2
      cases h
      obtain ⟨a, vs, rfl, s, q⟩ := asK_ok w en ry e1
      have hv := RepKV.val kk q
      refine ⟨a, valV vs kk, rfl, .inl ⟨vs, kk, s, keyOf_ok e2 rx, rfl⟩, k _ F μ H w Stp.refl ?_⟩
      show V.bl _ = V.bl _
      cases hd : valD kvs kk with
      | none => rw [hv.2 hd]; cases neg <;> rfl
      | some d' => obtain ⟨v', h1, _⟩ := hv.1 d' hd; rw [h1]; cases neg <;> rfl
    · cases h
  · cases h
theorem xin (hu : X.A.units + 65 < cLine) (ha : XE X a ma) (hb : XE X b mb) (h1 : behindInMarks .In b = false := by rfl) : XE X (.Compare a [.In] [b] pos) (m2 ma mb (fOr (f2In false) (f2InK false))) := by
  obtain ⟨ta, pa, sa⟩ := ha
  obtain ⟨tb, pb, sb⟩ := hb
  exact ⟨_, PE.or (pe_cmpR (op_inD hu) pa pb h1) (pe_cmp (pc_din (by omega) pa pb) h1), simOr2 (sim2 sa sb sim2In) (sim2 (r := fun y x H Q => ∃ a o, x = .ref a ∧ DGet H a y o ∧ Q (.bl o.isSome) H) sa sb (sim2InK false))⟩
theorem xnotin (hu : X.A.units + 65 < cLine) (ha : XE X a ma) (hb : XE X b mb) (h1 : behindInMarks .NotIn b = false := by rfl) : XE X (.Compare a [.NotIn] [b] pos) (m2 ma mb (fOr (f2In true) (f2InK true))) := by
  obtain ⟨ta, pa, sa⟩ := ha
  obtain ⟨tb, pb, sb⟩ := hb
  exact ⟨_, PE.or (pe_cmpR (op_notInD hu) pa pb h1) (pe_cmp (pc_dnotin (by omega) pa pb) h1), simOr2 (sim2 sa sb sim2NotIn) (sim2 (r := fun y x H Q => ∃ a o, x = .ref a ∧ DGet H a y o ∧ Q (.bl (!o.isSome)) H) sa sb (sim2InK true))⟩
theorem PT.or {e : Expr} {t u : TT} (h : PT X e t) (h' : PT X e u) : PT X e (fun σ H Q => t σ H Q ∨ u σ H Q) := ⟨fun pins s σ H Q I q => q.elim (h.run pins s σ H Q I) (h'.run pins s σ H Q I)⟩
theorem mTest_or {m1 m2 m : ME} {K : PySem.W.Frag} {t u : TT} (h1 : SimT K t (mTest m1)) (h2 : SimT K u (mTest m2)) (hm : ∀ env st z, m env st = some z → m1 env st = some z ∨ m2 env st = some z) : SimT K (fun σ H Q => t σ H Q ∨ u σ H Q) (mTest m) := by
  intro σ F μ H env st b st' Q w en e k
  unfold mTest at e
  split at e
  · rename_i b' s' e1
    cases e
    rcases hm _ _ _ e1 with q | q
    · exact .inl (h1 σ F μ H env st _ _ Q w en (by unfold mTest; rw [q]) k)
    · exact .inr (h2 σ F μ H env st _ _ Q w en (by unfold mTest; rw [q]) k)
  · cases e
theorem xint' (hu : X.A.units + 65 < cLine) (ha : XE X a ma) (hb : XE X b mb) (h1 : behindInMarks .In b = false := by rfl) : XT X (.Compare a [.In] [b] pos) (mTest (m2 ma mb (fOr (f2In false) (f2InK false)))) := by
  obtain ⟨ta, pa, sa⟩ := ha
  obtain ⟨tb, pb, sb⟩ := hb
  exact ⟨_, PT.or (pt_cmpR (op_inD hu) pa pb h1) (pt_cmp (pc_din (by omega) pa pb) h1), mTest_or (simTest (sim2 sa sb sim2In)) (simB (sim2 (r := fun y x H Q => ∃ a o, x = .ref a ∧ DGet H a y o ∧ Q (.bl o.isSome) H) sa sb (sim2InK false))) fun _ _ _ h => m2_or h⟩
theorem xnotint (hu : X.A.units + 65 < cLine) (ha : XE X a ma) (hb : XE X b mb) (h1 : behindInMarks .NotIn b = false := by rfl) : XT X (.Compare a [.NotIn] [b] pos) (mTest (m2 ma mb (fOr (f2In true) (f2InK true)))) := by
  obtain ⟨ta, pa, sa⟩ := ha
  obtain ⟨tb, pb, sb⟩ := hb
  exact ⟨_, PT.or (pt_cmpR (op_notInD hu) pa pb h1) (pt_cmp (pc_dnotin (by omega) pa pb) h1), mTest_or (simTest (sim2 sa sb sim2NotIn)) (simB (sim2 (r := fun y x H Q => ∃ a o, x = .ref a ∧ DGet H a y o ∧ Q (.bl (!o.isSome)) H) sa sb (sim2InK true))) fun _ _ _ h => m2_or h⟩
/-- x is None, x is not None -/
def f2Is (neg : Bool) : Env → Store → R → R → Option (R × Store) := fun _ st x y => match y with
  | .d .non => match x with
    | .d d => some (.d (.bl (if neg then !decide (d = .non) else decide (d = .non))), st)
    | .loc _ => some (.d (.bl neg), st)
  | _ => none
theorem rep_non {K : PySem.W.Frag} {F : Hp} {μ : List Addr} {d : D} {v : V} (r : Rep K F μ d v) : decide (v = V.non) = decide (d = D.non) := by
  cases d <;> simp only [Rep] at r <;> (try obtain ⟨_, _, rfl, _⟩ := r) <;> (try obtain ⟨_, rfl, _⟩ := r) <;> (try subst r) <;> simp
theorem sim2Is {K : PySem.W.Frag} : Sim2 K (fun x y H Q => y = .non ∧ Q (.bl (decide (x = .non))) H) (f2Is false) := by
  intro σ F μ H env st x y v u z st' Q w en rx ry h k
  unfold f2Is at h
  split at h
  · split at h
    · cases h
      exact ⟨ry, k _ F μ H w Stp.refl (by rw [rep_non rx]; rfl)⟩
    · cases h
      obtain ⟨a, rfl, _⟩ := rx
      exact ⟨ry, k _ F μ H w Stp.refl rfl⟩
  · cases h
theorem sim2IsNot {K : PySem.W.Frag} : Sim2 K (fun x y H Q => y = .non ∧ Q (.bl (!decide (x = .non))) H) (f2Is true) := by
  intro σ F μ H env st x y v u z st' Q w en rx ry h k
  unfold f2Is at h
  split at h
  · split at h
    · cases h
      exact ⟨ry, k _ F μ H w Stp.refl (by rw [rep_non rx]; rfl)⟩
    · cases h
      obtain ⟨a, rfl, _⟩ := rx
      exact ⟨ry, k _ F μ H w Stp.refl rfl⟩
  · cases h
theorem kIs : CmpK X .Is (f2Is false) := ⟨_, op_isN, sim2Is⟩
theorem kIsNot : CmpK X .IsNot (f2Is true) := ⟨_, op_notN, sim2IsNot⟩
/-- constants of the module -/
theorem xglob {x : Str} {d : D} {v : V} {u : Value} {pos : Pos} (hg : Gl X x) (h : X.mg x = some u ∧ RelV v u ∧ ∀ F μ, Rep X.K F μ d v) (hd : (x == ("__debug__" : Str)) = false := by decide) : XE X (.Name x pos) (mC d) :=
  ⟨_, pe_glob hg h.1 h.2.1 hd, simC h.2.2⟩
structure Cst (K : PySem.W.Frag) (mg : Str → Option Value) (x : Str) (d : D) : Prop where
  h : ∃ v u, mg x = some u ∧ RelV v u ∧ ∀ F μ, Rep K F μ d v
theorem xcst {x : Str} {d : D} {pos : Pos} (c : Cst X.K X.mg x d) (hg : Gl X x) (hd : (x == ("__debug__" : Str)) = false := by decide) : XE X (.Name x pos) (mC d) := by
  obtain ⟨v, u, h⟩ := c
  exact xglob hg h hd
/-- list(x): a new list -/
def m1F (a : ME) (f : Env → Store → R → Option SO) : MF := fun env st => match a env st with
  | some (x, st1) => match f env st1 x with
    | some so => some (so, st1)
    | none => none
  | none => none
def f1List : Env → Store → R → Option SO := fun env st x => match seqOf env st x with | some xs => some (.lst xs) | none => none
theorem xflist {x : Str} {p : Pos} (hg : Gl X x) (hm : X.mg x = none) (hv : bootBuiltins x = some (.type "list")) (ha : XE X e m) (hn : x ≠ "__name__" := by decide)
    (hdb : (x == ("__debug__" : Str)) = false := by decide) (he : starEach (e :: []) X.env = (false, eval e X.env) :: starEach [] X.env := by rfl) (hpl : (backTo pos (starEach [] X.env)).any (·.1) = false := by rfl) : XF X (.Call (.Name x p) [e] [] pos) (m1F m f1List) := by
  obtain ⟨t, pe, s⟩ := ha
  refine ⟨_, pe_callTy call_list_of hg hm hv (pa_cons pe pa_nil he) hn hdb he hpl, ?_⟩
  intro σ F μ H env st so st' Q w en h k
  unfold m1F at h
  split at h
  · rename_i x st1 e1
    split at h
    · rename_i so' e2
      cases h
      unfold f1List at e2
      split at e2
      · rename_i xs e3
        cases e2
        refine s σ F μ H env st _ _ _ w en e1 fun v F1 μ1 H1 w1 s1 r1 => ?_
        obtain ⟨a, vs, rfl, sq, q⟩ := seqOf_ok w1 (en.step s1) r1 e3
        exact ⟨a, vs, rfl, sq, fun p hp => k p (.lst vs) F1 μ1 _ (w1.lay0 hp) (s1.trans (Stp.lay0 hp)) (fresh_of s1 hp) (w1.Fnone hp) (w1.out hp) upd_same q⟩
      · cases e2
    · cases h
  · cases h
/-! ### {k: v, ..} -/
abbrev MPs := Env → Store → Option (List (Key × D) × Store)
/-- the pairs; the dict at p is known to nobody meanwhile -/
def SimPs (K : PySem.W.Frag) (trs : List (TE × TE)) (m : MPs) : Prop :=
  ∀ (σ : L2.St) (F : Hp) (μ : List Addr) (H : Hp) (env : Env) (st : Store) (kvs : List (Key × D)) (st' : Store) (Q : List (V × V) → Hp → Prop), Wd K F μ H st → EnvOk K F μ H env σ → m env st = some (kvs, st') →
    (∀ ps F' μ' H', Wd K F' μ' H' st' → Stp F μ H F' μ' H' → (∃ qs, ps = qs.map (fun (kv : Key × V) => (kV kv.1, kv.2)) ∧ RepKV K F' μ' kvs qs) → Q ps H') → tPairs trs σ H Q
structure XPs (X : Cx) (pos : Pos) (ks : List (Option Expr)) (vs : List Expr) (m : MPs) : Prop where
  h : ∃ trs, PPs X pos ks vs trs ∧ SimPs X.K trs m ∧ trs.length = ks.length
def mPsN : MPs := fun _ st => some ([], st)
def mPsC (k v : ME) (r : MPs) : MPs := fun env st => match k env st with
  | some (.d dk, st1) => match keyOf dk with
    | some kk => match v env st1 with
      | some (.d dv, st2) => match r env st2 with
        | some (kvs, st3) => some ((kk, dv) :: kvs, st3)
        | none => none
      | _ => none
    | none => none
  | _ => none
theorem xps_nil {pos : Pos} : XPs X pos [] [] mPsN := ⟨[], pps_nil, (by
  intro σ F μ H env st kvs st' Q w en e k
  cases e
  exact k [] F μ H w Stp.refl ⟨[], rfl, trivial⟩), rfl⟩
theorem xps_cons {pos : Pos} {k v : Expr} {mk mv : ME} {ks : List (Option Expr)} {vs : List Expr} {mr : MPs} (hk : XE X k mk) (hv : XE X v mv) (hr : XPs X pos ks vs mr) : XPs X pos (some k :: ks) (v :: vs) (mPsC mk mv mr) := by
  obtain ⟨tk, pk, sk⟩ := hk
  obtain ⟨tv, pv, sv⟩ := hv
  obtain ⟨tr, pr, sr, hl⟩ := hr
  refine ⟨_, pps_cons pk pv pr, ?_, by simp [hl]⟩
  intro σ F μ H env st kvs st' Q w en e k
  unfold mPsC at e
  split at e
  · rename_i dk st1 e1
    split at e
    · rename_i kk e2
      split at e
      · rename_i dv st2 e3
        split at e
        · rename_i kvs st3 e4
          cases e
          refine sk σ F μ H env st _ _ _ w en e1 fun v F1 μ1 H1 w1 s1 r1 => ?_
          refine sv σ F1 μ1 H1 env st1 _ _ _ w1 (en.step s1) e3 fun u F2 μ2 H2 w2 s2 r2 => ?_
          refine sr σ F2 μ2 H2 env st2 _ _ _ w2 ((en.step s1).step s2) e4 fun ps F3 μ3 H3 w3 s3 ⟨qs, e5, r3⟩ => ?_
          refine k _ F3 μ3 H3 w3 ((s1.trans s2).trans s3) ⟨(kk, u) :: qs, by rw [e5, keyOf_ok e2 r1]; rfl, rfl, s3.rep r2, r3⟩
        · cases e
      · cases e
    · cases e
  · cases e
def mergeD (kvs more : List (Key × D)) : List (Key × D) := more.foldl (fun acc kv => putD acc kv.1 kv.2) kvs
theorem RepKV.merge {K : PySem.W.Frag} {F : Hp} {μ : List Addr} : ∀ {more : List (Key × D)} {rs : List (Key × V)} {kvs : List (Key × D)} {vs : List (Key × V)}, RepKV K F μ more rs → RepKV K F μ kvs vs → RepKV K F μ (mergeD kvs more) (mergeK vs rs)
  | [], [], _, _, _, q => q
  | p :: ps, r :: rs, kvs, vs, h, q => by
    have := RepKV.put p.1 h.2.1 q
    have e : mergeK vs (r :: rs) = mergeK (putK vs p.1 r.2) rs := by rw [h.1]; rfl
    rw [e]
    exact RepKV.merge (more := ps) (rs := rs) h.2.2 this
  | [], _ :: _, _, _, h, _ => h.elim
  | _ :: _, [], _, _, h, _ => h.elim
def mFDisp (m : MPs) : MF := fun env st => match m env st with
  | some (kvs, st1) => if kvs.length ≤ 15 then some (.dK (mergeD [] kvs), st1) else none
  | none => none
theorem xfdisp {ks : List (Option Expr)} {vs : List Expr} {mp : MPs} (h : XPs X pos ks vs mp) (hall : ks.all (·.isSome) = true) (hl : ks.length = vs.length) (h0 : ks ≠ []) (h15 : ks.length ≤ 15) : XF X (.Dict ks vs pos) (mFDisp mp) := by
  obtain ⟨tr, p, s, _⟩ := h
  refine ⟨_, pe_disp p hall hl h0 h15, ?_⟩
  intro σ F μ H env st so st' Q w en e k
  unfold mFDisp at e
  split at e
  · rename_i kvs st1 e1
    split at e
    · rename_i hz
      cases e
      intro p hp
      have s0 := Stp.lay0 (F := F) (μ := μ) (o := HO.dK []) hp
      have w0 := w.lay0 (o := HO.dK []) hp
      refine s σ F μ _ env st _ _ _ w0 (en.step s0) e1 fun ps F1 μ1 H1 w1 s1 ⟨qs, e5, r1⟩ => ?_
      have h1 := s1.frame p _ upd_same (w.out hp)
      have o1 := s1.out (w.Fnone hp) (w.out hp) (by rw [upd_same]; simp)
      refine ⟨h1, qs, e5, by rw [← RepKV.length r1]; exact hz, ?_⟩
      exact k p _ F1 μ1 _ (w1.poke o1.1 o1.2) ((s0.trans s1).poke hp) hp o1.1 o1.2 upd_same (RepKV.merge r1 (trivial : RepKV X.K F1 μ1 [] []))
    · cases e
  · cases e
end
end Gx

set_option maxHeartbeats 2000000
namespace L2
open PySem PySem.Spec PyProof.Rows
open PySem.W (AllAlike Sortable dataLe EachIs sorted_data alike)
/-- sorted(xs): data that can be compared -/
def rSortDat (K : PySem.W.Frag) : List V → Hp → VK → Prop := fun vs H Q => ∃ (a : Addr) (xs : List (V × PyData)), vs = [V.ref a] ∧ SqL K H a (xs.map (·.1)) ∧ (∀ x ∈ xs, Dp K H x.1 x.2) ∧ AllAlike (xs.map (·.2)) ∧ Sortable (xs.map (·.2)) ∧ (∀ x ∈ xs, x.2.depth ≤ 60) ∧
  ∀ p : Addr, H p = none → Q (.ref p) (upd H p (.lst ((xs.mergeSort (dataLe false (·.2))).map (·.1))))
theorem each_vals {X : Cx} {pins : List (Addr × Obj)} {σ : L2.St} {H : Hp} {s : Shared} (I : Inv X pins σ H s) : ∀ (xs : List (V × PyData)) (us : List Value), Vals (xs.map (·.1)) us → (∀ x ∈ xs, Dp X.K H x.1 x.2) →
    EachIs (fun v (b : V × PyData) => RelV b.1 v) us xs ∧ EachIs (fun v (b : V × PyData) => ∃ as, Reads s.heap v b.2 as) us xs
  | [], us, r, _ => by
    rw [List.map_nil] at r
    cases r
    exact ⟨.nil, .nil⟩
  | x :: xs, us, r, h => by
    rw [List.map_cons] at r
    cases r with
    | cons h1 h2 =>
      obtain ⟨e1, e2⟩ := each_vals I xs _ h2 fun y hy => h y (by simp [hy])
      obtain ⟨as, hr⟩ := Dp.reads I x.2 x.1 _ (h x (by simp)) h1
      exact ⟨.cons h1 e1, .cons ⟨as, hr⟩ e2⟩
theorem vals_each : ∀ (xs : List (V × PyData)) (us : List Value), EachIs (fun v (b : V × PyData) => RelV b.1 v) us xs → Vals (xs.map (·.1)) us
  | [], _, h => by cases h; exact Paired.nil
  | x :: xs, _, h => by
    cases h with
    | cons h1 h2 => rw [List.map_cons]; exact Paired.cons h1 (vals_each xs _ h2)
theorem cr_sortDat {X : Cx} (hu : X.A.units + 65 < cLine) : CallR X (.builtin "sorted") (rSortDat X.K) := by
  intro pins s σ H vs us Q I r h
  obtain ⟨a, xs, rfl, hs, hd, hal, hk, hdp, q⟩ := h
  obtain ⟨its, rv, hl, hz⟩ := I.list hs
  rw [Vals.ref1 r]
  obtain ⟨e1, e2⟩ := each_vals I xs its rv hd
  rw [List.length_map] at hz
  refine sorted_data (bs := xs) (enc := fun b => b.2) hl.isList e1 e2 hal hk hz (fun b hb => by have := hdp b hb; omega) fun out ho eo => ?_
  obtain ⟨ep, he'⟩ := PyProof.Rows.sortedAll_at s.heap its out.toArray
  have hlen : ((xs.mergeSort (dataLe false (·.2))).map (·.1)).length ≤ sizeLine := by
    rw [List.length_map, List.length_mergeSort]
    exact hz
  exact ⟨.ref _, upd H (s.heap.objs.size + 1) (.lst ((xs.mergeSort (dataLe false (·.2))).map (·.1))), I.laid (t' := s.toks) (fun _ _ => PyProof.Rows.sortedAll_old) (Nat.le_succ _) ⟨hlen, out, ep, vals_each _ _ eo, he'⟩, rfl, q _ (I.hok.fresh (Nat.le_succ _))⟩
end L2
namespace Gx
open PySem L2
open PySem.W (AllAlike Sortable dataLe EachIs sorted_data alike)
section
variable {X : Cx} {a b c e : Expr} {ma mb mc m : ME} {mt : MT} {pos : Pos} {es : List Expr} {mA : MA}
/-! ### sorted(xs) -/
def isT1 : PyData → Bool
  | .tuple (_ :: _) => true
  | _ => false
def isPl : PyData → Bool
  | .none => false
  | .tuple _ => false
  | _ => true
def sortOk (ps : List PyData) : Bool := ps.all (fun d => ps.all fun d' => alike d d') && (ps.all isT1 || ps.all isPl) && ps.all fun d => decide (d.depth ≤ 60)
theorem sortOk_ok {ps : List PyData} (h : sortOk ps = true) : AllAlike ps ∧ Sortable ps ∧ ∀ d ∈ ps, d.depth ≤ 60 := by
  unfold sortOk at h
  simp only [Bool.and_eq_true, Bool.or_eq_true, List.all_eq_true, decide_eq_true_eq] at h
  refine ⟨fun d hd d' hd' => h.1.1 d hd d' hd', ?_, h.2⟩
  rcases h.1.2 with h1 | h1
  · refine .inl fun d hd => ?_
    have := h1 d hd
    unfold isT1 at this
    split at this
    · exact ⟨_, _, rfl⟩
    · cases this
  · refine .inr fun d hd => ?_
    have := h1 d hd
    unfold isPl at this
    refine ⟨(fun e => by subst e; cases this), (fun xs e => by subst e; cases this)⟩
/-- the three views of a list: data, values, the model's data -/
theorem three {K : PySem.W.Frag} {F : Hp} {μ : List Addr} {H : Hp} {st : Store} (w : Wd K F μ H st) : ∀ (ds : List D) (vs : List V) (ps : List PyData), Reps K F μ ds vs → toPs dr0 ds = some ps →
    ∃ T : List (D × V × PyData), T.map (·.1) = ds ∧ T.map (·.2.1) = vs ∧ T.map (·.2.2) = ps ∧ ∀ t ∈ T, Rep K F μ t.1 t.2.1 ∧ Dp K H t.2.1 t.2.2
  | [], [], ps, _, h => by
    simp only [toPs] at h; cases h
    exact ⟨[], rfl, rfl, rfl, by simp⟩
  | d :: ds, v :: vs, ps, r, h => by
    simp only [toPs] at h
    split at h
    · rename_i p e
      rw [Option.map_eq_some_iff] at h
      obtain ⟨qs, h, rfl⟩ := h
      obtain ⟨T, h1, h2, h3, h4⟩ := three w ds vs qs r.2 h
      refine ⟨(d, v, p) :: T, by simp [h1], by simp [h2], by simp [h3], ?_⟩
      intro t ht
      rcases List.mem_cons.mp ht with rfl | ht
      · exact ⟨r.1, toP_ok w (fun _ _ _ _ h => by unfold dr0 at h; cases h) d v p r.1 e⟩
      · exact h4 t ht
    · cases h
  | [], _ :: _, _, r, _ => r.elim
  | _ :: _, [], _, r, _ => r.elim
theorem reps_of {K : PySem.W.Frag} {F : Hp} {μ : List Addr} : ∀ T : List (D × V × PyData), (∀ t ∈ T, Rep K F μ t.1 t.2.1) → Reps K F μ (T.map (·.1)) (T.map (·.2.1))
  | [], _ => trivial
  | t :: T, h => ⟨h t (by simp), reps_of T fun x hx => h x (by simp [hx])⟩
def intKey : Key → Option Int
  | .inl i => some i
  | .inr _ => none
def intKeys : List Key → Option (List Int)
  | [] => some []
  | k :: ks => match intKey k with
    | some i => match intKeys ks with
      | some js => some (i :: js)
      | none => none
    | none => none
theorem intKeys_ok : ∀ {ks : List Key} {is : List Int}, intKeys ks = some is → ks = is.map Sum.inl
  | [], is, h => by simp only [intKeys] at h; cases h; rfl
  | k :: ks, is, h => by
    simp only [intKeys] at h
    split at h
    · rename_i i e1
      split at h
      · rename_i js e2
        cases h
        rw [List.map_cons, ← intKeys_ok e2]
        cases k with
        | inl z => cases e1; rfl
        | inr z => cases e1
      · cases h
    · cases h
theorem repKV_keys {K : PySem.W.Frag} {F : Hp} {μ : List Addr} {κ : Type} : ∀ {ps : List (κ × D)} {qs : List (κ × V)}, RepKV K F μ ps qs → ps.map (·.1) = qs.map (·.1)
  | [], [], _ => rfl
  | p :: ps, q :: qs, h => by rw [List.map_cons, List.map_cons, h.1, repKV_keys h.2.2]
  | [], _ :: _, h => h.elim
  | _ :: _, [], h => h.elim
theorem reps_ints {K : PySem.W.Frag} {F : Hp} {μ : List Addr} : ∀ l : List Int, Reps K F μ (l.map D.int) (l.map V.int)
  | [] => trivial
  | _ :: l => ⟨rfl, reps_ints l⟩
def f1Sort : Env → Store → R → Option SO := fun env st x => match asL env st x with
  | some xs => match toPs dr0 xs with
    | some ps => if sortOk ps then some (.lst (((xs.zip ps).mergeSort (dataLe false (·.2))).map (·.1))) else none
    | none => none
  | none => match asK env st x with
    | some kvs => match intKeys (kvs.map (·.1)) with
      | some ks => if ks.length < 64 then some (.lst ((ks.mergeSort fun i j => decide (i ≤ j)).map .int)) else none
      | none => none
    | none => none
theorem zip_map {α β γ : Type} (f : α → β) (g : α → γ) : ∀ T : List α, (T.map f).zip (T.map g) = T.map fun t => (f t, g t)
  | [] => rfl
  | t :: T => by simp [zip_map f g T]
theorem xsorted (hc : X.calm = true) (hu : X.A.units + 65 < cLine) {x : Str} {p : Pos} (hg : Gl X x) (hm : X.mg x = none) (hv : bootBuiltins x = some (.builtin "sorted")) (ha : XE X e m) (hn : x ≠ "__name__" := by decide)
    (hdb : (x == ("__debug__" : Str)) = false := by decide) (he : starEach (e :: []) X.env = (false, eval e X.env) :: starEach [] X.env := by rfl) (hpl : (backTo pos (starEach [] X.env)).any (·.1) = false := by rfl) : XF X (.Call (.Name x p) [e] [] pos) (m1F m f1Sort) := by
  obtain ⟨t, pe, s⟩ := ha
  have cr : CallR X (.builtin "sorted") (fun vs H Q => rSortDat X.K vs H Q ∨ ∃ (a : Addr) (kvs : List (Key × V)) (ks : List Int), vs = [.ref a] ∧ Rd H a (.dK kvs) ∧ kvs.map (·.1) = ks.map Sum.inl ∧ ks.length < 64 ∧
    ∀ (ys : List Int) (p : Addr), ys.Perm ks → ys.Pairwise (· ≤ ·) → H p = none → Q (.ref p) (upd H p (.lst (ys.map V.int)))) := by
    intro pins s σ H vs us Q I r h
    rcases h with h | h
    · exact cr_sortDat hu pins s σ H vs us Q I r h
    · exact call_sortedDI hc pins s σ H vs us Q I r h
  refine ⟨_, pe_callB cr hg hm hv (pa_cons pe pa_nil he) hn hdb he hpl, ?_⟩
  intro σ F μ H env st so st' Q w en h k
  unfold m1F at h
  split at h
  · rename_i x st1 e1
    split at h
    · rename_i so' e2
      cases h
      unfold f1Sort at e2
      refine s σ F μ H env st _ _ _ w en e1 fun v F1 μ1 H1 w1 s1 r1 => ?_
      split at e2
      · rename_i xs e3
        split at e2
        · rename_i ps e4
          split at e2
          · rename_i hso
            cases e2
            obtain ⟨a, vs, rfl, sq, q⟩ := asL_ok w1 (en.step s1) r1 e3
            obtain ⟨hal, hk, hdp⟩ := sortOk_ok hso
            obtain ⟨T, t1, t2, t3, t4⟩ := three w1 xs vs ps q e4
            have z1 : xs.zip ps = T.map fun t => (t.1, t.2.2) := by rw [← t1, ← t3]; exact zip_map _ _ T
            have z2 : (T.map fun t => (t.2.1, t.2.2)).map (·.1) = vs := by rw [List.map_map, ← t2]; rfl
            have z3 : (T.map fun t => (t.2.1, t.2.2)).map (·.2) = ps := by rw [List.map_map, ← t3]; rfl
            have m1' : ((xs.zip ps).mergeSort (dataLe false (·.2))).map (·.1) = (T.mergeSort (dataLe false (·.2.2))).map (·.1) := by
              rw [z1, ← List.map_mergeSort (f := fun t : D × V × PyData => (t.1, t.2.2)) (r := dataLe false (fun t : D × V × PyData => t.2.2)) (fun _ _ _ _ => rfl), List.map_map]
              rfl
            have m2' : ((T.map fun t => (t.2.1, t.2.2)).mergeSort (dataLe false (·.2))).map (·.1) = (T.mergeSort (dataLe false (·.2.2))).map (·.2.1) := by
              rw [← List.map_mergeSort (f := fun t : D × V × PyData => (t.2.1, t.2.2)) (r := dataLe false (fun t : D × V × PyData => t.2.2)) (fun _ _ _ _ => rfl), List.map_map]
              rfl
            refine .inl ⟨a, T.map fun t => (t.2.1, t.2.2), rfl, by rw [z2]; exact sq, ?_, by rw [z3]; exact hal, by rw [z3]; exact hk, ?_, fun p hp => ?_⟩
            · intro y hy
              obtain ⟨t, ht, rfl⟩ := List.mem_map.mp hy
              exact (t4 t ht).2
            · intro y hy
              exact hdp _ (by rw [← z3]; exact List.mem_map.mpr ⟨y, hy, rfl⟩)
            · rw [m2']
              refine k p (.lst _) F1 μ1 _ (w1.lay0 hp) (s1.trans (Stp.lay0 hp)) (fresh_of s1 hp) (w1.Fnone hp) (w1.out hp) upd_same ?_
              rw [m1']
              exact reps_of _ fun t ht => (t4 t ((List.mergeSort_perm T _).mem_iff.mp ht)).1
          · cases e2
        · cases e2
      · split at e2
        · rename_i kvs e3
          split at e2
          · rename_i ks e4
            split at e2
            · rename_i h64
              cases e2
              obtain ⟨a, qs, rfl, hd, hr⟩ := asK_ok w1 (en.step s1) r1 e3
              refine .inr ⟨a, qs, ks, rfl, hd, by rw [← repKV_keys hr]; exact intKeys_ok e4, h64, fun ys p hp1 hp2 hp => ?_⟩
              have e5 : ys = ks.mergeSort (fun x y => decide (x ≤ y)) := PySem.W.os_sorted_mergeSort hp1 hp2
              refine k p (.lst _) F1 μ1 _ (w1.lay0 hp) (s1.trans (Stp.lay0 hp)) (fresh_of s1 hp) (w1.Fnone hp) (w1.out hp) upd_same ?_
              rw [← e5]
              exact reps_ints ys
            · cases e2
          · cases e2
        · cases e2
    · cases h
  · cases h
end
end Gx

set_option maxHeartbeats 2000000
namespace Gx
open PySem L2
abbrev ML := Env → Store → Option (List D × Store)
/-- a list that is fresh or the def's own -/
def SimL (K : PySem.W.Frag) (te : TE) (m : ML) : Prop :=
  ∀ (σ : L2.St) (F : Hp) (μ : List Addr) (H : Hp) (env : Env) (st : Store) (ds : List D) (st' : Store) (Q : VK), Wd K F μ H st → EnvOk K F μ H env σ → m env st = some (ds, st') →
    (∀ a vs F' μ' H', Wd K F' μ' H' st' → Stp F μ H F' μ' H' → a ∉ μ' → H' a = some (.lst vs) → Reps K F' μ' ds vs → Q (.ref a) H') → te σ H Q
structure XL (X : Cx) (e : Expr) (m : ML) : Prop where
  h : ∃ t, PE X e t ∧ SimL X.K t m
section
variable {X : Cx} {a b c e : Expr} {ma mb mc m : ME} {mt : MT} {pos : Pos} {es : List Expr} {mA : MA} {mf mg : MF} {ml mr : ML}
def mLf (m : MF) : ML := fun env st => match m env st with
  | some (.lst ds, st1) => some (ds, st1)
  | _ => none
theorem xl_f (h : XF X e mf) : XL X e (mLf mf) := by
  obtain ⟨t, pe, s⟩ := h
  refine ⟨t, pe, ?_⟩
  intro σ F μ H env st ds st' Q w en e k
  unfold mLf at e
  split at e
  · rename_i ds' st1 e1
    cases e
    refine s σ F μ H env st _ _ _ w en e1 fun a u F' μ' H' w' s' h0 f0 n0 hu r => ?_
    cases u <;> first | exact r.elim | skip
    exact k a _ F' μ' H' w' s' n0 hu r
  · cases e
def mLo (i : Nat) : ML := fun env st => match env[i]? with
  | some (.own (.lst xs)) => some (xs, st)
  | _ => none
theorem xl_o {i : Nat} (h : XE X e (mVar i)) : XL X e (mLo i) := by
  obtain ⟨t, pe, s⟩ := h
  refine ⟨t, pe, ?_⟩
  intro σ F μ H env st ds st' Q w en e k
  unfold mLo at e
  split at e
  · rename_i xs e1
    cases e
    have e2 : mVar i env st = some (.loc i, st) := by unfold mVar; rw [e1]
    refine s σ F μ H env st _ _ _ w en e2 fun v F' μ' H' w' s' r => ?_
    obtain ⟨a, rfl, so, h1, h2⟩ := r
    obtain ⟨b, u, h3, h4, h5, h6, h7⟩ := (en.step s').slot i _ _ h1 h2
    cases h3
    rw [e1] at h1; cases h1
    cases u <;> first | exact h7.elim | skip
    exact k a _ F' μ' H' w' s' h5 h6 h7
  · cases e
def mFCat (a b : ML) : MF := fun env st => match a env st with
  | some (xs, st1) => match b env st1 with
    | some (ys, st2) => if xs.length + ys.length ≤ 16000000 then some (.lst (xs ++ ys), st2) else none
    | none => none
  | none => none
theorem xfcat (ha : XL X a ml) (hb : XL X b mr) : XF X (.BinOp a .Add b pos) (mFCat ml mr) := by
  obtain ⟨ta, pa, sa⟩ := ha
  obtain ⟨tb, pb, sb⟩ := hb
  refine ⟨_, pe_op op_cat pa pb, ?_⟩
  intro σ F μ H env st so st' Q w en e k
  unfold mFCat at e
  split at e
  · rename_i xs st1 e1
    split at e
    · rename_i ys st2 e2
      split at e
      · rename_i hl
        cases e
        refine sa σ F μ H env st _ _ _ w en e1 fun p vs F1 μ1 H1 w1 s1 n1 h1 r1 => ?_
        refine sb σ F1 μ1 H1 env st1 _ _ _ w1 (en.step s1) e2 fun q us F2 μ2 H2 w2 s2 n2 h2 r2 => ?_
        have r1' := s2.reps r1
        have h1' := s2.frame _ _ h1 n1
        refine ⟨p, q, vs, us, rfl, rfl, h1', h2, ?_, fun z hz => ?_⟩
        · rw [← r1'.length, ← r2.length]; exact small16 hl
        · exact k z (.lst (vs ++ us)) F2 μ2 _ (w2.lay0 hz) ((s1.trans s2).trans (Stp.lay0 hz)) (fresh_of (s1.trans s2) hz) (w2.Fnone hz) (w2.out hz) upd_same (r1'.append r2)
      · cases e
    · cases e
  · cases e
/-- xs[lo:hi] of a list: a fresh one -/
def mFSl (a : ME) (lo hi : MO) : MF := fun env st => match a env st with
  | some (x, st1) => match lo env st1 with
    | some (l, st2) => match hi env st2 with
      | some (u, st3) => match asL env st3 x with | some xs => some (.lst (cutD xs l u), st3) | none => none
      | none => none
    | none => none
  | none => none
theorem xfsl {p2 : Pos} {lo hi : Option Expr} {ml mh : MO} (ha : XE X a ma) (hl : XO X lo ml) (hh : XO X hi mh) : XF X (.Subscript a (.Slice lo hi none p2) pos) (mFSl ma ml mh) := by
  obtain ⟨ta, pa, sa⟩ := ha
  obtain ⟨tl, pl, sl⟩ := hl
  obtain ⟨th, ph, sh⟩ := hh
  refine ⟨_, pe_slice sl_list pa pl ph, ?_⟩
  intro σ F μ H env st r st' Q w en h k
  unfold mFSl at h
  split at h
  · rename_i x st1 e1
    split at h
    · rename_i l st2 e2
      split at h
      · rename_i u st3 e3
        refine sa σ F μ H env st x st1 _ w en e1 fun v F1 μ1 H1 w1 s1 r1 => ?_
        refine sl σ F1 μ1 H1 env st1 l st2 _ w1 (en.step s1) e2 fun F2 μ2 H2 w2 s2 => ?_
        refine sh σ F2 μ2 H2 env st2 u st3 _ w2 ((en.step s1).step s2) e3 fun F3 μ3 H3 w3 s3 => ?_
        have sA := (s1.trans s2).trans s3
        have r3 := (r1.step s2).step s3
        split at h
        · rename_i xs e4
          cases h
          obtain ⟨a, vs, e, s, q⟩ := asL_ok w3 (((en.step s1).step s2).step s3) r3 e4
          exact ⟨a, vs, e, s, fun p hp => k p (.lst (cutV vs l u)) F3 μ3 _ (w3.lay0 hp) (sA.trans (Stp.lay0 hp)) (fresh_of sA hp) (w3.Fnone hp) (w3.out hp) upd_same (cut_rep q)⟩
        · cases h
      · cases h
    · cases h
  · cases h
/-- xs[::-1] -/
def f1Rev : Env → Store → R → Option SO := fun env st x => match asL env st x with | some xs => some (.lst xs.reverse) | none => none
theorem reps_rev {K : PySem.W.Frag} {F : Hp} {μ : List Addr} : ∀ {xs : List D} {vs : List V}, Reps K F μ xs vs → Reps K F μ xs.reverse vs.reverse
  | [], [], _ => trivial
  | x :: xs, v :: vs, h => by
    rw [List.reverse_cons, List.reverse_cons]
    exact (reps_rev h.2).append ⟨h.1, trivial⟩
  | [], _ :: _, h => h.elim
  | _ :: _, [], h => h.elim
theorem xfrev {k : Nat} {p1 p2 p3 : Pos} (ha : XE X a ma) : XF X (.Subscript a (.Slice none none (some (.UnaryOp .USub (.Constant (.int 1) k p1) p2)) p3) pos) (m1F ma f1Rev) := by
  obtain ⟨ta, pa, sa⟩ := ha
  refine ⟨_, pe_revL pa, ?_⟩
  intro σ F μ H env st so st' Q w en h k
  unfold m1F at h
  split at h
  · rename_i x st1 e1
    split at h
    · rename_i so' e2
      cases h
      unfold f1Rev at e2
      split at e2
      · rename_i xs e3
        cases e2
        refine sa σ F μ H env st _ _ _ w en e1 fun v F1 μ1 H1 w1 s1 r1 => ?_
        obtain ⟨a, vs, rfl, sq, q⟩ := asL_ok w1 (en.step s1) r1 e3
        exact ⟨a, vs, rfl, sq, fun p hp => k p (.lst vs.reverse) F1 μ1 _ (w1.lay0 hp) (s1.trans (Stp.lay0 hp)) (fresh_of s1 hp) (w1.Fnone hp) (w1.out hp) upd_same (reps_rev q)⟩
      · cases e2
    · cases h
  · cases h
/-- * of ints of at most a thousand bits each -/
def cMulX (i j : Int) : Bool := decide (i.natAbs < 2 ^ 1000) && decide (j.natAbs < 2 ^ 1000)
theorem cMulX_ok (i j : Int) (h : cMulX i j = true) : CMulX i j := by
  unfold cMulX at h
  rw [Bool.and_eq_true, decide_eq_true_eq, decide_eq_true_eq] at h
  exact mulx_ok h.1 h.2 (by decide)
end
end Gx
namespace Gx
open PySem L2
section
variable {X : Cx} {a b : Expr} {ma mb : ME} {pos : Pos}
def mMulX (a b : ME) : ME := m2 a b (f2I cMulX fun i j => .int (i * j))
theorem xmulX (ha : XE X a ma) (hb : XE X b mb) : XE X (.BinOp a .Mult b pos) (mMulX ma mb) := xop op_mulX (sim2I cMulX_ok fun _ _ _ _ => rfl) ha hb
end
end Gx

set_option maxHeartbeats 2000000
namespace L2
open PySem PySem.Spec PyProof.Rows
/-- two dicts of the same keys whose values are equal data -/
def DctSame (K : PySem.W.Frag) (H : Hp) (x y : V) : Prop := ∃ a b ks ls, x = .ref a ∧ y = .ref b ∧ Rd H a (.dK ks) ∧ Rd H b (.dK ls) ∧ ks.length = ls.length ∧ ∀ p ∈ ks, ∃ u d e, valV ls p.1 = some u ∧ Dp K H p.2 d ∧ Dp K H u e ∧ SeqAt.shaped d = true ∧ SeqAt.shaped e = true ∧ PyData.eqv d e = true
theorem hits_data {X : Cx} {pins : List (Addr × Obj)} {σ : St} {H : Hp} {s : Shared} (I : Inv X pins σ H s) (hu : X.A.units + 65 < cLine) {ls : List (Key × V)} {vb : List (Key × Value)} (rb : KV ls vb) {ks : List (Key × V)} {va : List (Key × Value)} (ra : KV ks va) :
    (∀ p ∈ ks, ∃ u d e, valV ls p.1 = some u ∧ Dp X.K H p.2 d ∧ Dp X.K H u e ∧ SeqAt.shaped d = true ∧ SeqAt.shaped e = true ∧ PyData.eqv d e = true) → PySem.W.KeqHits X.A.in1 s vb va true := by
  unfold KV at ra
  induction ra with
  | nil => intro _; exact .nil
  | @cons p q ps qs h t ih =>
    intro hp
    obtain ⟨h1, h2⟩ := h
    obtain ⟨u, d, e, hv, hd, he, sd, se, hq⟩ := hp p List.mem_cons_self
    have rr : RelO (some u) (valueAt vb p.1) := by rw [← hv]; exact rb.val p.1
    obtain ⟨y, hy, ry⟩ := rr.some_of
    obtain ⟨k, v⟩ := q
    have h1' : p.1 = k := h1
    rw [h1'] at hy
    obtain ⟨as, r1⟩ := Dp.reads I d _ _ hd h2
    obtain ⟨bs, r2⟩ := Dp.reads I e _ _ he ry
    have eq := PySem.W.keq_at (A := X.A) r1 r2 sd se (by show X.A.units + 1 + 64 < cLine; omega)
    rw [hq] at eq
    show PySem.W.KeqHits X.A.in1 s vb ((k, v) :: qs) (true && true)
    exact .hit hy eq (ih fun p' hm => hp p' (List.mem_cons_of_mem _ hm))
theorem op_eqDct {X : Cx} (hu : X.A.units + 65 < cLine) : OpR X (compareOp .Eq) (fun x y H Q => DctSame X.K H x y ∧ Q (.bl true) H) := by
  intro pins s σ H x y v u Q I rx ry h
  obtain ⟨⟨a, b, ks, ls, rfl, rfl, ea, eb, hlen, hp⟩, q⟩ := h
  obtain rfl : v = Value.ref a := rx
  obtain rfl : u = Value.ref b := ry
  obtain ⟨_, ya, va, ra, da⟩ := dk_rd I.hok ea
  obtain ⟨_, yb, vb, rb, db⟩ := dk_rd I.hok eb
  have hl : va.length = vb.length := by rw [← ra.length, ← rb.length]; exact hlen
  exact PySem.W.keq_eq (knd := mixKind X.prog X.w) (r := true) ya yb da db (by omega) (fun _ => hits_data I hu rb ra hp) (fin_bl I q (by simp [hl]))
theorem op_neDct {X : Cx} (hu : X.A.units + 65 < cLine) : OpR X (compareOp .NotEq) (fun x y H Q => DctSame X.K H x y ∧ Q (.bl false) H) := by
  intro pins s σ H x y v u Q I rx ry h
  obtain ⟨⟨a, b, ks, ls, rfl, rfl, ea, eb, hlen, hp⟩, q⟩ := h
  obtain rfl : v = Value.ref a := rx
  obtain rfl : u = Value.ref b := ry
  obtain ⟨_, ya, va, ra, da⟩ := dk_rd I.hok ea
  obtain ⟨_, yb, vb, rb, db⟩ := dk_rd I.hok eb
  have hl : va.length = vb.length := by rw [← ra.length, ← rb.length]; exact hlen
  exact PySem.W.keq_ne (knd := mixKind X.prog X.w) (r := true) ya yb da db (by omega) (fun _ => hits_data I hu rb ra hp) (fin_bl I q (by simp [hl]))
end L2
namespace Gx
open PySem L2
section
variable {X : Cx} {a b c e : Expr} {ma mb mc m : ME} {mt : MT} {pos : Pos} {es : List Expr} {mA : MA}
/-! ### {}, dict(d) -/
def mFD0 : MF := fun _ st => some (.dK [], st)
theorem xfd0 : XF X (.Dict [] [] pos) mFD0 := by
  refine ⟨_, pe_dnewK, ?_⟩
  intro σ F μ H env st so st' Q w en h k
  cases h
  exact fun p hp => k p (.dK []) F μ _ (w.lay0 hp) (Stp.lay0 hp) hp (w.Fnone hp) (w.out hp) upd_same trivial
def f1Dict : Env → Store → R → Option SO := fun env st x => match asK env st x with | some kvs => some (.dK kvs) | none => none
theorem xfdict {x : Str} {p : Pos} (hg : Gl X x) (hm : X.mg x = none) (hv : bootBuiltins x = some (.type "dict")) (ha : XE X e m) (hn : x ≠ "__name__" := by decide)
    (hdb : (x == ("__debug__" : Str)) = false := by decide) (he : starEach (e :: []) X.env = (false, eval e X.env) :: starEach [] X.env := by rfl) (hpl : (backTo pos (starEach [] X.env)).any (·.1) = false := by rfl) : XF X (.Call (.Name x p) [e] [] pos) (m1F m f1Dict) := by
  obtain ⟨t, pe, s⟩ := ha
  refine ⟨_, pe_callTy call_dictD hg hm hv (pa_cons pe pa_nil he) hn hdb he hpl, ?_⟩
  intro σ F μ H env st so st' Q w en h k
  unfold m1F at h
  split at h
  · rename_i x st1 e1
    split at h
    · rename_i so' e2
      cases h
      unfold f1Dict at e2
      split at e2
      · rename_i xs e3
        cases e2
        refine s σ F μ H env st _ _ _ w en e1 fun v F1 μ1 H1 w1 s1 r1 => ?_
        obtain ⟨a, vs, rfl, sq, q⟩ := asK_ok w1 (en.step s1) r1 e3
        exact ⟨a, vs, rfl, sq, fun p hp => k p (.dK vs) F1 μ1 _ (w1.lay0 hp) (s1.trans (Stp.lay0 hp)) (fresh_of s1 hp) (w1.Fnone hp) (w1.out hp) upd_same q⟩
      · cases e2
    · cases h
  · cases h
/-! ### d.get(k, z) -/
def mGet2 (mo mk md : ME) : ME := fun env st => match mo env st with
  | some (x, st1) => match asK env st1 x with
    | some _ => match mk env st1 with
      | some (.d k, st2) => match md env st2 with
        | some (.d z, st3) => match asK env st3 x with
          | some kvs => match keyOf k with
            | some kk => some (.d ((valD kvs kk).getD z), st3)
            | none => none
          | none => none
        | _ => none
      | _ => none
    | none => none
  | none => none
theorem xget2 {apos : Pos} (hu : X.A.units + 65 < cLine) (ho : XE X a ma) (hk : XE X b mb) (hz : XE X c mc) (m : M2 X a "get" apos b c pos) : XE X (.Call (.Attribute a "get" apos) [b, c] [] pos) (mGet2 ma mb mc) := by
  obtain ⟨ta, pa, sa⟩ := ho
  obtain ⟨tb, pb, sb⟩ := hk
  obtain ⟨tc, pc, sc⟩ := hz
  refine ⟨_, pe_dget2 (by omega) pa pb pc m, ?_⟩
  intro σ F μ H env st r st' Q w en h k
  unfold mGet2 at h
  split at h
  · rename_i x st1 e1
    split at h
    · rename_i kvs0 e2
      split at h
      · rename_i dk st2 e3
        split at h
        · rename_i dz st3 e4
          split at h
          · rename_i kvs e5
            split at h
            · rename_i kk e6
              cases h
              refine sa σ F μ H env st _ _ _ w en e1 fun v F1 μ1 H1 w1 s1 r1 => ?_
              obtain ⟨p, vs0, rfl, sq0, q0⟩ := asK_ok w1 (en.step s1) r1 e2
              refine ⟨p, rfl, .inl ⟨vs0, sq0⟩, ?_⟩
              refine sb σ F1 μ1 H1 env st1 _ _ _ w1 (en.step s1) e3 fun vk F2 μ2 H2 w2 s2 r2 => ?_
              refine sc σ F2 μ2 H2 env st2 _ _ _ w2 ((en.step s1).step s2) e4 fun vz F3 μ3 H3 w3 s3 r3 => ?_
              have rx := (r1.step s2).step s3
              obtain ⟨p', vs, ep, sq, q⟩ := asK_ok w3 (((en.step s1).step s2).step s3) rx e5
              cases ep
              have hv := RepKV.val kk q
              refine ⟨valV vs kk, .inl ⟨vs, kk, sq, keyOf_ok e6 (r2.step s3), rfl⟩, k _ F3 μ3 H3 w3 ((s1.trans s2).trans s3) ?_⟩
              cases hd : valD kvs kk with
              | none => rw [hv.2 hd]; exact r3
              | some d' => obtain ⟨v', h1, h2⟩ := hv.1 d' hd; rw [h1]; exact h2
            · cases h
          · cases h
        · cases h
      · cases h
    · cases h
  · cases h
end
end Gx
namespace Gx
open PySem L2
/-! ### == of dicts of data -/
def eqAtK (st : Store) (ls : List (Key × D)) (p : Key × D) : Bool := match valD ls p.1 with
  | some u => match toP (dr2 st) p.2 with
    | some d => match toP (dr2 st) u with
      | some e => SeqAt.shaped d && SeqAt.shaped e && PyData.eqv d e
      | none => false
    | none => false
  | none => false
def f2EqK (neg : Bool) : Env → Store → R → R → Option (R × Store) := fun env st x y => match asK env st x with
  | some ks => match asK env st y with
    | some ls => if ks.length = ls.length ∧ ks.all (eqAtK st ls) = true then some (.d (.bl (!neg)), st) else none
    | none => none
  | none => none
theorem repKV_mem {K : PySem.W.Frag} {F : Hp} {μ : List Addr} {κ : Type} : ∀ {ps : List (κ × D)} {qs : List (κ × V)}, RepKV K F μ ps qs → ∀ q ∈ qs, ∃ p ∈ ps, p.1 = q.1 ∧ Rep K F μ p.2 q.2
  | [], [], _, q, h => by cases h
  | p :: ps, q :: qs, h, z, hz => by
    rcases List.mem_cons.mp hz with rfl | hz
    · exact ⟨p, by simp, h.1, h.2.1⟩
    · obtain ⟨y, h1, h2⟩ := repKV_mem h.2.2 z hz
      exact ⟨y, by simp [h1], h2⟩
  | [], _ :: _, h, _, _ => h.elim
  | _ :: _, [], h, _, _ => h.elim
theorem dct_same {K : PySem.W.Frag} {F : Hp} {μ : List Addr} {H : Hp} {st : Store} {env : Env} {σ : L2.St} {x y : R} {v u : V} {ks ls : List (Key × D)} (w : Wd K F μ H st) (en : EnvOk K F μ H env σ) (rx : RRep K F μ env σ x v) (ry : RRep K F μ env σ y u)
    (h1 : asK env st x = some ks) (h2 : asK env st y = some ls) (hl : ks.length = ls.length) (ha : ks.all (eqAtK st ls) = true) : DctSame K H v u := by
  obtain ⟨a, vs, rfl, sa, qa⟩ := asK_ok w en rx h1
  obtain ⟨b, us, rfl, sb, qb⟩ := asK_ok w en ry h2
  refine ⟨a, b, vs, us, rfl, rfl, sa, sb, by rw [← RepKV.length qa, ← RepKV.length qb]; exact hl, fun q hq => ?_⟩
  obtain ⟨p, hp, hk, hr⟩ := repKV_mem qa q hq
  have e := List.all_eq_true.mp ha p hp
  unfold eqAtK at e
  split at e
  · rename_i d' e1
    split at e
    · rename_i d e2
      split at e
      · rename_i f e3
        simp only [Bool.and_eq_true] at e
        obtain ⟨v', h3, h4⟩ := (RepKV.val p.1 qb).1 d' e1
        rw [hk] at h3
        exact ⟨v', d, f, h3, toP_ok w (dr2_ok w) _ _ _ hr e2, toP_ok w (dr2_ok w) _ _ _ h4 e3, e.1.1, e.1.2, e.2⟩
      · cases e
    · cases e
  · cases e
theorem sim2EqK {K : PySem.W.Frag} : Sim2 K (fun x y H Q => DctSame K H x y ∧ Q (.bl true) H) (f2EqK false) := by
  intro σ F μ H env st x y v u z st' Q w en rx ry h k
  unfold f2EqK at h
  split at h
  · rename_i ks e1
    split at h
    · rename_i ls e2
      split at h
      · rename_i hc
        cases h
        exact ⟨dct_same w en rx ry e1 e2 hc.1 hc.2, k _ F μ H w Stp.refl rfl⟩
      · cases h
    · cases h
  · cases h
theorem sim2NeK {K : PySem.W.Frag} : Sim2 K (fun x y H Q => DctSame K H x y ∧ Q (.bl false) H) (f2EqK true) := by
  intro σ F μ H env st x y v u z st' Q w en rx ry h k
  unfold f2EqK at h
  split at h
  · rename_i ks e1
    split at h
    · rename_i ls e2
      split at h
      · rename_i hc
        cases h
        exact ⟨dct_same w en rx ry e1 e2 hc.1 hc.2, k _ F μ H w Stp.refl rfl⟩
      · cases h
    · cases h
  · cases h
theorem kEqA {X : Cx} (hu : X.A.units + 65 < cLine) : CmpK X .Eq (fOr (f2Eq false) (f2EqK false)) := ⟨_, OpR.or (op_eqD (by omega)) (op_eqDct hu), sim2EqD.or sim2EqK⟩
theorem kNeA {X : Cx} (hu : X.A.units + 65 < cLine) : CmpK X .NotEq (fOr (f2Eq true) (f2EqK true)) := ⟨_, OpR.or (op_neD (by omega)) (op_neDct hu), sim2NeD.or sim2NeK⟩
end Gx

set_option maxHeartbeats 2000000
namespace Gx
open PySem L2
/-! ### dict comprehensions -/
def dcGo (j : Nat) (t : MT) (ek ev : ME) (env : Env) (chk : Store → Bool) : List D → Store → List (Key × D) → Option (List (Key × D) × Store)
  | [], st, acc => if chk st then some (acc, st) else none
  | x :: xs, st, acc => if chk st then
      match t (env.set j (.val x)) st with
      | some (true, st1) => match ek (env.set j (.val x)) st1 with
        | some (.d dk, st2) => match keyOf dk with
          | some kk => match ev (env.set j (.val x)) st2 with
            | some (.d d, st3) => if acc.length < 16000000 then dcGo j t ek ev env chk xs st3 (putD acc kk d) else none
            | _ => none
          | none => none
        | _ => none
      | some (false, st1) => dcGo j t ek ev env chk xs st1 acc
      | none => none
    else none
def mDc (mi : MI) (j : Nat) (t : MT) (ek ev : ME) (vs : List Nat) : MF := fun env st => match mi env st with
  | some (src, st1) => match srcItems env st1 src with
    | some xs => match dcGo j t ek ev (wipeE env vs) (fun st => decide (srcItems env st src = some xs)) xs st1 [] with
      | some (acc, st2) => some (.dK acc, st2)
      | none => none
    | none => none
  | none => none
theorem dc_by {J : It} {n : Nat} {g : TG} {tt : TT} {tk tv : TE} {vs : List Nat} {σ : L2.St} {H1 : Hp} {D : Addr} {Qd : Hp → Prop} (Pv : Nat → Hp → Prop) (h0 : Pv 0 (upd H1 D (.dK [])))
    (hs : ∀ i H, i < n → Pv i H → J.go i H ∧ ∀ x H', J.yld i H x H' → g x (L2.wipe σ vs) H' fun σ2 H2 => L2.wipe σ2 vs = L2.wipe σ vs ∧ tt σ2 H2 fun b H3 =>
      if b = true then tk σ2 H3 fun y H4 => tv σ2 H4 fun z H5 => ∃ kvs k, y = kV k ∧ H5 D = some (.dK kvs) ∧ kvs.length < sizeLine ∧ Pv (i + 1) (upd H5 D (.dK (putK kvs k z))) else Pv (i + 1) H3) (hd : ∀ H, Pv n H → J.stop n H ∧ Qd H) :
    ∃ W : Nat → Nat → Hp → Prop, (∃ m, W 0 m (upd H1 D (.dK []))) ∧ ∀ i m H, W i m H →
      (J.stop i H ∧ Qd H) ∨ (J.go i H ∧ ∃ Nx : Hp → Prop, (∀ H', Nx H' → ∃ m', m' < m ∧ W (i + 1) m' H') ∧ ∀ x H', J.yld i H x H' → g x (L2.wipe σ vs) H' fun σ2 H2 => L2.wipe σ2 vs = L2.wipe σ vs ∧ tt σ2 H2 fun b H3 =>
        if b = true then tk σ2 H3 fun y H4 => tv σ2 H4 fun z H5 => ∃ kvs k, y = kV k ∧ H5 D = some (.dK kvs) ∧ kvs.length < sizeLine ∧ Nx (upd H5 D (.dK (putK kvs k z))) else Nx H3) := by
  refine ⟨fun i m H => m = n - i ∧ i ≤ n ∧ Pv i H, ⟨n, by simp, Nat.zero_le _, h0⟩, ?_⟩
  rintro i m H ⟨rfl, hi, p⟩
  by_cases hlt : i < n
  · obtain ⟨h1, h2⟩ := hs i H hlt p
    exact .inr ⟨h1, Pv (i + 1), fun H' p' => ⟨n - (i + 1), by omega, rfl, hlt, p'⟩, h2⟩
  · have e : i = n := by omega
    subst e
    exact .inl (hd H p)
theorem simDc {K : PySem.W.Frag} {wi : TI} {mi : MI} {j : Nat} {tt : TT} {mt : MT} {tk tv : TE} {mk mv : ME} {vs : List Nat} (hi : SimI K wi mi) (ht : SimT K tt mt) (hk : SimE K tk mk) (hv : SimE K tv mv) (hj : j ∈ vs) : SimF K (tDc wi (gName j) tt tk tv vs) (mDc mi j mt mk mv vs) := by
  intro σ F μ H env st so st' Q w en e k
  unfold mDc at e
  split at e
  · rename_i src st1 e1
    split at e
    · rename_i xs e2
      split at e
      · rename_i acc st2 e3
        cases e
        refine hi σ F μ H env st src st1 _ w en e1 fun J F1 μ1 H1 w1 s1 hJ D hD => ?_
        have hD0 : H D = none := fresh_of s1 hD
        refine dc_by (n := xs.length) (fun i Hc => i ≤ xs.length ∧ ∃ F2 μ2 stc ac av, Wd K F2 μ2 Hc stc ∧ Stp F μ H F2 μ2 Hc ∧ Stp F1 μ1 H1 F2 μ2 Hc ∧ F2 D = none ∧ D ∉ μ2 ∧ Hc D = some (.dK av) ∧ RepKV K F2 μ2 ac av ∧
          dcGo j mt mk mv (wipeE env vs) (fun st => decide (srcItems env st src = some xs)) (xs.drop i) stc ac = some (acc, st')) ?_ ?_ ?_
        · refine ⟨Nat.zero_le _, F1, μ1, st1, [], [], w1.lay0 hD, s1.trans (Stp.lay0 hD), Stp.lay0 hD, w1.Fnone hD, w1.out hD, upd_same, trivial, ?_⟩
          simpa using e3
        · rintro i Hc hin ⟨_, F2, μ2, stc, ac, av, w2, s2, s2', f2, m2', hDc, r2, go⟩
          rw [List.drop_eq_getElem_cons hin] at go
          unfold dcGo at go
          split at go
          · rename_i hck
            have hck := of_decide_eq_true hck
            have en2 := en.step s2
            obtain ⟨vs2, ⟨a1, a2⟩, rr⟩ := srcAt w2 en2 (hJ.step s2') hck
            have hl := rr.length
            obtain ⟨g1, g2⟩ := a1 i (by omega)
            refine ⟨g1, fun x H' y => ?_⟩
            obtain ⟨eH, ex⟩ := g2 x H' y
            subst eH
            obtain ⟨d, ed, rd⟩ := rr.get' ex
            have ed' : xs[i] = d := by
              have := List.getElem?_eq_getElem hin
              rw [this] at ed; exact Option.some.inj ed
            rw [ed'] at go
            show L2.wipe ((L2.wipe σ vs).set j (some x)) vs = L2.wipe σ vs ∧ _
            refine ⟨wipe_set hj _, ?_⟩
            have enb : EnvOk K F2 μ2 H' ((wipeE env vs).set j (.val d)) ((L2.wipe σ vs).set j (some x)) := (en2.wipe vs).val j rd
            split at go
            · rename_i st3 e4
              refine ht _ F2 μ2 H' _ stc _ st3 _ w2 enb e4 fun F3 μ3 H3 w3 s3 => ?_
              rw [if_pos rfl]
              split at go
              · rename_i dk st4 e5
                split at go
                · rename_i kk e6
                  split at go
                  · rename_i d2 st5 e7
                    split at go
                    · rename_i hz
                      refine hk _ F3 μ3 H3 _ st3 _ st4 _ w3 (enb.step s3) e5 fun v F4 μ4 H4 w4 s4 r4 => ?_
                      refine hv _ F4 μ4 H4 _ st4 _ st5 _ w4 ((enb.step s3).step s4) e7 fun v5 F5 μ5 H5 w5 s5 r5 => ?_
                      have o3 := s3.out f2 m2' (by rw [hDc]; simp)
                      have hD3 := s3.frame D _ hDc m2'
                      have o4 := s4.out o3.1 o3.2 (by rw [hD3]; simp)
                      have hD4 := s4.frame D _ hD3 o3.2
                      have o5 := s5.out o4.1 o4.2 (by rw [hD4]; simp)
                      have hD5 := s5.frame D _ hD4 o4.2
                      have s25 := (s3.trans s4).trans s5
                      have rkv : RepKV K F5 μ5 ac av := RepKV.mono s25.fF s25.pre _ _ r2
                      refine ⟨av, kk, keyOf_ok e6 r4, hD5, ?_, hin, F5, μ5, st5, putD ac kk d2, putK av kk v5, w5.poke o5.1 o5.2, (s2.trans s25).poke hD0, (s2'.trans s25).poke hD, o5.1, o5.2, upd_same, RepKV.put kk r5 rkv, go⟩
                      rw [← RepKV.length r2, sizeLine_eq]; omega
                    · cases go
                  · cases go
                · cases go
              · cases go
            · rename_i st3 e4
              refine ht _ F2 μ2 H' _ stc _ st3 _ w2 enb e4 fun F3 μ3 H3 w3 s3 => ?_
              rw [if_neg Bool.false_ne_true]
              have o3 := s3.out f2 m2' (by rw [hDc]; simp)
              exact ⟨hin, F3, μ3, st3, ac, av, w3, s2.trans s3, s2'.trans s3, o3.1, o3.2, s3.frame D _ hDc m2', RepKV.mono s3.fF s3.pre _ _ r2, go⟩
            · cases go
          · cases go
        · rintro Hc ⟨_, F2, μ2, stc, ac, av, w2, s2, s2', f2, m2', hDc, r2, go⟩
          rw [List.drop_length] at go
          unfold dcGo at go
          split at go
          · rename_i hck
            have hck := of_decide_eq_true hck
            cases go
            obtain ⟨vs2, ⟨a1, a2⟩, rr⟩ := srcAt w2 (en.step s2) (hJ.step s2') hck
            rw [rr.length]
            exact ⟨a2, k D _ F2 μ2 Hc w2 s2 hD0 f2 m2' hDc r2⟩
          · cases go
      · cases e
    · cases e
  · cases e
section
variable {X : Cx}
theorem xdc {kx vx tg iter : Expr} {scope : Scope} {own : List (Str × Nat)} {pos : Pos} {mi : MI} {j : Nat} {mk mv : ME} (hc : X.calm = true) (hN : X.N.Nodup) (hi : XI X tg iter mi) (ok : BlkOk X.N X.env.scope scope own)
    (hg : ∀ (s : Shared) (H : Hp) (C : Addr) (cl : List (Str × Addr)) (fp : List Addr), PG (X.blk s H scope (compEnvC scope cl C X.env) fp) tg (gName j))
    (hk : ∀ (s : Shared) (H : Hp) (C : Addr) (cl : List (Str × Addr)) (fp : List Addr), XE (X.blk s H scope (compEnvC scope cl C X.env) fp) kx mk)
    (he : ∀ (s : Shared) (H : Hp) (C : Addr) (cl : List (Str × Addr)) (fp : List Addr), XE (X.blk s H scope (compEnvC scope cl C X.env) fp) vx mv) (hj : j ∈ own.map (·.2) := by decide) (hs : ∀ x, foldedSetIterable iter X.env x = pure x := by intro _; rfl) :
    XF X (.DictComp kx vx [⟨tg, iter, [], 0⟩] scope pos) (mDc mi j mYes mk mv (own.map (·.2))) := by
  obtain ⟨wi, p, s⟩ := hi
  refine ⟨_, pe_dc hc hN p ok hg (fun _ _ _ _ _ => pts_nil) (fun s H C cl fp => (hk s H C cl fp).pe) (fun s H C cl fp => (he s H C cl fp).pe) hs, simDc s ?_ simOfM simOfM hj⟩
  intro σ F μ H env st b st' Q w en e k
  cases e
  exact k F μ H w Stp.refl
end
end Gx

set_option maxHeartbeats 2000000
namespace Gx
open PySem L2
section
variable {X : Cx} {e : Expr} {m : ME} {pos : Pos}
/-! ### min(d), d a dict of int keys in the store -/
def f1Min : Env → Store → R → Option (R × Store) := fun env st x => match x with
  | .d (.ref n) => match st[n]? with
    | some (.dK kvs) => match intKeys (kvs.map (·.1)) with
      | some is => match is.min? with
        | some j => some (.d (.int j), st)
        | none => none
      | none => none
    | _ => none
  | _ => none
theorem xmin1 (hc : X.calm = true) {x : Str} {p : Pos} (hg : Gl X x) (hm : X.mg x = none) (hv : bootBuiltins x = some (.builtin "min")) (ha : XE X e m) (hn : x ≠ "__name__" := by decide)
    (hdb : (x == ("__debug__" : Str)) = false := by decide) (he : starEach (e :: []) X.env = (false, eval e X.env) :: starEach [] X.env := by rfl) (hpl : (backTo pos (starEach [] X.env)).any (·.1) = false := by rfl) : XE X (.Call (.Name x p) [e] [] pos) (m1 m f1Min) := by
  refine xcallB (cr_minK hc) ?_ hg hm hv ha hn hdb he hpl
  intro σ F μ H env st x v z st' Q w en rx h k
  unfold f1Min at h
  split at h
  · rename_i n
    split at h
    · rename_i kvs e1
      split at h
      · rename_i is e2
        split at h
        · rename_i j e3
          cases h
          obtain ⟨a, rfl, hm⟩ := rx
          obtain ⟨o, h1, h2⟩ := w.obj n _ a e1 hm
          cases o <;> first | exact h2.elim | skip
          rename_i qs
          have h2' : RepKV X.K F μ kvs qs := h2
          rw [List.min?_eq_some_iff] at e3
          refine ⟨a, qs, is, rfl, h1, by rw [← repKV_keys h2']; exact intKeys_ok e2, fun q => ?_, fun m hm1 hm2 => ?_⟩
          · rw [q] at e3; cases e3.1
          · have : m = j := by
              have h3 := hm2 j e3.1
              have h4 := e3.2 m hm1
              omega
            rw [this]
            exact k _ F μ H w Stp.refl rfl
        · cases h
      · cases h
    · cases h
  · cases h
end
end Gx

set_option maxHeartbeats 2000000
namespace Gx
open PySem L2 PySem.Spec PyProof.Rows
section
variable {X : Cx} {a b c e : Expr} {ma mb mc m : ME} {mt : MT} {pos : Pos}
/-! ### x in a tuple of data -/
def tupP (st : Store) (r : R) : Option (List PyData) := match asU r with | some xs => toPs (dr2 st) xs | none => none
theorem tupP_ok {K : PySem.W.Frag} {F : Hp} {μ : List Addr} {H : Hp} {st : Store} {env : Env} {σ : L2.St} {r : R} {v : V} {ps : List PyData} (w : Wd K F μ H st) (q : RRep K F μ env σ r v) (h : tupP st r = some ps) : Dp K H v (.tuple ps) := by
  unfold tupP at h
  split at h
  · rename_i xs e
    obtain ⟨a, vs, rfl, s, q⟩ := asU_ok w q e
    exact .tup s (toPs_ok w (dr2_ok w) _ _ _ q h)
  · cases h
def rInT (K : PySem.W.Frag) (neg : Bool) : R2 := fun x y H Q => ∃ d ds, Dp K H x d ∧ Dp K H y (.tuple ds) ∧ SeqAt.shaped d = true ∧ SeqAt.shaped (.tuple ds) = true ∧ Q (.bl (if neg then !(ds.any fun z => PyData.eqv z d) else ds.any fun z => PyData.eqv z d)) H
theorem op_inT (hu : X.A.units + 65 < cLine) : OpR X (compareOp .In) (rInT X.K false) := by
  intro pins s σ H x y v u Q I rx ry h
  obtain ⟨d, ds, hd, he, sd, se, q⟩ := h
  obtain ⟨as, r1⟩ := Dp.reads I d x v hd rx
  obtain ⟨bs, r2⟩ := Dp.reads I (.tuple ds) y u he ry
  exact SeqAt.in_tuple_reads r2 r1 (SeqAt.canLay_of_shaped se) (SeqAt.canLay_of_shaped sd) (room_in_shaped sd hu) ⟨.bl _, H, I, rfl, q⟩
theorem op_notInT (hu : X.A.units + 65 < cLine) : OpR X (compareOp .NotIn) (rInT X.K true) := by
  intro pins s σ H x y v u Q I rx ry h
  obtain ⟨d, ds, hd, he, sd, se, q⟩ := h
  obtain ⟨as, r1⟩ := Dp.reads I d x v hd rx
  obtain ⟨bs, r2⟩ := Dp.reads I (.tuple ds) y u he ry
  exact SeqAt.notIn_tuple_reads r2 r1 (SeqAt.canLay_of_shaped se) (SeqAt.canLay_of_shaped sd) (room_in_shaped sd hu) ⟨.bl _, H, I, rfl, q⟩
def f2InU (neg : Bool) : Env → Store → R → R → Option (R × Store) := fun env st x y => match toPR env st x, tupP st y with
  | some p, some ps => if SeqAt.shaped p && SeqAt.shaped (.tuple ps) then some (.d (.bl (if neg then !(ps.any fun z => PyData.eqv z p) else ps.any fun z => PyData.eqv z p)), st) else none
  | _, _ => none
theorem sim2InU {K : PySem.W.Frag} (neg : Bool) : Sim2 K (rInT K neg) (f2InU neg) := by
  intro σ F μ H env st x y v u z st' Q w en rx ry h k
  unfold f2InU at h
  split at h
  · rename_i p q e1 e2
    split at h
    · rename_i hs
      rw [Bool.and_eq_true] at hs
      cases h
      exact ⟨p, q, toPR_ok w en rx e1, tupP_ok w ry e2, hs.1, hs.2, k _ F μ H w Stp.refl rfl⟩
    · cases h
  · cases h
def fIn (neg : Bool) : Env → Store → R → R → Option (R × Store) := fOr (fOr (f2In neg) (f2InK neg)) (f2InU neg)
theorem xinU (hu : X.A.units + 65 < cLine) (ha : XE X a ma) (hb : XE X b mb) (h1 : behindInMarks .In b = false := by rfl) : XE X (.Compare a [.In] [b] pos) (m2 ma mb (fIn false)) := by
  obtain ⟨t1, p1, s1⟩ := xin (pos := pos) hu ha hb h1
  obtain ⟨ta, pa, sa⟩ := ha
  obtain ⟨tb, pb, sb⟩ := hb
  exact ⟨_, PE.or p1 (pe_cmpR (op_inT hu) pa pb h1), simOr2 s1 (sim2 sa sb (sim2InU false))⟩
theorem xnotinU (hu : X.A.units + 65 < cLine) (ha : XE X a ma) (hb : XE X b mb) (h1 : behindInMarks .NotIn b = false := by rfl) : XE X (.Compare a [.NotIn] [b] pos) (m2 ma mb (fIn true)) := by
  obtain ⟨t1, p1, s1⟩ := xnotin (pos := pos) hu ha hb h1
  obtain ⟨ta, pa, sa⟩ := ha
  obtain ⟨tb, pb, sb⟩ := hb
  exact ⟨_, PE.or p1 (pe_cmpR (op_notInT hu) pa pb h1), simOr2 s1 (sim2 sa sb (sim2InU true))⟩
theorem xinUt (hu : X.A.units + 65 < cLine) (ha : XE X a ma) (hb : XE X b mb) (h1 : behindInMarks .In b = false := by rfl) : XT X (.Compare a [.In] [b] pos) (mTest (m2 ma mb (fIn false))) := by
  obtain ⟨t1, p1, s1⟩ := xint' (pos := pos) hu ha hb h1
  obtain ⟨ta, pa, sa⟩ := ha
  obtain ⟨tb, pb, sb⟩ := hb
  exact ⟨_, PT.or p1 (pt_cmpR (op_inT hu) pa pb h1), mTest_or s1 (simTest (sim2 sa sb (sim2InU false))) fun _ _ _ h => m2_or h⟩
theorem xnotinUt (hu : X.A.units + 65 < cLine) (ha : XE X a ma) (hb : XE X b mb) (h1 : behindInMarks .NotIn b = false := by rfl) : XT X (.Compare a [.NotIn] [b] pos) (mTest (m2 ma mb (fIn true))) := by
  obtain ⟨t1, p1, s1⟩ := xnotint (pos := pos) hu ha hb h1
  obtain ⟨ta, pa, sa⟩ := ha
  obtain ⟨tb, pb, sb⟩ := hb
  exact ⟨_, PT.or p1 (pt_cmpR (op_notInT hu) pa pb h1), mTest_or s1 (simTest (sim2 sa sb (sim2InU true))) fun _ _ _ h => m2_or h⟩
end
end Gx

set_option maxHeartbeats 2000000
namespace Gx
open PySem L2 PySem.Spec PyProof.Rows
section
variable {X : Cx} {a b c e o i : Expr} {ma mb mc m me mo mi : ME} {mt : MT} {pos tpos : Pos} {s : Stmt}
/-! ### list + list, of any lists that are read -/
def rCatS (K : PySem.W.Frag) : R2 := fun x y H Q => ∃ l b xs zs, x = .ref l ∧ y = .ref b ∧ SqL K H l xs ∧ SqL K H b zs ∧ xs.length + zs.length ≤ sizeLine ∧ ∀ p, H p = none → Q (.ref p) (upd H p (.lst (xs ++ zs)))
theorem op_catS : OpR X (binaryOp .Add) (rCatS X.K) := by
  intro pins s σ H x y v u Q I rx ry h
  obtain ⟨l, b, xs, zs, rfl, rfl, hH, hB, hz, q⟩ := h
  cases rx
  cases ry
  obtain ⟨its, r, pl, _⟩ := I.list hH
  obtain ⟨its2, r2, pl2, _⟩ := I.list hB
  have l1 := r.length
  have l2 := r2.length
  obtain ⟨⟨cls, dd, data, sl⟩, ho, hc, n, hd⟩ := pl.isList
  obtain ⟨⟨cls2, dd2, data2, sl2⟩, ho2, hc2, n2, hd2⟩ := pl2.isList
  simp only at hc hd hc2 hd2
  subst hc hd hc2 hd2
  have ea : its.toArray ++ its2.toArray = (its ++ its2).toArray := by simp
  refine concat_meets ⟨_, ho, rfl⟩ ⟨_, ho2, rfl⟩ noFill_list_add seq_list_add PySem.F.slot_list_add PySem.F.entry_list_add (PySem.F.args_list_add_2 _ _) (list_addW l b its.toArray its2.toArray n n2 dd dd2 sl sl2 (by simp; omega)) ⟨ho, ho2, ?_⟩
  rw [ea]
  exact ⟨.ref _, _, I.lnew (t' := s.toks) (r.append r2) (by rw [List.length_append]; omega), rfl, q _ I.fresh⟩
def mFCatE (a b : ME) : MF := fun env st => match a env st with
  | some (x, st1) => match b env st1 with
    | some (y, st2) => match asL env st2 x with
      | some xs => match asL env st2 y with
        | some ys => if xs.length + ys.length ≤ 16000000 then some (.lst (xs ++ ys), st2) else none
        | none => none
      | none => none
    | none => none
  | none => none
theorem xfcatE (ha : XE X a ma) (hb : XE X b mb) : XF X (.BinOp a .Add b pos) (mFCatE ma mb) := by
  obtain ⟨ta, pa, sa⟩ := ha
  obtain ⟨tb, pb, sb⟩ := hb
  refine ⟨_, pe_op op_catS pa pb, ?_⟩
  intro σ F μ H env st so st' Q w en h k
  unfold mFCatE at h
  split at h
  · rename_i x st1 e1
    split at h
    · rename_i y st2 e2
      split at h
      · rename_i xs e3
        split at h
        · rename_i ys e4
          split at h
          · rename_i hz
            cases h
            refine sa σ F μ H env st _ _ _ w en e1 fun v F1 μ1 H1 w1 s1 r1 => ?_
            refine sb σ F1 μ1 H1 env st1 _ _ _ w1 (en.step s1) e2 fun u F2 μ2 H2 w2 s2 r2 => ?_
            have en2 := (en.step s1).step s2
            obtain ⟨p, vs, rfl, sq, q⟩ := asL_ok w2 en2 (r1.step s2) e3
            obtain ⟨p2, vs2, rfl, sq2, q2⟩ := asL_ok w2 en2 r2 e4
            have l1 := q.length
            have l2 := q2.length
            refine ⟨p, p2, vs, vs2, rfl, rfl, sq, sq2, small16 (by omega), fun z hp => ?_⟩
            exact k z (.lst (vs ++ vs2)) F2 μ2 _ (w2.lay0 hp) ((s1.trans s2).trans (Stp.lay0 hp)) (fresh_of (s1.trans s2) hp) (w2.Fnone hp) (w2.out hp) upd_same (q.append q2)
          · cases h
        · cases h
      · cases h
    · cases h
  · cases h

/-! ### o[i] op= e of ints -/
def rPGetL (K : PySem.W.Frag) : V → V → Hp → VK → Prop := fun o i H Q => ∃ p xs k z, o = .ref p ∧ i = .int k ∧ SqL K H p xs ∧ 0 ≤ k ∧ xs[k.toNat]? = some z ∧ Q z H
theorem pget_list : PGet X (rPGetL X.K) := by
  intro pins s σ H o i ov iv Q I ro ri h
  obtain ⟨p, xs, k, z, rfl, rfl, hq, h0, hz, q⟩ := h
  cases ro
  obtain ⟨t, rfl⟩ := ri
  obtain ⟨its, r, pl, hl⟩ := I.list hq
  obtain ⟨w, ew, rw'⟩ := r.get hz
  have hlen := r.length
  have hlt := (List.getElem?_eq_some_iff.mp ew).1
  have hn := line63
  exact getItem_listL pl.isList h0 (by omega) ew ⟨z, H, I, rw', q⟩
def mAugL (f : Int → Int → Int) (o i e : ME) : MS := fun env st => match o env st with
  | some (ro, st1) => match i env st1 with
    | some (.d (.int k), st2) => match asL env st2 ro with
      | some xs => if 0 ≤ k then match xs[k.toNat]? with
        | some (.int x) => match e env st2 with
          | some (.d (.int y), st3) => chg (fun so => putL so (.int k) (.int (f x y))) env st3 ro
          | _ => none
        | _ => none
        else none
      | none => none
    | _ => none
  | none => none
def mAugK (f : Int → Int → Int) (o i e : ME) : MS := fun env st => match o env st with
  | some (ro, st1) => match i env st1 with
    | some (.d k, st2) => match asK env st2 ro with
      | some kvs => match keyOf k with
        | some kk => match valD kvs kk with
          | some (.int x) => match e env st2 with
            | some (.d (.int y), st3) => chg (fun so => putKv so k (.int (f x y))) env st3 ro
            | _ => none
          | _ => none
        | none => none
      | none => none
    | _ => none
  | none => none
def mAug (f : Int → Int → Int) (o i e : ME) : MS := sOr (mAugL f o i e) (mAugK f o i e)
theorem xaug {op : Operator} {f : Int → Int → Int} (hip : PIp X op (ipI f)) (hin : InOp X op fun x y H Q => ∃ i j, x = .int i ∧ y = .int j ∧ Q (.int (f i j)) H) (hu : X.A.units + 1 < cLine) (ho : XE X o mo) (hi : XE X i mi) (he : XE X e me)
    (ha : ∀ ov iv new, augStore i ov iv new = (do holding [new, ov, iv] (setItem ov iv new); release [new, ov, iv] []; pure .next) := by intros; rfl) : XS X (.AugAssign (.Subscript o i tpos) op e pos) (mAug f mo mi me) := by
  obtain ⟨to, po, so⟩ := ho
  obtain ⟨ti, pi, si⟩ := hi
  obtain ⟨te, pe, se⟩ := he
  refine ⟨_, PS.or (ps_augS po pi pget_list pe hip set_list ha) (ps_daug hu po pi pe hin ha), SimS.or ?_ ?_⟩
  · intro F0 μ0 H0 Fg μg σ F μ H env st out D oo e k
    unfold mAugL at e
    split at e
    · rename_i ro st1 e1
      split at e
      · rename_i ki st2 e2
        split at e
        · rename_i xs e3
          split at e
          · rename_i h0
            split at e
            · rename_i x e4
              split at e
              · rename_i y st3 e5
                refine so σ F μ H env st _ _ _ oo.wd oo.en e1 fun ov F1 μ1 H1 w1 s1 r1 => ?_
                refine si σ F1 μ1 H1 env st1 _ _ _ w1 (oo.en.step s1) e2 fun iv F2 μ2 H2 w2 s2 r2 => ?_
                obtain ⟨p, vs, rfl, sq, q⟩ := asL_ok w2 ((oo.en.step s1).step s2) (r1.step s2) e3
                obtain ⟨z, hz, rz⟩ := q.get e4
                refine ⟨p, vs, ki, z, rfl, r2, sq, h0, hz, ?_⟩
                refine se σ F2 μ2 H2 env st2 _ _ _ w2 ((oo.en.step s1).step s2) e5 fun v F3 μ3 H3 w3 s3 r3 => ?_
                refine ⟨x, y, rz, r3, ?_⟩
                have o3 := ((oo.step w1 s1).step w2 s2).step w3 s3
                obtain ⟨a', so1, u, so2, e6, hu1, ru, ef, kk⟩ := chg_ok o3 ((r1.step s2).step s3) e k
                cases e6
                unfold putL at ef
                split at ef
                · rename_i ys ii hii
                  cases hii
                  split at ef
                  · rename_i j hj
                    cases ef
                    cases u <;> first | exact ru.elim | skip
                    rename_i vs'
                    refine ⟨p, vs', ki, j, rfl, r2, hu1, by rw [← ru.length]; exact hj, kk _ ?_⟩
                    exact Reps.set (d := .int (f x y)) (v := .int (f x y)) (show Rep X.K F3 μ3 (.int (f x y)) (.int (f x y)) from rfl) j ru
                  · cases ef
                · cases ef
              · cases e
            · cases e
          · cases e
        · cases e
      · cases e
    · cases e
  · intro F0 μ0 H0 Fg μg σ F μ H env st out D oo e k
    unfold mAugK at e
    split at e
    · rename_i ro st1 e1
      split at e
      · rename_i dk st2 e2
        split at e
        · rename_i kvs e3
          split at e
          · rename_i kk e4
            split at e
            · rename_i x e5
              split at e
              · rename_i y st3 e6
                refine so σ F μ H env st _ _ _ oo.wd oo.en e1 fun ov F1 μ1 H1 w1 s1 r1 => ?_
                refine si σ F1 μ1 H1 env st1 _ _ _ w1 (oo.en.step s1) e2 fun iv F2 μ2 H2 w2 s2 r2 => ?_
                obtain ⟨p, vs, rfl, sq, q⟩ := asK_ok w2 ((oo.en.step s1).step s2) (r1.step s2) e3
                obtain ⟨z, hz, rz⟩ := (RepKV.val kk q).1 _ e5
                refine ⟨p, z, rfl, .inl ⟨vs, kk, sq, keyOf_ok e4 r2, hz.symm⟩, ?_⟩
                refine se σ F2 μ2 H2 env st2 _ _ _ w2 ((oo.en.step s1).step s2) e6 fun v F3 μ3 H3 w3 s3 r3 => ?_
                refine ⟨x, y, rz, r3, ?_⟩
                have o3 := ((oo.step w1 s1).step w2 s2).step w3 s3
                obtain ⟨a', so1, u, so2, e7, hu1, ru, ef, kq⟩ := chg_ok o3 ((r1.step s2).step s3) e k
                cases e7
                unfold putKv at ef
                split at ef
                · rename_i kvs2
                  rw [e4] at ef
                  dsimp only at ef
                  split at ef
                  · rename_i hl
                    cases ef
                    cases u <;> first | exact ru.elim | skip
                    rename_i vs2
                    refine ⟨_, .inl ⟨vs2, kk, hu1, keyOf_ok e4 r2, by rw [← RepKV.length ru, sizeLine_eq]; omega, rfl⟩, kq _ ?_⟩
                    exact RepKV.put kk (show Rep X.K F3 μ3 (.int (f x y)) (.int (f x y)) from rfl) ru
                  · cases ef
                · cases ef
              · cases e
            · cases e
          · cases e
        · cases e
      · cases e
    · cases e

/-! ### xs.pop(i), xs in the store -/
def mPopAt (mo mi : ME) : ME := fun env st => match mo env st with
  | some (.d (.ref n), st1) => match asL env st1 (.d (.ref n)) with
    | some _ => match mi env st1 with
      | some (.d (.int i), st2) => match st2[n]? with
        | some (.lst xs) => match ixN xs.length i with
          | some k => match xs[k]? with
            | some d => if xs.length ≤ 16000000 then some (.d d, st2.set n (.lst (xs.eraseIdx k))) else none
            | none => none
          | none => none
        | _ => none
      | _ => none
    | none => none
  | _ => none
theorem Reps.erase {K : PySem.W.Frag} {F : Hp} {μ : List Addr} : ∀ {ds : List D} {vs : List V} (k : Nat), Reps K F μ ds vs → Reps K F μ (ds.eraseIdx k) (vs.eraseIdx k)
  | [], [], k, _ => by simp [Reps]
  | d :: ds, v :: vs, 0, r => r.2
  | d :: ds, v :: vs, k + 1, r => ⟨r.1, Reps.erase k r.2⟩
  | [], _ :: _, _, r => r.elim
  | _ :: _, [], _, r => r.elim
theorem xpop {apos : Pos} (ho : XE X o mo) (he : XE X i mi)
    (hbase : attributeBase o "pop" X.env (eval o X.env) = eval o X.env := by rfl)
    (hfew : ((backTo tpos (starEach (i :: []) X.env)).all (fun x => !x.1) && (backToKw tpos (keywordEach [] X.env)).all (fun x => x.1.isSome)
      && decide ((i :: []).length + ([] : List Keyword).length + (if ([] : List Keyword).isEmpty then 0 else 1) < 30)) = true := by rfl)
    (hline : (apos.endLine == tpos.line) = true := by rfl) (hst : starEach (i :: []) X.env = (false, eval i X.env) :: starEach [] X.env := by rfl) (hplain : (backTo tpos (starEach [] X.env)).any (·.1) = false := by rfl) :
    XE X (.Call (.Attribute o "pop" apos) [i] [] tpos) (mPopAt mo mi) := by
  obtain ⟨to, po, so⟩ := ho
  obtain ⟨te, pe, se⟩ := he
  refine ⟨_, pe_bm PySem.F.plainAttrs_list PySem.F.slot_list_pop PySem.F.type_list_pop (r := rPopAt) mt_popAt po (pa_cons pe pa_nil hst) hbase hfew hline hst hplain, ?_⟩
  intro σ F μ H env st r st' Q w en h k
  unfold mPopAt at h
  split at h
  · rename_i n st1 e1
    split at h
    · rename_i xs0 e2
      split at h
      · rename_i ii st2 e3
        split at h
        · rename_i xs e4
          split at h
          · rename_i kk e5
            split at h
            · rename_i d e6
              split at h
              case isFalse => cases h
              rename_i hz16
              cases h
              refine so σ F μ H env st _ _ _ w en e1 fun ov F1 μ1 H1 w1 s1 r1 => ?_
              have en1 := en.step s1
              obtain ⟨a, vs0, rfl, sq, q0⟩ := asL_ok w1 en1 r1 e2
              refine ⟨.inl ⟨rfl, vs0, sq⟩, ?_⟩
              refine se σ F1 μ1 H1 env st1 _ _ _ w1 en1 e3 fun v F2 μ2 H2 w2 s2 r2 => ?_
              obtain ⟨a', ea, hm⟩ := r1.step s2
              cases ea
              obtain ⟨u, hu1, ru⟩ := w2.obj n _ a e4 hm
              cases u <;> first | exact ru.elim | skip
              rename_i vs
              have ru' : Reps X.K F2 μ2 xs vs := ru
              obtain ⟨z, hz, rz⟩ := ru'.get e6
              obtain ⟨h1, h2, h3, h4⟩ := ixN_seq e5
              have hlen := ru'.length
              have hlt := (List.getElem?_eq_some_iff.mp e4).1
              refine ⟨a, vs, ii, kk, z, rfl, by rw [r2], hu1, by omega, by omega, by rw [← hlen]; exact h1, hz, ?_⟩
              have s3 := Stp.put (K := X.K) (F := F2) (st := st2) (u := .lst (vs.eraseIdx kk)) w2 (List.mem_of_getElem? hm) fun od v z => by rw [hu1] at z; cases z
              exact k z F2 μ2 _ (w2.put hlt hm (Reps.erase kk ru')) ((s1.trans s2).trans s3) (s3.rep rz)
            · cases h
          · cases h
        · cases h
      · cases h
    · cases h
  · cases h
end
end Gx

set_option maxHeartbeats 2000000
namespace Gx
open PySem L2 PySem.Spec PyProof.Rows
/-! ### targets within comprehensions -/
theorem wipe_set1 {vs : List Nat} {j : Nat} (hj : j ∈ vs) (σ : L2.St) (x : Option V) : L2.wipe (σ.set j x) vs = L2.wipe σ vs := by
  apply List.ext_getElem?
  intro i
  rw [wipe_get, wipe_get, List.getElem?_set]
  by_cases hi : i ∈ vs
  · simp only [hi, if_true]
    by_cases h : j = i
    · subst h
      by_cases hl : j < σ.length
      · simp [hl]
      · simp [hl]
    · simp only [h, if_false]
  · simp only [hi, if_false]
    have : j ≠ i := fun e => hi (e ▸ hj)
    simp [this]
theorem wipe_wipe (σ : L2.St) (vs : List Nat) : L2.wipe (L2.wipe σ vs) vs = L2.wipe σ vs := by
  apply List.ext_getElem?
  intro i
  rw [wipe_get, wipe_get]
  by_cases hi : i ∈ vs
  · simp only [hi, if_true, Option.map_map]; rfl
  · simp only [hi, if_false]
def GB (K : PySem.W.Frag) (g : TG) (mg : MG) (vs : List Nat) : Prop :=
  ∀ (σ : L2.St) (F : Hp) (μ : List Addr) (H : Hp) (env env' : Env) (d : D) (v : V) (Q : L2.St → Hp → Prop), (∀ a o, F a = some o → H a = some o) → EnvOk K F μ H env σ → Rep K F μ d v → mg d env = some env' →
    (∀ σ', L2.wipe σ' vs = L2.wipe σ vs → EnvOk K F μ H env' σ' → Q σ' H) → g v σ H Q
def GBs (K : PySem.W.Frag) (g : TGs) (mg : List D → Env → Option Env) (vs : List Nat) : Prop :=
  ∀ (σ : L2.St) (F : Hp) (μ : List Addr) (H : Hp) (env env' : Env) (d : List D) (v : List V) (Q : L2.St → Hp → Prop), (∀ a o, F a = some o → H a = some o) → EnvOk K F μ H env σ → Reps K F μ d v → mg d env = some env' →
    (∀ σ', L2.wipe σ' vs = L2.wipe σ vs → EnvOk K F μ H env' σ' → Q σ' H) → g v σ H Q
section
variable {K : PySem.W.Frag} {vs : List Nat}
theorem gb_name {j : Nat} (hj : j ∈ vs) : GB K (gName j) (gN j) vs := by
  intro σ F μ H env env' d v Q hs en r e k
  cases e
  exact k _ (wipe_set1 hj σ _) (en.val j r)
theorem gbs_nil : GBs K gNil gsN vs := by
  intro σ F μ H env env' d v Q hs en r e k
  cases d with
  | cons _ _ => cases e
  | nil =>
    cases e
    cases v with
    | cons _ _ => exact r.elim
    | nil => exact ⟨rfl, k σ rfl en⟩
theorem gbs_cons {g : TG} {mg : MG} {gs : TGs} {ms : List D → Env → Option Env} (h : GB K g mg vs) (h2 : GBs K gs ms vs) : GBs K (gCons g gs) (gsC mg ms) vs := by
  intro σ F μ H env env' d v Q hs en r e k
  cases d with
  | nil => cases e
  | cons d ds =>
    cases v with
    | nil => exact r.elim
    | cons v us =>
      unfold gsC at e
      dsimp only at e
      split at e
      · rename_i env1 e1
        exact ⟨v, us, rfl, h σ F μ H env env1 d v _ hs en r.1 e1 fun σ1 w1 en1 => h2 σ1 F μ H env1 env' ds us Q hs en1 r.2 e fun σ2 w2 en2 => k σ2 (w2.trans w1) en2⟩
      · cases e
theorem gb_tup {n : Nat} {gs : TGs} {ms : List D → Env → Option Env} (h : GBs K gs ms vs) : GB K (gTup K n gs) (gT n ms) vs := by
  intro σ F μ H env env' d v Q hs en r e k
  unfold gT at e
  split at e
  · rename_i ds
    split at e
    · rename_i hl
      obtain ⟨a, us, rfl, s, rr⟩ := r
      exact ⟨a, us, rfl, SqT.mono hs s, by rw [← rr.length]; exact hl, h σ F μ H env env' ds us Q hs en rr e k⟩
    · cases e
  · cases e
end
def lcGoG (g : MG) (t : MT) (e : ME) (env : Env) (chk : Store → Bool) : List D → Store → List D → Option (List D × Store)
  | [], st, acc => if chk st then some (acc, st) else none
  | x :: xs, st, acc => if chk st then
      match g x env with
      | some env1 => match t env1 st with
        | some (true, st1) => match e env1 st1 with
          | some (.d d, st2) => if acc.length < 16000000 then lcGoG g t e env chk xs st2 (acc ++ [d]) else none
          | _ => none
        | some (false, st1) => lcGoG g t e env chk xs st1 acc
        | none => none
      | none => none
    else none
def mLcG (mi : MI) (g : MG) (t : MT) (e : ME) (vs : List Nat) : MF := fun env st => match mi env st with
  | some (src, st1) => match srcItems env st1 src with
    | some xs => match lcGoG g t e (wipeE env vs) (fun st => decide (srcItems env st src = some xs)) xs st1 [] with
      | some (acc, st2) => some (.lst acc, st2)
      | none => none
    | none => none
  | none => none
theorem simLcG {K : PySem.W.Frag} {wi : TI} {mi : MI} {g : TG} {mg : MG} {tt : TT} {mt : MT} {te : TE} {me : ME} {vs : List Nat} (hi : SimI K wi mi) (ht : SimT K tt mt) (he : SimE K te me) (hg : GB K g mg vs) : SimF K (tLc wi g tt te vs) (mLcG mi mg mt me vs) := by
  intro σ F μ H env st so st' Q w en e k
  unfold mLcG at e
  split at e
  · rename_i src st1 e1
    split at e
    · rename_i xs e2
      split at e
      · rename_i acc st2 e3
        cases e
        refine hi σ F μ H env st src st1 _ w en e1 fun J F1 μ1 H1 w1 s1 hJ D hD => ?_
        have hD0 : H D = none := fresh_of s1 hD
        refine lc_by (n := xs.length) (fun i Hc => i ≤ xs.length ∧ ∃ F2 μ2 stc ac av, Wd K F2 μ2 Hc stc ∧ Stp F μ H F2 μ2 Hc ∧ Stp F1 μ1 H1 F2 μ2 Hc ∧ F2 D = none ∧ D ∉ μ2 ∧ Hc D = some (.lst av) ∧ Reps K F2 μ2 ac av ∧
          lcGoG mg mt me (wipeE env vs) (fun st => decide (srcItems env st src = some xs)) (xs.drop i) stc ac = some (acc, st')) ?_ ?_ ?_
        · refine ⟨Nat.zero_le _, F1, μ1, st1, [], [], w1.lay0 hD, s1.trans (Stp.lay0 hD), Stp.lay0 hD, w1.Fnone hD, w1.out hD, upd_same, trivial, ?_⟩
          simpa using e3
        · rintro i Hc hin ⟨_, F2, μ2, stc, ac, av, w2, s2, s2', f2, m2', hDc, r2, go⟩
          rw [List.drop_eq_getElem_cons hin] at go
          unfold lcGoG at go
          split at go
          · rename_i hck
            have hck := of_decide_eq_true hck
            have en2 := en.step s2
            obtain ⟨vs2, ⟨a1, a2⟩, rr⟩ := srcAt w2 en2 (hJ.step s2') hck
            have hl := rr.length
            obtain ⟨g1, g2⟩ := a1 i (by omega)
            refine ⟨g1, fun x H' y => ?_⟩
            obtain ⟨eH, ex⟩ := g2 x H' y
            subst eH
            obtain ⟨d, ed, rd⟩ := rr.get' ex
            have ed' : xs[i] = d := by
              have := List.getElem?_eq_getElem hin
              rw [this] at ed; exact Option.some.inj ed
            rw [ed'] at go
            split at go
            case h_2 => cases go
            rename_i env1 eg
            refine hg _ F2 μ2 H' _ env1 d x _ w2.sub (en2.wipe vs) rd eg fun σ2 hw2 enb => ⟨hw2.trans (wipe_wipe σ vs), ?_⟩
            split at go
            · rename_i st3 e4
              refine ht _ F2 μ2 H' _ stc _ st3 _ w2 enb e4 fun F3 μ3 H3 w3 s3 => ?_
              rw [if_pos rfl]
              split at go
              · rename_i d2 st4 e5
                split at go
                · rename_i hz
                  refine he _ F3 μ3 H3 _ st3 _ st4 _ w3 (enb.step s3) e5 fun v F4 μ4 H4 w4 s4 r4 => ?_
                  have o3 := s3.out f2 m2' (by rw [hDc]; simp)
                  have hD3 := s3.frame D _ hDc m2'
                  have o4 := s4.out o3.1 o3.2 (by rw [hD3]; simp)
                  have hD4 := s4.frame D _ hD3 o3.2
                  have s24 := s3.trans s4
                  refine ⟨av, hD4, ?_, hin, F4, μ4, st4, ac ++ [d2], av ++ [v], w4.poke o4.1 o4.2, (s2.trans s24).poke hD0, (s2'.trans s24).poke hD, o4.1, o4.2, upd_same, (s24.reps r2).append ⟨r4, trivial⟩, go⟩
                  rw [← r2.length, sizeLine_eq]; omega
                · cases go
              · cases go
            · rename_i st3 e4
              refine ht _ F2 μ2 H' _ stc _ st3 _ w2 enb e4 fun F3 μ3 H3 w3 s3 => ?_
              rw [if_neg Bool.false_ne_true]
              have o3 := s3.out f2 m2' (by rw [hDc]; simp)
              exact ⟨hin, F3, μ3, st3, ac, av, w3, s2.trans s3, s2'.trans s3, o3.1, o3.2, s3.frame D _ hDc m2', s3.reps r2, go⟩
            · cases go
          · cases go
        · rintro Hc ⟨_, F2, μ2, stc, ac, av, w2, s2, s2', f2, m2', hDc, r2, go⟩
          rw [List.drop_length] at go
          unfold lcGoG at go
          split at go
          · rename_i hck
            have hck := of_decide_eq_true hck
            cases go
            obtain ⟨vs2, ⟨a1, a2⟩, rr⟩ := srcAt w2 (en.step s2) (hJ.step s2') hck
            rw [rr.length]
            exact ⟨a2, k D _ F2 μ2 Hc w2 s2 hD0 f2 m2' hDc r2⟩
          · cases go
      · cases e
    · cases e
  · cases e
def dcGoG (g : MG) (t : MT) (ek ev : ME) (env : Env) (chk : Store → Bool) : List D → Store → List (Key × D) → Option (List (Key × D) × Store)
  | [], st, acc => if chk st then some (acc, st) else none
  | x :: xs, st, acc => if chk st then
      match g x env with
      | some env1 =>
        match t env1 st with
        | some (true, st1) => match ek env1 st1 with
          | some (.d dk, st2) => match keyOf dk with
            | some kk => match ev env1 st2 with
              | some (.d d, st3) => if acc.length < 16000000 then dcGoG g t ek ev env chk xs st3 (putD acc kk d) else none
              | _ => none
            | none => none
          | _ => none
        | some (false, st1) => dcGoG g t ek ev env chk xs st1 acc
        | none => none
      | none => none
    else none
def mDcG (mi : MI) (g : MG) (t : MT) (ek ev : ME) (vs : List Nat) : MF := fun env st => match mi env st with
  | some (src, st1) => match srcItems env st1 src with
    | some xs => match dcGoG g t ek ev (wipeE env vs) (fun st => decide (srcItems env st src = some xs)) xs st1 [] with
      | some (acc, st2) => some (.dK acc, st2)
      | none => none
    | none => none
  | none => none
theorem simDcG {K : PySem.W.Frag} {wi : TI} {mi : MI} {g : TG} {mg : MG} {tt : TT} {mt : MT} {tk tv : TE} {mk mv : ME} {vs : List Nat} (hi : SimI K wi mi) (ht : SimT K tt mt) (hk : SimE K tk mk) (hv : SimE K tv mv) (hg : GB K g mg vs) : SimF K (tDc wi g tt tk tv vs) (mDcG mi mg mt mk mv vs) := by
  intro σ F μ H env st so st' Q w en e k
  unfold mDcG at e
  split at e
  · rename_i src st1 e1
    split at e
    · rename_i xs e2
      split at e
      · rename_i acc st2 e3
        cases e
        refine hi σ F μ H env st src st1 _ w en e1 fun J F1 μ1 H1 w1 s1 hJ D hD => ?_
        have hD0 : H D = none := fresh_of s1 hD
        refine dc_by (n := xs.length) (fun i Hc => i ≤ xs.length ∧ ∃ F2 μ2 stc ac av, Wd K F2 μ2 Hc stc ∧ Stp F μ H F2 μ2 Hc ∧ Stp F1 μ1 H1 F2 μ2 Hc ∧ F2 D = none ∧ D ∉ μ2 ∧ Hc D = some (.dK av) ∧ RepKV K F2 μ2 ac av ∧
          dcGoG mg mt mk mv (wipeE env vs) (fun st => decide (srcItems env st src = some xs)) (xs.drop i) stc ac = some (acc, st')) ?_ ?_ ?_
        · refine ⟨Nat.zero_le _, F1, μ1, st1, [], [], w1.lay0 hD, s1.trans (Stp.lay0 hD), Stp.lay0 hD, w1.Fnone hD, w1.out hD, upd_same, trivial, ?_⟩
          simpa using e3
        · rintro i Hc hin ⟨_, F2, μ2, stc, ac, av, w2, s2, s2', f2, m2', hDc, r2, go⟩
          rw [List.drop_eq_getElem_cons hin] at go
          unfold dcGoG at go
          split at go
          · rename_i hck
            have hck := of_decide_eq_true hck
            have en2 := en.step s2
            obtain ⟨vs2, ⟨a1, a2⟩, rr⟩ := srcAt w2 en2 (hJ.step s2') hck
            have hl := rr.length
            obtain ⟨g1, g2⟩ := a1 i (by omega)
            refine ⟨g1, fun x H' y => ?_⟩
            obtain ⟨eH, ex⟩ := g2 x H' y
            subst eH
            obtain ⟨d, ed, rd⟩ := rr.get' ex
            have ed' : xs[i] = d := by
              have := List.getElem?_eq_getElem hin
              rw [this] at ed; exact Option.some.inj ed
            rw [ed'] at go
            split at go
            case h_2 => cases go
            rename_i env1 eg
            refine hg _ F2 μ2 H' _ env1 d x _ w2.sub (en2.wipe vs) rd eg fun σ2 hw2 enb => ⟨hw2.trans (wipe_wipe σ vs), ?_⟩
            split at go
            · rename_i st3 e4
              refine ht _ F2 μ2 H' _ stc _ st3 _ w2 enb e4 fun F3 μ3 H3 w3 s3 => ?_
              rw [if_pos rfl]
              split at go
              · rename_i dk st4 e5
                split at go
                · rename_i kk e6
                  split at go
                  · rename_i d2 st5 e7
                    split at go
                    · rename_i hz
                      refine hk _ F3 μ3 H3 _ st3 _ st4 _ w3 (enb.step s3) e5 fun v F4 μ4 H4 w4 s4 r4 => ?_
                      refine hv _ F4 μ4 H4 _ st4 _ st5 _ w4 ((enb.step s3).step s4) e7 fun v5 F5 μ5 H5 w5 s5 r5 => ?_
                      have o3 := s3.out f2 m2' (by rw [hDc]; simp)
                      have hD3 := s3.frame D _ hDc m2'
                      have o4 := s4.out o3.1 o3.2 (by rw [hD3]; simp)
                      have hD4 := s4.frame D _ hD3 o3.2
                      have o5 := s5.out o4.1 o4.2 (by rw [hD4]; simp)
                      have hD5 := s5.frame D _ hD4 o4.2
                      have s25 := (s3.trans s4).trans s5
                      have rkv : RepKV K F5 μ5 ac av := RepKV.mono s25.fF s25.pre _ _ r2
                      refine ⟨av, kk, keyOf_ok e6 r4, hD5, ?_, hin, F5, μ5, st5, putD ac kk d2, putK av kk v5, w5.poke o5.1 o5.2, (s2.trans s25).poke hD0, (s2'.trans s25).poke hD, o5.1, o5.2, upd_same, RepKV.put kk r5 rkv, go⟩
                      rw [← RepKV.length r2, sizeLine_eq]; omega
                    · cases go
                  · cases go
                · cases go
              · cases go
            · rename_i st3 e4
              refine ht _ F2 μ2 H' _ stc _ st3 _ w2 enb e4 fun F3 μ3 H3 w3 s3 => ?_
              rw [if_neg Bool.false_ne_true]
              have o3 := s3.out f2 m2' (by rw [hDc]; simp)
              exact ⟨hin, F3, μ3, st3, ac, av, w3, s2.trans s3, s2'.trans s3, o3.1, o3.2, s3.frame D _ hDc m2', RepKV.mono s3.fF s3.pre _ _ r2, go⟩
            · cases go
          · cases go
        · rintro Hc ⟨_, F2, μ2, stc, ac, av, w2, s2, s2', f2, m2', hDc, r2, go⟩
          rw [List.drop_length] at go
          unfold dcGoG at go
          split at go
          · rename_i hck
            have hck := of_decide_eq_true hck
            cases go
            obtain ⟨vs2, ⟨a1, a2⟩, rr⟩ := srcAt w2 (en.step s2) (hJ.step s2') hck
            rw [rr.length]
            exact ⟨a2, k D _ F2 μ2 Hc w2 s2 hD0 f2 m2' hDc r2⟩
          · cases go
      · cases e
    · cases e
  · cases e
section
variable {X : Cx}
/-- comprehensions with any target -/
theorem xlcG {elt tg iter : Expr} {scope : Scope} {own : List (Str × Nat)} {pos : Pos} {mi : MI} {g : TG} {mg : MG} {me : ME} (hc : X.calm = true) (hN : X.N.Nodup) (hi : XI X tg iter mi) (ok : BlkOk X.N X.env.scope scope own)
    (hg : ∀ (s : Shared) (H : Hp) (C : Addr) (cl : List (Str × Addr)) (fp : List Addr), PG (X.blk s H scope (compEnvC scope cl C X.env) fp) tg g) (hb : GB X.K g mg (own.map (·.2)))
    (he : ∀ (s : Shared) (H : Hp) (C : Addr) (cl : List (Str × Addr)) (fp : List Addr), XE (X.blk s H scope (compEnvC scope cl C X.env) fp) elt me) (hs : ∀ x, foldedSetIterable iter X.env x = pure x := by intro _; rfl) :
    XF X (.ListComp elt [⟨tg, iter, [], 0⟩] scope pos) (mLcG mi mg mYes me (own.map (·.2))) := by
  obtain ⟨wi, p, s⟩ := hi
  refine ⟨_, pe_lc hc hN p ok hg (fun _ _ _ _ _ => pts_nil) (fun s H C cl fp => (he s H C cl fp).pe) hs, simLcG s ?_ simOfM hb⟩
  intro σ F μ H env st b st' Q w en e k
  cases e
  exact k F μ H w Stp.refl
theorem xlcGIf {elt tg iter c : Expr} {scope : Scope} {own : List (Str × Nat)} {pos : Pos} {mi : MI} {g : TG} {mg : MG} {mt : MT} {me : ME} (hc : X.calm = true) (hN : X.N.Nodup) (hi : XI X tg iter mi) (ok : BlkOk X.N X.env.scope scope own)
    (hg : ∀ (s : Shared) (H : Hp) (C : Addr) (cl : List (Str × Addr)) (fp : List Addr), PG (X.blk s H scope (compEnvC scope cl C X.env) fp) tg g) (hb : GB X.K g mg (own.map (·.2))) (ht : ∀ (s : Shared) (H : Hp) (C : Addr) (cl : List (Str × Addr)) (fp : List Addr), XT (X.blk s H scope (compEnvC scope cl C X.env) fp) c mt)
    (he : ∀ (s : Shared) (H : Hp) (C : Addr) (cl : List (Str × Addr)) (fp : List Addr), XE (X.blk s H scope (compEnvC scope cl C X.env) fp) elt me) (hs : ∀ x, foldedSetIterable iter X.env x = pure x := by intro _; rfl) :
    XF X (.ListComp elt [⟨tg, iter, [c], 0⟩] scope pos) (mLcG mi mg mt me (own.map (·.2))) := by
  obtain ⟨wi, p, s⟩ := hi
  exact ⟨_, pe_lc hc hN p ok hg (fun s H C cl fp => pts_one (ht s H C cl fp).pt) (fun s H C cl fp => (he s H C cl fp).pe) hs, simLcG s simOfT simOfM hb⟩
theorem xdcG {kx vx tg iter : Expr} {scope : Scope} {own : List (Str × Nat)} {pos : Pos} {mi : MI} {g : TG} {mg : MG} {mk mv : ME} (hc : X.calm = true) (hN : X.N.Nodup) (hi : XI X tg iter mi) (ok : BlkOk X.N X.env.scope scope own)
    (hg : ∀ (s : Shared) (H : Hp) (C : Addr) (cl : List (Str × Addr)) (fp : List Addr), PG (X.blk s H scope (compEnvC scope cl C X.env) fp) tg g) (hb : GB X.K g mg (own.map (·.2)))
    (hk : ∀ (s : Shared) (H : Hp) (C : Addr) (cl : List (Str × Addr)) (fp : List Addr), XE (X.blk s H scope (compEnvC scope cl C X.env) fp) kx mk)
    (he : ∀ (s : Shared) (H : Hp) (C : Addr) (cl : List (Str × Addr)) (fp : List Addr), XE (X.blk s H scope (compEnvC scope cl C X.env) fp) vx mv) (hs : ∀ x, foldedSetIterable iter X.env x = pure x := by intro _; rfl) :
    XF X (.DictComp kx vx [⟨tg, iter, [], 0⟩] scope pos) (mDcG mi mg mYes mk mv (own.map (·.2))) := by
  obtain ⟨wi, p, s⟩ := hi
  refine ⟨_, pe_dc hc hN p ok hg (fun _ _ _ _ _ => pts_nil) (fun s H C cl fp => (hk s H C cl fp).pe) (fun s H C cl fp => (he s H C cl fp).pe) hs, simDcG s ?_ simOfM simOfM hb⟩
  intro σ F μ H env st b st' Q w en e k
  cases e
  exact k F μ H w Stp.refl
theorem xdcGIf {kx vx tg iter c : Expr} {scope : Scope} {own : List (Str × Nat)} {pos : Pos} {mi : MI} {g : TG} {mg : MG} {mt : MT} {mk mv : ME} (hc : X.calm = true) (hN : X.N.Nodup) (hi : XI X tg iter mi) (ok : BlkOk X.N X.env.scope scope own)
    (hg : ∀ (s : Shared) (H : Hp) (C : Addr) (cl : List (Str × Addr)) (fp : List Addr), PG (X.blk s H scope (compEnvC scope cl C X.env) fp) tg g) (hb : GB X.K g mg (own.map (·.2))) (ht : ∀ (s : Shared) (H : Hp) (C : Addr) (cl : List (Str × Addr)) (fp : List Addr), XT (X.blk s H scope (compEnvC scope cl C X.env) fp) c mt)
    (hk : ∀ (s : Shared) (H : Hp) (C : Addr) (cl : List (Str × Addr)) (fp : List Addr), XE (X.blk s H scope (compEnvC scope cl C X.env) fp) kx mk)
    (he : ∀ (s : Shared) (H : Hp) (C : Addr) (cl : List (Str × Addr)) (fp : List Addr), XE (X.blk s H scope (compEnvC scope cl C X.env) fp) vx mv) (hs : ∀ x, foldedSetIterable iter X.env x = pure x := by intro _; rfl) :
    XF X (.DictComp kx vx [⟨tg, iter, [c], 0⟩] scope pos) (mDcG mi mg mt mk mv (own.map (·.2))) := by
  obtain ⟨wi, p, s⟩ := hi
  exact ⟨_, pe_dc hc hN p ok hg (fun s H C cl fp => pts_one (ht s H C cl fp).pt) (fun s H C cl fp => (hk s H C cl fp).pe) (fun s H C cl fp => (he s H C cl fp).pe) hs, simDcG s simOfT simOfM simOfM hb⟩
/-! ### is, is not of bools -/
def f2IsB (neg : Bool) : Env → Store → R → R → Option (R × Store) := fun _ st x y => match x, y with
  | .d (.bl a), .d (.bl b) => some (.d (.bl (if neg then !decide (a = b) else decide (a = b))), st)
  | _, _ => none
theorem sim2IsB {K : PySem.W.Frag} : Sim2 K rIsB (f2IsB false) := by
  intro σ F μ H env st x y v u z st' Q w en rx ry h k
  unfold f2IsB at h
  split at h
  · cases h; exact ⟨_, _, rx, ry, k _ F μ H w Stp.refl rfl⟩
  · cases h
theorem sim2NotB {K : PySem.W.Frag} : Sim2 K rNotB (f2IsB true) := by
  intro σ F μ H env st x y v u z st' Q w en rx ry h k
  unfold f2IsB at h
  split at h
  · cases h; exact ⟨_, _, rx, ry, k _ F μ H w Stp.refl rfl⟩
  · cases h
theorem kIsB : CmpK X .Is (fOr (f2IsB false) (f2Is false)) := ⟨_, OpR.or op_isBl op_isN, sim2IsB.or sim2Is⟩
theorem kIsNotB : CmpK X .IsNot (fOr (f2IsB true) (f2Is true)) := ⟨_, OpR.or op_notBl op_notN, sim2NotB.or sim2IsNot⟩
/-! ### d.get(k) -/
variable {a b : Expr} {ma mb : ME} {pos : Pos}
def mGet1 (mo mk : ME) : ME := fun env st => match mo env st with
  | some (x, st1) => match asK env st1 x with
    | some _ => match mk env st1 with
      | some (.d k, st2) => match asK env st2 x with
        | some kvs => match keyOf k with
          | some kk => some (.d ((valD kvs kk).getD .non), st2)
          | none => none
        | none => none
      | _ => none
    | none => none
  | none => none
theorem xget1 {apos : Pos} (hu : X.A.units + 65 < cLine) (ho : XE X a ma) (hk : XE X b mb) (m : M1 X a "get" apos b pos) : XE X (.Call (.Attribute a "get" apos) [b] [] pos) (mGet1 ma mb) := by
  obtain ⟨ta, pa, sa⟩ := ho
  obtain ⟨tb, pb, sb⟩ := hk
  refine ⟨_, pe_dget1 (by omega) pa pb m, ?_⟩
  intro σ F μ H env st r st' Q w en h k
  unfold mGet1 at h
  split at h
  · rename_i x st1 e1
    split at h
    · rename_i kvs0 e2
      split at h
      · rename_i dk st2 e3
        split at h
        · rename_i kvs e5
          split at h
          · rename_i kk e6
            cases h
            refine sa σ F μ H env st _ _ _ w en e1 fun v F1 μ1 H1 w1 s1 r1 => ?_
            obtain ⟨p, vs0, rfl, sq0, q0⟩ := asK_ok w1 (en.step s1) r1 e2
            refine ⟨p, rfl, .inl ⟨vs0, sq0⟩, ?_⟩
            refine sb σ F1 μ1 H1 env st1 _ _ _ w1 (en.step s1) e3 fun vk F2 μ2 H2 w2 s2 r2 => ?_
            have rx := r1.step s2
            obtain ⟨p', vs, ep, sq, q⟩ := asK_ok w2 ((en.step s1).step s2) rx e5
            cases ep
            have hv := RepKV.val kk q
            refine ⟨valV vs kk, .inl ⟨vs, kk, sq, keyOf_ok e6 r2, rfl⟩, k _ F2 μ2 H2 w2 (s1.trans s2) ?_⟩
            cases hd : valD kvs kk with
            | none => rw [hv.2 hd]; exact (rfl : V.non = V.non)
            | some d' => obtain ⟨v', h1, h2⟩ := hv.1 d' hd; rw [h1]; exact h2
          · cases h
        · cases h
      · cases h
    · cases h
  · cases h
end
end Gx

set_option maxHeartbeats 2000000
namespace Gx
open PySem L2 PySem.Spec PyProof.Rows
/-! ### dicts with tuple keys -/
def keysOf : List D → Option (List Key)
  | [] => some []
  | d :: ds => match keyOf d with
    | some k => (keysOf ds).map (k :: ·)
    | none => none
theorem keysOf_ok {K : PySem.W.Frag} {F : Hp} {μ : List Addr} : ∀ {ds : List D} {vs : List V} {ks : List Key}, Reps K F μ ds vs → keysOf ds = some ks → vs = ks.map kV
  | [], [], ks, _, h => by cases h; rfl
  | d :: ds, v :: vs, ks, r, h => by
    unfold keysOf at h
    split at h
    · rename_i k e
      rw [Option.map_eq_some_iff] at h
      obtain ⟨ks', h1, rfl⟩ := h
      rw [keyOf_ok e r.1, keysOf_ok r.2 h1]
      rfl
    · cases h
  | [], _ :: _, _, r, _ => r.elim
  | _ :: _, [], _, r, _ => r.elim
def asT (env : Env) (st : Store) : R → Option (List (List Key × D))
  | .d (.dtt ks vs) => some (ks.zip vs)
  | .d (.ref n) => match st[n]? with | some (.dT xs) => some xs | _ => none
  | .loc i => match env[i]? with | some (.own (.dT xs)) => some xs | _ => none
  | _ => none
theorem asT_ok {K : PySem.W.Frag} {F : Hp} {μ : List Addr} {H : Hp} {st : Store} {env : Env} {σ : L2.St} {r : R} {v : V} (w : Wd K F μ H st) (en : EnvOk K F μ H env σ) {xs : List (List Key × D)} (q : RRep K F μ env σ r v) (h : asT env st r = some xs) : ∃ a vs, v = .ref a ∧ Rd H a (.dT vs) ∧ RepKV K F μ xs vs := by
  unfold asT at h
  split at h
  · cases h
    obtain ⟨a, vs, e, s, l, q⟩ := q
    exact ⟨a, _, e, Rd.mono w.sub s, .zip q⟩
  · rename_i n
    split at h
    · rename_i ys hs
      cases h
      obtain ⟨a, e, hm⟩ := q
      obtain ⟨o, h1, h2⟩ := w.obj n _ a hs hm
      cases o <;> first | exact h2.elim | skip
      exact ⟨a, _, e, .of h1, h2⟩
    · cases h
  · rename_i i
    split at h
    · rename_i ys hs
      cases h
      obtain ⟨a, e, so, h1, h2⟩ := q
      obtain ⟨b, u, h3, h4, h5, h6, h7⟩ := en.slot i _ _ h1 h2
      cases h3
      rw [hs] at h1; cases h1
      cases u <;> first | exact h7.elim | skip
      exact ⟨a, _, e, .of h6, h7⟩
    · cases h
  · cases h
abbrev MK := Env → Store → Option (List Key × Store)
def SimK (K : PySem.W.Frag) (te : TE) (m : MK) : Prop :=
  ∀ (σ : L2.St) (F : Hp) (μ : List Addr) (H : Hp) (env : Env) (st : Store) (ks : List Key) (st' : Store) (Q : VK), Wd K F μ H st → EnvOk K F μ H env σ → m env st = some (ks, st') →
    (∀ a F' μ' H', Wd K F' μ' H' st' → Stp F μ H F' μ' H' → H' a = some (.tup (ks.map kV)) → a ∉ μ' → Q (.ref a) H') → te σ H Q
structure XK (X : Cx) (e : Expr) (m : MK) : Prop where
  h : ∃ te, PE X e te ∧ SimK X.K te m
section
variable {X : Cx} {a b c e : Expr} {ma mb mc m : ME} {mk : MK} {pos : Pos} {es : List Expr} {mA : MA}
/-- a tuple that a local slot owns -/
def mFTup (a : MA) : MF := fun env st => match a env st with
  | some (ds, st1) => if ds.length ≤ 16000000 then some (.tup ds, st1) else none
  | none => none
theorem xftup {x1} (h : XA X es mA) : XF X (.Tuple es x1 pos) (mFTup mA) := by
  obtain ⟨t, p, s⟩ := h
  refine ⟨_, pe_tup p, ?_⟩
  intro σ F μ H env st so st' Q w en e k
  unfold mFTup at e
  split at e
  · rename_i ds st1 e1
    split at e
    · rename_i hz
      cases e
      refine s σ F μ H env st _ _ _ w en e1 fun vs F1 μ1 H1 w1 s1 r1 => ⟨small16 (by rw [← r1.length]; exact hz), fun p hp => ?_⟩
      exact k p (.tup vs) F1 μ1 _ (w1.lay0 hp) (s1.trans (Stp.lay0 hp)) (fresh_of s1 hp) (w1.Fnone hp) (w1.out hp) upd_same r1
    · cases e
  · cases e
def mKt (a : MA) : MK := fun env st => match a env st with
  | some (ds, st1) => if ds.length ≤ 16000000 then (keysOf ds).map fun ks => (ks, st1) else none
  | none => none
theorem xkt {x1} (h : XA X es mA) : XK X (.Tuple es x1 pos) (mKt mA) := by
  obtain ⟨t, p, s⟩ := h
  refine ⟨_, pe_tup p, ?_⟩
  intro σ F μ H env st ks st' Q w en e k
  unfold mKt at e
  split at e
  · rename_i ds st1 e1
    split at e
    · rename_i hz
      rw [Option.map_eq_some_iff] at e
      obtain ⟨ks', hk, e⟩ := e
      cases e
      refine s σ F μ H env st _ _ _ w en e1 fun vs F1 μ1 H1 w1 s1 r1 => ⟨small16 (by rw [← r1.length]; exact hz), fun p hp => ?_⟩
      refine k p F1 μ1 _ (w1.lay0 hp) (s1.trans (Stp.lay0 hp)) ?_ (w1.out hp)
      rw [upd_same, keysOf_ok r1 hk]
    · cases e
  · cases e
def slotU (o : Option Slot) : Option (List D) := match o with | some (.own (.tup xs)) => some xs | _ => none
def mKv (i : Nat) : MK := fun env st => match slotU env[i]? with
  | some ds => (keysOf ds).map fun ks => (ks, st)
  | none => none
theorem xkv (i : Nat) (h : XE X e (mVar i)) : XK X e (mKv i) := by
  obtain ⟨t, p, s⟩ := h
  refine ⟨_, p, ?_⟩
  intro σ F μ H env st ks st' Q w en e k
  unfold mKv at e
  split at e
  · rename_i ds hs
    rw [Option.map_eq_some_iff] at e
    obtain ⟨ks', hk, e⟩ := e
    cases e
    unfold slotU at hs
    split at hs
    · rename_i ys hi
      cases hs
      have e1 : mVar i env st = some (.loc i, st) := by unfold mVar; rw [hi]
      refine s σ F μ H env st _ _ _ w en e1 fun v F1 μ1 H1 w1 s1 r1 => ?_
      obtain ⟨a, rfl, so, g1, g2⟩ := r1
      rw [hi] at g1
      cases g1
      obtain ⟨b, u, h3, h4, h5, h6, h7⟩ := (en.step s1).slot i _ _ hi g2
      cases h3
      cases u <;> first | exact h7.elim | skip
      refine k a F1 μ1 H1 w1 s1 ?_ h5
      rw [h6, keysOf_ok h7 hk]
    · cases hs
  · cases e
/-! {}, d.get(k, z), d[k], k in d -/
def mFD0T : MF := fun _ st => some (.dT [], st)
theorem xfd0T : XF X (.Dict [] [] pos) mFD0T := by
  refine ⟨_, pe_dnewT, ?_⟩
  intro σ F μ H env st so st' Q w en h k
  cases h
  exact fun p hp => k p (.dT []) F μ _ (w.lay0 hp) (Stp.lay0 hp) hp (w.Fnone hp) (w.out hp) upd_same trivial
def mGet2T (mo : ME) (mk : MK) (md : ME) : ME := fun env st => match mo env st with
  | some (x, st1) => match asT env st1 x with
    | some _ => match mk env st1 with
      | some (kk, st2) => match md env st2 with
        | some (.d z, st3) => match asT env st3 x with
          | some kvs => some (.d ((valD kvs kk).getD z), st3)
          | none => none
        | _ => none
      | none => none
    | none => none
  | none => none
theorem xget2T {apos : Pos} (hu : X.A.units + 65 < cLine) (ho : XE X a ma) (hk : XK X b mk) (hz : XE X c mc) (m : M2 X a "get" apos b c pos) : XE X (.Call (.Attribute a "get" apos) [b, c] [] pos) (mGet2T ma mk mc) := by
  obtain ⟨ta, pa, sa⟩ := ho
  obtain ⟨tb, pb, sb⟩ := hk
  obtain ⟨tc, pc, sc⟩ := hz
  refine ⟨_, pe_dget2 (by omega) pa pb pc m, ?_⟩
  intro σ F μ H env st r st' Q w en h k
  unfold mGet2T at h
  split at h
  · rename_i x st1 e1
    split at h
    · rename_i kvs0 e2
      split at h
      · rename_i kk st2 e3
        split at h
        · rename_i dz st3 e4
          split at h
          · rename_i kvs e5
            cases h
            refine sa σ F μ H env st _ _ _ w en e1 fun v F1 μ1 H1 w1 s1 r1 => ?_
            obtain ⟨p, vs0, rfl, sq0, q0⟩ := asT_ok w1 (en.step s1) r1 e2
            refine ⟨p, rfl, .inr ⟨vs0, sq0⟩, ?_⟩
            refine sb σ F1 μ1 H1 env st1 _ _ _ w1 (en.step s1) e3 fun ad F2 μ2 H2 w2 s2 hd hm => ?_
            refine sc σ F2 μ2 H2 env st2 _ _ _ w2 ((en.step s1).step s2) e4 fun vz F3 μ3 H3 w3 s3 r3 => ?_
            have rx := (r1.step s2).step s3
            obtain ⟨p', vs, ep, sq, q⟩ := asT_ok w3 (((en.step s1).step s2).step s3) rx e5
            cases ep
            have hv := RepKV.val kk q
            refine ⟨valV vs kk, .inr ⟨vs, kk, ad, sq, rfl, s3.frame _ _ hd hm, rfl⟩, k _ F3 μ3 H3 w3 ((s1.trans s2).trans s3) ?_⟩
            cases hd2 : valD kvs kk with
            | none => rw [hv.2 hd2]; exact r3
            | some d' => obtain ⟨v', h1, h2⟩ := hv.1 d' hd2; rw [h1]; exact h2
          · cases h
        · cases h
      · cases h
    · cases h
  · cases h
def mIxT (mo : ME) (mk : MK) : ME := fun env st => match mo env st with
  | some (x, st1) => match mk env st1 with
    | some (kk, st2) => match asT env st2 x with
      | some kvs => match valD kvs kk with
        | some z => some (.d z, st2)
        | none => none
      | none => none
    | none => none
  | none => none
theorem xixT (hu : X.A.units + 1 < cLine) (ho : XE X a ma) (hk : XK X b mk) (hn : NoSl b := by exact fun _ _ => rfl) : XE X (.Subscript a b pos) (mIxT ma mk) := by
  obtain ⟨ta, pa, sa⟩ := ho
  obtain ⟨tb, pb, sb⟩ := hk
  refine ⟨_, pe_dget hu pa pb hn, ?_⟩
  intro σ F μ H env st r st' Q w en h k
  unfold mIxT at h
  split at h
  · rename_i x st1 e1
    split at h
    · rename_i kk st2 e3
      split at h
      · rename_i kvs e5
        split at h
        · rename_i z e6
          cases h
          refine sa σ F μ H env st _ _ _ w en e1 fun v F1 μ1 H1 w1 s1 r1 => ?_
          refine sb σ F1 μ1 H1 env st1 _ _ _ w1 (en.step s1) e3 fun ad F2 μ2 H2 w2 s2 hd hm => ?_
          obtain ⟨p', vs, rfl, sq, q⟩ := asT_ok w2 ((en.step s1).step s2) (r1.step s2) e5
          obtain ⟨v', h1, h2⟩ := (RepKV.val kk q).1 _ e6
          exact ⟨p', v', rfl, .inr ⟨vs, kk, ad, sq, rfl, hd, h1.symm⟩, k v' F2 μ2 H2 w2 (s1.trans s2) h2⟩
        · cases h
      · cases h
    · cases h
  · cases h
def mInT (neg : Bool) (mk : MK) (mo : ME) : ME := fun env st => match mk env st with
  | some (kk, st1) => match mo env st1 with
    | some (x, st2) => match asT env st2 x with
      | some kvs => some (.d (.bl (if neg then !(valD kvs kk).isSome else (valD kvs kk).isSome)), st2)
      | none => none
    | none => none
  | none => none
theorem simInT {K : PySem.W.Frag} {ta tb : TE} {ma : ME} {mk : MK} (neg : Bool) (sb : SimK K tb mk) (sa : SimE K ta ma) : SimE K (fun σ H Q => tb σ H fun y H1 => ta σ H1 fun x H2 => ∃ a o, x = .ref a ∧ DGet H2 a y o ∧ Q (.bl (if neg then !o.isSome else o.isSome)) H2) (mInT neg mk ma) := by
  intro σ F μ H env st r st' Q w en h k
  unfold mInT at h
  split at h
  · rename_i kk st1 e1
    split at h
    · rename_i x st2 e3
      split at h
      · rename_i kvs e5
        cases h
        refine sb σ F μ H env st _ _ _ w en e1 fun ad F1 μ1 H1 w1 s1 hd hm => ?_
        refine sa σ F1 μ1 H1 env st1 _ _ _ w1 (en.step s1) e3 fun v F2 μ2 H2 w2 s2 r2 => ?_
        obtain ⟨p', vs, rfl, sq, q⟩ := asT_ok w2 ((en.step s1).step s2) r2 e5
        have hv := RepKV.val kk q
        refine ⟨p', valV vs kk, rfl, .inr ⟨vs, kk, ad, sq, rfl, s2.frame _ _ hd hm, rfl⟩, k _ F2 μ2 H2 w2 (s1.trans s2) ?_⟩
        show V.bl _ = V.bl _
        cases hd2 : valD kvs kk with
        | none => rw [hv.2 hd2]; cases neg <;> rfl
        | some d' => obtain ⟨v', h1, _⟩ := hv.1 d' hd2; rw [h1]; cases neg <;> rfl
      · cases h
    · cases h
  · cases h
theorem xinT (hu : X.A.units + 65 < cLine) (hk : XK X b mk) (ha : XE X a ma) (h1 : behindInMarks .In a = false := by rfl) : XE X (.Compare b [.In] [a] pos) (mInT false mk ma) := by
  obtain ⟨ta, pa, sa⟩ := ha
  obtain ⟨tb, pb, sb⟩ := hk
  exact ⟨_, pe_cmp (pc_din (by omega) pb pa) h1, simInT false sb sa⟩
theorem xnotinT (hu : X.A.units + 65 < cLine) (hk : XK X b mk) (ha : XE X a ma) (h1 : behindInMarks .NotIn a = false := by rfl) : XE X (.Compare b [.NotIn] [a] pos) (mInT true mk ma) := by
  obtain ⟨ta, pa, sa⟩ := ha
  obtain ⟨tb, pb, sb⟩ := hk
  exact ⟨_, pe_cmp (pc_dnotin (by omega) pb pa) h1, simInT true sb sa⟩
end
section
variable {X : Cx} {o i e : Expr} {mo me : ME} {mk : MK} {pos tpos : Pos}
def putT (so : SO) (k : List Key) (v : D) : Option SO := match so with
  | .dT kvs => if kvs.length < 16000000 then some (.dT (putD kvs k v)) else none
  | _ => none
/-- d[k] = v -/
def mStT (mo : ME) (mk : MK) (mv : ME) : MS := fun env st => match mv env st with
  | some (.d dv, st1) => match mo env st1 with
    | some (ro, st2) => match mk env st2 with
      | some (kk, st3) => chg (fun so => putT so kk dv) env st3 ro
      | none => none
    | none => none
  | _ => none
theorem xstT (hu : X.A.units + 1 < cLine) (ho : XE X o mo) (hi : XK X i mk) (he : XE X e me) (hs2 : swapsWith e (some (.Subscript o i tpos)) pos.line X.env = pure false := by rfl) : XS X (.Assign [.Subscript o i tpos] e pos) (mStT mo mk me) := by
  obtain ⟨to, po, so⟩ := ho
  obtain ⟨ti, pi, si⟩ := hi
  obtain ⟨te, pe, se⟩ := he
  refine ⟨_, ps_dput hu po pi pe hs2, ?_⟩
  intro F0 μ0 H0 Fg μg σ F μ H env st out D oo e k
  unfold mStT at e
  split at e
  · rename_i dv st1 e1
    split at e
    · rename_i ro st2 e2
      split at e
      · rename_i kk st3 e3
        refine se σ F μ H env st _ _ _ oo.wd oo.en e1 fun v F1 μ1 H1 w1 s1 r1 => ?_
        refine so σ F1 μ1 H1 env st1 _ _ _ w1 (oo.en.step s1) e2 fun ov F2 μ2 H2 w2 s2 r2 => ?_
        refine si σ F2 μ2 H2 env st2 _ _ _ w2 ((oo.en.step s1).step s2) e3 fun ad F3 μ3 H3 w3 s3 hd hm => ?_
        have o3 := ((oo.step w1 s1).step w2 s2).step w3 s3
        obtain ⟨a, so1, u, so2, rfl, hu1, ru, ef, kk2⟩ := chg_ok o3 (r2.step s3) e k
        unfold putT at ef
        split at ef
        · rename_i kvs
          split at ef
          · rename_i hl
            cases ef
            cases u <;> first | exact ru.elim | skip
            rename_i vs
            refine ⟨a, _, rfl, .inr ⟨vs, kk, ad, hu1, rfl, hd, by rw [← RepKV.length ru, sizeLine_eq]; omega, rfl⟩, kk2 _ ?_⟩
            exact RepKV.put kk ((s2.trans s3).rep r1) ru
          · cases ef
        · cases ef
      · cases e
    · cases e
  · cases e
end
end Gx

set_option maxHeartbeats 2000000
namespace Gx
open PySem L2 PySem.Spec PyProof.Rows
/-! ### a dict of the module with text keys; texts by place, their length -/
structure CDct (K : PySem.W.Frag) (w : World) (mg : Str → Option Value) (x : Str) (hits : List (Str × D)) (misses : List Str) : Prop where
  h : ∃ a es n, mg x = some (.ref a) ∧ KDict K w a es n ∧ (∀ p ∈ hits, ∃ v u, PySem.W.nsIn K a p.1 = some (some u) ∧ RelV v u ∧ ∀ F μ, Rep K F μ p.2 v) ∧ ∀ z ∈ misses, PySem.W.nsIn K a z = some none
section
variable {X : Cx} {a b e : Expr} {ma mb m : ME} {pos p : Pos}
def fInC (neg : Bool) (hits : List (Str × D)) (misses : List Str) : Env → Store → R → Option (R × Store) := fun _ st x => match x with
  | .d (.str z) => if (valD hits z).isSome then some (.d (.bl (!neg)), st) else if z ∈ misses then some (.d (.bl neg), st) else none
  | _ => none
theorem valD_in {κ : Type} [DecidableEq κ] {k : κ} {v : D} {ls : List (κ × D)} (h : valD ls k = some v) : (k, v) ∈ ls := by
  unfold valD at h
  rw [Option.map_eq_some_iff] at h
  obtain ⟨p, hp, rfl⟩ := h
  have h1 := List.mem_of_find?_eq_some hp
  have h2 := List.find?_some hp
  have h3 : p.1 = k := by simpa using h2
  rw [← h3]
  exact h1
theorem xinC {x : Str} {hits misses} (c : CDct X.K X.w X.mg x hits misses) (hg : Gl X x) (ha : XE X a ma) (h1 : behindInMarks .In (.Name x p) = false := by rfl) (hd : (x == ("__debug__" : Str)) = false := by decide) : XE X (.Compare a [.In] [.Name x p] pos) (m1 ma (fInC false hits misses)) := by
  obtain ⟨d, es, n, h, D, hh, hm⟩ := c
  obtain ⟨ta, pa, sa⟩ := ha
  refine ⟨_, pe_cmpR (op_in_kd D) pa (pe_glob (v := .ref d) hg h rfl hd) h1, ?_⟩
  intro σ F μ H env st r st' Q w en e k
  unfold m1 at e
  split at e
  · rename_i y st1 e1
    unfold fInC at e
    split at e
    · rename_i z
      split at e
      · rename_i hz
        cases e
        obtain ⟨v, hv⟩ := Option.isSome_iff_exists.mp hz
        obtain ⟨v', u, h2, _, _⟩ := hh _ (valD_in hv)
        exact sa σ F μ H env st _ _ _ w en e1 fun v0 F1 μ1 H1 w1 s1 r1 => ⟨z, some u, r1, rfl, h2, k _ F1 μ1 H1 w1 s1 rfl⟩
      · split at e
        · rename_i hz
          cases e
          exact sa σ F μ H env st _ _ _ w en e1 fun v0 F1 μ1 H1 w1 s1 r1 => ⟨z, none, r1, rfl, hm z hz, k _ F1 μ1 H1 w1 s1 rfl⟩
        · cases e
    · cases e
  · cases e
theorem xinCt {x : Str} {hits misses} (c : CDct X.K X.w X.mg x hits misses) (hg : Gl X x) (ha : XE X a ma) (h1 : behindInMarks .In (.Name x p) = false := by rfl) (hd : (x == ("__debug__" : Str)) = false := by decide) : XT X (.Compare a [.In] [.Name x p] pos) (mTest (m1 ma (fInC false hits misses))) := by
  obtain ⟨d, es, n, h, D, hh, hm⟩ := c
  obtain ⟨ta, pa, sa⟩ := ha
  refine ⟨_, pt_cmpR (op_in_kd D) pa (pe_glob (v := .ref d) hg h rfl hd) h1, simTest ?_⟩
  intro σ F μ H env st r st' Q w en e k
  unfold m1 at e
  split at e
  · rename_i y st1 e1
    unfold fInC at e
    split at e
    · rename_i z
      split at e
      · rename_i hz
        cases e
        obtain ⟨v, hv⟩ := Option.isSome_iff_exists.mp hz
        obtain ⟨v', u, h2, _, _⟩ := hh _ (valD_in hv)
        exact sa σ F μ H env st _ _ _ w en e1 fun v0 F1 μ1 H1 w1 s1 r1 => ⟨z, some u, r1, rfl, h2, k _ F1 μ1 H1 w1 s1 rfl⟩
      · split at e
        · rename_i hz
          cases e
          exact sa σ F μ H env st _ _ _ w en e1 fun v0 F1 μ1 H1 w1 s1 r1 => ⟨z, none, r1, rfl, hm z hz, k _ F1 μ1 H1 w1 s1 rfl⟩
        · cases e
    · cases e
  · cases e
theorem xnotinC {x : Str} {hits misses} (c : CDct X.K X.w X.mg x hits misses) (hg : Gl X x) (ha : XE X a ma) (h1 : behindInMarks .NotIn (.Name x p) = false := by rfl) (hd : (x == ("__debug__" : Str)) = false := by decide) : XE X (.Compare a [.NotIn] [.Name x p] pos) (m1 ma (fInC true hits misses)) := by
  obtain ⟨d, es, n, h, D, hh, hm⟩ := c
  obtain ⟨ta, pa, sa⟩ := ha
  refine ⟨_, pe_cmpR (op_notIn_kd D) pa (pe_glob (v := .ref d) hg h rfl hd) h1, ?_⟩
  intro σ F μ H env st r st' Q w en e k
  unfold m1 at e
  split at e
  · rename_i y st1 e1
    unfold fInC at e
    split at e
    · rename_i z
      split at e
      · rename_i hz
        cases e
        obtain ⟨v, hv⟩ := Option.isSome_iff_exists.mp hz
        obtain ⟨v', u, h2, _, _⟩ := hh _ (valD_in hv)
        exact sa σ F μ H env st _ _ _ w en e1 fun v0 F1 μ1 H1 w1 s1 r1 => ⟨z, some u, r1, rfl, h2, k _ F1 μ1 H1 w1 s1 rfl⟩
      · split at e
        · rename_i hz
          cases e
          exact sa σ F μ H env st _ _ _ w en e1 fun v0 F1 μ1 H1 w1 s1 r1 => ⟨z, none, r1, rfl, hm z hz, k _ F1 μ1 H1 w1 s1 rfl⟩
        · cases e
    · cases e
  · cases e
theorem xnotinCt {x : Str} {hits misses} (c : CDct X.K X.w X.mg x hits misses) (hg : Gl X x) (ha : XE X a ma) (h1 : behindInMarks .NotIn (.Name x p) = false := by rfl) (hd : (x == ("__debug__" : Str)) = false := by decide) : XT X (.Compare a [.NotIn] [.Name x p] pos) (mTest (m1 ma (fInC true hits misses))) := by
  obtain ⟨d, es, n, h, D, hh, hm⟩ := c
  obtain ⟨ta, pa, sa⟩ := ha
  refine ⟨_, pt_cmpR (op_notIn_kd D) pa (pe_glob (v := .ref d) hg h rfl hd) h1, simTest ?_⟩
  intro σ F μ H env st r st' Q w en e k
  unfold m1 at e
  split at e
  · rename_i y st1 e1
    unfold fInC at e
    split at e
    · rename_i z
      split at e
      · rename_i hz
        cases e
        obtain ⟨v, hv⟩ := Option.isSome_iff_exists.mp hz
        obtain ⟨v', u, h2, _, _⟩ := hh _ (valD_in hv)
        exact sa σ F μ H env st _ _ _ w en e1 fun v0 F1 μ1 H1 w1 s1 r1 => ⟨z, some u, r1, rfl, h2, k _ F1 μ1 H1 w1 s1 rfl⟩
      · split at e
        · rename_i hz
          cases e
          exact sa σ F μ H env st _ _ _ w en e1 fun v0 F1 μ1 H1 w1 s1 r1 => ⟨z, none, r1, rfl, hm z hz, k _ F1 μ1 H1 w1 s1 rfl⟩
        · cases e
    · cases e
  · cases e
theorem xinTt {mk : MK} (hu : X.A.units + 65 < cLine) (hk : XK X b mk) (ha : XE X a ma) (h1 : behindInMarks .In a = false := by rfl) : XT X (.Compare b [.In] [a] pos) (mTest (mInT false mk ma)) := by
  obtain ⟨ta, pa, sa⟩ := ha
  obtain ⟨tb, pb, sb⟩ := hk
  exact ⟨_, pt_cmp (pc_din (by omega) pb pa) h1, simB (simInT false sb sa)⟩
theorem xnotinTt {mk : MK} (hu : X.A.units + 65 < cLine) (hk : XK X b mk) (ha : XE X a ma) (h1 : behindInMarks .NotIn a = false := by rfl) : XT X (.Compare b [.NotIn] [a] pos) (mTest (mInT true mk ma)) := by
  obtain ⟨ta, pa, sa⟩ := ha
  obtain ⟨tb, pb, sb⟩ := hk
  exact ⟨_, pt_cmp (pc_dnotin (by omega) pb pa) h1, simB (simInT true sb sa)⟩
def fIxC (hits : List (Str × D)) : Env → Store → R → Option (R × Store) := fun _ st x => match x with
  | .d (.str z) => match valD hits z with | some v => some (.d v, st) | none => none
  | _ => none
theorem xixC {x : Str} {hits misses} (c : CDct X.K X.w X.mg x hits misses) (hg : Gl X x) (ha : XE X a ma) (hs : PlainIx a := by exact fun _ _ => rfl) (hd : (x == ("__debug__" : Str)) = false := by decide) : XE X (.Subscript (.Name x p) a pos) (m1 ma (fIxC hits)) := by
  obtain ⟨d, es, n, h, D, hh, hm⟩ := c
  obtain ⟨ta, pa, sa⟩ := ha
  refine ⟨_, pe_ix ix_kdict (pe_glob (v := .ref d) hg h rfl hd) pa hs, ?_⟩
  intro σ F μ H env st r st' Q w en e k
  unfold m1 at e
  split at e
  · rename_i y st1 e1
    unfold fIxC at e
    split at e
    · rename_i z
      split at e
      · rename_i v hv
        cases e
        obtain ⟨v', u, h2, rv, rp⟩ := hh _ (valD_in hv)
        exact sa σ F μ H env st _ _ _ w en e1 fun v0 F1 μ1 H1 w1 s1 r1 => ⟨d, z, v', rfl, r1, ⟨es, n, u, D.at_, D.lit, h2, rv⟩, k _ F1 μ1 H1 w1 s1 (rp _ _)⟩
      · cases e
    · cases e
  · cases e
/-! texts -/
def f2IxS : Env → Store → R → R → Option (R × Store) := fun _ st x y => match x, y with
  | .d (.str z), .d (.int i) => if z.length ≤ 16000000 then match atI z.cps.toList i with | some c => some (.d (.str ⟨#[c]⟩), st) | none => none else none
  | _, _ => none
theorem sim2IxS {K : PySem.W.Frag} : Sim2 K rIxS f2IxS := by
  intro σ F μ H env st x y v u z st' Q w en rx ry h k
  unfold f2IxS at h
  split at h
  · rename_i s i
    split at h
    · rename_i hz
      split at h
      · rename_i c hc
        cases h
        exact ⟨s, i, c, rx, ry, small16 hz, hc, k _ F μ H w Stp.refl rfl⟩
      · cases h
    · cases h
  · cases h
theorem xixA (hu : X.A.units + 1 < cLine) (ha : XE X a ma) (hb : XE X b mb) (hs : PlainIx b := by exact fun _ _ => rfl) (hn : NoSl b := by exact fun _ _ => rfl) : XE X (.Subscript a b pos) (m2 ma mb (fOr fIx f2IxS)) := by
  obtain ⟨t1, p1, s1⟩ := xix (pos := pos) hu ha hb hs hn
  obtain ⟨ta, pa, sa⟩ := ha
  obtain ⟨tb, pb, sb⟩ := hb
  exact ⟨_, PE.or p1 (pe_ix ix_str pa pb hs), simOr2 s1 (sim2 sa sb sim2IxS)⟩
def f1LenA : Env → Store → R → Option (R × Store) := fun env st x => match f1Len env st x with
  | some z => some z
  | none => match x with | .d (.str z) => if z.length ≤ 16000000 then some (.d (.int z.length), st) else none | _ => none
theorem sim1LenS {K : PySem.W.Frag} : Sim1 K (fun xs H Q => ∃ z, xs = [V.str z] ∧ z.length ≤ sizeLine ∧ Q (.int z.length) H) (fun _ st x => match x with | .d (.str z) => if z.length ≤ 16000000 then some (.d (.int z.length), st) else none | _ => none) := by
  intro σ F μ H env st x v z st' Q w en rx h k
  dsimp only at h
  split at h
  · rename_i s
    split at h
    · rename_i hz
      cases h
      exact ⟨s, by rw [rx], small16 hz, k _ F μ H w Stp.refl rfl⟩
    · cases h
  · cases h
theorem xlenA {x : Str} {p : Pos} (hg : Gl X x) (hm : X.mg x = none) (hv : bootBuiltins x = some (.builtin "len")) (ha : XE X e m) (hn : x ≠ "__name__" := by decide)
    (hdb : (x == ("__debug__" : Str)) = false := by decide) (he : starEach (e :: []) X.env = (false, eval e X.env) :: starEach [] X.env := by rfl) (hpl : (backTo pos (starEach [] X.env)).any (·.1) = false := by rfl) : XE X (.Call (.Name x p) [e] [] pos) (m1 m f1LenA) :=
  xcallB ((call_len_seq.or call_lenRd).or call_len_str) (Sim1.or sim1Len sim1LenS) hg hm hv ha hn hdb he hpl
end
end Gx

set_option maxHeartbeats 2000000
namespace Gx
open PySem L2 PySem.Spec PyProof.Rows
/-- a comprehension within another one -/
abbrev CF (L : List (Str × NameKind)) (x : Str) : Prop := L.lookup x = some .cell ∨ L.lookup x = some .free
theorem look_if {x n : Str} {k : NameKind} {c : Bool} {L L0 : List (Str × NameKind)} (ih : CF L0 x → CF L x) (h : CF ((n, k) :: L0) x) : CF ((if c = true then (n, NameKind.cell) else (n, k)) :: L) x := by
  by_cases q : (x == n) = true
  · unfold CF at h ⊢
    simp only [List.lookup_cons, q] at h
    cases c
    · simp only [List.lookup_cons, q, Bool.false_eq_true, if_false]
      exact h
    · left
      simp only [List.lookup_cons, q, if_true]
  · have q' : (x == n) = false := by simpa using q
    unfold CF at h ih ⊢
    simp only [List.lookup_cons, q'] at h
    cases c
    · simp only [List.lookup_cons, q', Bool.false_eq_true, if_false]
      exact ih h
    · simp only [List.lookup_cons, q', if_true]
      exact ih h
theorem relabel_cf {env : PySem.Env} : ∀ {names : List (Str × NameKind)} {x : Str}, CF names x →
    CF (names.map fun (n, k) => if (k == NameKind.free && env.scope.kind == .function && env.kindOf n == some .cell) then (n, NameKind.cell) else (n, k)) x
  | [], x, h => by rcases h with h | h <;> cases h
  | (n, k) :: r, x, h => look_if (c := (k == NameKind.free && env.scope.kind == .function && env.kindOf n == some .cell)) relabel_cf h
theorem blkOk_in {X : Cx} {s : Shared} {H : Hp} {sc0 : Scope} {C : Addr} {cl : List (Str × Addr)} {fp : List Addr} {N : List Str} {scope : Scope} {own : List (Str × Nat)} (eN : X.N = N) (h : blkC N sc0 scope own = true) :
    BlkOk (X.blk s H sc0 (compEnvC sc0 cl C X.env) fp).N (X.blk s H sc0 (compEnvC sc0 cl C X.env) fp).env.scope scope own := by
  subst eN
  have b := blkOk_by h
  exact ⟨b.kind, b.uniq, b.ix, fun y hy e => relabel_cf (b.free y hy e), b.own⟩
/-! ### xs[i:j] of a tuple, a fresh one -/
section
variable {X : Cx} {a b c e : Expr} {ma mb mc m : ME} {pos : Pos}
def mFSlT (a : ME) (lo hi : MO) : MF := fun env st => match a env st with
  | some (.d (.tup xs), st1) => match lo env st1 with
    | some (l, st2) => match hi env st2 with
      | some (u, st3) => if HT.sIx xs.length 0 l = 0 ∧ HT.sIx xs.length xs.length u = xs.length then none else some (.tup (cutD xs l u), st3)
      | none => none
    | none => none
  | _ => none
theorem xfslT {p2 : Pos} {lo hi : Option Expr} {ml mh : MO} (ha : XE X a ma) (hl : XO X lo ml) (hh : XO X hi mh) : XF X (.Subscript a (.Slice lo hi none p2) pos) (mFSlT ma ml mh) := by
  obtain ⟨ta, pa, sa⟩ := ha
  obtain ⟨tl, pl, sl⟩ := hl
  obtain ⟨th, ph, sh⟩ := hh
  refine ⟨_, pe_slice sl_tup pa pl ph, ?_⟩
  intro σ F μ H env st r st' Q w en h k
  unfold mFSlT at h
  split at h
  · rename_i xs st1 e1
    split at h
    · rename_i l st2 e2
      split at h
      · rename_i u st3 e3
        split at h
        · cases h
        · rename_i hw
          cases h
          refine sa σ F μ H env st _ st1 _ w en e1 fun v F1 μ1 H1 w1 s1 r1 => ?_
          refine sl σ F1 μ1 H1 env st1 l st2 _ w1 (en.step s1) e2 fun F2 μ2 H2 w2 s2 => ?_
          refine sh σ F2 μ2 H2 env st2 u _ _ w2 ((en.step s1).step s2) e3 fun F3 μ3 H3 w3 s3 => ?_
          have sA := (s1.trans s2).trans s3
          obtain ⟨a, vs, e, s, q⟩ := (r1.step s2).step s3
          refine ⟨a, vs, e, SqT.mono w3.sub s, by rw [← q.length]; exact hw, fun p hp => ?_⟩
          exact k p (.tup (cutV vs l u)) F3 μ3 _ (w3.lay0 hp) (sA.trans (Stp.lay0 hp)) (fresh_of sA hp) (w3.Fnone hp) (w3.out hp) upd_same (cut_rep q)
      · cases h
    · cases h
  · cases h
end
/-! ### dict([(k, v) for x in xs]) with tuple keys -/
def mergeT (kvs : List (List Key × V)) (more : List (List Key × V)) : List (List Key × V) := more.foldl (fun acc kv => putK acc kv.1 kv.2) kvs
def mergeDT (kvs : List (List Key × D)) (more : List (List Key × D)) : List (List Key × D) := more.foldl (fun acc kv => putD acc kv.1 kv.2) kvs
theorem repKV_mergeT {K : PySem.W.Frag} {F : Hp} {μ : List Addr} : ∀ {more : List (List Key × D)} {rs : List (List Key × V)} {kvs : List (List Key × D)} {vs : List (List Key × V)}, RepKV K F μ more rs → RepKV K F μ kvs vs → RepKV K F μ (mergeDT kvs more) (mergeT vs rs)
  | [], [], _, _, _, h => h
  | p :: ps, q :: qs, kvs, vs, ⟨e, r, t⟩, h => by
    show RepKV K F μ (mergeDT (putD kvs p.1 p.2) ps) (mergeT (putK vs q.1 q.2) qs)
    rw [e]
    exact repKV_mergeT t (RepKV.put q.1 r h)
  | [], _ :: _, _, _, h, _ => h.elim
  | _ :: _, [], _, _, h, _ => h.elim
theorem mergeT_len : ∀ (more kvs : List (List Key × V)), (mergeT kvs more).length ≤ kvs.length + more.length
  | [], kvs => Nat.le_refl _
  | p :: ps, kvs => by
    have h := mergeT_len ps (putK kvs p.1 p.2)
    have h2 : (putK kvs p.1 p.2).length ≤ kvs.length + 1 := by
      unfold putK
      split <;> simp
    show (mergeT (putK kvs p.1 p.2) ps).length ≤ _
    simp only [List.length_cons]
    omega
theorem KT_merge {H : Hp} : ∀ {more : List (List Key × V)} {rs : List (List Key × Addr × Value)} {kvs : List (List Key × V)} {xs : List (List Key × Addr × Value)}, KT H more rs → KT H kvs xs → KT H (mergeT kvs more) (storedAllH xs rs) := by
  intro more rs kvs xs r
  induction r generalizing kvs xs with
  | nil => exact fun h => h
  | @cons p q ps qs hq t ih =>
    intro h
    show KT H (mergeT (putK kvs p.1 p.2) ps) (storedAllH (storedH xs q.1 q.2.1 q.2.2) qs)
    rw [← hq.1]
    exact ih (KT.put h p.1 hq.2.1 hq.2.2)
abbrev PrT (H : Hp) : List (Addr × Addr) → List (List Key × V) → Prop := Paired fun z kv => H z.1 = some (.tup [.ref z.2, kv.2]) ∧ H z.2 = some (.tup (kv.1.map kV))
section
variable {X : Cx}
theorem prT_at {pins : List (Addr × Obj)} {σ : L2.St} {H : Hp} {s : Shared} (I : Inv X pins σ H s) : ∀ {ts : List (Addr × Addr)} {kvs : List (List Key × V)}, PrT H ts kvs →
    ∃ ps : List (List Key × Addr × Value), KT H kvs ps ∧ ps.length = ts.length ∧ ∀ (j : Nat) (q : List Key × Addr × Value), ps[j]? = some q → ∃ z, ts[j]? = some z ∧ PairAt s.heap z.1 (.ref q.2.1) q.2.2
  | _, _, .nil => ⟨[], .nil, rfl, fun j q e => by simp at e⟩
  | _, _, .cons (a := z) (b := kv) h t => by
    obtain ⟨ps, r, hl, hp⟩ := prT_at I t
    obtain ⟨_, its, rv, ht⟩ := (show ObjOk X.prog X.w H s.heap z.1 (.tup [.ref z.2, kv.2]) from I.hok z.1 _ h.1)
    obtain ⟨u, y, ei, ru, ry⟩ := vals2 rv
    subst ei
    cases ru
    refine ⟨(kv.1, z.2, y) :: ps, .cons ⟨rfl, h.2, ry⟩ r, by rw [List.length_cons, List.length_cons, hl], fun j q e => ?_⟩
    cases j with
    | zero =>
      have e' : (kv.1, z.2, y) = q := Option.some.inj e
      subst e'
      obtain ⟨o, h1, h2, n, h3⟩ := ht
      exact ⟨z, rfl, .inl ⟨o, h1, h2, n, h3⟩⟩
    | succ j =>
      obtain ⟨z', e1, e2⟩ := hp j q (by simpa using e)
      exact ⟨z', by simpa using e1, e2⟩
def rDictT : List V → Hp → VK → Prop := fun xs H Q => ∃ (a : Addr) (ts : List (Addr × Addr)) (kvs : List (List Key × V)), xs = [.ref a] ∧ H a = some (.lst (ts.map fun z => V.ref z.1)) ∧ PrT H ts kvs ∧
  ∀ p, H p = none → Q (.ref p) (upd H p (.dT (mergeT [] kvs)))
theorem call_dictT (hcalm : X.calm = true) (hu : X.A.units + 65 < cLine) : CallR X (.type "dict") rDictT := by
  intro pins s σ H xs us Q I r q
  obtain ⟨a, ts, kvs, ex, hq, hp, q⟩ := q
  subst ex
  obtain ⟨u, eu, rx⟩ := vals1 r
  subst eu
  cases rx
  obtain ⟨hz, its, n, rv, ho⟩ := (show ObjOk X.prog X.w H s.heap a (.lst (ts.map fun z => V.ref z.1)) from I.hok a _ hq)
  have ei := refs_at (ps := ts.map (·.1)) (us := its) (by rw [List.map_map]; exact rv)
  subst ei
  rw [List.length_map] at hz
  obtain ⟨ps, rel, hl, hpr⟩ := prT_at I hp
  have hkl : kvs.length = ps.length := Paired.length rel
  have P := PairArg.list (prog := X.prog) (w := X.w) a ((ts.map (·.1)).map Value.ref).toArray (fun j => (ts.map (·.1)).getD j 0) (ps.map fun q => (Value.ref q.2.1, q.2.2))
  refine call_dict_pairsH (knd := tupleKind (mixKind X.prog X.w)) (ps := ps) P (I.ok.hd hcalm) ?_ ?_ ?_ ?_ ?_ ?_
  · show X.A.units + 1 + 1 < cLine
    omega
  · refine ⟨⟨_, n, ho, rfl, rfl, rfl⟩, by simp [hl], fun j k v hj => ?_⟩
    rw [List.getElem?_map, Option.map_eq_some_iff] at hj
    obtain ⟨q0, h1, h2⟩ := hj
    cases h2
    obtain ⟨z, h3, h4⟩ := hpr j q0 h1
    refine ⟨?_, ?_⟩
    · simp [h3]
    · show PairAt s.heap ((ts.map (·.1)).getD j 0) _ _
      rw [List.getD_eq_getElem?_getD, List.getElem?_map, h3]
      exact h4
  · refine ⟨by simp, fun i key v hj => ?_⟩
    rw [PairRel, List.getElem?_map, Option.map_eq_some_iff] at hj
    obtain ⟨q0, h1, h2⟩ := hj
    cases h2
    exact ⟨q0.1, q0.2.1, h1, rfl⟩
  · intro h' hk x hx
    obtain ⟨j, hj⟩ := List.getElem?_of_mem hx
    obtain ⟨kv, hkv, e1, e2, _⟩ := L2.DX.pget rel hj
    obtain ⟨o, its', n', h1, h2, h3, h4⟩ := (show IsTupleKey (mixKind X.prog X.w) s.heap kv.1 x.2.1 from key_of I.hok e2)
    show IsTupleKey (mixKind X.prog X.w) h' x.1 x.2.1
    rw [← e1]
    exact ⟨o, its', n', hk _ _ (Nat.ne_of_lt (Heap.lt_size h1)) (fun z => nomatch z) h1, h2, h3, h4⟩
  · rw [List.length_map, hl]; exact hz
  · intro h' tk hd' k
    have hm : (s.heap.objs.size == sysModules) = false := beq_eq_false_iff_ne.mpr (Nat.ne_of_gt I.big)
    have hlen : (mergeT [] kvs).length ≤ sizeLine := by
      refine Nat.le_trans (mergeT_len kvs []) ?_
      rw [List.length_nil, Nat.zero_add, hkl, hl]
      exact hz
    obtain ⟨o, es, ep, d1, d2, d3, d4, d5, d6⟩ := hd'
    have kt := (KT_merge rel (.nil : KT H [] [])).keeps (H' := upd H s.heap.objs.size (.dT (mergeT [] kvs))) fun b ys e => by
      rw [upd_ne (ne_of_none e (I.hok.fresh (Nat.le_refl _)))]; exact e
    exact ⟨.ref s.heap.objs.size, upd H s.heap.objs.size (.dT (mergeT [] kvs)), I.laid (t' := tk) (fun b o e => k b o (fun z => nomatch z) e) (Nat.le_refl _)
      (show ObjOk X.prog X.w _ _ _ (.dT (mergeT [] kvs)) from ⟨hlen, hm, _, kt, o, es, ep, d1, d2, d3, d4, d6⟩), rfl, q _ (I.hok.fresh (Nat.le_refl _))⟩
end
/-! ### list(d.values()) of a dict with tuple keys -/
def valsO (p d : Addr) : HO := .ext fun h => h.IsValuesView p d
theorem valsO_ok {P : Program} {w : World} {H : Hp} {h : Heap} {p d : Addr} (e : h.get? p = some { cls := .type "dict_values", data := .fields #[.ref d] }) : ObjOk P w H h p (valsO p d) :=
  ⟨⟨_, e, rfl, rfl⟩, ⟨_, e⟩, fun h1 h2 x k => let ⟨o, ho, r⟩ := x; ⟨o, k o ho, r⟩⟩
section
variable {X : Cx}
def rValsT : V → List V → Hp → VK → Prop := fun x xs H Q => ∃ (a : Addr) (kvs : List (List Key × V)), x = .ref a ∧ xs = [] ∧ H a = some (.dT kvs) ∧ ∀ p, H p = none → Q (.ref p) (upd H p (valsO p a))
theorem mt_valsT : MtR X "dict.values" rValsT := by
  intro pins s σ H x xs v us Q I rx rxs h
  obtain ⟨a, kvs, rfl, rfl, ha, q⟩ := h
  cases rx
  cases rxs
  obtain ⟨z, hd, xs', rel, o, es, ep, ho, hx, hdat, _⟩ := dt_of I.hok ha
  have raw : s.heap.DictRaw a es ep := ⟨o, ho, hx, hdat⟩
  refine call_meetsIn PySem.F.slot_dict_values raw.typeIs PySem.F.entry_dict_values (PySem.F.args_dict_values_1 _) (meets_dict_values_raw a hd) ⟨⟨es, ep, raw⟩, ?_⟩
  have hf : H s.heap.objs.size = none := I.hok.fresh (Nat.le_refl _)
  exact ⟨.ref s.heap.objs.size, upd H s.heap.objs.size (valsO s.heap.objs.size a), I.laid (t' := s.toks) (fun b u e => Heap.get?_push_of_some _ e) (Nat.le_refl _) (valsO_ok (Heap.get?_push_size _ rfl)), rfl, q _ hf⟩
def rLiVals : List V → Hp → VK → Prop := fun xs H Q => ∃ (p a : Addr) (kvs : List (List Key × V)), xs = [.ref p] ∧ H p = some (valsO p a) ∧ H a = some (.dT kvs) ∧ ∀ q, H q = none → Q (.ref q) (upd H q (.lst (kvs.map (·.2))))
theorem vals_at {H : Hp} : ∀ {kvs : List (List Key × V)} {xs : List (List Key × Addr × Value)}, KT H kvs xs → Vals (kvs.map (·.2)) (xs.map (·.2.2))
  | _, _, .nil => .nil
  | _, _, .cons h t => .cons h.2.2 (vals_at t)
theorem call_liVals (hcalm : X.calm = true) : CallR X (.type "list") rLiVals := by
  intro pins s σ H xs us Q I r q
  obtain ⟨p, a, kvs, ex, hp, ha, q⟩ := q
  subst ex
  obtain ⟨u, eu, rx⟩ := vals1 r
  subst eu
  cases rx
  have view : s.heap.IsValuesView p a := (show ObjOk X.prog X.w H s.heap p (valsO p a) from I.hok p _ hp).1
  obtain ⟨z, hd, xs', rel, o, es, ep, ho, hx, hdat, hes, his, hn⟩ := dt_of I.hok ha
  have hsz : es.size = xs'.length := size_of_entries hes
  have hkl : kvs.length = xs'.length := Paired.length rel
  refine PySem.W.kdl_call (PySem.KdlSrc.rawValues (r := p) (d := a) (es := es) (ep := ep)) (I.ok.hd hcalm) ⟨view, ⟨o, ho, hx, hdat⟩⟩ (by rw [hsz, ← hkl]; exact z) fun h' tk acc c hk hS hacc => ?_
  have hf : H s.heap.objs.size = none := I.hok.fresh (Nat.le_refl _)
  have e : acc.toList = xs'.map (·.2.2) := by
    apply List.ext_getElem?
    intro j
    rw [Array.getElem?_toList, List.getElem?_map]
    by_cases hj : j < acc.size
    · obtain ⟨hi, e⟩ := hacc.2 j acc[j] (Array.getElem?_eq_getElem hj)
      have h3 := entry_at hes j
      rw [Array.getElem?_eq_getElem hi] at h3
      rw [Array.getElem?_eq_getElem hj, e]
      cases hx : xs'[j]? with
      | none => rw [hx] at h3; cases h3
      | some x => rw [hx] at h3; have h3 := Option.some.inj h3; rw [h3]; rfl
    · have h1 : acc.size = xs'.length := hacc.1.trans hsz
      have h2 : xs'.length ≤ j := by omega
      rw [Array.getElem?_eq_none (by omega), List.getElem?_eq_none h2]
      rfl
  refine ⟨.ref s.heap.objs.size, upd H s.heap.objs.size (.lst (kvs.map (·.2))), I.laid (t' := tk) hk (Nat.le_refl _) ?_, rfl, q _ hf⟩
  refine ⟨by rw [List.length_map]; exact z, xs'.map (·.2.2), c, vals_at rel, ?_⟩
  rw [hS, ← e, Array.toArray_toList]
end
def lcGoT (j : Nat) (mk : MF) (me : ME) (env : Env) (chk : Store → Bool) : List D → Store → List (List Key × D) → Option (List (List Key × D) × Store)
  | [], st, acc => if chk st then some (acc, st) else none
  | x :: xs, st, acc => if chk st then
      match mk (env.set j (.val x)) st with
      | some (.tup ks, st1) => match keysOf ks with
        | some kk => match me (env.set j (.val x)) st1 with
          | some (.d d, st2) => if acc.length < 16000000 then lcGoT j mk me env chk xs st2 (acc ++ [(kk, d)]) else none
          | _ => none
        | none => none
      | _ => none
    else none
def mDictLc (mi : MI) (j : Nat) (mk : MF) (me : ME) (vs : List Nat) : MF := fun env st => match mi env st with
  | some (src, st1) => match srcItems env st1 src with
    | some xs => match lcGoT j mk me (wipeE env vs) (fun st => decide (srcItems env st src = some xs)) xs st1 [] with
      | some (acc, st2) => some (.dT (mergeDT [] acc), st2)
      | none => none
    | none => none
  | none => none
theorem PrT.app {H : Hp} : ∀ {ts : List (Addr × Addr)} {kvs : List (List Key × V)} {ts' kvs'}, PrT H ts kvs → PrT H ts' kvs' → PrT H (ts ++ ts') (kvs ++ kvs')
  | _, _, _, _, .nil, h => h
  | _, _, _, _, .cons a t, h => .cons a (PrT.app t h)
/-- the objects of a pair, unknown to F and μ -/
abbrev OffT (F : Hp) (μ : List Addr) (ts : List (Addr × Addr)) : Prop := ∀ z ∈ ts, (F z.1 = none ∧ z.1 ∉ μ) ∧ F z.2 = none ∧ z.2 ∉ μ
theorem PrT.move {F : Hp} {μ : List Addr} {H : Hp} {F' : Hp} {μ' : List Addr} {H' : Hp} (s : Stp F μ H F' μ' H') : ∀ {ts : List (Addr × Addr)} {kvs : List (List Key × V)}, PrT H ts kvs → OffT F μ ts → PrT H' ts kvs ∧ OffT F' μ' ts
  | _, _, .nil, _ => ⟨.nil, fun z hz => nomatch hz⟩
  | _, _, .cons (a := z) a t, o => by
    obtain ⟨h1, h2⟩ := PrT.move s t fun x hx => o x (List.mem_cons_of_mem _ hx)
    obtain ⟨⟨f1, m1⟩, f2, m2⟩ := o z List.mem_cons_self
    refine ⟨.cons ⟨s.frame _ _ a.1 m1, s.frame _ _ a.2 m2⟩ h1, fun x hx => ?_⟩
    rcases List.mem_cons.mp hx with rfl | hx
    · exact ⟨s.out f1 m1 (by rw [a.1]; simp), s.out f2 m2 (by rw [a.2]; simp)⟩
    · exact h2 x hx
theorem PrT.pokeL {H : Hp} {D : Addr} {av bv : List V} (hD : H D = some (.lst av)) : ∀ {ts : List (Addr × Addr)} {kvs : List (List Key × V)}, PrT H ts kvs → PrT (upd H D (.lst bv)) ts kvs
  | _, _, .nil => .nil
  | _, _, .cons a t => .cons ⟨by rw [upd_ne (ne_of a.1 hD (fun z => nomatch z))]; exact a.1, by rw [upd_ne (ne_of a.2 hD (fun z => nomatch z))]; exact a.2⟩ (PrT.pokeL hD t)
theorem PrT.new {H : Hp} {p : Addr} {o : HO} (hp : H p = none) : ∀ {ts : List (Addr × Addr)} {kvs : List (List Key × V)}, PrT H ts kvs → PrT (upd H p o) ts kvs
  | _, _, .nil => .nil
  | _, _, .cons a t => .cons ⟨by rw [upd_ne (ne_of_none a.1 hp)]; exact a.1, by rw [upd_ne (ne_of_none a.2 hp)]; exact a.2⟩ (PrT.new hp t)
theorem repkv_append1 {K : PySem.W.Frag} {F : Hp} {μ : List Addr} {ps : List (List Key × D)} {qs : List (List Key × V)} {k : List Key} {d : D} {v : V} (h : RepKV K F μ ps qs) (r : Rep K F μ d v) : RepKV K F μ (ps ++ [(k, d)]) (qs ++ [(k, v)]) :=
  RepKV.append h ⟨rfl, r, trivial⟩
def tOfMF (K : PySem.W.Frag) (m : MF) : TE := fun σ H Q => ∃ F μ env st so st', Wd K F μ H st ∧ EnvOk K F μ H env σ ∧ m env st = some (so, st') ∧
  ∀ a u F' μ' H', Wd K F' μ' H' st' → Stp F μ H F' μ' H' → H a = none → F' a = none → a ∉ μ' → H' a = some u → SORep K F' μ' so u → Q (.ref a) H'
theorem simFOfM {K : PySem.W.Frag} {m : MF} : SimF K (tOfMF K m) m := fun σ F μ H env st r st' Q w en e k => ⟨F, μ, env, st, r, st', w, en, e, k⟩
theorem XF.pf {X : Cx} {e : Expr} {m : MF} (h : XF X e m) : PE X e (tOfMF X.K m) := by
  obtain ⟨te, p, s⟩ := h
  exact ⟨fun pins sh σ H Q I ⟨F, μ, env, st, r, st', w, en, e1, k⟩ => p.run pins sh σ H Q I (s σ F μ H env st r st' Q w en e1 k)⟩
theorem simDictLc {K : PySem.W.Frag} {wi : TI} {mi : MI} {j : Nat} {tk te : TE} {mk : MF} {me : ME} {vs : List Nat} (hi : SimI K wi mi) (hk : SimF K tk mk) (he : SimE K te me) (hj : j ∈ vs) :
    SimF K (tCB rDictT (tCons (tLc wi (gName j) tYes (tTup (tCons tk (tCons te tNil))) vs) tNil)) (mDictLc mi j mk me vs) := by
  intro σ F μ H env st so st' Q w en e k
  unfold mDictLc at e
  split at e
  · rename_i src st1 e1
    split at e
    · rename_i xs e2
      split at e
      · rename_i acc st2 e3
        cases e
        refine hi σ F μ H env st src st1 _ w en e1 fun J F1 μ1 H1 w1 s1 hJ D hD => ?_
        have hD0 : H D = none := fresh_of s1 hD
        refine lc_by (n := xs.length) (fun i Hc => i ≤ xs.length ∧ ∃ F2 μ2 stc ac ts av, Wd K F2 μ2 Hc stc ∧ Stp F μ H F2 μ2 Hc ∧ Stp F1 μ1 H1 F2 μ2 Hc ∧ F2 D = none ∧ D ∉ μ2 ∧ Hc D = some (.lst (ts.map fun z => V.ref z.1)) ∧ PrT Hc ts av ∧ OffT F2 μ2 ts ∧ RepKV K F2 μ2 ac av ∧ ts.length = ac.length ∧
          lcGoT j mk me (wipeE env vs) (fun st => decide (srcItems env st src = some xs)) (xs.drop i) stc ac = some (acc, st')) ?_ ?_ ?_
        · refine ⟨Nat.zero_le _, F1, μ1, st1, [], [], [], w1.lay0 hD, s1.trans (Stp.lay0 hD), Stp.lay0 hD, w1.Fnone hD, w1.out hD, upd_same, .nil, (fun z hz => nomatch hz), trivial, rfl, ?_⟩
          simpa using e3
        · rintro i Hc hin ⟨_, F2, μ2, stc, ac, ts, av, w2, s2, s2', f2, m2', hDc, pt, off, r2, hlen, go⟩
          rw [List.drop_eq_getElem_cons hin] at go
          unfold lcGoT at go
          split at go
          · rename_i hck
            have hck := of_decide_eq_true hck
            have en2 := en.step s2
            obtain ⟨vs2, ⟨a1, a2⟩, rr⟩ := srcAt w2 en2 (hJ.step s2') hck
            have hl := rr.length
            obtain ⟨g1, g2⟩ := a1 i (by omega)
            refine ⟨g1, fun x H' y => ?_⟩
            obtain ⟨eH, ex⟩ := g2 x H' y
            subst eH
            obtain ⟨d, ed, rd⟩ := rr.get' ex
            have ed' : xs[i] = d := by
              have := List.getElem?_eq_getElem hin
              rw [this] at ed; exact Option.some.inj ed
            rw [ed'] at go
            show L2.wipe ((L2.wipe σ vs).set j (some x)) vs = L2.wipe σ vs ∧ _
            refine ⟨wipe_set hj _, ?_⟩
            have enb : EnvOk K F2 μ2 H' ((wipeE env vs).set j (.val d)) ((L2.wipe σ vs).set j (some x)) := (en2.wipe vs).val j rd
            unfold tYes
            dsimp only
            rw [if_pos rfl]
            split at go
            · rename_i ks st3 e5
              split at go
              · rename_i kk e6
                split at go
                · rename_i d2 st4 e7
                  split at go
                  · rename_i hz
                    refine hk _ F2 μ2 H' _ stc _ st3 _ w2 enb e5 fun b u F3 μ3 H3 w3 s3 b0 bF bm hb rb => ?_
                    cases u <;> first | exact rb.elim | skip
                    rename_i kvs
                    have hkv := keysOf_ok rb e6
                    subst hkv
                    refine he _ F3 μ3 H3 _ st3 _ st4 _ w3 (enb.step s3) e7 fun v F4 μ4 H4 w4 s4 r4 => ?_
                    have s24 := s3.trans s4
                    have hb4 := s4.frame _ _ hb bm
                    have ob4 := s4.out bF bm (by rw [hb]; simp)
                    obtain ⟨pt4, off4⟩ := PrT.move s24 pt off
                    have o3 := s24.out f2 m2' (by rw [hDc]; simp)
                    have hD4 := s24.frame D _ hDc m2'
                    have rkv : RepKV K F4 μ4 ac av := RepKV.mono s24.fF s24.pre _ _ r2
                    refine ⟨by rw [sizeLine_eq]; simp, fun p hp => ?_⟩
                    have hpD : D ≠ p := fun q => by rw [← q, hD4] at hp; cases hp
                    have hDp : (upd H4 p (.tup [.ref b, v])) D = some (.lst (ts.map fun z => V.ref z.1)) := by rw [upd_ne hpD]; exact hD4
                    have sp : Stp F4 μ4 H4 F4 μ4 (upd H4 p (.tup [.ref b, v])) := Stp.lay0 hp
                    have w5 := w4.lay0 (o := .tup [.ref b, v]) hp
                    refine ⟨ts.map fun z => V.ref z.1, hDp, ?_, hin, F4, μ4, st4, ac ++ [(kk, d2)], ts ++ [(p, b)], av ++ [(kk, v)], w5.poke o3.1 o3.2, ((s2.trans s24).trans sp).poke hD0, ((s2'.trans s24).trans sp).poke hD, o3.1, o3.2, ?_, ?_, ?_, repkv_append1 rkv r4, by simp [hlen], go⟩
                    · rw [List.length_map, hlen, sizeLine_eq]; omega
                    · rw [upd_same, List.map_append]; rfl
                    · refine PrT.app (PrT.pokeL hDp (PrT.new hp pt4)) (.cons ⟨?_, ?_⟩ .nil)
                      · rw [upd_ne (Ne.symm hpD)]; exact upd_same
                      · have hbp : b ≠ p := fun q => by rw [← q, hb4] at hp; cases hp
                        have hbD : b ≠ D := fun q => by rw [q, hD4] at hb4; cases hb4
                        rw [upd_ne hbD, upd_ne hbp]; exact hb4
                    · intro z hz
                      rcases List.mem_append.mp hz with hz | hz
                      · exact off4 z hz
                      · rw [List.mem_singleton] at hz
                        subst hz
                        exact ⟨⟨w4.Fnone hp, w4.out hp⟩, ob4⟩
                  · cases go
                · cases go
              · cases go
            · cases go
          · cases go
        · rintro Hc ⟨_, F2, μ2, stc, ac, ts, av, w2, s2, s2', f2, m2', hDc, pt, off, r2, hlen, go⟩
          rw [List.drop_length] at go
          unfold lcGoT at go
          split at go
          · rename_i hck
            have hck := of_decide_eq_true hck
            cases go
            obtain ⟨vs2, ⟨a1, a2⟩, rr⟩ := srcAt w2 (en.step s2) (hJ.step s2') hck
            rw [rr.length]
            refine ⟨a2, D, ts, av, rfl, hDc, pt, fun p hp => ?_⟩
            exact k p (.dT (mergeT [] av)) F2 μ2 _ (w2.lay0 hp) (s2.trans (Stp.lay0 hp)) (fresh_of s2 hp) (w2.Fnone hp) (w2.out hp) upd_same (repKV_mergeT r2 trivial)
          · cases go
      · cases e
    · cases e
  · cases e
section
variable {X : Cx} {e : Expr} {m : ME} {pos : Pos}
def vasT (env : Env) : R → Option (List (List Key × D))
  | .loc i => match env[i]? with | some (.own (.dT xs)) => some xs | _ => none
  | _ => none
def mLVals (mo : ME) : MF := fun env st => match mo env st with
  | some (x, st1) => match vasT env x with
    | some kvs => some (.lst (kvs.map (·.2)), st1)
    | none => none
  | none => none
theorem xflvals {x : Str} {p apos mpos : Pos} (hc : X.calm = true) (hg : Gl X x) (hm : X.mg x = none) (hv : bootBuiltins x = some (.type "list")) (ho : XE X e m)
    (hbase : attributeBase e "values" X.env (eval e X.env) = eval e X.env := by rfl) (hline : (apos.endLine == mpos.line) = true := by rfl)
    (hn : x ≠ "__name__" := by decide) (hdb : (x == ("__debug__" : Str)) = false := by decide)
    (hst : starEach (.Call (.Attribute e "values" apos) [] [] mpos :: []) X.env = (false, eval (.Call (.Attribute e "values" apos) [] [] mpos) X.env) :: starEach [] X.env := by rfl) (hpl : (backTo pos (starEach [] X.env)).any (·.1) = false := by rfl) :
    XF X (.Call (.Name x p) [.Call (.Attribute e "values" apos) [] [] mpos] [] pos) (mLVals m) := by
  obtain ⟨to, po, so⟩ := ho
  refine ⟨_, pe_callTy (call_liVals hc) hg hm hv (pa_cons (pe_bm0 PySem.F.plainAttrs_dict PySem.F.slot_dict_values PySem.F.type_dict_values mt_valsT po hbase hline) pa_nil hst) hn hdb hst hpl, ?_⟩
  intro σ F μ H env st r st' Q w en h k
  unfold mLVals at h
  split at h
  · rename_i x st1 e1
    split at h
    · rename_i kvs e2
      cases h
      refine so σ F μ H env st _ _ _ w en e1 fun v F1 μ1 H1 w1 s1 r1 => ?_
      unfold vasT at e2
      split at e2
      · rename_i i
        split at e2
        · rename_i ys hs
          cases e2
          obtain ⟨a, rfl, so', g1, g2⟩ := r1
          rw [hs] at g1
          cases g1
          obtain ⟨b, u, h3, h4, h5, h6, h7⟩ := (en.step s1).slot i _ _ hs g2
          cases h3
          cases u <;> first | exact h7.elim | skip
          rename_i vs
          refine ⟨.inr (.inr (.inl ⟨rfl, .inr ⟨_, h6⟩⟩)), a, vs, rfl, rfl, h6, fun p hp => ?_⟩
          have hap : a ≠ p := fun q => by rw [← q, h6] at hp; cases hp
          have w2 := w1.lay0 (o := valsO p a) hp
          have s2 : Stp F1 μ1 H1 F1 μ1 (upd H1 p (valsO p a)) := Stp.lay0 hp
          refine ⟨p, a, vs, rfl, upd_same, by rw [upd_ne hap]; exact h6, fun q hq => ?_⟩
          have rr : Reps X.K F1 μ1 (kvs.map Prod.snd) (vs.map Prod.snd) := (RepKV.split (show RepKV X.K F1 μ1 kvs vs from h7)).1
          exact k q (.lst (vs.map Prod.snd)) F1 μ1 _ (w2.lay0 hq) ((s1.trans s2).trans (Stp.lay0 hq)) (fresh_of (s1.trans s2) hq) (w2.Fnone hq) (w2.out hq) upd_same rr
        · cases e2
      · cases e2
    · cases h
  · cases h
theorem xfdictLc {ek ev tg iter : Expr} {scope : Scope} {own : List (Str × Nat)} {x : Str} {p lpos tpos pos : Pos} {x1} {mi : MI} {j : Nat} {mk : MF} {me : ME} (hc : X.calm = true) (hu : X.A.units + 65 < cLine) (hN : X.N.Nodup) (hg : Gl X x) (hm : X.mg x = none) (hv : bootBuiltins x = some (.type "dict"))
    (hi : XI X tg iter mi) (ok : BlkOk X.N X.env.scope scope own)
    (hgn : ∀ (s : Shared) (H : Hp) (C : Addr) (cl : List (Str × Addr)) (fp : List Addr), PG (X.blk s H scope (compEnvC scope cl C X.env) fp) tg (gName j))
    (hk : ∀ (s : Shared) (H : Hp) (C : Addr) (cl : List (Str × Addr)) (fp : List Addr), XF (X.blk s H scope (compEnvC scope cl C X.env) fp) ek mk)
    (he : ∀ (s : Shared) (H : Hp) (C : Addr) (cl : List (Str × Addr)) (fp : List Addr), XE (X.blk s H scope (compEnvC scope cl C X.env) fp) ev me) (hj : j ∈ own.map (·.2) := by decide) (hs : ∀ x, foldedSetIterable iter X.env x = pure x := by intro _; rfl)
    (hn : x ≠ "__name__" := by decide) (hdb : (x == ("__debug__" : Str)) = false := by decide)
    (hst : starEach (.ListComp (.Tuple [ek, ev] x1 tpos) [⟨tg, iter, [], 0⟩] scope lpos :: []) X.env = (false, eval (.ListComp (.Tuple [ek, ev] x1 tpos) [⟨tg, iter, [], 0⟩] scope lpos) X.env) :: starEach [] X.env := by rfl) (hpl : (backTo pos (starEach [] X.env)).any (·.1) = false := by rfl)
    (h2 : ∀ Y : PySem.Env, starEach (ek :: [ev]) Y = (false, eval ek Y) :: starEach [ev] Y := by intro _; rfl) (h3 : ∀ Y : PySem.Env, starEach (ev :: []) Y = (false, eval ev Y) :: starEach [] Y := by intro _; rfl) :
    XF X (.Call (.Name x p) [.ListComp (.Tuple [ek, ev] x1 tpos) [⟨tg, iter, [], 0⟩] scope lpos] [] pos) (mDictLc mi j mk me (own.map (·.2))) := by
  obtain ⟨wi, pw, s⟩ := hi
  obtain ⟨tk, hk⟩ : ∃ tk, (∀ (s : Shared) (H : Hp) (C : Addr) (cl : List (Str × Addr)) (fp : List Addr), PE (X.blk s H scope (compEnvC scope cl C X.env) fp) ek tk) ∧ SimF X.K tk mk := ⟨_, fun s H C cl fp => (hk s H C cl fp).pf, simFOfM⟩
  refine ⟨_, pe_callTy (call_dictT hc hu) hg hm hv (pa_cons (pe_lc hc hN pw ok hgn (fun _ _ _ _ _ => pts_nil) (fun s H C cl fp => pe_tup (pa_cons (hk.1 s H C cl fp) (pa_cons (he s H C cl fp).pe pa_nil (h3 _)) (h2 _))) hs) pa_nil hst) hn hdb hst hpl, simDictLc s hk.2 simOfM hj⟩
end
end Gx

set_option maxHeartbeats 4000000
namespace Gx
open PySem L2 PySem.Spec PyProof.Rows
abbrev setE (w : World) : Obj := { cls := .type "set", dict := none, data := .set #[] 0 (.fresh 0 0 (!w.params.followText "set-order")) }
section
variable {P : Program} {w : World} {A : Around} {E : Value → Shared → Prop}
/-- what set(l) leaves: the set at S, all else kept -/
def SetMade (w : World) (s : Shared) (S : Addr) (ns : List Int) (z : Shared) : Prop :=
  ∃ (g : Heap) (t c : Nat), z = { s with heap := g, toks := t } ∧ SetR w g S (fun j => decide (j ∈ ns)) c ∧ c ≤ ns.length ∧ ∀ b o, b ≠ S → s.heap.get? b = some o → g.get? b = some o
/-- the items of the list are added to the fresh set -/
theorem fill_list {s : Shared} {S l : Addr} {items : Array Value} {ns : List Int} (hA : A.handled = none) (ne : l ≠ S) (fS : s.heap.get? S = some (setE w)) (fl : s.heap.IsList l items) (fi : IntsAre items.toList ns) (fb : ns.length + 1 < scanBound) :
    wpAny (model P w) A.in1 (Builtin.«set.__init__» ⟨[.ref S, .ref l], []⟩) (fun fin z => match fin with
      | .done f => wants (fun r y => r = .none ∧ SetMade w s S ns y) E (.ok f) z
      | .again c => c.quiet = true ∧ codeAny (model P w) A c (wants (fun r y => r = .none ∧ SetMade w s S ns y) E) z)
      (fun e z => wants (fun r y => r = .none ∧ SetMade w s S ns y) E (.error e) z) s := by
  have lt1 : S < s.heap.objs.size := Heap.lt_size fS
  obtain ⟨⟨oc, od, odat, osl⟩, ho, h1, n, h2⟩ := id fl
  have lt2 : l < s.heap.objs.size := Heap.lt_size ho
  dsimp only at h1 h2
  subst h1 h2
  have no1 := F.sub_list_set
  have no2 := F.sub_list_frozenset
  have no3 : (Value.type "list" == Value.type "dict") = false := by decide
  unfold Builtin.«set.__init__» noKeywords Builtin.Frozenset.updateFrom
  generalize eIt : pyIter = It
  wp_walk
  subst eIt
  refine wpAny_pyIter_list fl ?_
  refine wpAny_bind (wpAny_runValue ?_)
  have off : ∀ (b : Addr) (o : Obj), s.heap.get? b = some o → b ≠ s.heap.objs.size := fun b o e => Nat.ne_of_lt (Heap.lt_size e)
  have at_ : ∀ (i : Nat) (v : Value), items[i]? = some v → ∃ k t, ns[i]? = some k ∧ v = .int k t := fun i v e => by
    have q : items.size = ns.length := by have q := IntsAre.length fi; rwa [Array.length_toList] at q
    have hi : i < ns.length := q ▸ (Array.getElem?_eq_some_iff.mp e).1
    obtain ⟨t, e2⟩ := IntsAre.int_at fi i v (by rw [Array.getElem?_toList]; exact e)
    exact ⟨ns[i], t, List.getElem?_eq_getElem hi, by rw [e2, List.getD_eq_getElem?_getD, List.getElem?_eq_getElem hi]; rfl⟩
  have same : items.size = ns.length := by have q := IntsAre.length fi; rwa [Array.length_toList] at q
  have walk := (Walks.list (prog := P) (w := w) (A := A.in1.in1) (by simp [hA]) s.heap.objs.size l (off _ _ ho) items).toS
  refine set_update_ints walk S (by simp only [List.mem_cons, List.not_mem_nil, or_false, not_or]; exact ⟨Nat.ne_of_lt lt1, Ne.symm ne⟩) ns same fb at_ _ 0 _ rfl (Nat.zero_le _) ⟨⟨_, Heap.get?_push_size _ rfl, rfl, rfl⟩, fl.push _⟩ ⟨0, Nat.le_refl 0, setR_new_at (Heap.get?_push_of_some _ fS)⟩ ?_
  rintro ⟨g, gs, dr, tk, os⟩ c mv cl R
  have e1 : gs = s.gens := mv.gens
  have e2 : dr = s.drawn := mv.drawn
  have e3 : os = s.os := mv.os
  subst e1 e2 e3
  refine wpAny_pure (wpAny_pure ⟨rfl, g, tk, c, rfl, R, by rw [← same]; exact cl, fun b o nb e => ?_⟩)
  exact mv.heap b o (by simp only [List.mem_cons, List.not_mem_nil, or_false, not_or]; exact ⟨nb, off _ _ e⟩) (Heap.get?_push_of_some _ e)
/-- set(l) of a list of ints -/
theorem set_of_list {s : Shared} {l : Addr} {items : Array Value} {ns : List Int} {Q : Value → Shared → Prop} (hA : A.handled = none) (fl : s.heap.IsList l items) (fi : IntsAre items.toList ns) (fb : ns.length + 1 < scanBound)
    (fin : ∀ z, SetMade w { s with heap := s.heap.push (setE w) } s.heap.objs.size ns z → Q (.ref s.heap.objs.size) z) : wpAny (model P w) A (call (.type "set") [.ref l]) Q E s := by
  have K := F.called_set
  obtain ⟨mc, mt, chain⟩ := K.mro
  have f1 := K.made
  have f2 := K.sub
  have f3 := K.notType
  have f4 := K.canCreate
  have f5 := F.typeCall_set_1 (.ref l)
  refine wpAny_call (codeAny_of_tree ?_)
  change wpAny _ _ (callAny (.type "set") _) _ _ _
  refine wpAny_pure ⟨Code.quiet_builtin _ (by decide +kernel), codeAny_builtin F.entry_type_call (?_ : wpAny _ _ _ _ _ _)⟩
  rw [Around.under_plain (weight_type_call_type "set" ([.ref l] : List Value) []) rfl]
  repeat any_goals first | assumption | wp_step
  have fS : (s.heap.push (setE w)).get? s.heap.objs.size = some (setE w) := Heap.get?_push_size _ rfl
  have ne : l ≠ s.heap.objs.size := by obtain ⟨o, ho, _⟩ := fl; exact Nat.ne_of_lt (Heap.lt_size ho)
  refine codeAny_mono (code_set_led1 (P := P) (w := w) (.ref l) (E := E) (Q₁ := fun v z => v = .ref s.heap.objs.size ∧ z = { s with heap := s.heap.push (setE w) }) ⟨rfl, rfl⟩) fun r z hz => ?_
  rcases r with e | f
  · exact hz
  cases f <;> first | exact hz.elim | skip
  obtain ⟨rfl, rfl⟩ := hz
  have ty : Shared.TypeIs { s with heap := s.heap.push (setE w) } (.ref s.heap.objs.size) "set" := ⟨_, fS, rfl⟩
  have f6 := K.init.lookup
  have f7 := K.init.bind (.ref s.heap.objs.size)
  repeat any_goals first | assumption | wp_step
  refine codeAny_mono (codeAny_call_builtin (R := wants (fun r y => r = .none ∧ SetMade w { s with heap := s.heap.push (setE w) } s.heap.objs.size ns y) E) K.init.plain F.entry_set_init (check_set_init_1 ty (fill_list (A := A.in1) (by simp [hA]) ne fS (fl.push _) fi fb))) fun r z hz => ?_
  rcases r with e | f
  · exact hz
  cases f <;> first | exact hz.elim | skip
  obtain ⟨rfl, hz⟩ := hz
  repeat any_goals first | assumption | wp_step
  exact fin _ hz
end
section
variable {X : Cx}
/-- set(xs) of a list of ints, few of them -/
def rSetLI (w : World) (K : PySem.W.Frag) : List V → Hp → VK → Prop := fun vs H Q => ∃ (a : Addr) (ns : List Int), vs = [.ref a] ∧ SqL K H a (ns.map V.int) ∧ ns.length < 1000 ∧
  ∀ (p : Addr) (c : Nat), H p = none → c ≤ ns.length → Q (.ref p) (upd H p (SetO w p (fun j => decide (j ∈ ns)) c))
theorem call_setLI (hc : X.calm = true) : CallR X (.type "set") (rSetLI X.w X.K) := by
  intro pins s σ H vs us Q I r h
  obtain ⟨a, ns, rfl, hs, hn, q⟩ := h
  obtain ⟨its, rv, hl, hz⟩ := I.list hs
  rw [Vals.ref1 r]
  refine set_of_list (ns := ns) (I.ok.hd hc) hl.isList (show IntsAre its.toArray.toList ns by rw [List.toList_toArray]; exact ints_of_vals rv) (by unfold scanBound; omega) fun z hz' => ?_
  obtain ⟨g, t, c, rfl, R, hc', k⟩ := hz'
  have hf : H s.heap.objs.size = none := I.hok.fresh (Nat.le_refl _)
  exact ⟨.ref s.heap.objs.size, upd H s.heap.objs.size (SetO X.w s.heap.objs.size (fun j => decide (j ∈ ns)) c), I.laid (t' := t) (fun b o e => k b o (Nat.ne_of_lt (Heap.lt_size e)) (Heap.get?_push_of_some _ e)) (Nat.le_refl _) (setO_new R), rfl, q _ c hf hc'⟩
end
/-! sorted(set(xs)) -/
def intsD : List D → Option (List Int)
  | [] => some []
  | .int i :: r => (intsD r).map (i :: ·)
  | _ => none
theorem intsD_ok {K : PySem.W.Frag} {F : Hp} {μ : List Addr} : ∀ {ds : List D} {ns : List Int} {vs : List V}, intsD ds = some ns → Reps K F μ ds vs → vs = ns.map V.int
  | [], ns, [], h, _ => by cases h; rfl
  | .int i :: r, ns, v :: vs, h, q => by
    unfold intsD at h
    rw [Option.map_eq_some_iff] at h
    obtain ⟨ns', h1, rfl⟩ := h
    have e : v = .int i := q.1
    rw [e, intsD_ok h1 q.2]
    rfl
  | _ :: _, _, [], _, q => q.elim
  | [], _, _ :: _, _, q => q.elim
theorem intsD_dI : ∀ ns : List Int, intsD (ns.map D.int) = some ns
  | [] => rfl
  | n :: ns => by
    show (intsD (ns.map D.int)).map (n :: ·) = _
    rw [intsD_dI ns]; rfl
theorem reps_dI {K : PySem.W.Frag} {F : Hp} {μ : List Addr} : ∀ ns : List Int, Reps K F μ (ns.map D.int) (ns.map V.int)
  | [] => trivial
  | n :: ns => ⟨rfl, reps_dI ns⟩
def onceK (l : List Int) (m : Int) : List Int := if m ∈ l then l else l ++ [m]
def ssI (ns : List Int) : List Int := (ns.foldl onceK []).mergeSort fun i j => decide (i ≤ j)
theorem onceK_mem (l : List Int) (m x : Int) : x ∈ onceK l m ↔ x ∈ l ∨ x = m := by
  unfold onceK
  split
  · rename_i h
    exact ⟨.inl, fun q => q.elim id fun e => e ▸ h⟩
  · simp
theorem onceK_nodup {l : List Int} (h : l.Nodup) (m : Int) : (onceK l m).Nodup := by
  unfold onceK
  split
  · exact h
  · rename_i hm
    rw [List.nodup_append]
    exact ⟨h, by simp, fun a ha b hb e => hm (by rw [List.mem_singleton] at hb; rw [← hb, ← e]; exact ha)⟩
theorem once_go : ∀ (ws l : List Int), (∀ x, x ∈ ws.foldl onceK l ↔ x ∈ l ∨ x ∈ ws) ∧ (l.Nodup → (ws.foldl onceK l).Nodup)
  | [], l => ⟨fun x => by simp, id⟩
  | w :: ws, l => by
    obtain ⟨h1, h2⟩ := once_go ws (onceK l w)
    refine ⟨fun x => ?_, fun h => h2 (onceK_nodup h w)⟩
    rw [List.foldl_cons, h1, onceK_mem]
    simp [or_assoc]
theorem ssI_mem (ns : List Int) (x : Int) : x ∈ ssI ns ↔ x ∈ ns := by
  unfold ssI
  rw [(List.mergeSort_perm _ _).mem_iff, (once_go ns []).1]
  simp
theorem ssI_lt (ns : List Int) : (ssI ns).Pairwise (· < ·) := by
  have h1 : (ssI ns).Pairwise (· ≤ ·) := by
    have := List.pairwise_mergeSort (le := fun i j : Int => decide (i ≤ j)) (fun a b c h1 h2 => by simp only [decide_eq_true_eq] at *; omega) (fun a b => by simp only [Bool.or_eq_true, decide_eq_true_eq]; omega) (ns.foldl onceK [])
    exact this.imp fun h => of_decide_eq_true h
  have h2 : (ssI ns).Nodup := (List.mergeSort_perm _ _).nodup_iff.mpr ((once_go ns []).2 List.nodup_nil)
  exact (List.Pairwise.and h1 h2).imp fun h => by have := h.1; have := h.2; omega
theorem ssI_only {ns ks : List Int} (h : ks.Pairwise (· < ·)) (e : ∀ k, k ∈ ks ↔ k ∈ ns) : ks = ssI ns := by
  refine List.Perm.eq_of_pairwise (le := (· < ·)) (fun a b _ _ h1 h2 => by omega) h (ssI_lt ns) ?_
  have nd : ∀ {l : List Int}, l.Pairwise (· < ·) → l.Nodup := fun q => q.imp fun z => by omega
  exact (List.perm_ext_iff_of_nodup (nd h) (nd (ssI_lt ns))).mpr fun x => by rw [e, ssI_mem]
def f1SortSet : Env → Store → R → Option SO := fun env st x => match asL env st x with
  | some xs => match intsD xs with
    | some ns => if ns.length < 64 then some (.lst ((ssI ns).map .int)) else none
    | none => none
  | none => none
section
variable {X : Cx} {e : Expr} {m : ME} {pos : Pos}
theorem xsortset {x y : Str} {p1 p2 mpos : Pos} (hc : X.calm = true) (hg : Gl X x) (hm : X.mg x = none) (hv : bootBuiltins x = some (.builtin "sorted")) (hg2 : Gl X y) (hm2 : X.mg y = none) (hv2 : bootBuiltins y = some (.type "set")) (he : XE X e m)
    (hn : x ≠ "__name__" := by decide) (hdb : (x == ("__debug__" : Str)) = false := by decide) (hn2 : y ≠ "__name__" := by decide) (hdb2 : (y == ("__debug__" : Str)) = false := by decide)
    (hs1 : starEach (e :: []) X.env = (false, eval e X.env) :: starEach [] X.env := by rfl) (hp1 : (backTo mpos (starEach [] X.env)).any (·.1) = false := by rfl)
    (hs2 : starEach (.Call (.Name y p2) [e] [] mpos :: []) X.env = (false, eval (.Call (.Name y p2) [e] [] mpos) X.env) :: starEach [] X.env := by rfl) (hp2 : (backTo pos (starEach [] X.env)).any (·.1) = false := by rfl) :
    XF X (.Call (.Name x p1) [.Call (.Name y p2) [e] [] mpos] [] pos) (m1F m f1SortSet) := by
  obtain ⟨te, pe, s⟩ := he
  refine ⟨_, pe_callB (cr_sortedSet hc) hg hm hv (pa_cons (pe_callTy (call_setLI hc) hg2 hm2 hv2 (pa_cons pe pa_nil hs1) hn2 hdb2 hs1 hp1) pa_nil hs2) hn hdb hs2 hp2, ?_⟩
  intro σ F μ H env st so st' Q w en h k
  unfold m1F at h
  split at h
  · rename_i x st1 e1
    split at h
    · rename_i so' e2
      cases h
      unfold f1SortSet at e2
      split at e2
      · rename_i xs e3
        split at e2
        · rename_i ns e4
          split at e2
          · rename_i hl
            cases e2
            refine s σ F μ H env st _ _ _ w en e1 fun v F1 μ1 H1 w1 s1 r1 => ?_
            obtain ⟨a, vs, rfl, sq, q⟩ := asL_ok w1 (en.step s1) r1 e3
            rw [intsD_ok e4 q] at sq
            refine ⟨a, ns, rfl, sq, by omega, fun p c hp hcl => ?_⟩
            have w2 := w1.lay0 (o := SetO X.w p (fun j => decide (j ∈ ns)) c) hp
            have s2 : Stp F1 μ1 H1 F1 μ1 (upd H1 p (SetO X.w p (fun j => decide (j ∈ ns)) c)) := Stp.lay0 hp
            refine ⟨p, _, c, rfl, upd_same, by omega, fun ks z hk hm _ hz => ?_⟩
            have e5 : ks = ssI ns := ssI_only hk fun k => by rw [hm]; exact decide_eq_true_iff
            subst e5
            exact k z (.lst ((ssI ns).map V.int)) F1 μ1 _ (w2.lay0 hz) ((s1.trans s2).trans (Stp.lay0 hz)) (fresh_of (s1.trans s2) hz) (w2.Fnone hz) (w2.out hz) upd_same (reps_dI (ssI ns))
          · cases e2
        · cases e2
      · cases e2
    · cases h
  · cases h
end
end Gx

set_option maxHeartbeats 4000000
namespace Gx
open PySem L2 PySem.Spec PyProof.Rows PySem.Calls
open PySem.W (AllAlike Sortable dataLe EachIs alike KeepsBut keyH_end dataKind SortsAt sortVals KeyedOut keyedOut_each sorted_of_sort)
/-! ### sorted(xs, key=f), f a def of the text -/
/-- an item: as data, as a value; its key as data, and as the model's data -/
structure Kt where
  d : D
  v : V
  k : D
  p : PyData
section
variable {X : Cx} {f : Addr} {fd : FuncData} {ps : List Str} {n : Nat} {c : MFn}
theorem key_turn (Fo : FnOk X.prog X.w X.K X.mg X.base CX0 n f fd ps (spM X.K 1 c)) (hb : Binds X.K fd ps []) (hr : Room (n + 2) X.A) {t : Kt} {F1 : Hp} {μ1 : List Addr} {H : Hp} {st : Store} (hd : Rep X.K F1 μ1 t.d t.v) (hc : c [t.d] st = some (t.k, st))
    {pins : List (Addr × Obj)} {σ : L2.St} {H1 : Hp} {s : Shared} {F2 : Hp} {μ2 : List Addr} (I : L2.Inv X pins σ H1 s) (w : Wd X.K F2 μ2 H1 st) (sp : Stp F1 μ1 H F2 μ2 H1) {x : Value} (hx : RelV t.v x) :
    wpAny (model X.prog X.w) X.A.in1.in1 (call (.ref f) [x]) (fun u z => ∃ H2 F3 μ3 kv, L2.Inv X pins σ H2 z ∧ Wd X.K F3 μ3 H2 st ∧ Stp F2 μ2 H1 F3 μ3 H2 ∧ Rep X.K F3 μ3 t.k kv ∧ RelV kv u) (fun _ _ => False) s := by
  have sm : spM X.K 1 c [t.v] H1 (fun v H' => ∃ F' μ', Wd X.K F' μ' H' st ∧ Stp F2 μ2 H1 F' μ' H' ∧ Rep X.K F' μ' t.k v) (fun _ _ _ => False) :=
    ⟨F2, μ2, [t.d], st, t.k, st, w, ⟨sp.rep hd, trivial⟩, rfl, hc, fun v F' μ' H' w' s' r' => ⟨F', μ', w', s', r'⟩⟩
  have ln : [t.v].length = ps.length := Fo.len _ _ _ _ sm
  have b := hb s [x] I.kIn ln
  refine wpAny_call (codeAny_mono (Fo.run X.A.in1.in1 X.stack s H1 ⟨[x], []⟩ [x] [t.v] _ _ hr.in1.in1 I.env0.in1.in1 b (.cons hx .nil) sm) fun r z hq => ?_)
  rcases r with e | fl
  · exact hq.elim
  cases fl <;> first | exact hq.elim | skip
  obtain ⟨v, H2, I2, rv, F', μ', w', s', r'⟩ := I.after hq
  exact ⟨H2, F', μ', v, I2, w', s', r', rv⟩
/-- the key's call, behind the state F1 μ1 H -/
def Turn (X : Cx) (f : Addr) (c : MFn) (F1 : Hp) (μ1 : List Addr) (H : Hp) (st : Store) : Prop :=
  ∀ (t : Kt), Rep X.K F1 μ1 t.d t.v → c [t.d] st = some (t.k, st) → ∀ (pins : List (Addr × Obj)) (σ : L2.St) (H1 : Hp) (s : Shared) (F2 : Hp) (μ2 : List Addr), L2.Inv X pins σ H1 s → Wd X.K F2 μ2 H1 st → Stp F1 μ1 H F2 μ2 H1 → ∀ (x : Value), RelV t.v x →
    wpAny (model X.prog X.w) X.A.in1.in1 (call (.ref f) [x]) (fun u z => ∃ H2 F3 μ3 kv, L2.Inv X pins σ H2 z ∧ Wd X.K F3 μ3 H2 st ∧ Stp F2 μ2 H1 F3 μ3 H2 ∧ Rep X.K F3 μ3 t.k kv ∧ RelV kv u) (fun _ _ => False) s
theorem turn_def (Fo : FnOk X.prog X.w X.K X.mg X.base CX0 n f fd ps (spM X.K 1 c)) (hb : Binds X.K fd ps []) (hr : Room (n + 2) X.A) {F1 : Hp} {μ1 : List Addr} {H : Hp} {st : Store} : Turn X f c F1 μ1 H st :=
  fun _ hd hc _ _ _ _ _ _ I w sp _ hx => key_turn Fo hb hr hd hc I w sp hx
/-- while the keys are asked -/
def KeyAt (X : Cx) (pins : List (Addr × Obj)) (σ : L2.St) (F1 : Hp) (μ1 : List Addr) (H : Hp) (st : Store) (T : List Kt) (a kS : Addr) (e1 : Nat) (i : Nat) (z : Shared) : Prop :=
  ∃ H1 F2 μ2 kA e kv, L2.Inv X (pins ++ [(a, seqObj "list" #[] e1), (kS, seqObj "list" kA e)]) σ H1 z ∧ Wd X.K F2 μ2 H1 st ∧ Stp F1 μ1 H F2 μ2 H1 ∧ Reps X.K F2 μ2 ((T.take i).map (·.k)) kv ∧ Vals kv kA.toList
/-- the key is laid by -/
theorem key_push {pins : List (Addr × Obj)} {σ : L2.St} {H1 : Hp} {s : Shared} {a kS : Addr} {e1 e : Nat} {kA : Array Value} (I : L2.Inv X (pins ++ [(a, seqObj "list" #[] e1), (kS, seqObj "list" kA e)]) σ H1 s) {H0 : Hp} (hne : kS ≠ a) (hfp : FpOk X pins H0 kS) (v : Value) :
    ∃ e2, L2.Inv X (pins ++ [(a, seqObj "list" #[] e1), (kS, seqObj "list" (kA.push v) e2)]) σ H1 { s with heap := s.heap.update kS (Obj.mapSeq (·.push v)) } := by
  have pk := I.pin (kS, seqObj "list" kA e) (by simp)
  have pa := I.pin (a, seqObj "list" #[] e1) (by simp)
  obtain ⟨e2, he2⟩ : ∃ e2, (s.heap.update kS (Obj.mapSeq (·.push v))).get? kS = some (seqObj "list" (kA.push v) e2) := ⟨_, get?_update_seq pk.1 (·.push v)⟩
  have sb := Heap.SameBut.update s.heap kS (Obj.mapSeq (·.push v))
  have I0 : L2.Inv X (pins ++ [(a, seqObj "list" #[] e1)]) σ H1 s := I.pins_of fun p hp => by
    refine I.pin p (List.mem_append_right _ ?_)
    simp only [List.mem_append, List.mem_cons, List.not_mem_nil, or_false] at hp ⊢
    rcases hp with hp | hp
    · exact .inl hp
    · exact .inr (.inl hp)
  have I1 : L2.Inv X (pins ++ [(a, seqObj "list" #[] e1)]) σ H1 { s with heap := s.heap.update kS (Obj.mapSeq (·.push v)) } :=
    I0.turned (t' := s.toks) (fun b o nb eo => (sb.2 b nb).trans eo) pk.2.1 hfp.2.1 hfp.2.2.2.1 hfp.2.2.2.2.1 fun p hp => by
      rcases List.mem_append.mp hp with hp | hp
      · exact hfp.2.2.2.2.2 p (List.mem_append_left _ hp)
      · rcases List.mem_append.mp hp with hp | hp
        · exact hfp.2.2.2.2.2 p (List.mem_append_right _ hp)
        · rw [List.mem_singleton.mp hp]; exact Ne.symm hne
  refine ⟨e2, I1.pins_of fun p hp => ?_⟩
  have hp : p ∈ (pins ++ [(a, seqObj "list" #[] e1)]) ∨ p = (kS, seqObj "list" (kA.push v) e2) := by
    simp only [List.mem_append, List.mem_cons, List.not_mem_nil, or_false] at hp ⊢
    rcases hp with hp | hp | hp
    · exact .inl (.inl hp)
    · exact .inl (.inr hp)
    · exact .inr hp
  rcases hp with hp | rfl
  · exact I1.pin p (List.mem_append_right _ hp)
  · exact ⟨he2, pk.2.1, hfp.2.1, hfp.2.2.1, fun v z => nomatch z⟩
theorem each_under {α β γ : Type} {R : α → γ → Prop} {g : β → γ} : ∀ {us : List α} {xs : List β}, EachIs (fun v b => R v (g b)) us xs → EachIs R us (xs.map g)
  | _, _, .nil => .nil
  | _, _, .cons h t => .cons h (each_under t)
theorem key_rest (hr : Room (n + 2) X.A) {T : List Kt} {its : List Value} {F1 : Hp} {μ1 : List Addr} {H H0 : Hp} {st : Store} (Tn : Turn X f c F1 μ1 H st) {pins : List (Addr × Obj)} {σ : L2.St} {s : Shared} {a kS : Addr} {e1 : Nat} {E : Value → Shared → Prop} {P : PySem.Fin → Shared → Prop}
    (hits : EachIs (fun (v : Value) (t : Kt) => RelV t.v v) its T) (hT : ∀ t ∈ T, Rep X.K F1 μ1 t.d t.v ∧ c [t.d] st = some (t.k, st)) (hP : toPs dr0 (T.map (·.k)) = some (T.map (·.p))) (hal : AllAlike (T.map (·.p))) (hsk : Sortable (T.map (·.p))) (hdp : ∀ d ∈ T.map (·.p), d.depth ≤ 60)
    (hz : its.length ≤ sizeLine) (hne : kS ≠ a) (hfk : FpOk X pins H0 kS) (h0 : KeyAt X pins σ F1 μ1 H st T a kS e1 0 s)
    (fin : ∀ (z : Shared) (H1 F2 : Hp) (μ2 : List Addr) (h3 : Heap) (tk : Tok) (out : List Value) (m : Nat), L2.Inv X pins σ H1 z → Wd X.K F2 μ2 H1 st → Stp F1 μ1 H F2 μ2 H1 → H1 a = none → H1 kS = none → (∀ b o, b ≠ a → b ≠ kS → z.heap.get? b = some o → h3.get? b = some o) →
      h3.get? a = some (seqObj "list" out.toArray m) → EachIs (fun (v : Value) (t : Kt) => RelV t.v v) out (T.mergeSort (dataLe false (·.p))) → P (.done (.ret .none)) { z with heap := h3, toks := tk }) :
    wpAny (model X.prog X.w) X.A.in1.in1 (ksk_rest a (.ref f) false its.toArray e1 (.ref kS)) P E s := by
  have hlen : its.length = T.length := hits.length
  unfold ksk_rest
  refine wpAny_bind (wpAny_rule ?_)
  rw [List.forIn_toArray]
  refine wpAny_bind (ksk_fold (fun i z => KeyAt X pins σ F1 μ1 H st T a kS e1 i z) its 0 s h0 ?step ?done)
  case step =>
    rintro j x z hx ⟨H1, F2, μ2, kA, e, kv, I, w, sp, rk, vk⟩
    rw [Nat.zero_add] at rk ⊢
    have hj : j < its.length := (List.getElem?_eq_some_iff.mp hx).1
    have hj2 : j < T.length := by omega
    have htj : T[j]? = some T[j] := List.getElem?_eq_getElem hj2
    have hxt : RelV T[j].v x := hits.zip (x, T[j]) (List.mem_of_getElem? (i := j) (by rw [List.getElem?_zip_eq_some]; exact ⟨hx, htj⟩))
    obtain ⟨q1, q2⟩ := hT T[j] (List.getElem_mem hj2)
    refine wpAny_bind (wpAny_attempt (wpAny_mono (Tn _ q1 q2 _ _ _ _ _ _ I w sp _ hxt) (fun u z2 he => ?_) fun _ _ hF => hF.elim))
    obtain ⟨H2, F3, μ3, y, I2, w2, sp2, ry, ru⟩ := he
    dsimp only
    have nk : z2.heap.get? kS = some (seqObj "list" kA e) := (I2.pin (kS, seqObj "list" kA e) (by simp)).1
    have sz : kA.size ≤ j := by
      have l1 := vk.length
      have l2 := rk.length
      rw [List.length_map, List.length_take] at l2
      have l3 : kA.toList.length = kA.size := by simp
      have l4 := rk.length
      have l5 : kv.length = kA.toList.length := Paired.length vk
      omega
    obtain ⟨e2, I3⟩ := key_push I2 hne hfk u
    refine wpAny_bind (listUpdate_at nk rfl ?_ (by omega) (by rw [Array.size_push]; omega))
    refine wpAny_pure ⟨rfl, H2, F3, μ3, kA.push u, e2, kv ++ [y], I3, w2, sp.trans sp2, ?_, ?_⟩
    · rw [List.take_add_one, htj, Option.toList_some, List.map_append]
      exact (sp2.reps rk).append ⟨ry, trivial⟩
    · rw [Array.toList_push]
      exact vk.append (.cons ru .nil)
  case done =>
    rintro z ⟨H1, F2, μ2, kA, e, kv, I, w, sp, rk, vk⟩
    rw [Nat.zero_add, hlen, List.take_length] at rk
    have nk := I.pin (kS, seqObj "list" kA e) (by simp)
    have na := I.pin (a, seqObj "list" #[] e1) (by simp)
    have hsz : kA.size = its.length := by
      have l1 := vk.length
      have l2 := rk.length
      rw [List.length_map] at l2
      have l3 : kA.toList.length = kA.size := by simp
      have l4 := rk.length
      have l5 : kv.length = kA.toList.length := Paired.length vk
      omega
    obtain ⟨U, u1, u2, u3, u4⟩ := three w (T.map (·.k)) kv (T.map (·.p)) rk hP
    have ev := (each_vals I (U.map fun t => (t.2.1, t.2.2)) kA.toList (by rw [List.map_map]; rw [← u2] at vk; exact vk) (fun y hy => by
      obtain ⟨t, ht, rfl⟩ := List.mem_map.mp hy
      exact (u4 t ht).2)).2
    have hk' : EachIs (fun (v : Value) (d : PyData) => ∃ as, Reads z.heap v d as) kA.toList (T.map (·.p)) := by
      have := each_under (R := fun (v : Value) (d : PyData) => ∃ as, Reads z.heap v d as) (g := fun b : V × PyData => b.2) ev
      rw [List.map_map] at this
      rw [← u3]
      exact this
    refine wpAny_bind (listItems_at nk.1 rfl ?_)
    refine keyH_end (κ := dataKind z.heap (T.map (·.p))) (h₁ := PySem.W.hideAll z.heap [kS]) (fun b o _ eo => PySem.W.of_hideAll _ eo) (PySem.W.hideAll_none _ (by simp)) nk.1 na.1 hne (SortsAt.data hk' hal hsk (fun d hd => by
      have := hr.in1.in1.units
      have := hdp d hd
      omega)) hsz hz fun h3 tk m k3 n3 => ?_
    refine fin z H1 F2 μ2 h3 tk _ m (I.pins_of fun p hp => I.pin p (List.mem_append_right _ (List.mem_append_left _ hp))) w sp na.2.1 nk.2.1 (fun b o nb nk' eo => k3 b o nb (PySem.W.hideAll_get _ eo (by simpa using nk'))) n3 ?_
    exact keyedOut_each (fun t : Kt => t.p) ⟨z.heap, kA.toList, hal, rfl, hk'⟩ hits
theorem each_of_vals : ∀ {T : List Kt} {us : List Value}, Vals (T.map (·.v)) us → EachIs (fun (v : Value) (t : Kt) => RelV t.v v) us T
  | [], us, h => by cases h; exact .nil
  | t :: T, us, h => by
    rw [List.map_cons] at h
    cases h with
    | cons a b => exact .cons a (each_of_vals b)
theorem vals_of_each : ∀ {T : List Kt} {us : List Value}, EachIs (fun (v : Value) (t : Kt) => RelV t.v v) us T → Vals (T.map (·.v)) us
  | _, _, .nil => .nil
  | _, _, .cons a b => .cons a (vals_of_each b)
/-- the sorted list, behind the sort -/
theorem sort_done {pins : List (Addr × Obj)} {σ : L2.St} {H1 H0 : Hp} {z : Shared} {a kS : Addr} {h3 : Heap} {tk : Tok} {out : List Value} {m : Nat} {ys : List V} (I : L2.Inv X pins σ H1 z) (nA : H1 a = none) (nK : H1 kS = none) (fa : FpOk X pins H0 a) (fk : FpOk X pins H0 kS)
    (k3 : ∀ b o, b ≠ a → b ≠ kS → z.heap.get? b = some o → h3.get? b = some o) (n3 : h3.get? a = some (seqObj "list" out.toArray m)) (hv : Vals ys out) (hl : ys.length ≤ sizeLine) :
    L2.Inv X pins σ (upd H1 a (.lst ys)) { z with heap := h3, toks := tk } := by
  have nb : ∀ {b : Addr} {u : HO}, H1 b = some u → b ≠ a ∧ b ≠ kS := fun e => ⟨(fun q => by rw [q, nA] at e; cases e), (fun q => by rw [q, nK] at e; cases e)⟩
  have ch2 : ∀ {b : Addr}, b ∉ [a, kS] → b ≠ a ∧ b ≠ kS := fun h => ⟨fun q => h (by simp [q]), fun q => h (by simp [q])⟩
  have up : ∀ {b : Addr} {u : HO}, H1 b = some u → upd H1 a (.lst ys) b = some u := fun e => by rw [upd_ne (nb e).1]; exact e
  refine I.call (ch := [a, kS]) (g' := z.gens) (d' := z.drawn) (t' := tk) ⟨fun b o e n _ hx => k3 b o (ch2 hx).1 (ch2 hx).2 e, fun b o e n _ hx => ⟨o.slots, k3 b o (ch2 hx).1 (ch2 hx).2 e⟩, fun b o e n hx => by rw [upd_ne (ch2 hx).1]; exact n,
    fun b o e hx => ⟨o, k3 b o (ch2 hx).1 (ch2 hx).2 e⟩, fun b xs e => up e, fun b o u e => up e, fun b qs e => ⟨#[], by rw [up e]; simp⟩⟩ ?_ I.bare ?_
  · intro b u e
    by_cases q : b = a
    · subst q
      rw [upd_same] at e
      cases e
      exact ⟨hl, out, m, hv, n3⟩
    · rw [upd_ne q] at e
      refine (I.hok b u e).stay (fun d v hc r => k3 d v ?_ ?_ r) (fun _ r => up r) fun _ _ r => up r
      · rcases hc with rfl | hc
        · exact q
        · exact (nb hc).1
      · rcases hc with rfl | hc
        · exact (nb e).2
        · exact (nb hc).2
  · intro b hb
    simp only [List.mem_cons, List.not_mem_nil, or_false] at hb
    rcases hb with rfl | rfl
    · exact ⟨fa.2.2.2.1, fa.2.1, fa.2.2.2.2.1, fa.2.2.2.2.2⟩
    · exact ⟨fk.2.2.2.1, fk.2.1, fk.2.2.2.2.1, fk.2.2.2.2.2⟩
def rSortK (X : Cx) (c : MFn) : List V → List V → Hp → VK → Prop := fun xs zs H Q => ∃ (a f : Addr) (T : List Kt) (F1 : Hp) (μ1 : List Addr) (st : Store), xs = [.ref a] ∧ zs = [.ref f] ∧ Turn X f c F1 μ1 H st ∧ Wd X.K F1 μ1 H st ∧ SqL X.K H a (T.map (·.v)) ∧
  (∀ t ∈ T, Rep X.K F1 μ1 t.d t.v ∧ c [t.d] st = some (t.k, st)) ∧ toPs dr0 (T.map (·.k)) = some (T.map (·.p)) ∧ AllAlike (T.map (·.p)) ∧ Sortable (T.map (·.p)) ∧ (∀ d ∈ T.map (·.p), d.depth ≤ 60) ∧
  ∀ F2 μ2 H2 p, Wd X.K F2 μ2 H2 st → Stp F1 μ1 H F2 μ2 H2 → H2 p = none → H p = none → Q (.ref p) (upd H2 p (.lst ((T.mergeSort (dataLe false (·.p))).map (·.v))))
theorem call_sortK (hr : Room (n + 2) X.A) : CallRK X (.builtin "sorted") [Str.ofString "key"] (rSortK X c) := by
  intro pins s σ H xs zs us ws Q I r rz h
  obtain ⟨a0, f, T, F1, μ1, st, rfl, rfl, Tn, w, sq, hT, hP, hal, hsk, hdp, q⟩ := h
  obtain rfl := Vals.ref1 r
  obtain rfl := Vals.ref1 rz
  obtain ⟨its, rv, hl, hz0⟩ := I.list sq
  have hits := each_of_vals rv
  have hz : its.length ≤ sizeLine := by rw [hits.length, ← List.length_map (f := fun t : Kt => t.v)]; exact hz0
  refine sorted_of_sort (vs := its) hl.isList hz (ksk_s1 _ _) (fun _ => ksk_l1 _ _) fun E' => ?_
  show wpAny _ _ (Builtin.«list.sort» ⟨[.ref (s.heap.objs.size + 1)], [(Str.ofString "key", .ref f)]⟩) _ _ _
  rw [ksk_t1]
  have ho := PySem.W.copyHeap_at s.heap its
  generalize ha : s.heap.objs.size + 1 = a at ho ⊢
  have la : s.heap.objs.size ≤ a := by omega
  obtain ⟨e1, ho1⟩ : ∃ e1, ((PySem.W.copyHeap s.heap its).update a (Obj.mapSeq fun _ => (#[] : Array Value))).get? a = some (seqObj "list" #[] e1) := ⟨_, get?_update_seq ho fun _ => #[]⟩
  have sb := Heap.SameBut.update (PySem.W.copyHeap s.heap its) a (Obj.mapSeq fun _ => (#[] : Array Value))
  unfold ksk_tree
  refine wpAny_bind (listItems_at ho rfl ?_)
  refine wpAny_bind (listUpdate_at ho rfl ?_ (by rw [List.size_toArray]; exact hz) (Nat.zero_le _))
  refine wpAny_bind (seqEpoch_at ho1 rfl ?_)
  refine wpAny_bind (wpAny_newTuple ?_ (by show its.length ≤ _; exact hz))
  refine wpAny_bind (wpAny_newList ?_ (Nat.zero_le _))
  refine wpAny_holding ?_
  have off : ∀ b o, s.heap.get? b = some o → b ≠ a := fun b o e => Nat.ne_of_lt (Nat.lt_of_lt_of_le (Heap.lt_size e) la)
  have la2 : a < ((PySem.W.copyHeap s.heap its).update a (Obj.mapSeq fun _ => (#[] : Array Value))).objs.size := Heap.lt_size ho1
  generalize hg : ((PySem.W.copyHeap s.heap its).update a (Obj.mapSeq fun _ => (#[] : Array Value))).push (seqObj "tuple" its.toArray 0) = g
  have g1 : g.get? a = some (seqObj "list" #[] e1) := by rw [← hg]; exact Heap.get?_push_of_some _ ho1
  have gk : ∀ b o, s.heap.get? b = some o → g.get? b = some o := fun b o e => by
    rw [← hg]; exact Heap.get?_push_of_some _ ((sb.2 b (off b o e)).trans (PySem.W.copyHeap_old e))
  have lk : a < g.objs.size := Heap.lt_size g1
  have I1 : L2.Inv X pins σ H { s with heap := g.push (seqObj "list" #[] 0) } := I.kept (t' := s.toks) fun b o e => Heap.get?_push_of_some _ (gk b o e)
  have fa : FpOk X pins H a := I.fpOk la (I.hok.fresh la)
  have fk : FpOk X pins H g.objs.size := I.fpOk (Nat.le_trans la (Nat.le_of_lt lk)) (I.hok.fresh (Nat.le_trans la (Nat.le_of_lt lk)))
  have I2 : L2.Inv X (pins ++ [(a, seqObj "list" #[] e1), (g.objs.size, seqObj "list" #[] 0)]) σ H { s with heap := g.push (seqObj "list" #[] 0) } := I1.pins_of fun p hp => by
    simp only [List.mem_append, List.mem_cons, List.not_mem_nil, or_false] at hp
    rcases hp with hp | rfl | rfl
    · exact I1.pin p (List.mem_append_right _ hp)
    · exact ⟨Heap.get?_push_of_some _ g1, fa.1, fa.2.1, fa.2.2.1, fun v q => nomatch q⟩
    · exact ⟨Heap.get?_push_size _ rfl, fk.1, fk.2.1, fk.2.2.1, fun v q => nomatch q⟩
  refine key_rest hr Tn hits hT hP hal hsk hdp hz (Nat.ne_of_gt lk) fk ⟨H, F1, μ1, #[], 0, [], I2, w, Stp.refl, trivial, .nil⟩ fun z H1 F2 μ2 h3 tk out m Iz wz spz nA nK k3 n3 ev => ⟨rfl, ?_⟩
  refine ⟨.ref a, _, sort_done Iz nA nK fa fk k3 n3 (vals_of_each ev) ?_, rfl, q F2 μ2 H1 a wz spz nA (I.hok.fresh la)⟩
  rw [List.length_map, List.length_mergeSort, ← hits.length]
  exact hz
end
def keysM (c : MFn) (st : Store) : List D → Option (List D)
  | [] => some []
  | d :: ds => match c [d] st with
    | some (k, st') => if st' = st then (keysM c st ds).map (k :: ·) else none
    | none => none
def mSortK (m : ME) (c : MFn) : MF := fun env st => match m env st with
  | some (x, st1) => match asL env st1 x with
    | some ds => match keysM c st1 ds with
      | some ks => match toPs dr0 ks with
        | some ps => if sortOk ps then some (.lst (((ds.zip ps).mergeSort (dataLe false (·.2))).map (·.1)), st1) else none
        | none => none
      | none => none
    | none => none
  | none => none
theorem four {K : PySem.W.Frag} {F : Hp} {μ : List Addr} {c : MFn} {st : Store} : ∀ (ds : List D) (vs : List V) (ks : List D) (ps : List PyData), Reps K F μ ds vs → keysM c st ds = some ks → toPs dr0 ks = some ps →
    ∃ T : List Kt, T.map (·.d) = ds ∧ T.map (·.v) = vs ∧ T.map (·.k) = ks ∧ T.map (·.p) = ps ∧ ∀ t ∈ T, Rep K F μ t.d t.v ∧ c [t.d] st = some (t.k, st)
  | [], [], ks, ps, _, h1, h2 => by
    cases h1
    simp only [toPs] at h2
    cases h2
    exact ⟨[], rfl, rfl, rfl, rfl, fun _ h => nomatch h⟩
  | d :: ds, v :: vs, ks, ps, r, h1, h2 => by
    unfold keysM at h1
    split at h1
    · rename_i k st' e
      split at h1
      · rename_i es
        subst es
        rw [Option.map_eq_some_iff] at h1
        obtain ⟨ks', h1, rfl⟩ := h1
        simp only [toPs] at h2
        split at h2
        · rename_i p e2
          rw [Option.map_eq_some_iff] at h2
          obtain ⟨ps', h2, rfl⟩ := h2
          obtain ⟨T, t1, t2, t3, t4, t5⟩ := four ds vs ks' ps' r.2 h1 h2
          refine ⟨⟨d, v, k, p⟩ :: T, by simp [t1], by simp [t2], by simp [t3], by simp [t4], fun t ht => ?_⟩
          rcases List.mem_cons.mp ht with rfl | ht
          · exact ⟨r.1, e⟩
          · exact t5 t ht
        · cases h2
      · cases h1
    · cases h1
  | [], _ :: _, _, _, r, _, _ => r.elim
  | _ :: _, [], _, _, r, _, _ => r.elim
theorem reps_kt {K : PySem.W.Frag} {F : Hp} {μ : List Addr} : ∀ T : List Kt, (∀ t ∈ T, Rep K F μ t.d t.v) → Reps K F μ (T.map (·.d)) (T.map (·.v))
  | [], _ => trivial
  | t :: T, h => ⟨h t (by simp), reps_kt T fun x hx => h x (by simp [hx])⟩
section
variable {X : Cx} {e : Expr} {m : ME} {pos : Pos}
theorem xsortkey {x g : Str} {p p2 kpos : Pos} {j k : Nat} {c : MFn} (F : Fn X.prog X.w X.K X.mg X.base k g 1 c) (hr : Room j X.A) (hkj : k + 2 ≤ j) (hgg : Gl X g) (hg : Gl X x) (hm : X.mg x = none) (hv : bootBuiltins x = some (.builtin "sorted")) (ha : XE X e m)
    (hd : (g == ("__debug__" : Str)) = false := by decide) (hn : x ≠ "__name__" := by decide) (hdb : (x == ("__debug__" : Str)) = false := by decide)
    (he : starEach (e :: []) X.env = (false, eval e X.env) :: starEach [] X.env := by rfl) (he2 : backTo pos (starEach (e :: []) X.env) = (false, eval e X.env) :: backTo pos (starEach [] X.env) := by rfl) (hpl : (backTo pos (starEach (e :: []) X.env)).any (·.1) = false := by rfl)
    (hall : (backToKw pos (keywordEach [⟨some "key", .Name g p2, kpos⟩] X.env)).all (·.1.isSome) = true := by rfl) (hnone : (backToKw pos (keywordEach [⟨some "key", .Name g p2, kpos⟩] X.env)).any (·.1.isNone) = false := by rfl)
    (hks : (backToKw pos (keywordEach [⟨some "key", .Name g p2, kpos⟩] X.env)).filterMap (·.1) = [Str.ofString "key"] := by rfl) :
    XF X (.Call (.Name x p) [e] [⟨some "key", .Name g p2, kpos⟩] pos) (mSortK m c) := by
  obtain ⟨f, fd, ps, Fo, hmg, _, hb⟩ := F
  obtain ⟨t, pe, s⟩ := ha
  refine ⟨_, pe_callBK (call_sortK (c := c) (hr.mono hkj)) hg hm hv (pa_cons pe pa_nil he) (pk_cons (pe_glob (v := .ref f) hgg hmg rfl hd) pk_nil) hn hdb he2 hpl hall hnone hks, ?_⟩
  intro σ F μ H env st so st' Q w en h kk
  unfold mSortK at h
  split at h
  · rename_i x st1 e1
    split at h
    · rename_i ds e2
      split at h
      · rename_i ks e3
        split at h
        · rename_i qs e4
          split at h
          · rename_i hso
            cases h
            refine s σ F μ H env st _ _ _ w en e1 fun v F1 μ1 H1 w1 s1 r1 => ?_
            obtain ⟨a, vs, rfl, sq, q⟩ := asL_ok w1 (en.step s1) r1 e2
            obtain ⟨T, t1, t2, t3, t4, t5⟩ := four ds vs ks qs q e3 e4
            obtain ⟨hal, hsk, hdp⟩ := sortOk_ok hso
            refine ⟨a, f, T, F1, μ1, _, rfl, rfl, turn_def Fo hb (hr.mono hkj), w1, by rw [t2]; exact sq, t5, by rw [t3, t4]; exact e4, by rw [t4]; exact hal, by rw [t4]; exact hsk, by rw [t4]; exact hdp, fun F2 μ2 H2 z w2 s2 hz hz1 => ?_⟩
            have z1 : ds.zip qs = T.map fun t => (t.d, t.p) := by rw [← t1, ← t4]; exact zip_map _ _ T
            have z2 : ((ds.zip qs).mergeSort (dataLe false (·.2))).map (·.1) = (T.mergeSort (dataLe false (·.p))).map (·.d) := by
              rw [z1, ← List.map_mergeSort (f := fun t : Kt => (t.d, t.p)) (r := dataLe false (·.p)) (fun _ _ _ _ => rfl), List.map_map]
              rfl
            have rr : Reps X.K F2 μ2 ((T.mergeSort (dataLe false (·.p))).map (·.d)) ((T.mergeSort (dataLe false (·.p))).map (·.v)) :=
              reps_kt _ fun t ht => s2.rep (t5 t ((List.mergeSort_perm _ _).mem_iff.mp ht)).1
            rw [z2] at kk
            exact kk z (.lst _) F2 μ2 _ (w2.lay0 hz) ((s1.trans s2).trans (Stp.lay0 hz)) (fresh_of (s1.trans s2) hz) (w2.Fnone hz) (w2.out hz) upd_same rr
          · cases h
        · cases h
      · cases h
    · cases h
  · cases h
end
end Gx

set_option maxHeartbeats 4000000
namespace Gx
open PySem L2 PySem.Spec PyProof.Rows PySem.Calls LamX
open PySem.W (AllAlike Sortable dataLe EachIs)
/-! ### sorted(xs, key=lambda x: ..), a lambda that captures nothing -/
/-- the lambda's object -/
def LamO (q : Str) (params : Arguments) (body : Expr) (scope : Scope) (c f : Addr) : HO := .ext fun h => ∃ (pm ctv : Value), h.get? f = some (PySem.W.kla_obj "<lambda>" q params body scope [] pm c ctv)
structure LamStep (H : Hp) (P : Addr) (q : Str) (lo : Addr → Addr → HO) (ps : Array Value) (f c' : Addr) (ps' : Array Value) (H1 : Hp) : Prop where
  keep : ∀ b o, b ≠ P → H b = some o → H1 b = some o
  tab : H1 P = some (.tbl ps')
  tri : TriplesOk ps'.toList
  am : ∀ (pos : Pos) (cv : Value), codeAmong pos ps'.toList = some cv → codeAmong pos ps.toList = some cv ∨ cv = .ref c'
  cc : H c' = none ∨ ∃ pos, codeAmong pos ps.toList = some (.ref c')
  nf : H f = none
  fc : f ≠ c'
  of : H1 f = some (lo c' f)
  oc : H1 c' = some (CodeO c' q)
theorem cloFrom_nil (cells : List (Str × Addr)) : ∀ (names : List (Str × NameKind)) (acc : List (Str × Addr)), (∀ y ∈ names, y.2 ≠ .free) → cloFrom cells names acc = acc
  | [], _, _ => rfl
  | (n, k) :: r, acc, h => by
    have hk : k ≠ .free := h (n, k) (by simp)
    unfold cloFrom
    rw [if_neg (by simpa using hk)]
    exact cloFrom_nil cells r acc fun y hy => h y (by simp [hy])
section
variable {X : Cx} {pins : List (Addr × Obj)} {σ : L2.St} {H : Hp} {s : Shared}
theorem inv_lam {q : Str} {params : Arguments} {body : Expr} {scope : Scope} {c : Addr} {t' : Nat} {pm ctv : Value} (I : L2.Inv X pins σ H s) :
    L2.Inv X pins σ (upd H s.heap.objs.size (LamO q params body scope c s.heap.objs.size)) { s with heap := s.heap.push (PySem.W.kla_obj "<lambda>" q params body scope [] pm c ctv), toks := t' } := by
  refine I.laid (a := s.heap.objs.size) (fun b u e => Heap.get?_push_of_some _ e) (Nat.le_refl _) ?_
  have e : (s.heap.push (PySem.W.kla_obj "<lambda>" q params body scope [] pm c ctv)).get? s.heap.objs.size = some (PySem.W.kla_obj "<lambda>" q params body scope [] pm c ctv) := Heap.get?_push_size _ rfl
  exact ⟨⟨pm, ctv, e⟩, ⟨_, e⟩, fun h1 h2 ⟨pm, ctv, z⟩ st => ⟨pm, ctv, st _ z⟩⟩
theorem lam_make3 {c P : Addr} {q : Str} {ps : Array Value} {params : Arguments} {body : Expr} {scope : Scope} {pos : Pos} {E : Value → Shared → Prop} {Q : Value → Shared → Prop} (I : L2.Inv X pins σ H s) (TB : TabB X.base X.mg c P) (hcode : X.env.code = .ref c) (hq : X.env.qual ++ "<lambda>" = q)
    (hP : H P = some (.tbl ps)) (ht : TriplesOk ps.toList) (ha : ∀ (pos : Pos) (cv : Value), codeAmong pos ps.toList = some cv → ∃ c, cv = .ref c ∧ H c = some (CodeO c q)) (hdef : defaultsOf params X.env = ([], [])) (hnof : ∀ y ∈ scope.names, y.2 ≠ .free)
    (h : ∀ (f c' : Addr) (ps' : Array Value) (H1 : Hp) (s' : Shared), L2.Inv X pins σ H1 s' → LamStep H P q (LamO q params body scope) ps f c' ps' H1 → Q (.ref f) s') :
    wpAny (model X.prog X.w) X.A (eval (.Lambda params body scope pos) X.env) Q E s := by
  refine PySem.W.kla_eval hdef ?_
  rw [hq]
  have hcl : closureFor scope X.env = pure [] := by
    rw [closure_ok fun y hy e => absurd e (hnof y hy), cloFrom_nil _ _ _ hnof]
  have bP : s.heap.BuiltinsAt X.mg P := TB.bm.keeps I.bk
  have hP' : s.heap.get? P = some { cls := .none, data := .fields ps } := I.hok P _ hP
  cases hc : codeAmong pos ps.toList with
  | none =>
    refine PySem.W.kla_makeFunction (mg := X.mg) (c := c) (P := P) (ps := ps) hcl I.ok.glob (I.mod.glob.keeps I.bk) hcode (TB.code.keeps I.bk) hP' ht hc TB.gP bP fun c' ctv h' tk hx hge hlt hrec htb => ?_
    obtain ⟨c2, oc, vs, t, e2, hoc, hd, hv⟩ := hrec
    cases e2
    have nC : H c' = none := I.hok.fresh hge
    have I1 := inv_table (t' := tk) (more := #[rawInt pos.line, rawInt pos.col, .ref c']) (h' := h') I hP (fun b o hb e => hx b o hb e) htb hge ⟨oc, vs, t, hoc, hd, hv⟩
    have I2 := inv_lam (q := q) (params := params) (body := body) (scope := scope) (c := c') (t' := tk) (pm := (X.mg "__name__").getD .none) (ctv := ctv) I1
    have hsz : s.heap.objs.size ≤ h'.objs.size := Nat.le_trans hge (Nat.le_of_lt hlt)
    have nF : H h'.objs.size = none := I.hok.fresh hsz
    have nPc : P ≠ c' := ne_of_none hP nC
    have nPf : P ≠ h'.objs.size := ne_of_none hP nF
    have ncf : c' ≠ h'.objs.size := Nat.ne_of_lt hlt
    refine h h'.objs.size c' (ps ++ #[rawInt pos.line, rawInt pos.col, .ref c']) _ _ I2 ⟨fun b o hb e => ?_, ?_, ?_, fun p' cv hcv => ?_, .inl nC, nF, Ne.symm ncf, upd_same, ?_⟩
    · rw [upd_ne (ne_of_none e nF), upd_ne (ne_of_none e nC), upd_ne hb]; exact e
    · rw [upd_ne nPf, upd_ne nPc, upd_same]
    · have eL : (ps ++ #[rawInt pos.line, rawInt pos.col, .ref c']).toList = ps.toList ++ [rawInt pos.line, rawInt pos.col, .ref c'] := by simp
      rw [eL]; exact PySem.TriplesOk_snoc _ _ _ _ ht
    · have eL : (ps ++ #[rawInt pos.line, rawInt pos.col, .ref c']).toList = ps.toList ++ [rawInt pos.line, rawInt pos.col, .ref c'] := by simp
      rw [eL] at hcv
      exact among_app _ ht hcv
    · rw [upd_ne ncf, upd_same]
  | some cv =>
    obtain ⟨c', e, hco⟩ := ha pos cv hc
    subst e
    refine PySem.W.kla_makeFunctionHit (mg := X.mg) (c := c) (P := P) (ps := ps) hcl I.ok.glob (I.mod.glob.keeps I.bk) hcode (TB.code.keeps I.bk) hP' ht hc bP fun ctv h' tk hx hsz => ?_
    have I1 : L2.Inv X pins σ H { s with heap := h', toks := tk } := I.kept hx
    have I2 := inv_lam (q := q) (params := params) (body := body) (scope := scope) (c := c') (t' := tk) (pm := (X.mg "__name__").getD .none) (ctv := ctv) I1
    have nF : H h'.objs.size = none := I1.hok.fresh (Nat.le_refl _)
    refine h h'.objs.size c' ps _ _ I2 ⟨fun b o hb e => ?_, ?_, ht, fun p' cv hcv => .inl hcv, .inr ⟨pos, hc⟩, nF, Ne.symm (ne_of_none hco nF), upd_same, ?_⟩
    · rw [upd_ne (ne_of_none e nF)]; exact e
    · rw [upd_ne (ne_of_none hP nF)]; exact hP
    · rw [upd_ne (ne_of_none hco nF)]; exact hco
end
def tLam (P : Addr) (q : Str) (lo : Addr → Addr → HO) : TE := fun _ H Q => ∃ ps : Array Value, H P = some (.tbl ps) ∧ TriplesOk ps.toList ∧ (∀ (pos : Pos) (cv : Value), codeAmong pos ps.toList = some cv → ∃ c, cv = .ref c ∧ H c = some (CodeO c q)) ∧
  ∀ (f c' : Addr) (ps' : Array Value) (H1 : Hp), LamStep H P q lo ps f c' ps' H1 → Q (.ref f) H1
theorem pe_lam {X : Cx} {c P : Addr} {q : Str} {params : Arguments} {body : Expr} {scope : Scope} {pos : Pos} (TB : TabB X.base X.mg c P) (hcode : X.env.code = .ref c) (hq : X.env.qual ++ "<lambda>" = q) (hdef : defaultsOf params X.env = ([], [])) (hnof : ∀ y ∈ scope.names, y.2 ≠ .free) :
    PE X (.Lambda params body scope pos) (tLam P q (LamO q params body scope)) := by
  refine ⟨fun pins s σ H Q I h => ?_⟩
  obtain ⟨ps, hP, ht, ha, k⟩ := h
  exact lam_make3 I TB hcode hq hP ht ha hdef hnof fun f c' ps' H1 s' I1 L => ⟨.ref f, H1, I1, rfl, k f c' ps' H1 L⟩
section
variable {K : PySem.W.Frag} {F : Hp} {μ : List Addr} {H H1 : Hp} {st : Store} {P : Addr} {q : Str} {lo : Addr → Addr → HO} {ps ps' : Array Value} {f c' : Addr} {j : Nat}
theorem tab_at (w : Wd K F μ H st) (h : st[j]? = some (.tab j P q)) : ∃ ps, H P = some (.tbl ps) ∧ TriplesOk ps.toList ∧ (∀ (pos : Pos) (cv : Value), codeAmong pos ps.toList = some cv → ∃ c, cv = .ref c ∧ F c = some (CodeO c q)) ∧ μ[j]? = some P := by
  have hj : j < μ.length := by rw [w.len]; exact (List.getElem?_eq_some_iff.mp h).1
  obtain ⟨o, h1, h2⟩ := w.obj j _ _ h (List.getElem?_eq_getElem hj)
  cases o <;> first | exact h2.elim | skip
  obtain ⟨a, b, c⟩ := h2
  have e : μ[j] = P := by
    rw [List.getElem?_eq_getElem hj] at a
    exact Option.some.inj a
  rw [e] at h1
  exact ⟨_, h1, b, c, a⟩
theorem wd_lam (w : Wd K F μ H st) (h : st[j]? = some (.tab j P q)) (hP : H P = some (.tbl ps)) (L : LamStep H P q lo ps f c' ps' H1) :
    ∃ F1, Wd K F1 μ H1 st ∧ Stp F μ H F1 μ H1 ∧ F1 f = some (lo c' f) ∧ F1 c' = some (CodeO c' q) := by
  obtain ⟨ps0, h1, h2, h3, h4⟩ := tab_at w h
  rw [hP] at h1; cases h1
  have hj : j < st.length := (List.getElem?_eq_some_iff.mp h).1
  have memP : P ∈ μ := List.mem_of_getElem? h4
  have FP : F P = none := w.nf P memP
  have nf : F f = none := w.Fnone L.nf
  have mem : ∀ a ∈ μ, H a ≠ none := fun a ha e => by
    exact w.out e ha
  have nfμ : f ∉ μ := fun z => mem f z L.nf
  have hc : F c' = none ∧ H c' = none ∨ F c' = some (CodeO c' q) := by
    rcases L.cc with z | ⟨pos, z⟩
    · exact .inl ⟨w.Fnone z, z⟩
    · obtain ⟨c0, e0, e1⟩ := h3 _ _ z
      cases e0
      exact .inr e1
  have ncμ : c' ∉ μ := fun z => by
    rcases hc with ⟨_, e⟩ | e
    · exact mem c' z e
    · rw [w.nf c' z] at e; cases e
  have ext : ∀ b o, F b = some o → upd (upd F c' (CodeO c' q)) f (lo c' f) b = some o := fun b o e => by
    rw [upd_ne (ne_of_none e nf)]
    by_cases hb : b = c'
    · subst hb
      rw [upd_same]
      rcases hc with ⟨z, _⟩ | z
      · rw [z] at e; cases e
      · rw [z] at e; exact e
    · rw [upd_ne hb]; exact e
  have nP : ∀ b o, F b = some o → b ≠ P := fun b o e z => by rw [z, FP] at e; cases e
  refine ⟨upd (upd F c' (CodeO c' q)) f (lo c' f), ⟨fun b o e => ?_, w.len, w.nd, fun a ha => ?_, fun n so a e1 e2 => ?_⟩, ⟨ext, ⟨[], by simp, by simp⟩, fun a o e ha => L.keep a o (fun z => ha (z ▸ memP)) e, fun a ha => ?_, fun a ha => ?_, fun a od u e => L.keep a _ (fun z => by rw [z, hP] at e; cases e) e⟩, upd_same, ?_⟩
  · by_cases hb : b = f
    · subst hb; rw [upd_same] at e; cases e; exact L.of
    · rw [upd_ne hb] at e
      by_cases hb2 : b = c'
      · subst hb2; rw [upd_same] at e; cases e; exact L.oc
      · rw [upd_ne hb2] at e
        exact L.keep b o (nP b o e) (w.sub _ _ e)
  · rw [upd_ne (fun z : a = f => nfμ (z ▸ ha)), upd_ne (fun z : a = c' => ncμ (z ▸ ha))]
    exact w.nf a ha
  · by_cases hn : n = j
    · subst hn
      rw [h] at e1; cases e1
      rw [h4] at e2; cases e2
      refine ⟨_, L.tab, h4, L.tri, fun pos cv hcv => ?_⟩
      rcases L.am pos cv hcv with z | z
      · obtain ⟨c0, e0, e1⟩ := h3 _ _ z
        exact ⟨c0, e0, ext _ _ e1⟩
      · exact ⟨c', z, by rw [upd_ne (Ne.symm L.fc), upd_same]⟩
    · obtain ⟨u, g1, g2⟩ := w.obj n so a e1 e2
      refine ⟨u, L.keep a u (fun z => ?_) g1, SORep.mono ext (fun _ _ e => e) _ _ g2⟩
      subst z
      refine hn ?_
      have l1 := (List.getElem?_eq_some_iff.mp e2)
      have l2 := (List.getElem?_eq_some_iff.mp h4)
      obtain ⟨l1, q1⟩ := l1
      obtain ⟨l2, q2⟩ := l2
      exact (List.getElem_inj w.nd).mp (q1.trans q2.symm)
  · cases z : H a with
    | none => exact absurd z ha
    | some o =>
      by_cases hb : a = P
      · subst hb; rw [L.tab]; simp
      · rw [L.keep a o hb z]; simp
  · by_cases hb : a = f
    · subst hb; exact .inr L.nf
    · rw [upd_ne hb] at ha
      by_cases hb2 : a = c'
      · subst hb2
        rcases hc with ⟨_, z⟩ | z
        · exact .inr z
        · exact .inl (by rw [z]; simp)
      · rw [upd_ne hb2] at ha
        exact .inl ha
  · rw [upd_ne (Ne.symm L.fc), upd_same]
end
def mLamFn (n : Nat) (m : ME) : MFn := fun ds st => match m (ds.map .val ++ List.replicate (n - ds.length) .none) st with
  | some (.d d, st1) => some (d, st1)
  | _ => none
section
variable {P : Program} {w : World} {K : PySem.W.Frag} {mg : Str → Option Value} {base : Heap} {N ps : List Str} {q : Str} {params : Arguments} {body : Expr} {scope : Scope} {m : ME} {k : Nat}
/-- what a lambda's body does -/
def LamBody (P : Program) (w : World) (K : PySem.W.Frag) (mg : Str → Option Value) (base : Heap) (N : List Str) (q : Str) (scope : Scope) (k : Nat) (body : Expr) (m : ME) : Prop :=
  ∀ (cdv : Value) (f : Addr) (A : Around) (outer : List PySem.Env) (sh : Shared) (H : Hp) (E : L2.XK), Room k (A.deeper (PyProof.Rows.envOfC q scope sh.heap.objs.size f cdv)) → XE (cxOf CX0 P w K mg base N q scope f cdv A outer sh H E).nox body m
theorem lam_run (S : FnScope N ps scope) (hbind : ∀ (pm cv ctv : Value) (us : List Value), us.length = ps.length → bindArgs (PySem.W.kla_fn "<lambda>" q params body scope [] pm cv ctv) ⟨us, []⟩ = pure (ps.zip us)) (hb : LamBody P w K mg base N q scope k body m)
    {A : Around} {outer : List PySem.Env} {s : Shared} {H : Hp} {us : List Value} {vs : List V} {Q : VK} {E : L2.XK} {f c' : Addr} (hr : Room (k + 1) A) (e0 : Env0 P w K mg base A outer s H) (hf : H f = some (LamO q params body scope c' f)) (hc : H c' = some (CodeO c' q)) (r : Vals vs us)
    (sp : spM K ps.length (mLamFn N.length m) vs H Q E) : codeAny (model P w) A (.call (.ref f) ⟨us, []⟩) (CR CX0 outer P w H s Q E) s := by
  have lim : s.heap.NoLimit := e0.mod.nolimit.keeps fun b o e => (e0.bs b o e).1
  obtain ⟨⟨pm, ctv, of⟩, _, _⟩ := e0.hok f _ hf
  obtain ⟨⟨oc, vo, t, hoc, hd, hv⟩, _, _⟩ := e0.hok c' _ hc
  obtain ⟨F, μ, ds, st, d, st', wd, rp, hl, e, kk⟩ := sp
  have hlv : vs.length = ps.length := by rw [← rp.length]; exact hl
  have hlu : us.length = ps.length := by rw [← r.length]; exact hlv
  have hkind : ∀ y ∈ ps.zip us, scope.names.lookup y.1 = some .local ∨ (scope.names.lookup y.1 = some .cell ∧ ((cellsFrom (s.heap.objs.size + 1) scope.names []).lookup y.1).isSome = true) := fun ⟨n, v⟩ hy => by
    rcases S.par n (List.of_mem_zip hy).1 with q | q
    · exact .inl q
    · exact .inr ⟨q, PySem.W.cellsFrom_some _ _ _ (.inl q)⟩
  refine PySem.W.kla_callFunE hr.depth of rfl S.co S.gen rfl ⟨c', oc, vo, t, rfl, hoc, hd, hv⟩ ?_
  rw [hbind _ _ _ _ hlu]
  refine wpAny_pure (wpAny_newFunctionEnv_cells S.kind hkind fun env he s1 x => ?_)
  subst he
  refine ⟨lim.keeps x.toInCall.keep, ?_⟩
  have I : L2.Inv (cxOf CX0 P w K mg base N q scope f (.ref c') A outer s H E) [] (L2.start N vs) H s1 := inv_start S hr.hd e0 hlv r x
  obtain ⟨tt, pe, sm⟩ := hb (.ref c') f A outer s H E (hr.deeper _)
  unfold mLamFn at e
  split at e
  · rename_i d1 st1 e1
    cases e
    have so := start_ok (N := N) wd rp
    have hq := sm _ _ _ _ _ _ _ _ (fun v H' => Q v H') so.wd so.en e1 fun v F' μ' H' w' s' r' => kk v F' μ' H' w' s' r'
    refine PySem.W.kla_codeExpr (wpAny_mono (pe.nox.run [] s1 _ H _ I hq) (fun u s' hs => ?_) fun e s' hs => hs)
    obtain ⟨v, H', J, rv, qq⟩ := hs
    exact ⟨v, H', J.os, J.bare, J.base, J.hok, rv, qq⟩
  · cases e
end
section
variable {X : Cx} {N ps : List Str} {q : Str} {params : Arguments} {body : Expr} {scope : Scope} {m : ME} {k : Nat} {f c' : Addr}
theorem turn_lam {a : Str} (S : FnScope N [a] scope) (hbind : ∀ (pm cv ctv : Value) (us : List Value), us.length = 1 → bindArgs (PySem.W.kla_fn "<lambda>" q params body scope [] pm cv ctv) ⟨us, []⟩ = pure ([a].zip us)) (hb : LamBody X.prog X.w X.K X.mg X.base N q scope k body m) (hr : Room (k + 3) X.A)
    {F1 : Hp} {μ1 : List Addr} {H : Hp} {st : Store} (hf : F1 f = some (LamO q params body scope c' f)) (hc : F1 c' = some (CodeO c' q)) : Turn X f (mLamFn N.length m) F1 μ1 H st := by
  intro t hd hcc pins σ H1 s F2 μ2 I w sp x hx
  have sm : spM X.K 1 (mLamFn N.length m) [t.v] H1 (fun v H' => ∃ F' μ', Wd X.K F' μ' H' st ∧ Stp F2 μ2 H1 F' μ' H' ∧ Rep X.K F' μ' t.k v) (fun _ _ _ => False) :=
    ⟨F2, μ2, [t.d], st, t.k, st, w, ⟨sp.rep hd, trivial⟩, rfl, hcc, fun v F' μ' H' w' s' r' => ⟨F', μ', w', s', r'⟩⟩
  refine wpAny_call (codeAny_mono (lam_run (ps := [a]) (outer := X.stack) S hbind hb hr.in1.in1 I.env0.in1.in1 (w.sub _ _ (sp.fF _ _ hf)) (w.sub _ _ (sp.fF _ _ hc)) (.cons hx .nil) sm) fun r z hq => ?_)
  rcases r with e | fl
  · exact hq.elim
  cases fl <;> first | exact hq.elim | skip
  obtain ⟨v, H2, I2, rv, F', μ', w', s', r'⟩ := I.after hq
  exact ⟨H2, F', μ', v, I2, w', s', r', rv⟩
end
def mSortL (j : Nat) (P : Addr) (q : Str) (m : ME) (c : MFn) : MF := fun env st => match m env st with
  | some (x, st1) => match st1[j]? with
    | some o => if o = .tab j P q then match asL env st1 x with
      | some ds => match keysM c st1 ds with
        | some ks => match toPs dr0 ks with
          | some ps => if sortOk ps then some (.lst (((ds.zip ps).mergeSort (dataLe false (·.2))).map (·.1)), st1) else none
          | none => none
        | none => none
      | none => none
      else none
    | none => none
  | none => none
section
variable {X : Cx} {e : Expr} {m : ME} {pos : Pos}
theorem xsortlam {x a : Str} {p lpos kpos : Pos} {i j : Nat} {c P : Addr} {q : Str} {N : List Str} {params : Arguments} {body : Expr} {scope : Scope} {mb : ME} (TB : TabB X.base X.mg c P) (hcode : X.env.code = .ref c) (hq : X.env.qual ++ "<lambda>" = q) (hdef : defaultsOf params X.env = ([], []))
    (S : FnScope N [a] scope) (hbind : ∀ (pm cv ctv : Value) (us : List Value), us.length = 1 → bindArgs (PySem.W.kla_fn "<lambda>" q params body scope [] pm cv ctv) ⟨us, []⟩ = pure ([a].zip us)) (hb : LamBody X.prog X.w X.K X.mg X.base N q scope 0 body mb)
    (hr : Room i X.A) (hkj : 3 ≤ i) (hg : Gl X x) (hm : X.mg x = none) (hv : bootBuiltins x = some (.builtin "sorted")) (ha : XE X e m)
    (hd : (x == ("__debug__" : Str)) = false := by decide) (hn : x ≠ "__name__" := by decide)
    (he : starEach (e :: []) X.env = (false, eval e X.env) :: starEach [] X.env := by rfl) (he2 : backTo pos (starEach (e :: []) X.env) = (false, eval e X.env) :: backTo pos (starEach [] X.env) := by rfl) (hpl : (backTo pos (starEach (e :: []) X.env)).any (·.1) = false := by rfl)
    (hall : (backToKw pos (keywordEach [⟨some "key", .Lambda params body scope lpos, kpos⟩] X.env)).all (·.1.isSome) = true := by rfl) (hnone : (backToKw pos (keywordEach [⟨some "key", .Lambda params body scope lpos, kpos⟩] X.env)).any (·.1.isNone) = false := by rfl)
    (hks : (backToKw pos (keywordEach [⟨some "key", .Lambda params body scope lpos, kpos⟩] X.env)).filterMap (·.1) = [Str.ofString "key"] := by rfl) :
    XF X (.Call (.Name x p) [e] [⟨some "key", .Lambda params body scope lpos, kpos⟩] pos) (mSortL j P q m (mLamFn N.length mb)) := by
  obtain ⟨t, pe, s⟩ := ha
  refine ⟨_, pe_callBK (call_sortK (n := 0) (c := mLamFn N.length mb) (hr.mono (by omega))) hg hm hv (pa_cons pe pa_nil he) (pk_cons (pe_lam TB hcode hq hdef S.nofree) pk_nil) hn hd he2 hpl hall hnone hks, ?_⟩
  intro σ F μ H env st so st' Q w en h kk
  unfold mSortL at h
  split at h
  · rename_i x st1 e1
    split at h
    · rename_i o eo
      split at h
      · rename_i ho
        subst ho
        split at h
        · rename_i ds e2
          split at h
          · rename_i ks e3
            split at h
            · rename_i qs e4
              split at h
              · rename_i hso
                cases h
                refine s σ F μ H env st _ _ _ w en e1 fun v F1 μ1 H1 w1 s1 r1 => ?_
                obtain ⟨tps, g1, g2, g3, g4⟩ := tab_at w1 eo
                refine ⟨tps, g1, g2, fun pos cv hcv => ?_, fun f c' ps' H2 L => ?_⟩
                · obtain ⟨c0, z1, z2⟩ := g3 pos cv hcv
                  exact ⟨c0, z1, w1.sub _ _ z2⟩
                obtain ⟨F2, w2, s2, lf, lc⟩ := wd_lam w1 eo g1 L
                obtain ⟨a, vs, rfl, sq, q⟩ := asL_ok w2 ((en.step s1).step s2) (r1.step s2) e2
                obtain ⟨T, t1, t2, t3, t4, t5⟩ := four ds vs ks qs q e3 e4
                obtain ⟨hal, hsk, hdp⟩ := sortOk_ok hso
                refine ⟨a, f, T, F2, μ1, _, rfl, rfl, turn_lam S hbind hb (hr.mono (by omega)) lf lc, w2, by rw [t2]; exact sq, t5, by rw [t3, t4]; exact e4, by rw [t4]; exact hal, by rw [t4]; exact hsk, by rw [t4]; exact hdp, fun F3 μ3 H3 z w3 s3 hz hz1 => ?_⟩
                have z1 : ds.zip qs = T.map fun t => (t.d, t.p) := by rw [← t1, ← t4]; exact zip_map _ _ T
                have z2 : ((ds.zip qs).mergeSort (dataLe false (·.2))).map (·.1) = (T.mergeSort (dataLe false (·.p))).map (·.d) := by
                  rw [z1, ← List.map_mergeSort (f := fun t : Kt => (t.d, t.p)) (r := dataLe false (·.p)) (fun _ _ _ _ => rfl), List.map_map]
                  rfl
                have rr : Reps X.K F3 μ3 ((T.mergeSort (dataLe false (·.p))).map (·.d)) ((T.mergeSort (dataLe false (·.p))).map (·.v)) :=
                  reps_kt _ fun t ht => s3.rep (t5 t ((List.mergeSort_perm _ _).mem_iff.mp ht)).1
                rw [z2] at kk
                have s12 := s1.trans (s2.trans s3)
                exact kk z (.lst _) F3 μ3 _ (w3.lay0 hz) (s12.trans (Stp.lay0 hz)) (fresh_of s12 hz) (w3.Fnone hz) (w3.out hz) upd_same rr
              · cases h
            · cases h
          · cases h
        · cases h
      · cases h
    · cases h
  · cases h
end
end Gx

set_option maxHeartbeats 4000000
namespace Gx
open PySem L2 PySem.Spec PyProof.Rows PySem.Calls LamX
/-! ### a law whose def makes a lambda: its table of code objects is the store's first object -/
theorem law_spT {K : PySem.W.Frag} {H : Hp} {a P : Addr} {q : Str} {ns : List Int} {m : MFn} (hP : H P = some (.tbl #[])) (hS : SqL K H a (ns.map V.int)) (h : ∃ st, m [.lst (ns.map .int)] [.tab 0 P q] = some (.bl true, st)) : spM K 1 m [.ref a] H (fun v _ => v = .bl true) fun _ _ _ => False := by
  obtain ⟨st, h⟩ := h
  refine ⟨fun b => if b = P then none else H b, [P], [.lst (ns.map .int)], [.tab 0 P q], _, st, ⟨fun b o e => ?_, rfl, by simp, fun b hb => ?_, fun n so b e1 e2 => ?_⟩, ⟨⟨a, _, rfl, ?_, Reps.of_ints ns⟩, trivial⟩, rfl, h, fun v F' μ' H' _ _ r => r⟩
  · split at e
    · cases e
    · exact e
  · rw [List.mem_singleton] at hb
    rw [if_pos hb]
  · cases n with
    | zero =>
      simp only [List.getElem?_cons_zero, Option.some.injEq] at e1 e2
      subst e1; subst e2
      refine ⟨_, hP, rfl, trivial, fun pos cv hc => ?_⟩
      simp [codeAmong] at hc
    | succ n => simp at e1
  · rcases hS with hS | hS
    · have hne : a ≠ P := fun z => by
        subst z
        rcases hS with z | ⟨o, z⟩ <;> (rw [hP] at z; cases z)
      rcases hS with z | ⟨o, z⟩
      · exact .inl (.inl ((if_neg hne).trans z))
      · exact .inl (.inr ⟨o, (if_neg hne).trans z⟩)
    · exact .inr hS
theorem xfnC {P : Program} {w : World} {K : PySem.W.Frag} {mg : Str → Option Value} {base : Heap} {x qual : Str} {s : Stmt} {f c : Addr} {fd : FuncData} {N ps : List Str} {k : Nat} {body : MS} (F : Fun K x qual s f fd) (hc : fd.code = .ref c) (S : FnScope N ps (defScope s))
    (hb : ∀ (A : Around) (outer : List PySem.Env) (sh : Shared) (H : Hp) (E : L2.XK), Room k (A.deeper (PyProof.Rows.envOfC qual (defScope s) sh.heap.objs.size f (.ref c))) → XSs (cxOf CX0 P w K mg base N qual (defScope s) f (.ref c) A outer sh H E).nox (defBody s) body) :
    FnOk P w K mg base CX0 (k + 1) f fd ps (spM K ps.length (mFn N.length body)) := by
  obtain ⟨⟨oc, od, kV, doc, pm, an, cdv, ct, osl, rfl, lk, hcd⟩, kp⟩ := F
  have hc : cdv = .ref c := hc
  subst hc
  refine fn_of lk hcd S (fun vs H Q E h => ?_) fun A outer sh H vs Q E hr h => ?_
  · obtain ⟨F, μ, ds, st, d, st', w, r, hl, _⟩ := h
    rw [← r.length]; exact hl
  · obtain ⟨F, μ, ds, st, d, st', w, r, hl, e, kk⟩ := h
    obtain ⟨t, p, q⟩ := hb A outer sh H E hr
    refine ⟨t, p.nox, ?_⟩
    unfold mFn at e
    cases e1 : body (ds.map .val ++ List.replicate (N.length - ds.length) .none) st with
    | none => rw [e1] at e; cases e
    | some z =>
      obtain ⟨fl, env1, st1⟩ := z
      rw [e1] at e
      refine q F μ H F μ _ F μ H _ st _ _ (start_ok w r) e1 ?_
      cases fl with
      | nx => cases e; exact fun σ F' μ' H' o => kk .non F' μ' H' o.wd o.stp rfl
      | rt d => cases e; exact kk
      | bk => cases e
      | ct => cases e
theorem law_walkT {l : PySem.W.OpenLaw} {n k : Nat} {q : Program} {qn : Str} {loose : List Str} {XP : (Str → Option Value) → Heap → Prop} {YP : World → Heap → Prop} {d : DefRec} {K : Params → PySem.W.Frag} {x : Str} {m : Addr → MFn}
    (hn : l.most = some n) (hn2 : n ≤ sizeLine) (hdf : d.params.defaults = []) (hr : Room k callerA) (hY : ∀ (w : World) (h : Heap), YP w h → (K w.params).In h)
    (F : ∀ (w : World) (mg : Str → Option Value) (fa : Addr) (h : Heap), YP w h → (K w.params).In h → h.Ns mainGlobals mg → mg d.name = some (.ref fa) →
      ∃ (c P : Addr) (fd : FuncData), h.get? P = some { cls := .none, data := .fields #[] } ∧ (K w.params).lookup P = none ∧ PySem.W.CodeHd h c P ∧ (∀ (s : Shared) (u : Value), BindsTo s fd ⟨[u], []⟩ [(x, u)]) ∧ ∀ base : Heap, (K w.params).In base → base.Ns mainGlobals mg → TabB base mg c P → FnOk l.prog w (K w.params) mg base CX0 k fa fd [x] (spM (K w.params) 1 (m P)))
    (hm : ∀ (P : Addr) (ns : List Int), ns.length ≤ n → (∀ z ∈ ns, Builtin.Int.intBits z ≤ 1048576) → ∃ st, m P [.lst (ns.map .int)] [.tab 0 P qn] = some (.bl true, st)) :
    PySem.W.WalkO q loose XP YP l.row.toRowW d [] (fun f vs => PySem.call f vs) := by
  refine walk_ofTs (x := x) (CX := fun _ => CX0) hn hn2 hdf hr hY (fun w mg fa h Y KX G hmg => ?_) fun _ _ _ _ _ z => z
  obtain ⟨c, P, fd, h1, h2, h3, h4, h5⟩ := F w mg fa h Y KX G hmg
  exact ⟨fd, [(c, P)], spM (K w.params) 1 (m P), by simpa using h1, by simpa using h2, by simpa using h3, h4, fun H a ns hl hb hT hS => law_spT (hT (c, P) (by simp)) hS (hm P ns hl hb), fun base hK hG hTB => h5 base hK hG (hTB (c, P) (by simp))⟩
end Gx

set_option maxHeartbeats 4000000
namespace Gx
open PySem L2
/-! ### for k in d, d a dict of the store that stays while the loop runs -/
def kyD : Key → D
  | .inl i => .int i
  | .inr x => .str x
def noOwn (env : Env) : Bool := env.all fun s => match s with | .own _ => false | _ => true
def mForK (mi : ME) (g : MG) (body : MS) : MS := fun env st => match mi env st with
  | some (.d (.ref n), _) => match st[n]? with
    | some (.dK kvs) => match mi env (st.set n (.dF kvs)) with
      | some (.d (.ref m), st3) => if m = n ∧ st3 = st.set n (.dF kvs) ∧ noOwn env = true then
          match forGo g body (fun _ st => decide (st[n]? = some (.dF kvs))) (kvs.map fun p => kyD p.1) env (st.set n (.dF kvs)) with
          | some (f, env', st') => if st'[n]? = some (.dF kvs) then some (f, env', st'.set n (.dK kvs)) else none
          | none => none
        else none
      | _ => none
    | _ => none
  | _ => none
section
variable {K : PySem.W.Frag} {F0 Fg F F2 : Hp} {μ0 μg μ μ2 : List Addr} {H0 H H2 : Hp} {env env2 : Env} {σ σ2 : L2.St} {st st2 : Store} {n : Nat} {a : Addr} {kvs : List (Key × D)} {qs : List (Key × V)} {od : Obj}
theorem noOwn_at (no : noOwn env = true) (i : Nat) (so : SO) : env[i]? ≠ some (.own so) := fun e => by
  unfold noOwn at no
  have := List.all_eq_true.mp no _ (List.mem_of_getElem? e)
  cases this
theorem lock_wd (w : Wd K F μ H st) (hn : st[n]? = some (.dK kvs)) (hm : μ[n]? = some a) (rk : RepKV K F μ kvs qs) : Wd K F μ (upd H a (.frz od (.dK qs))) (st.set n (.dF kvs)) :=
  w.put (List.getElem?_eq_some_iff.mp hn).1 hm (so := .dF kvs) (u := .frz od (.dK qs)) rk
theorem lock_ok (o : SOk K F0 μ0 H0 Fg μg F μ H env σ st) (no : noOwn env = true) (hn : st[n]? = some (.dK kvs)) (hm : μ[n]? = some a) (rk : RepKV K F μ kvs qs) (od : Obj) :
    SOk K F μ (upd H a (.frz od (.dK qs))) F μ F μ (upd H a (.frz od (.dK qs))) env σ (st.set n (.dF kvs)) := by
  refine ⟨lock_wd o.wd hn hm rk, ⟨o.en.len, fun i s v e1 e2 => ?_, fun i j b hij h1 h2 => ?_⟩, Stp.refl, fun i b h => ?_, Gr.refl⟩
  · have h := o.en.slot i s v e1 e2
    cases s with
    | none => trivial
    | val d => exact h
    | own so => exact absurd e1 (noOwn_at no i so)
  · obtain ⟨so, h1, _⟩ := h1
    exact absurd h1 (noOwn_at no i so)
  · obtain ⟨so, h1, _⟩ := h
    exact absurd h1 (noOwn_at no i so)
theorem stp_unlock (hm : μ[n]? = some a) (hH : H a = some (.dK qs)) (nF : F a = none) (s : Stp F μ (upd H a (.frz od (.dK qs))) F2 μ2 H2) : Stp F μ H F2 μ2 (upd H2 a (.dK qs)) := by
  have ham : a ∈ μ := List.mem_of_getElem? hm
  have old : ∀ b, upd H a (.frz od (.dK qs)) b = none → H b = none := fun b e => by
    by_cases q : b = a
    · subst q; rw [upd_same] at e; cases e
    · rw [upd_ne q] at e; exact e
  obtain ⟨ex, e1, e2⟩ := s.fm
  refine ⟨s.fF, ⟨ex, e1, fun b hb => old b (e2 b hb)⟩, fun b o e hb => ?_, fun b hb => ?_, fun b hb => ?_, fun b ob u e => ?_⟩
  · have q : b ≠ a := fun q => hb (q ▸ ham)
    rw [upd_ne q]
    exact s.frame b o (by rw [upd_ne q]; exact e) hb
  · by_cases q : b = a
    · subst q; rw [upd_same]; simp
    · rw [upd_ne q]
      exact s.live b (by rw [upd_ne q]; exact hb)
  · rcases s.newF b hb with z | z
    · exact .inl z
    · exact .inr (old b z)
  · have q : b ≠ a := fun q => by subst q; rw [hH] at e; cases e
    rw [upd_ne q]
    exact s.frz b ob u (by rw [upd_ne q]; exact e)
theorem unlock_ok (o : SOk K F0 μ0 H0 Fg μg F μ H env σ st) (hm : μ[n]? = some a) (hH : H a = some (.dK qs)) (rk : RepKV K F μ kvs qs) (q : SOk K F μ (upd H a (.frz od (.dK qs))) F μ F2 μ2 H2 env2 σ2 st2) (hst : st2[n]? = some (.dF kvs)) :
    SOk K F0 μ0 H0 Fg μg F2 μ2 (upd H2 a (.dK qs)) env2 σ2 (st2.set n (.dK kvs)) := by
  have nF : F a = none := o.wd.nf a (List.mem_of_getElem? hm)
  have s := stp_unlock hm hH nF q.stp
  have hm2 := q.stp.pre n a hm
  have ham2 : a ∈ μ2 := List.mem_of_getElem? hm2
  refine ⟨q.wd.put (List.getElem?_eq_some_iff.mp hst).1 hm2 (so := .dK kvs) (u := .dK qs) (RepKV.mono q.stp.fF q.stp.pre _ _ rk), ⟨q.en.len, fun i s v e1 e2 => ?_, q.en.sep⟩, o.stp.trans s, fun i b h => ?_, o.gr.trans s.gr⟩
  · have h := q.en.slot i s v e1 e2
    cases s with
    | none => trivial
    | val d => exact h
    | own so =>
      obtain ⟨x, u, h1, h2, h3, h4, h5⟩ := h
      exact ⟨x, u, h1, h2, h3, by rw [upd_ne (fun z : x = a => h3 (by rw [z]; exact ham2))]; exact h4, h5⟩
  · have h1 := q.own0 i b h
    have h2 : H b = none := by
      by_cases z : b = a
      · subst z; rw [upd_same] at h1; cases h1
      · rw [upd_ne z] at h1; exact h1
    exact Classical.byContradiction fun c => o.stp.live b c h2
theorem repKV_at : ∀ {ps : List (Key × D)} {qs : List (Key × V)} {i : Nat} {k : Key} {v : V}, RepKV K F μ ps qs → qs[i]? = some (k, v) → ∃ d, ps[i]? = some (k, d)
  | [], [], i, k, v, _, e => by simp at e
  | p :: ps, q :: qs, 0, k, v, r, e => by
    simp at e
    subst e
    exact ⟨p.2, by simp; exact Prod.ext r.1 rfl⟩
  | p :: ps, q :: qs, i + 1, k, v, r, e => by
    obtain ⟨d, h⟩ := repKV_at (i := i) r.2.2 (by simpa using e)
    exact ⟨d, by simpa using h⟩
  | [], _ :: _, _, _, _, r, _ => r.elim
  | _ :: _, [], _, _, _, r, _ => r.elim
theorem repKV_len : ∀ {ps : List (Key × D)} {qs : List (Key × V)}, RepKV K F μ ps qs → ps.length = qs.length
  | [], [], _ => rfl
  | p :: ps, q :: qs, r => by simp [repKV_len r.2.2]
  | [], _ :: _, r => r.elim
  | _ :: _, [], r => r.elim
end
theorem simForK {K : PySem.W.Frag} {te : TE} {mi : ME} {g : TG} {mg : MG} {tb : TS} {mb : MS} (hi : SimE K te mi) (hg : SimG K g mg) (hb : SimS K tb mb) : SimS K (tLock (tFor (iKeys te) g tb)) (mForK mi mg mb) := by
  intro F0 μ0 H0 Fg μg σ F μ H env st out D o e k
  unfold mForK at e
  split at e
  · rename_i n st1 e1
    split at e
    · rename_i kvs hn
      split at e
      · rename_i m st3 e3
        split at e
        · rename_i hc
          obtain ⟨rfl, rfl, no⟩ := hc
          split at e
          · rename_i f envL stL eL
            split at e
            · rename_i hst
              have e := Option.some.inj e
              subst e
              have hlt : m < μ.length := by rw [o.wd.len]; exact (List.getElem?_eq_some_iff.mp hn).1
              have hm : μ[m]? = some μ[m] := List.getElem?_eq_getElem hlt
              generalize μ[m] = a at hm
              obtain ⟨u, hH, ru⟩ := o.wd.obj m _ a hn hm
              cases u <;> first | exact ru.elim | skip
              rename_i qs
              have rk : RepKV K F μ kvs qs := ru
              have nF : F a = none := o.wd.nf a (List.mem_of_getElem? hm)
              refine ⟨a, .dK qs, hH, trivial, fun od => ?_⟩
              have oL := lock_ok o no hn hm rk od
              generalize hD : (⟨fun σ' H' => H' a = some (.frz od (.dK qs)) ∧ D.nx σ' (upd H' a (.dK qs)), fun v H' => H' a = some (.frz od (.dK qs)) ∧ D.rt v (upd H' a (.dK qs)), fun σ' H' => H' a = some (.frz od (.dK qs)) ∧ D.bk σ' (upd H' a (.dK qs)), fun σ' H' => H' a = some (.frz od (.dK qs)) ∧ D.ct σ' (upd H' a (.dK qs))⟩ : Ends) = D'
              have fz : ∀ {F2 : Hp} {μ2 : List Addr} {H2 : Hp}, Stp F μ (upd H a (.frz od (.dK qs))) F2 μ2 H2 → H2 a = some (.frz od (.dK qs)) := fun s => s.frz a od _ upd_same
              have kL : Post K F μ (upd H a (.frz od (.dK qs))) F μ D' (f, envL, stL) := by
                subst hD
                cases f with
                | nx => exact fun σ2 F2 μ2 H2 q => ⟨fz q.stp, k σ2 F2 μ2 _ (unlock_ok o hm hH rk q hst)⟩
                | bk => exact fun σ2 F2 μ2 H2 q => ⟨fz q.stp, k σ2 F2 μ2 _ (unlock_ok o hm hH rk q hst)⟩
                | ct => exact fun σ2 F2 μ2 H2 q => ⟨fz q.stp, k σ2 F2 μ2 _ (unlock_ok o hm hH rk q hst)⟩
                | rt d =>
                  exact fun v F2 μ2 H2 w s r => ⟨fz s, k v F2 μ2 _ (w.put (List.getElem?_eq_some_iff.mp hst).1 (s.pre m a hm) (so := .dK kvs) (u := .dK qs) (RepKV.mono s.fF s.pre _ _ rk)) (o.stp.trans (stp_unlock hm hH nF s)) r⟩
              clear k hD
              generalize hHL : upd H a (.frz od (.dK qs)) = HL at oL kL fz ⊢
              have hlen := repKV_len rk
              refine hi σ F μ HL env _ _ _ _ oL.wd oL.en e3 fun v F1 μ1 H1 w1 s1 r1 => ?_
              obtain ⟨a', rfl, hm1⟩ := r1
              have ea : a' = a := Option.some.inj (hm1.symm.trans (s1.pre m a hm))
              subst ea
              have o1 := oL.step w1 s1
              refine ⟨a', od, rfl, .inl ⟨qs, fz s1, ?_⟩⟩
              refine ⟨fun i z σ' H' => z = qs.length - i ∧ i ≤ qs.length ∧ ∃ F2 μ2 env2 st2, SOk K F μ HL F μ F2 μ2 H' env2 σ' st2 ∧ forGo mg mb (fun _ st => decide (st[m]? = some (.dF kvs))) ((kvs.map fun p => kyD p.1).drop i) env2 st2 = some (f, envL, stL),
                ⟨qs.length, by simp, Nat.zero_le _, F1, μ1, env, _, o1, by simpa using eL⟩, ?_⟩
              rintro i z σ' H' ⟨rfl, hi', F2, μ2, env2, st2, o2, go⟩
              have hfz := fz o2.stp
              by_cases hlt2 : i < qs.length
              · have hi2 : i < (kvs.map fun p => kyD p.1).length := by rw [List.length_map]; omega
                rw [List.drop_eq_getElem_cons hi2] at go
                unfold forGo at go
                split at go
                · refine .inr ⟨⟨hfz, hlt2⟩, fun σ3 H3 => ∃ F3 μ3 env3 st3, SOk K F μ HL F μ F3 μ3 H3 env3 σ3 st3 ∧ forGo mg mb (fun _ st => decide (st[m]? = some (.dF kvs))) ((kvs.map fun p => kyD p.1).drop (i + 1)) env3 st3 = some (f, envL, stL),
                    fun σ3 H3 ⟨F3, μ3, env3, st3, q1, q3⟩ => ⟨qs.length - (i + 1), by omega, rfl, hlt2, F3, μ3, env3, st3, q1, q3⟩, fun x H3 y => ?_⟩
                  obtain ⟨eH, kk, vv, ex, rfl⟩ := y
                  subst eH
                  obtain ⟨dd, ed⟩ := repKV_at rk ex
                  have ed' : (kvs.map fun p => kyD p.1)[i] = kyD kk := by
                    have := List.getElem?_eq_getElem hi2
                    rw [List.getElem?_map, ed] at this
                    exact (Option.some.inj this).symm
                  rw [ed'] at go
                  have rd : Rep K F2 μ2 (kyD kk) (kV kk) := by cases kk <;> rfl
                  split at go
                  · rename_i env3 e3
                    refine hg F μ HL F μ σ' F2 μ2 H3 env2 st2 _ _ env3 _ o2 rd e3 fun σ3 o3 => ?_
                    cases e4 : mb env3 st2 with
                    | none => rw [e4] at go; cases go
                    | some z =>
                      obtain ⟨f4, env4, st4⟩ := z
                      rw [e4] at go
                      refine hb F μ HL F μ σ3 F2 μ2 H3 env3 st2 _ _ o3 e4 ?_
                      cases f4 with
                      | nx => exact fun σ5 F5 μ5 H5 q => ⟨F5, μ5, env4, st4, q, go⟩
                      | ct => exact fun σ5 F5 μ5 H5 q => ⟨F5, μ5, env4, st4, q, go⟩
                      | bk =>
                        cases go
                        exact fun σ5 F5 μ5 H5 q => kL σ5 F5 μ5 H5 q
                      | rt d =>
                        cases go
                        exact kL
                  · cases go
                · cases go
              · have hi2 : i = qs.length := by omega
                subst hi2
                rw [List.drop_of_length_le (by rw [List.length_map]; omega)] at go
                unfold forGo at go
                split at go
                · cases go
                  exact .inl ⟨⟨hfz, Nat.le_refl _⟩, kL σ' F2 μ2 H' o2⟩
                · cases go
            · cases e
          · cases e
        · cases e
      · cases e
    · cases e
  · cases e
section
variable {X : Cx} {pos : Pos}
theorem xforK {tg iter : Expr} {sb : List Stmt} {mi : ME} {mg : MG} {mb : MS} (hp : PassesOwn (model X.prog X.w) X.A X.env X.xe) (hc : X.calm = true) (hi : XE X iter mi) (hg : XG X tg mg) (hb : XSs X sb mb) (hs : ∀ x, foldedSetIterable iter X.env x = pure x := by intro _; rfl) :
    XS X (.For tg iter sb [] pos) (mForK mi mg mb) := by
  obtain ⟨wi, p, q⟩ := hi
  obtain ⟨g, p', q'⟩ := hg
  obtain ⟨t, p2, q2⟩ := hb
  exact ⟨_, ps_lock (ps_for hp hc (pi_keys p) p' p2 hs), simForK q q' q2⟩
end
end Gx

set_option maxHeartbeats 4000000
namespace L2
open PySem PySem.Spec PyProof.Rows
open PySem.W (EqTree)
/-! ### == of dicts that hold dicts and lists: the same one, or two that differ -/
section
variable {prog : Program} {w : World} {A : Around} {E : Value → Shared → Prop} {s : Shared}
theorem ne_dictsT {κ : Type} [DecidableEq κ] {knd : KeyKind prog w κ} {n : Nat} {a b : Addr} {ka kb : List (κ × Value)} {e : κ → Bool} {Q : Value → Shared → Prop} (ha : (a == sysModules) = false) (hb : (b == sysModules) = false)
    (da : s.heap.DictOf knd a ka) (db : s.heap.DictOf knd b kb) (t : ∀ k v y, (k, v) ∈ ka → valueAt kb k = some y → EqTree prog w s n v y (e k)) (hu : A.units + (n + 1) < cLine)
    (h : Q (.bool (!(ka.length == kb.length && ka.all fun p => (valueAt kb p.1).isSome && e p.1))) s) : wpAny (model prog w) A (compareOp .NotEq (.ref a) (.ref b)) Q E s := by
  refine wpAny_richCompare_same_room (op := .NotEq) da.typeIs db.typeIs PySem.F.slot_dict_ne (wpAny_call_entry PySem.F.slot_dict_ne da.typeIs PySem.F.entry_dict_ne ?_ (PySem.F.args_dict_ne_2 _ _)) (by omega)
  show wpAny _ _ (Builtin.Dict.dictSlotArgs "__ne__" ⟨[.ref a, .ref b], []⟩ >>= _) _ _ s
  refine wpAny_bind ?_
  unfold Builtin.Dict.dictSlotArgs
  refine wpAny_bind (wpAny_notOrdered_dict da.typeIs ?_)
  show wpAny _ _ (pure (Value.ref a, Value.ref b)) _ _ s
  refine wpAny_pure ?_
  refine wpAny_bind (wpAny_isInstance (T := "dict") db.typeIs PySem.F.sub_dict_dict ?_)
  simp only [Bool.not_true, Bool.false_eq_true, if_false]
  refine wpAny_bind (wpAny_pure (wpAny_bind (wpAny_pure ?_)))
  refine wpAny_bind (PySem.W.keq_samePairsIn ha hb da db (fun _ => PySem.W.KeqHitsIn.of _ fun k v y hm hv => (t k v y hm hv).at A.in1 (by show A.units + 1 + _ < cLine; omega)) ?_)
  refine wpAny_pure ⟨_, rfl, ?_, ?_⟩
  · exact fun x => nomatch x
  · generalize (ka.length == kb.length && ka.all fun p => (valueAt kb p.1).isSome && e p.1) = z at h ⊢
    cases z <;> exact h
end
/-- plain data -/
def DataV (K : PySem.W.Frag) (H : Hp) (x : V) : Prop := ∃ d, Dp K H x d ∧ SeqAt.shaped d = true
/-- two values that may be compared: plain data, or dicts of plain data -/
def CmpV (K : PySem.W.Frag) (H : Hp) (x y : V) : Prop := (DataV K H x ∧ DataV K H y) ∨ ∃ a b ks ls, x = .ref a ∧ y = .ref b ∧ Rd H a (.dK ks) ∧ Rd H b (.dK ls) ∧ (∀ p ∈ ks, DataV K H p.2) ∧ ∀ p ∈ ls, DataV K H p.2
theorem nodup_val {κ : Type} : ∀ {l : List (κ × Value)} {k : κ} {v u : Value}, (l.map (·.1)).Nodup → (k, v) ∈ l → (k, u) ∈ l → v = u
  | p :: l, k, v, u, h, h1, h2 => by
    rw [List.map_cons, List.nodup_cons] at h
    rcases List.mem_cons.mp h1 with e1 | h1 <;> rcases List.mem_cons.mp h2 with e2 | h2
    · rw [← e1] at e2; exact (congrArg Prod.snd e2).symm
    · exact absurd (List.mem_map.mpr ⟨_, h2, by rw [← e1]⟩) h.1
    · exact absurd (List.mem_map.mpr ⟨_, h1, by rw [← e2]⟩) h.1
    · exact nodup_val h.2 h1 h2
theorem exists_e {κ : Type} {l : List (κ × Value)} (nd : (l.map (·.1)).Nodup) {P : κ → Value → Bool → Prop} (h : ∀ k v, (k, v) ∈ l → ∃ b, P k v b) : ∃ e : κ → Bool, ∀ k v, (k, v) ∈ l → P k v (e k) := by
  classical
  refine ⟨fun k => if hk : ∃ b, ∃ v, (k, v) ∈ l ∧ P k v b then Classical.choose hk else false, fun k v hm => ?_⟩
  have hk : ∃ b, ∃ v, (k, v) ∈ l ∧ P k v b := by
    obtain ⟨b, hb⟩ := h k v hm
    exact ⟨b, v, hm, hb⟩
  dsimp only
  rw [dif_pos hk]
  obtain ⟨v', hm', hp⟩ := Classical.choose_spec hk
  rw [nodup_val nd hm hm']
  exact hp
section
variable {X : Cx} {pins : List (Addr × Obj)} {σ : St} {H : Hp} {s : Shared}
theorem tree_data (I : Inv X pins σ H s) {x y : V} {v u : Value} {n : Nat} (hn : 64 ≤ n) (hx : DataV X.K H x) (hy : DataV X.K H y) (rx : RelV x v) (ry : RelV y u) : ∃ b, EqTree X.prog X.w s n v u b := by
  obtain ⟨d, d1, d2⟩ := hx
  obtain ⟨e, e1, e2⟩ := hy
  obtain ⟨as, r1⟩ := Dp.reads I d _ _ d1 rx
  obtain ⟨bs, r2⟩ := Dp.reads I e _ _ e1 ry
  exact ⟨_, .leaf fun A hu => SeqAt.eqAt_reads d e A s v u as bs r1 r2 (SeqAt.canLay_of_shaped d2) (SeqAt.canLay_of_shaped e2) (SeqAt.room_of_shaped d2 (by omega))⟩
theorem kv_mem : ∀ {ks : List (Key × V)} {va : List (Key × Value)} {k : Key} {v : Value}, KV ks va → (k, v) ∈ va → ∃ x, (k, x) ∈ ks ∧ RelV x v
  | ks, va, k, v, h, hm => by
    unfold KV at h
    induction h with
    | nil => cases hm
    | @cons p q ps qs h t ih =>
      rcases List.mem_cons.mp hm with e | hm
      · subst e
        refine ⟨p.2, ?_, h.2⟩
        have e1 : p.1 = k := h.1
        rw [← e1]
        exact List.mem_cons_self
      · obtain ⟨x, h1, h2⟩ := ih hm
        exact ⟨x, List.mem_cons_of_mem _ h1, h2⟩
theorem kv_at {ls : List (Key × V)} {vb : List (Key × Value)} (r : KV ls vb) {k : Key} {y : Value} (h : valueAt vb k = some y) : ∃ x, valV ls k = some x ∧ RelV x y := by
  have q := r.val k
  rw [h] at q
  cases e : valV ls k with
  | none => rw [e] at q; exact q.elim
  | some x => rw [e] at q; exact ⟨x, rfl, q⟩
theorem tree_cmp (I : Inv X pins σ H s) {x y : V} {v u : Value} (c : CmpV X.K H x y) (rx : RelV x v) (ry : RelV y u) : ∃ b, EqTree X.prog X.w s 65 v u b := by
  rcases c with ⟨hx, hy⟩ | ⟨a, b, ks, ls, rfl, rfl, ea, eb, hk, hl⟩
  · exact tree_data I (by decide) hx hy rx ry
  · obtain rfl : v = Value.ref a := rx
    obtain rfl : u = Value.ref b := ry
    by_cases hab : a = b
    · subst hab
      exact ⟨_, .same⟩
    obtain ⟨_, ya, va, ra, da⟩ := dk_rd I.hok ea
    obtain ⟨_, yb, vb, rb, db⟩ := dk_rd I.hok eb
    have nd : (va.map (·.1)).Nodup := by obtain ⟨_, _, _, _, _, _, _, _, h⟩ := da; exact h
    obtain ⟨e, he⟩ := exists_e (P := fun k v b => ∀ y, valueAt vb k = some y → EqTree X.prog X.w s 64 v y b) nd fun k v hm => by
      obtain ⟨x, hx, rx⟩ := kv_mem ra hm
      cases hv : valueAt vb k with
      | none => exact ⟨false, fun y q => by cases q⟩
      | some y =>
        obtain ⟨z, hz, rz⟩ := kv_at rb hv
        obtain ⟨b, t⟩ := tree_data I (n := 64) (Nat.le_refl _) (hk _ hx) (by
          obtain ⟨k', h1, h2⟩ : ∃ k', (k', z) ∈ ls ∧ True := by
            unfold valV at hz
            rw [Option.map_eq_some_iff] at hz
            obtain ⟨p, h1, rfl⟩ := hz
            exact ⟨p.1, List.mem_of_find?_eq_some h1, trivial⟩
          exact hl _ h1) rx rz
        exact ⟨b, fun y' q => by cases q; exact t⟩
    exact ⟨_, .dicts hab ya yb da db fun k v y hm hv => he k v hm y hv⟩
/-- two dicts that differ -/
def DctDiff (K : PySem.W.Frag) (H : Hp) (x y : V) : Prop := ∃ a b ks ls, x = .ref a ∧ y = .ref b ∧ Rd H a (.dK ks) ∧ Rd H b (.dK ls) ∧ (ks.length ≠ ls.length ∨ ((∃ k0 i j, (k0, V.int i) ∈ ks ∧ valV ls k0 = some (.int j) ∧ i ≠ j) ∧ ∀ p ∈ ks, ∀ u, valV ls p.1 = some u → CmpV K H p.2 u))
/-- one dict -/
def DctIs (H : Hp) (x y : V) : Prop := ∃ a ks, x = .ref a ∧ y = .ref a ∧ Rd H a (.dK ks)
theorem diff_tree (I : Inv X pins σ H s) {ks ls : List (Key × V)} {va vb : List (Key × Value)} (ra : KV ks va) (rb : KV ls vb) (nd : (va.map (·.1)).Nodup) (hc : (∃ k0 i j, (k0, V.int i) ∈ ks ∧ valV ls k0 = some (.int j) ∧ i ≠ j) ∧ ∀ p ∈ ks, ∀ u, valV ls p.1 = some u → CmpV X.K H p.2 u) :
    ∃ e : Key → Bool, (∀ k v y, (k, v) ∈ va → valueAt vb k = some y → EqTree X.prog X.w s 65 v y (e k)) ∧ (va.all fun p => (valueAt vb p.1).isSome && e p.1) = false := by
  obtain ⟨⟨k0, i, j, hk0, hv0, hij⟩, hc⟩ := hc
  obtain ⟨e, he⟩ := exists_e (P := fun k v b => (∀ y, valueAt vb k = some y → EqTree X.prog X.w s 65 v y b) ∧ (k = k0 → b = false)) nd fun k v hm => by
    obtain ⟨x, hx, rx⟩ := kv_mem ra hm
    by_cases hk : k = k0
    · subst hk
      refine ⟨false, fun y hy => ?_, fun _ => rfl⟩
      obtain ⟨z, hz, rz⟩ := kv_at rb hy
      rw [hv0] at hz
      cases hz
      -- the value at k0
      have hxi : ∃ vi, (k, vi) ∈ va ∧ RelV (.int i) vi := by
        clear hm hx rx hy rz
        unfold KV at ra
        induction ra with
        | nil => cases hk0
        | @cons p q ps qs h t ih =>
          rcases List.mem_cons.mp hk0 with e | hk0'
          · refine ⟨q.2, ?_, ?_⟩
            · have e1 : p.1 = q.1 := h.1
              have : q.1 = k := by rw [← e1, ← e]
              rw [← this]; exact List.mem_cons_self
            · have := h.2; rw [← e] at this; exact this
          · rw [List.map_cons, List.nodup_cons] at nd
            obtain ⟨vi, h1, h2⟩ := ih nd.2 (fun p hp => hc p (List.mem_cons_of_mem _ hp)) hk0'
            exact ⟨vi, List.mem_cons_of_mem _ h1, h2⟩
      obtain ⟨vi, hvi, ri⟩ := hxi
      have ev : v = vi := nodup_val nd hm hvi
      subst ev
      obtain ⟨t1, rfl⟩ := ri
      obtain ⟨t2, rfl⟩ := rz
      refine .leaf fun A hu => ?_
      have : SeqAt.EqAt A s (.int i t1) (.int j t2) (i == j) := SeqAt.EqAt.int_int _ _ _ _
      rw [show (i == j) = false from beq_eq_false_iff_ne.mpr hij] at this
      exact this
    · cases hv : valueAt vb k with
      | none => exact ⟨false, (fun y q => by cases q), fun q => absurd q hk⟩
      | some y =>
        obtain ⟨z, hz, rz⟩ := kv_at rb hv
        obtain ⟨b, t⟩ := tree_cmp I (hc _ hx z hz) rx rz
        exact ⟨b, (fun y' q => by cases q; exact t), fun q => absurd q hk⟩
  refine ⟨e, fun k v y hm hv => (he k v hm).1 y hv, ?_⟩
  rw [List.all_eq_false]
  have hxi : ∃ vi, (k0, vi) ∈ va := by
    clear he nd hc hv0
    unfold KV at ra
    induction ra with
    | nil => cases hk0
    | @cons p q ps qs h t ih =>
      rcases List.mem_cons.mp hk0 with e | hk0'
      · have e1 : p.1 = q.1 := h.1
        have : q.1 = k0 := by rw [← e1, ← e]
        exact ⟨q.2, by rw [← this]; exact List.mem_cons_self⟩
      · obtain ⟨vi, h1⟩ := ih hk0'
        exact ⟨vi, List.mem_cons_of_mem _ h1⟩
  obtain ⟨vi, hvi⟩ := hxi
  refine ⟨(k0, vi), hvi, ?_⟩
  dsimp only
  rw [(he k0 vi hvi).2 rfl]
  simp
theorem op_dctDiff (hu : X.A.units + 66 < cLine) (neg : Bool) : OpR X (compareOp (if neg then .NotEq else .Eq)) (fun x y H Q => DctDiff X.K H x y ∧ Q (.bl neg) H) := by
  intro pins s σ H x y v u Q I rx ry h
  obtain ⟨⟨a, b, ks, ls, rfl, rfl, ea, eb, hc⟩, q⟩ := h
  obtain rfl : v = Value.ref a := rx
  obtain rfl : u = Value.ref b := ry
  obtain ⟨_, ya, va, ra, da⟩ := dk_rd I.hok ea
  obtain ⟨_, yb, vb, rb, db⟩ := dk_rd I.hok eb
  have la : va.length = ks.length := ra.length.symm
  have lb : vb.length = ls.length := rb.length.symm
  have nd : (va.map (·.1)).Nodup := by obtain ⟨_, _, _, _, _, _, _, _, h⟩ := da; exact h
  rcases hc with hl | hc
  · have hne : (va.length == vb.length) = false := beq_eq_false_iff_ne.mpr (by omega)
    cases neg
    · exact PySem.W.keq_eq (knd := mixKind X.prog X.w) (r := true) ya yb da db (by omega) (fun z => absurd z (by omega)) (fin_bl I q (by simp [hne]))
    · exact PySem.W.keq_ne (knd := mixKind X.prog X.w) (r := true) ya yb da db (by omega) (fun z => absurd z (by omega)) (fin_bl I q (by simp [hne]))
  · obtain ⟨e, he, hall⟩ := diff_tree I ra rb nd hc
    cases neg
    · exact PySem.W.eq_dictsT (knd := mixKind X.prog X.w) ya yb da db he (by omega) (fin_bl I q (by rw [hall]; simp))
    · exact ne_dictsT (knd := mixKind X.prog X.w) ya yb da db he (by omega) (fin_bl I q (by rw [hall]; simp))
theorem op_dctIs (hu : X.A.units + 66 < cLine) (neg : Bool) : OpR X (compareOp (if neg then .NotEq else .Eq)) (fun x y H Q => DctIs H x y ∧ Q (.bl (!neg)) H) := by
  intro pins s σ H x y v u Q I rx ry h
  obtain ⟨⟨a, ks, rfl, rfl, ea⟩, q⟩ := h
  obtain rfl : v = Value.ref a := rx
  obtain rfl : u = Value.ref a := ry
  obtain ⟨_, ya, va, ra, da⟩ := dk_rd I.hok ea
  have nd : (va.map (·.1)).Nodup := by obtain ⟨_, _, _, _, _, _, _, _, h⟩ := da; exact h
  have he : ∀ k v y, (k, v) ∈ va → valueAt va k = some y → EqTree X.prog X.w s 1 v y true := fun k v y hm hv => by
    obtain ⟨i, hi⟩ := List.getElem?_of_mem hm
    have := valueAt_of_get nd hi
    rw [hv] at this
    cases this
    exact .same
  have hall : (va.all fun p => (valueAt va p.1).isSome && true) = true := by
    rw [List.all_eq_true]
    rintro ⟨k, v⟩ hm
    obtain ⟨i, hi⟩ := List.getElem?_of_mem hm
    simp [valueAt_of_get nd hi]
  cases neg
  · exact PySem.W.eq_dictsT (knd := mixKind X.prog X.w) (e := fun _ => true) ya ya da da he (by omega) (fin_bl I q (by rw [hall]; simp))
  · exact ne_dictsT (knd := mixKind X.prog X.w) (e := fun _ => true) ya ya da da he (by omega) (fin_bl I q (by rw [hall]; simp))
end
end L2

set_option maxHeartbeats 4000000
namespace Gx
open PySem L2
/-! ### == of dicts: one, two of different lengths, two that differ at a number -/
def dataOk (st : Store) (d : D) : Bool := match toP (dr2 st) d with | some p => SeqAt.shaped p | none => false
def cmpD (st : Store) (d u : D) : Bool := (dataOk st d && dataOk st u) || (match d, u with
  | .ref n, .ref m => match st[n]?, st[m]? with
    | some (.dK ks), some (.dK ls) => (ks.all fun p => dataOk st p.2) && ls.all fun p => dataOk st p.2
    | _, _ => false
  | _, _ => false)
def cmpAt (st : Store) (ls : List (Key × D)) (p : Key × D) : Bool := match valD ls p.1 with | some u => cmpD st p.2 u | none => true
def difAt (ls : List (Key × D)) (p : Key × D) : Bool := match p.2, valD ls p.1 with | .int i, some (.int j) => decide (i ≠ j) | _, _ => false
def f2Dq (neg : Bool) : Env → Store → R → R → Option (R × Store) := fun env st x y => match x, y with
  | .d (.ref n), .d (.ref m) => match asK env st x, asK env st y with
    | some ks, some ls => if n = m then some (.d (.bl (!neg)), st)
        else if ks.length ≠ ls.length then some (.d (.bl neg), st)
        else if ks.any (difAt ls) = true ∧ ks.all (cmpAt st ls) = true then some (.d (.bl neg), st) else none
    | _, _ => none
  | .d (.ref _), .d (.dct as bs) => match asK env st x with
    | some ks => if ks.length ≠ (as.zip bs).length then some (.d (.bl neg), st) else none
    | none => none
  | _, _ => none
section
variable {K : PySem.W.Frag} {F : Hp} {μ : List Addr} {H : Hp} {st : Store} {env : Env} {σ : L2.St}
theorem dataOk_ok (w : Wd K F μ H st) {d : D} {v : V} (r : Rep K F μ d v) (h : dataOk st d = true) : DataV K H v := by
  unfold dataOk at h
  split at h
  · rename_i p e
    exact ⟨p, toP_ok w (dr2_ok w) _ _ _ r e, h⟩
  · cases h
theorem cmpD_ok (w : Wd K F μ H st) {d u : D} {v y : V} (r : Rep K F μ d v) (r2 : Rep K F μ u y) (h : cmpD st d u = true) : CmpV K H v y := by
  unfold cmpD at h
  rw [Bool.or_eq_true, Bool.and_eq_true] at h
  rcases h with h | h
  · exact .inl ⟨dataOk_ok w r h.1, dataOk_ok w r2 h.2⟩
  · split at h
    · rename_i n m
      split at h
      · rename_i ks ls e1 e2
        rw [Bool.and_eq_true] at h
        obtain ⟨a, rfl, ha⟩ := r
        obtain ⟨b, rfl, hb⟩ := r2
        obtain ⟨o, h1, h2⟩ := w.obj n _ a e1 ha
        cases o <;> first | exact h2.elim | skip
        obtain ⟨o, h3, h4⟩ := w.obj m _ b e2 hb
        cases o <;> first | exact h4.elim | skip
        refine .inr ⟨a, b, _, _, rfl, rfl, .of h1, .of h3, fun q hq => ?_, fun q hq => ?_⟩
        · obtain ⟨p, hp, _, hr⟩ := repKV_mem h2 q hq
          exact dataOk_ok w hr (List.all_eq_true.mp h.1 p hp)
        · obtain ⟨p, hp, _, hr⟩ := repKV_mem h4 q hq
          exact dataOk_ok w hr (List.all_eq_true.mp h.2 p hp)
      · cases h
    · cases h
theorem repKV_mem2 {κ : Type} : ∀ {ps : List (κ × D)} {qs : List (κ × V)}, RepKV K F μ ps qs → ∀ p ∈ ps, ∃ q ∈ qs, p.1 = q.1 ∧ Rep K F μ p.2 q.2
  | [], [], _, q, h => by cases h
  | p :: ps, q :: qs, h, z, hz => by
    rcases List.mem_cons.mp hz with rfl | hz
    · exact ⟨q, by simp, h.1, h.2.1⟩
    · obtain ⟨y, h1, h2⟩ := repKV_mem2 h.2.2 z hz
      exact ⟨y, by simp [h1], h2⟩
  | [], _ :: _, h, _, _ => h.elim
  | _ :: _, [], h, _, _ => h.elim
theorem sim2Dq {neg : Bool} : Sim2 K (fun x y H Q => (DctIs H x y ∧ Q (.bl (!neg)) H) ∨ (DctDiff K H x y ∧ Q (.bl neg) H)) (f2Dq neg) := by
  intro σ F μ H env st x y v u z st' Q w en rx ry h k
  unfold f2Dq at h
  split at h
  · rename_i n m
    split at h
    · rename_i ks ls e1 e2
      obtain ⟨a, vs, rfl, sa, qa⟩ := asK_ok w en rx e1
      obtain ⟨b, us, rfl, sb, qb⟩ := asK_ok w en ry e2
      split at h
      · rename_i hnm
        cases h
        obtain ⟨a', ea, ha⟩ := rx
        obtain ⟨b', eb, hb⟩ := ry
        cases ea; cases eb
        rw [hnm, hb] at ha
        cases ha
        exact .inl ⟨⟨_, vs, rfl, rfl, sa⟩, k _ F μ H w Stp.refl rfl⟩
      · split at h
        · rename_i hl
          cases h
          refine .inr ⟨⟨a, b, vs, us, rfl, rfl, sa, sb, .inl ?_⟩, k _ F μ H w Stp.refl rfl⟩
          rw [← RepKV.length qa, ← RepKV.length qb]; exact hl
        · split at h
          · rename_i hc
            cases h
            refine .inr ⟨⟨a, b, vs, us, rfl, rfl, sa, sb, .inr ⟨?_, fun q hq y hy => ?_⟩⟩, k _ F μ H w Stp.refl rfl⟩
            · obtain ⟨p, hp, hd⟩ := List.any_eq_true.mp hc.1
              unfold difAt at hd
              split at hd
              · rename_i i j e3 e4
                obtain ⟨q, hq, hk, hr⟩ := repKV_mem2 qa p hp
                rw [e3] at hr
                have hr : q.2 = .int i := hr
                obtain ⟨y, hy, ry⟩ := (RepKV.val p.1 qb).1 _ e4
                have ry : y = .int j := ry
                subst ry
                exact ⟨p.1, i, j, by rw [← hr, hk]; exact hq, hy, of_decide_eq_true hd⟩
              · cases hd
            · obtain ⟨p, hp, hk, hr⟩ := repKV_mem qa q hq
              have hcm := List.all_eq_true.mp hc.2 p hp
              unfold cmpAt at hcm
              have hv := RepKV.val p.1 qb
              split at hcm
              · rename_i d e5
                obtain ⟨y', hy', ry'⟩ := hv.1 d e5
                rw [hk, hy] at hy'
                cases hy'
                exact cmpD_ok w hr ry' hcm
              · rename_i e5
                have := hv.2 e5
                rw [hk, hy] at this
                cases this
          · cases h
    · cases h
  · rename_i n as bs
    split at h
    · rename_i ks e1
      split at h
      · rename_i hl
        cases h
        obtain ⟨a, vs, rfl, sa, qa⟩ := asK_ok w en rx e1
        obtain ⟨b, us, rfl, sb, qb⟩ := asK_ok (r := .d (.dct as bs)) (xs := as.zip bs) w en ry rfl
        refine .inr ⟨⟨a, b, vs, us, rfl, rfl, sa, sb, .inl ?_⟩, k _ F μ H w Stp.refl rfl⟩
        rw [← RepKV.length qa, ← RepKV.length qb]; exact hl
      · cases h
    · cases h
  · cases h
end
theorem op_dq {X : Cx} (hu : X.A.units + 66 < cLine) (neg : Bool) : OpR X (compareOp (if neg then .NotEq else .Eq)) (fun x y H Q => (DctIs H x y ∧ Q (.bl (!neg)) H) ∨ (DctDiff X.K H x y ∧ Q (.bl neg) H)) := OpR.or (op_dctIs hu neg) (op_dctDiff hu neg)
theorem kEqM {X : Cx} (hu : X.A.units + 66 < cLine) : CmpK X .Eq (fOr (fOr (f2Eq false) (f2EqK false)) (f2Dq false)) := ⟨_, OpR.or (OpR.or (op_eqD (by omega)) (op_eqDct (by omega))) (op_dq hu false), (sim2EqD.or sim2EqK).or sim2Dq⟩
theorem kNeM {X : Cx} (hu : X.A.units + 66 < cLine) : CmpK X .NotEq (fOr (fOr (f2Eq true) (f2EqK true)) (f2Dq true)) := ⟨_, OpR.or (OpR.or (op_neD (by omega)) (op_neDct (by omega))) (op_dq hu true), (sim2NeD.or sim2NeK).or sim2Dq⟩
theorem hu66 {A : Around} {k : Nat} (hr : Room k A) : A.units + 66 < cLine := by
  have h := hr.un
  omega
/-! ### >= of data -/
def notNone : PySem.PyData → Bool
  | .none => false
  | _ => true
def f2GeD : Env → Store → R → R → Option (R × Store) := fun _ st x y => match x, y with
  | .d d, .d u => match toP dr0 d, toP dr0 u with
    | some p, some q => if PySem.W.alike p q = true ∧ notNone p = true ∧ p.depth ≤ 60 then some (.d (.bl (!PySem.W.dataLt p q)), st) else none
    | _, _ => none
  | _, _ => none
def rGeD (K : PySem.W.Frag) : R2 := fun x y H Q => ∃ d e, Dp K H x d ∧ Dp K H y e ∧ PySem.W.alike d e = true ∧ d ≠ .none ∧ d.depth ≤ 60 ∧ Q (.bl (!PySem.W.dataLt d e)) H
theorem op_geD {X : Cx} (hu : X.A.units + 65 < cLine) : OpR X (compareOp .GtE) (rGeD X.K) := by
  intro pins s σ H x y v u Q I rx ry h
  obtain ⟨d, e, hd, he, ha, hn, hz, q⟩ := h
  obtain ⟨as, r1⟩ := Dp.reads I d _ _ hd rx
  obtain ⟨bs, r2⟩ := Dp.reads I e _ _ he ry
  exact PySem.W.ge_data r1 r2 ha hn (by omega) ⟨.bl _, H, I, rfl, q⟩
theorem sim2GeD {K : PySem.W.Frag} : Sim2 K (rGeD K) f2GeD := by
  intro σ F μ H env st x y v u z st' Q w en rx ry h k
  unfold f2GeD at h
  split at h
  · rename_i d e
    split at h
    · rename_i p q e1 e2
      split at h
      · rename_i hc
        cases h
        exact ⟨p, q, toP_ok (dr := dr0) w (fun _ _ _ _ h => by cases h) _ _ _ rx e1, toP_ok (dr := dr0) w (fun _ _ _ _ h => by cases h) _ _ _ ry e2, hc.1, (fun q => by rw [q] at hc; cases hc.2.1), hc.2.2, k _ F μ H w Stp.refl rfl⟩
      · cases h
    · cases h
  · cases h
theorem kGeD {X : Cx} (hu : X.A.units + 65 < cLine) : CmpK X .GtE (fOr (f2I (fun _ _ => true) fun i j => .bl (decide (j ≤ i))) f2GeD) :=
  ⟨_, OpR.or op_ge (op_geD hu), (sim2I0 (g := fun i j => .bl (decide (j ≤ i))) (g' := fun i j => .bl (decide (j ≤ i))) fun _ _ _ _ => rfl).or sim2GeD⟩
/-! ### max(xs) -/
def f1Max : Env → Store → R → Option (R × Store) := fun env st x => match asL env st x with
  | some xs => match numsOf xs with
    | some is => match is.max? with
      | some j => some (.d (.int j), st)
      | none => none
    | none => none
  | none => none
section
variable {X : Cx} {e : Expr} {m : ME} {pos : Pos}
theorem xmax1 (hc : X.calm = true) {x : Str} {p : Pos} (hg : Gl X x) (hm : X.mg x = none) (hv : bootBuiltins x = some (.builtin "max")) (ha : XE X e m) (hn : x ≠ "__name__" := by decide)
    (hdb : (x == ("__debug__" : Str)) = false := by decide) (he : starEach (e :: []) X.env = (false, eval e X.env) :: starEach [] X.env := by rfl) (hpl : (backTo pos (starEach [] X.env)).any (·.1) = false := by rfl) : XE X (.Call (.Name x p) [e] [] pos) (m1 m f1Max) := by
  refine xcallB (cr_max hc) ?_ hg hm hv ha hn hdb he hpl
  intro σ F μ H env st x v z st' Q w en rx h k
  unfold f1Max at h
  split at h
  · rename_i xs e1
    split at h
    · rename_i is e2
      split at h
      · rename_i j e3
        cases h
        obtain ⟨a, vs, rfl, sq, q⟩ := asL_ok w en rx e1
        rw [numsOf_ok e2] at q
        rw [q.ints] at sq
        rw [List.max?_eq_some_iff] at e3
        refine ⟨a, is, rfl, sq, List.length_pos_of_mem e3.1, fun m hm1 hm2 => ?_⟩
        have : m = j := by
          have h3 := hm2 j e3.1
          have h4 := e3.2 m hm1
          omega
        rw [this]
        exact k _ F μ H w Stp.refl rfl
      · cases h
    · cases h
  · cases h
end
end Gx

set_option maxHeartbeats 2000000
namespace Gx
open PySem L2
/-! evaluating mirrors -/
section
variable {env : Env} {st st1 st2 st3 : Store} {a b c : ME} {x y : R} {d e : D}
@[simp] theorem ev_mC : mC d env st = some (.d d, st) := (rfl)
theorem ev_m2 {f} (h1 : a env st = some (x, st1)) (h2 : b env st1 = some (y, st2)) : m2 a b f env st = f env st2 x y := by
  unfold m2; rw [h1]; dsimp only; rw [h2]
theorem ev_m1 {f} (h1 : a env st = some (x, st1)) : m1 a f env st = f env st1 x := by
  unfold m1; rw [h1]
@[simp] theorem ev_nil : mNil env st = some ([], st) := (rfl)
@[simp] theorem ev_skip : mSkip env st = some (.nx, env, st) := (rfl)
@[simp] theorem ev_yes : mYes env st = some (true, st) := (rfl)
@[simp] theorem ev_nop : mNoPart env st = some (none, st) := (rfl)
end
/-- ints as data -/
def dI (xs : List Int) : List D := xs.map D.int
@[simp] theorem dI_length (xs : List Int) : (dI xs).length = xs.length := by simp [dI]
theorem dI_get {xs : List Int} {i : Nat} (h : i < xs.length) : (dI xs)[i]? = some (.int xs[i]) := by simp [dI, h]
theorem atI_ints {xs : List Int} {i : Nat} (h : i < xs.length) : atI (dI xs) (i : Int) = some (.int xs[i]) := atI_nat (dI_get h)
theorem lcGo_map {j : Nat} {e : ME} {env : Env} {chk : Store → Bool} {st : Store} (hc : chk st = true) (f : D → D) : ∀ (xs : List D) (acc : List D), acc.length + xs.length ≤ 16000000 → (∀ x ∈ xs, e (env.set j (.val x)) st = some (.d (f x), st)) →
    lcGo j mYes e env chk xs st acc = some (acc ++ xs.map f, st)
  | [], acc, _, _ => by simp [lcGo, hc]
  | x :: xs, acc, hl, h => by
    unfold lcGo
    rw [if_pos hc]
    simp only [ev_yes]
    rw [h x (by simp)]
    dsimp only
    rw [if_pos (by simp at hl; omega), lcGo_map hc f xs (acc ++ [f x]) (by simp at hl ⊢; omega) (fun y hy => h y (by simp [hy]))]
    simp
theorem lcGo_filter {j : Nat} {t : MT} {e : ME} {env : Env} {chk : Store → Bool} {st : Store} (hc : chk st = true) (p : D → Bool) (f : D → D) : ∀ (xs : List D) (acc : List D), acc.length + xs.length ≤ 16000000 → (∀ x ∈ xs, t (env.set j (.val x)) st = some (p x, st)) → (∀ x ∈ xs, p x = true → e (env.set j (.val x)) st = some (.d (f x), st)) →
    lcGo j t e env chk xs st acc = some (acc ++ (xs.filter p).map f, st)
  | [], acc, _, _, _ => by simp [lcGo, hc]
  | x :: xs, acc, hl, ht, h => by
    unfold lcGo
    rw [if_pos hc, ht x (by simp)]
    cases hp : p x with
    | true =>
      dsimp only
      rw [h x (by simp) hp]
      dsimp only
      rw [if_pos (by simp at hl; omega), lcGo_filter hc p f xs (acc ++ [f x]) (by simp at hl ⊢; omega) (fun y hy => ht y (by simp [hy])) (fun y hy => h y (by simp [hy]))]
      simp [hp]
    | false =>
      dsimp only
      rw [lcGo_filter hc p f xs acc (by simp at hl ⊢; omega) (fun y hy => ht y (by simp [hy])) (fun y hy => h y (by simp [hy]))]
      simp [hp]
/-- [e for j in range(n)] -/
theorem lc_rng {m : ME} {j : Nat} {e : ME} {vs : List Nat} {env : Env} {st st1 : Store} {n : Nat} (f : Nat → D) (hm : m env st = some (.d (.int n), st1)) (hn : n ≤ 1000000) (h : ∀ k : Nat, k < n → e ((wipeE env vs).set j (.val (.int k))) st1 = some (.d (f k), st1)) :
    mLc (mRng1 m) j mYes e vs env st = some (.lst ((List.range n).map f), st1) := by
  have h1 : mRng1 m env st = some (.rng 0 n, st1) := by
    unfold mRng1; rw [hm]; dsimp only
    rw [if_pos (by unfold inR; exact decide_eq_true (by omega))]
    simp
  unfold mLc
  rw [h1]
  dsimp only [srcItems]
  rw [lcGo_map (by simp) (fun x => match x with | .int i => f i.toNat | _ => .non) _ [] (by simp [rngItems]; omega) (fun x hx => ?_)]
  · simp [rngItems]
  · obtain ⟨k, hk, rfl⟩ := List.mem_map.mp hx
    simp only [Int.zero_add]
    rw [h k (List.mem_range.mp hk)]
    simp
theorem lc_rngIf {m : ME} {j : Nat} {t : MT} {e : ME} {vs : List Nat} {env : Env} {st st1 : Store} {n : Nat} (p : Nat → Bool) (f : Nat → D) (hm : m env st = some (.d (.int n), st1)) (hn : n ≤ 1000000) (ht : ∀ k : Nat, k < n → t ((wipeE env vs).set j (.val (.int k))) st1 = some (p k, st1)) (h : ∀ k : Nat, k < n → p k = true → e ((wipeE env vs).set j (.val (.int k))) st1 = some (.d (f k), st1)) :
    mLc (mRng1 m) j t e vs env st = some (.lst (((List.range n).filter p).map f), st1) := by
  have h1 : mRng1 m env st = some (.rng 0 n, st1) := by
    unfold mRng1; rw [hm]; dsimp only
    rw [if_pos (by unfold inR; exact decide_eq_true (by omega))]
    simp
  unfold mLc
  rw [h1]
  dsimp only [srcItems]
  rw [lcGo_filter (by simp) (fun x => match x with | .int i => p i.toNat | _ => false) (fun x => match x with | .int i => f i.toNat | _ => .non) _ [] (by simp [rngItems]; omega) (fun x hx => ?_) (fun x hx hp => ?_)]
  · simp [rngItems, List.filter_map, Function.comp_def]
  · obtain ⟨k, hk, rfl⟩ := List.mem_map.mp hx
    simp only [Int.zero_add]
    rw [ht k (List.mem_range.mp hk)]
    simp
  · obtain ⟨k, hk, rfl⟩ := List.mem_map.mp hx
    simp only [Int.zero_add] at hp ⊢
    rw [h k (List.mem_range.mp hk) (by simpa using hp)]
    simp
/-- for: the state by an invariant; no turn leaves the loop -/
theorem forGo_inv {g : MG} {body : MS} {chk : Env → Store → Bool} (I : Nat → Env → Store → Prop) : ∀ (xs : List D) (i0 : Nat) (env : Env) (st : Store), I i0 env st → (∀ i env st, I i env st → chk env st = true) →
    (∀ (i : Nat) (hi : i < xs.length) env st, I (i0 + i) env st → ∃ env1, g xs[i] env = some env1 ∧ ∃ f env2 st2, body env1 st = some (f, env2, st2) ∧ (f = .nx ∨ f = .ct) ∧ I (i0 + i + 1) env2 st2) →
    ∃ env' st', forGo g body chk xs env st = some (.nx, env', st') ∧ I (i0 + xs.length) env' st'
  | [], i0, env, st, h, hc, _ => ⟨env, st, by unfold forGo; rw [if_pos (hc _ _ _ h)], h⟩
  | x :: xs, i0, env, st, h, hc, hs => by
    obtain ⟨env1, h1, f, env2, st2, h2, h3, h4⟩ := hs 0 (by simp) env st h
    obtain ⟨env', st', h5, h6⟩ := forGo_inv I xs (i0 + 1) env2 st2 h4 hc (fun i hi e s q => by
      have := hs (i + 1) (by simp; omega) e s (by rw [show i0 + (i + 1) = i0 + 1 + i by omega]; exact q)
      rw [show i0 + (i + 1) + 1 = i0 + 1 + i + 1 by omega] at this
      exact this)
    refine ⟨env', st', ?_, by rw [show i0 + (x :: xs).length = i0 + 1 + xs.length by simp; omega]; exact h6⟩
    unfold forGo
    rw [if_pos (hc _ _ _ h)]
    have h1' : g x env = some env1 := h1
    rw [h1']
    dsimp only
    rw [h2]
    rcases h3 with rfl | rfl <;> exact h5
theorem for_rng {m : ME} {g : MG} {body : MS} {env : Env} {st st1 : Store} {n : Nat} (I : Nat → Env → Store → Prop) (hm : m env st = some (.d (.int n), st1)) (hn : n ≤ 1000000) (h0 : I 0 env st1)
    (hs : ∀ k env st, k < n → I k env st → ∃ env1, g (.int (k : Nat)) env = some env1 ∧ ∃ f env2 st2, body env1 st = some (f, env2, st2) ∧ (f = .nx ∨ f = .ct) ∧ I (k + 1) env2 st2) :
    ∃ env' st', mFor (mRng1 m) g body env st = some (.nx, env', st') ∧ I n env' st' := by
  have h1 : mRng1 m env st = some (.rng 0 n, st1) := by
    unfold mRng1; rw [hm]; dsimp only
    rw [if_pos (by unfold inR; exact decide_eq_true (by omega))]
    simp
  unfold mFor
  rw [h1]
  dsimp only
  rw [if_pos (show isData _ = true from rfl)]
  dsimp only [srcItems]
  have hl : (rngItems 0 n).length = n := by simp [rngItems]
  obtain ⟨env', st', h2, h3⟩ := forGo_inv (g := g) (body := body) (chk := fun env st => decide (some (rngItems 0 n) = some (rngItems 0 n))) I (rngItems 0 n) 0 env st1 h0 (fun _ _ _ _ => by simp) (fun i hi e s q => by
    rw [hl] at hi
    have := hs i e s hi (by simpa using q)
    simpa [rngItems] using this)
  rw [hl, Nat.zero_add] at h3
  exact ⟨env', st', h2, h3⟩
theorem for_rng2 {ma mb : ME} {g : MG} {body : MS} {env : Env} {st st1 st2 : Store} {lo hi : Int} (I : Nat → Env → Store → Prop) (hm : ma env st = some (.d (.int lo), st1)) (hm2 : mb env st1 = some (.d (.int hi), st2)) (hn : -1000000 ≤ lo ∧ lo ≤ 1000000 ∧ -1000000 ≤ hi ∧ hi ≤ 1000000) (h0 : I 0 env st2)
    (hs : ∀ (k : Nat) env st, lo + k < hi → I k env st → ∃ env1, g (.int (lo + k)) env = some env1 ∧ ∃ f env2 st2, body env1 st = some (f, env2, st2) ∧ (f = .nx ∨ f = .ct) ∧ I (k + 1) env2 st2) :
    ∃ env' st', mFor (mRng2 ma mb) g body env st = some (.nx, env', st') ∧ I (hi - lo).toNat env' st' := by
  have h1 : mRng2 ma mb env st = some (.rng lo (hi - lo).toNat, st2) := by
    unfold mRng2; rw [hm]; dsimp only; rw [hm2]; dsimp only
    rw [if_pos (by unfold inR; rw [decide_eq_true (by omega), decide_eq_true (by omega)]; rfl)]
  unfold mFor
  rw [h1]
  dsimp only
  rw [if_pos (show isData _ = true from rfl)]
  dsimp only [srcItems]
  have hl : (rngItems lo (hi - lo).toNat).length = (hi - lo).toNat := by simp [rngItems]
  obtain ⟨env', st', h2, h3⟩ := forGo_inv (g := g) (body := body) (chk := fun env st => decide (some (rngItems lo (hi - lo).toNat) = some (rngItems lo (hi - lo).toNat))) I (rngItems lo (hi - lo).toNat) 0 env st2 h0 (fun _ _ _ _ => by simp) (fun i hi' e s q => by
    rw [hl] at hi'
    have := hs i e s (by omega) (by simpa using q)
    simpa [rngItems] using this)
  rw [hl, Nat.zero_add] at h3
  exact ⟨env', st', h2, h3⟩
/-- for over data -/
theorem for_seq {m : ME} {g : MG} {body : MS} {env : Env} {st st1 : Store} {d : D} {xs : List D} (I : Nat → Env → Store → Prop) (hm : m env st = some (.d d, st1)) (hd : d = .lst xs ∨ d = .tup xs) (h0 : I 0 env st1)
    (hs : ∀ (k : Nat) (hk : k < xs.length) env st, I k env st → ∃ env1, g xs[k] env = some env1 ∧ ∃ f env2 st2, body env1 st = some (f, env2, st2) ∧ (f = .nx ∨ f = .ct) ∧ I (k + 1) env2 st2) :
    ∃ env' st', mFor (mSeq m) g body env st = some (.nx, env', st') ∧ I xs.length env' st' := by
  have hs' : ∀ env st, seqOf env st (.d d) = some xs := fun env st => by rcases hd with rfl | rfl <;> rfl
  have h1 : mSeq m env st = some (.seq (.d d), st1) := by
    unfold mSeq; rw [hm]; dsimp only; rw [hs']
  unfold mFor
  rw [h1]
  dsimp only
  rw [if_pos (show isData _ = true from rfl)]
  dsimp only [srcItems]
  rw [hs']
  dsimp only
  obtain ⟨env', st', h2, h3⟩ := forGo_inv (g := g) (body := body) (chk := fun env st => decide (seqOf env st (.d d) = some xs)) I xs 0 env st1 h0 (fun _ e s _ => by simp [hs']) (fun i hi e s q => by
    have := hs i hi e s (by simpa using q)
    simpa using this)
  rw [Nat.zero_add] at h3
  exact ⟨env', st', h2, h3⟩
/-- == of dI, tuples and lists of dI, bools -/
theorem toPs_ints (dr : Nat → Option PyData) : ∀ xs : List Int, toPs dr (dI xs) = some (xs.map .int)
  | [] => rfl
  | x :: xs => by
    have := toPs_ints dr xs
    simp only [dI] at this
    simp [dI, toPs, toP, this]
theorem eqvAll_ints : ∀ xs ys : List Int, PyData.eqvAll (xs.map .int) (ys.map .int) = decide (xs = ys)
  | [], [] => by simp [PyData.eqvAll]
  | [], _ :: _ => by simp [PyData.eqvAll]
  | _ :: _, [] => by simp [PyData.eqvAll]
  | x :: xs, y :: ys => by
    simp only [List.map_cons, PyData.eqvAll, PyData.eqv, eqvAll_ints xs ys]
    by_cases h : x = y <;> simp [h]
mutual
def okD : D → Bool
  | .non => true
  | .int _ => true
  | .str x => PyData.strOk x
  | .tup xs => okDs xs
  | .lst xs => okDs xs
  | _ => false
def okDs : List D → Bool
  | [] => true
  | x :: xs => okD x && okDs xs
end
mutual
def depD : D → Nat
  | .tup xs => depDs xs + 1
  | .lst xs => depDs xs + 1
  | _ => 0
def depDs : List D → Nat
  | [] => 0
  | x :: xs => max (depD x) (depDs xs)
end
mutual
theorem toP_okD (dr : Nat → Option PyData) : ∀ (x : D), okD x = true → ∃ p, toP dr x = some p ∧ p.canLay0 = true ∧ p.depth = depD x
  | .non, _ => ⟨_, rfl, rfl, rfl⟩
  | .int i, _ => ⟨_, rfl, rfl, rfl⟩
  | .str x, h => ⟨_, rfl, h, rfl⟩
  | .tup xs, h => by
    obtain ⟨ps, h1, h2, h3⟩ := toPs_okD dr xs h
    exact ⟨.tuple ps, by simp [toP, h1], h2, by simp [PyData.depth, depD, h3]⟩
  | .lst xs, h => by
    obtain ⟨ps, h1, h2, h3⟩ := toPs_okD dr xs h
    exact ⟨.list ps, by simp [toP, h1], h2, by simp [PyData.depth, depD, h3]⟩
  | .bl _, h => by simp [okD] at h
  | .ty _, h => by simp [okD] at h
  | .dct _ _, h => by simp [okD] at h
  | .dtt _ _, h => by simp [okD] at h
  | .ref _, h => by simp [okD] at h
  | .fn _, h => by simp [okD] at h
theorem toPs_okD (dr : Nat → Option PyData) : ∀ (xs : List D), okDs xs = true → ∃ ps, toPs dr xs = some ps ∧ PyData.canLayAll0 ps = true ∧ PyData.depthAll ps = depDs xs
  | [], _ => ⟨[], rfl, rfl, rfl⟩
  | x :: xs, h => by
    simp only [okDs, Bool.and_eq_true] at h
    obtain ⟨p, h1, h2, h3⟩ := toP_okD dr x h.1
    obtain ⟨ps, g1, g2, g3⟩ := toPs_okD dr xs h.2
    exact ⟨p :: ps, by simp [toPs, h1, g1], by simp [PyData.canLayAll0, h2, g2], by simp [PyData.depthAll, depDs, h3, g3]⟩
end
mutual
theorem eqv_okD (dr : Nat → Option PyData) : ∀ (x y : D) (p q : PyData), okD x = true → okD y = true → toP dr x = some p → toP dr y = some q → PyData.eqv p q = decide (x = y)
  | .non, y, p, q, hx, hy, h1, h2 => by
    simp only [toP] at h1; cases h1
    cases y <;> simp only [toP, Option.map_eq_some_iff, okD, Bool.false_eq_true] at h2 hy <;> (first | (obtain ⟨z, _, rfl⟩ := h2) | cases h2) <;> simp [PyData.eqv] <;> exact Bool.beq_eq_decide_eq _ _
  | .int i, y, p, q, hx, hy, h1, h2 => by
    simp only [toP] at h1; cases h1
    cases y <;> simp only [toP, Option.map_eq_some_iff, okD, Bool.false_eq_true] at h2 hy <;> (first | (obtain ⟨z, _, rfl⟩ := h2) | cases h2) <;> simp [PyData.eqv] <;> exact Bool.beq_eq_decide_eq _ _
  | .str x, y, p, q, hx, hy, h1, h2 => by
    simp only [toP] at h1; cases h1
    cases y <;> simp only [toP, Option.map_eq_some_iff, okD, Bool.false_eq_true] at h2 hy <;> (first | (obtain ⟨z, _, rfl⟩ := h2) | cases h2) <;> simp [PyData.eqv] <;> exact Bool.beq_eq_decide_eq _ _
  | .tup xs, y, p, q, hx, hy, h1, h2 => by
    simp only [toP, Option.map_eq_some_iff] at h1
    obtain ⟨ps, h1, rfl⟩ := h1
    cases y with
    | tup ys =>
      simp only [toP, Option.map_eq_some_iff] at h2
      obtain ⟨qs, h2, rfl⟩ := h2
      rw [PyData.eqv, eqv_okDs dr xs ys ps qs hx hy h1 h2]
      simp
    | lst ys =>
      simp only [toP, Option.map_eq_some_iff] at h2
      obtain ⟨qs, h2, rfl⟩ := h2
      simp [PyData.eqv]
    | _ => simp_all [okD, toP] <;> (subst h2; simp [PyData.eqv])
  | .lst xs, y, p, q, hx, hy, h1, h2 => by
    simp only [toP, Option.map_eq_some_iff] at h1
    obtain ⟨ps, h1, rfl⟩ := h1
    cases y with
    | lst ys =>
      simp only [toP, Option.map_eq_some_iff] at h2
      obtain ⟨qs, h2, rfl⟩ := h2
      rw [PyData.eqv, eqv_okDs dr xs ys ps qs hx hy h1 h2]
      simp
    | tup ys =>
      simp only [toP, Option.map_eq_some_iff] at h2
      obtain ⟨qs, h2, rfl⟩ := h2
      simp [PyData.eqv]
    | _ => simp_all [okD, toP] <;> (subst h2; simp [PyData.eqv])
  | .bl _, _, _, _, h, _, _, _ => by simp [okD] at h
  | .ty _, _, _, _, h, _, _, _ => by simp [okD] at h
  | .dct _ _, _, _, _, h, _, _, _ => by simp [okD] at h
  | .dtt _ _, _, _, _, h, _, _, _ => by simp [okD] at h
  | .ref _, _, _, _, h, _, _, _ => by simp [okD] at h
  | .fn _, _, _, _, h, _, _, _ => by simp [okD] at h
theorem eqv_okDs (dr : Nat → Option PyData) : ∀ (xs ys : List D) (ps qs : List PyData), okDs xs = true → okDs ys = true → toPs dr xs = some ps → toPs dr ys = some qs → PyData.eqvAll ps qs = decide (xs = ys)
  | [], [], ps, qs, _, _, h1, h2 => by
    simp only [toPs] at h1 h2; cases h1; cases h2; simp [PyData.eqvAll]
  | [], y :: ys, ps, qs, _, hy, h1, h2 => by
    obtain ⟨qs', g1, _⟩ := toPs_okD dr (y :: ys) hy
    simp only [toPs] at h1; cases h1
    simp only [toPs] at h2
    split at h2
    · rw [Option.map_eq_some_iff] at h2
      obtain ⟨z, _, rfl⟩ := h2
      simp [PyData.eqvAll]
    · cases h2
  | x :: xs, [], ps, qs, hx, _, h1, h2 => by
    simp only [toPs] at h2; cases h2
    simp only [toPs] at h1
    split at h1
    · rw [Option.map_eq_some_iff] at h1
      obtain ⟨z, _, rfl⟩ := h1
      simp [PyData.eqvAll]
    · cases h1
  | x :: xs, y :: ys, ps, qs, hx, hy, h1, h2 => by
    simp only [okDs, Bool.and_eq_true] at hx hy
    simp only [toPs] at h1 h2
    split at h1
    · rename_i p e1
      rw [Option.map_eq_some_iff] at h1
      obtain ⟨ps', e2, rfl⟩ := h1
      split at h2
      · rename_i q e3
        rw [Option.map_eq_some_iff] at h2
        obtain ⟨qs', e4, rfl⟩ := h2
        rw [PyData.eqvAll, eqv_okD dr x y p q hx.1 hy.1 e1 e3, eqv_okDs dr xs ys ps' qs' hx.2 hy.2 e2 e4]
        by_cases h : x = y <;> simp [h]
      · cases h2
    · cases h1
end
theorem ev_eq {neg : Bool} {env : Env} {st : Store} {x y : D} (hx : okD x = true) (hy : okD y = true) (dx : depD x ≤ 64 := by decide) (dy : depD y ≤ 64 := by decide) : f2Eq neg env st (.d x) (.d y) = some (.d (.bl (if neg then !decide (x = y) else decide (x = y))), st) := by
  obtain ⟨p, h1, h2, h3⟩ := toP_okD (dr2 st) x hx
  obtain ⟨q, g1, g2, g3⟩ := toP_okD (dr2 st) y hy
  have a1 : toPR env st (.d x) = some p := h1
  have a2 : toPR env st (.d y) = some q := g1
  unfold f2Eq
  rw [a1, a2]
  dsimp only
  rw [if_pos, eqv_okD (dr2 st) x y p q hx hy h1 g1]
  unfold SeqAt.shaped
  simp [h2, g2, h3, g3, dx, dy]
theorem ev_eqB {neg : Bool} {env : Env} {st : Store} {a b : Bool} : f2Eq neg env st (.d (.bl a)) (.d (.bl b)) = some (.d (.bl (if neg then !(a == b) else a == b)), st) := by
  unfold f2Eq toPR toP
  simp [SeqAt.shaped, PyData.canLay0, PyData.depth, PyData.eqv]
@[simp] theorem okDs_ints : ∀ xs : List Int, okDs (dI xs) = true
  | [] => rfl
  | x :: xs => by
    have := okDs_ints xs
    simp only [dI] at this
    simp [dI, okDs, okD, this]
theorem depDs_ints : ∀ xs : List Int, depDs (dI xs) = 0
  | [] => rfl
  | x :: xs => by
    have := depDs_ints xs
    simp only [dI] at this
    simp [dI, depDs, depD, this]
theorem dI_inj {xs ys : List Int} (h : dI xs = dI ys) : xs = ys := by
  induction xs generalizing ys with
  | nil => cases ys <;> simp_all [dI]
  | cons x xs ih =>
    cases ys with
    | nil => simp [dI] at h
    | cons y ys =>
      simp [dI] at h
      rw [h.1, ih (by simpa [dI] using h.2)]
/-- tuples of ints -/
def tI (xs : List Int) : D := .tup (dI xs)
theorem ev_eqT {neg : Bool} {env : Env} {st : Store} {xs ys : List Int} : f2Eq neg env st (.d (tI xs)) (.d (tI ys)) = some (.d (.bl (if neg then !decide (xs = ys) else decide (xs = ys))), st) := by
  have e : (tI xs = tI ys) ↔ xs = ys := ⟨fun h => dI_inj (D.tup.inj h), fun h => by rw [h]⟩
  rw [ev_eq (by simp [tI, okD]) (by simp [tI, okD]) (by simp [tI, depD, depDs_ints]) (by simp [tI, depD, depDs_ints])]
  simp only [e]
end Gx

set_option maxHeartbeats 2000000
namespace Gx
open PySem L2
/-! own combinators: no match of Lean's is left to be reduced by the kernel -/
section
variable {α β γ : Type}
def bnd (o : Option (α × β)) (k : α → β → Option γ) : Option γ := match o with | some (a, b) => k a b | none => none
@[simp] theorem bnd_s (a : α) (b : β) (k : α → β → Option γ) : bnd (some (a, b)) k = k a b := (rfl)
@[simp] theorem bnd_n (k : α → β → Option γ) : bnd none k = none := (rfl)
def ob (o : Option α) (k : α → Option γ) : Option γ := match o with | some a => k a | none => none
@[simp] theorem ob_s (a : α) (k : α → Option γ) : ob (some a) k = k a := (rfl)
@[simp] theorem ob_n (k : α → Option γ) : ob none k = none := (rfl)
def oe (o : Option α) (k : α → γ) (z : γ) : γ := match o with | some a => k a | none => z
@[simp] theorem oe_s (a : α) (k : α → γ) (z : γ) : oe (some a) k z = k a := (rfl)
@[simp] theorem oe_n (k : α → γ) (z : γ) : oe none k z = z := (rfl)
def onD (r : R) (k : D → Option γ) : Option γ := match r with | .d d => k d | _ => none
@[simp] theorem onD_d (d : D) (k : D → Option γ) : onD (.d d) k = k d := (rfl)
@[simp] theorem onD_l (i : Nat) (k : D → Option γ) : onD (.loc i) k = none := (rfl)
def onB (r : R) (k : Bool → Option γ) : Option γ := match r with | .d (.bl b) => k b | _ => none
@[simp] theorem onB_b (b : Bool) (k : Bool → Option γ) : onB (.d (.bl b)) k = k b := (rfl)
def sq (o : Option Out) (k : Env → Store → Option Out) : Option Out := match o with | some (.nx, e, s) => k e s | r => r
@[simp] theorem sq_nx (e : Env) (s : Store) (k) : sq (some (.nx, e, s)) k = k e s := (rfl)
@[simp] theorem sq_rt (d : D) (e : Env) (s : Store) (k) : sq (some (.rt d, e, s)) k = some (.rt d, e, s) := (rfl)
@[simp] theorem sq_bk (e : Env) (s : Store) (k) : sq (some (.bk, e, s)) k = some (.bk, e, s) := (rfl)
@[simp] theorem sq_ct (e : Env) (s : Store) (k) : sq (some (.ct, e, s)) k = some (.ct, e, s) := (rfl)
@[simp] theorem sq_n (k) : sq none k = none := (rfl)
def fin (o : Option Out) : Option (D × Store) := match o with | some (.rt d, _, s) => some (d, s) | some (.nx, _, s) => some (.non, s) | _ => none
@[simp] theorem fin_rt (d : D) (e : Env) (s : Store) : fin (some (.rt d, e, s)) = some (d, s) := (rfl)
@[simp] theorem fin_nx (e : Env) (s : Store) : fin (some (.nx, e, s)) = some (.non, s) := (rfl)
def slotR (i : Nat) (o : Option Slot) (st : Store) : Option (R × Store) := match o with | some (.val d) => some (.d d, st) | some (.own _) => some (.loc i, st) | _ => none
@[simp] theorem slotR_v (i : Nat) (d : D) (st : Store) : slotR i (some (.val d)) st = some (.d d, st) := (rfl)
@[simp] theorem slotR_o (i : Nat) (so : SO) (st : Store) : slotR i (some (.own so)) st = some (.loc i, st) := (rfl)
def slotL (o : Option Slot) : Option (List D) := match o with | some (.own (.lst xs)) => some xs | _ => none
@[simp] theorem slotL_o (xs) : slotL (some (.own (.lst xs))) = some xs := (rfl)
@[simp] theorem slotL_k (xs) : slotL (some (.own (.dK xs))) = none := (rfl)
def slotK (o : Option Slot) : Option (List (Key × D)) := match o with | some (.own (.dK xs)) => some xs | _ => none
@[simp] theorem slotK_o (xs) : slotK (some (.own (.dK xs))) = some xs := (rfl)
@[simp] theorem slotK_l (xs) : slotK (some (.own (.lst xs))) = none := (rfl)
def stL (o : Option SO) : Option (List D) := match o with | some (.lst xs) => some xs | _ => none
@[simp] theorem stL_l (xs) : stL (some (.lst xs)) = some xs := (rfl)
@[simp] theorem stL_k (xs) : stL (some (.dK xs)) = none := (rfl)
@[simp] theorem stL_i (C fs) : stL (some (.ins C fs)) = none := (rfl)
def stK (o : Option SO) : Option (List (Key × D)) := match o with | some (.dK xs) => some xs | some (.dF xs) => some xs | _ => none
@[simp] theorem stK_F (xs) : stK (some (.dF xs)) = some xs := (rfl)
@[simp] theorem stK_k (xs) : stK (some (.dK xs)) = some xs := (rfl)
@[simp] theorem stK_l (xs) : stK (some (.lst xs)) = none := (rfl)
def slotO (o : Option Slot) : Option SO := match o with | some (.own so) => some so | _ => none
@[simp] theorem slotO_o (so) : slotO (some (.own so)) = some so := (rfl)
@[simp] theorem slotO_v (d) : slotO (some (.val d)) = none := (rfl)
@[simp] theorem slotO_n : slotO (some .none) = none := (rfl)
def asI : R → Option Int
  | .d (.int i) => some i
  | _ => none
@[simp] theorem asI_i (i : Int) : asI (.d (.int i)) = some i := (rfl)
@[simp] theorem asI_t (xs) : asI (.d (.tup xs)) = none := (rfl)
@[simp] theorem asI_T (xs) : asI (.d (tI xs)) = none := (rfl)
@[simp] theorem asI_l (xs) : asI (.d (.lst xs)) = none := (rfl)
@[simp] theorem asI_r (n) : asI (.d (.ref n)) = none := (rfl)
@[simp] theorem asI_o (n) : asI (.loc n) = none := (rfl)
@[simp] theorem asI_n : asI (.d .non) = none := (rfl)
@[simp] theorem asI_s (x) : asI (.d (.str x)) = none := (rfl)
@[simp] theorem asU_i (i : Int) : asU (.d (.int i)) = none := (rfl)
@[simp] theorem asU_n : asU (.d .non) = none := (rfl)
@[simp] theorem asU_s (x) : asU (.d (.str x)) = none := (rfl)
@[simp] theorem asL_i (env : Env) (st : Store) (i : Int) : asL env st (.d (.int i)) = none := (rfl)
@[simp] theorem asL_n (env : Env) (st : Store) : asL env st (.d .non) = none := (rfl)
end
section
variable (env : Env) (st : Store)
@[simp] theorem ev_m2' (a b : ME) (f : Env → Store → R → R → Option (R × Store)) : m2 a b f env st = bnd (a env st) fun x st1 => bnd (b env st1) fun y st2 => f env st2 x y := by
  unfold m2 bnd
  split <;> simp_all
  split <;> simp_all
@[simp] theorem ev_m1' (a : ME) (f : Env → Store → R → Option (R × Store)) : m1 a f env st = bnd (a env st) fun x st1 => f env st1 x := by
  unfold m1 bnd
  split <;> simp_all
@[simp] theorem ev_mAdd (a b : ME) : mAdd a b env st = m2 a b (fOr (f2I (fun _ _ => true) fun i j => .int (i + j)) f2Cat) env st := (rfl)
@[simp] theorem ev_mSub (a b : ME) : mSub a b env st = m2 a b (f2I (fun _ _ => true) fun i j => .int (i - j)) env st := (rfl)
@[simp] theorem ev_mMul (a b : ME) : mMul a b env st = m2 a b (f2I cMul fun i j => .int (i * j)) env st := (rfl)
@[simp] theorem ev_mMod (a b : ME) : mMod a b env st = m2 a b (f2I cPos fun i j => .int (i % j)) env st := (rfl)
@[simp] theorem ev_mFdiv (a b : ME) : mFdiv a b env st = m2 a b (f2I cDivW fun i j => .int (i / j)) env st := (rfl)
@[simp] theorem ev_mPow (a b : ME) : mPow a b env st = m2 a b (f2I cPow fun i j => .int (i ^ j.toNat)) env st := (rfl)
@[simp] theorem ev_mLt (a b : ME) : mLt a b env st = m2 a b (f2I (fun _ _ => true) fun i j => .bl (decide (i < j))) env st := (rfl)
@[simp] theorem ev_mLe (a b : ME) : mLe a b env st = m2 a b (f2I (fun _ _ => true) fun i j => .bl (decide (i ≤ j))) env st := (rfl)
@[simp] theorem ev_mGt (a b : ME) : mGt a b env st = m2 a b (f2I (fun _ _ => true) fun i j => .bl (decide (j < i))) env st := (rfl)
@[simp] theorem ev_mGe (a b : ME) : mGe a b env st = m2 a b (f2I (fun _ _ => true) fun i j => .bl (decide (j ≤ i))) env st := (rfl)
@[simp] theorem ev_mEq (a b : ME) : mEq a b env st = m2 a b (f2Eq false) env st := (rfl)
@[simp] theorem ev_mNe (a b : ME) : mNe a b env st = m2 a b (f2Eq true) env st := (rfl)
@[simp] theorem ev_mIx (a b : ME) : mIx a b env st = m2 a b fIx env st := (rfl)
@[simp] theorem ev_mMulA (a b : ME) : mMulA a b env st = m2 a b fMul env st := (rfl)
@[simp] theorem ev_mTest (m : ME) : mTest m env st = bnd (m env st) fun x s => onB x fun b => some (b, s) := by
  cases h : m env st with
  | none => simp only [mTest, h, bnd_n]
  | some z =>
    obtain ⟨r, s⟩ := z
    simp only [mTest, h, bnd_s]
    cases r with
    | loc i => rfl
    | d d => cases d <;> rfl
@[simp] theorem ev_mAndT (t u : MT) : mAndT t u env st = bnd (t env st) fun b s => if b = true then u env s else some (false, s) := by
  cases h : t env st with
  | none => simp only [mAndT, h, bnd_n]
  | some z => obtain ⟨b, s⟩ := z; cases b <;> simp [mAndT, h]
@[simp] theorem ev_mOrT (t u : MT) : mOrT t u env st = bnd (t env st) fun b s => if b = true then some (true, s) else u env s := by
  cases h : t env st with
  | none => simp only [mOrT, h, bnd_n]
  | some z => obtain ⟨b, s⟩ := z; cases b <;> simp [mOrT, h]
@[simp] theorem ev_mNotT (t : MT) : mNotT t env st = bnd (t env st) fun b s => some (!b, s) := by
  cases h : t env st with
  | none => simp only [mNotT, h, bnd_n]
  | some z => obtain ⟨b, s⟩ := z; cases b <;> simp [mNotT, h]
@[simp] theorem ev_mIfE (t : MT) (a b : ME) : mIfE t a b env st = bnd (t env st) fun c s => if c = true then a env s else b env s := by
  cases h : t env st with
  | none => simp only [mIfE, h, bnd_n]
  | some z => obtain ⟨b, s⟩ := z; cases b <;> simp [mIfE, h]
@[simp] theorem ev_mIf (t : MT) (a b : MS) : mIf t a b env st = bnd (t env st) fun c s => if c = true then a env s else b env s := by
  cases h : t env st with
  | none => simp only [mIf, h, bnd_n]
  | some z => obtain ⟨b, s⟩ := z; cases b <;> simp [mIf, h]
@[simp] theorem ev_mAndV (a b : ME) : mAndV a b env st = bnd (a env st) fun x s => onB x fun c => if c = true then b env s else some (.d (.bl false), s) := by
  cases h : a env st with
  | none => simp only [mAndV, h, bnd_n]
  | some z =>
    obtain ⟨r, s⟩ := z
    simp only [mAndV, h, bnd_s]
    cases r with
    | loc i => rfl
    | d d => cases d <;> first | rfl | (rename_i c; cases c <;> rfl)
@[simp] theorem ev_mOrV (a b : ME) : mOrV a b env st = bnd (a env st) fun x s => onB x fun c => if c = true then some (.d (.bl true), s) else b env s := by
  cases h : a env st with
  | none => simp only [mOrV, h, bnd_n]
  | some z =>
    obtain ⟨r, s⟩ := z
    simp only [mOrV, h, bnd_s]
    cases r with
    | loc i => rfl
    | d d => cases d <;> first | rfl | (rename_i c; cases c <;> rfl)
@[simp] theorem ev_mNotV (a : ME) : mNotV a env st = bnd (a env st) fun x s => onB x fun c => some (.d (.bl (!c)), s) := by
  cases h : a env st with
  | none => simp only [mNotV, h, bnd_n]
  | some z =>
    obtain ⟨r, s⟩ := z
    simp only [mNotV, h, bnd_s]
    cases r with
    | loc i => rfl
    | d d => cases d <;> first | rfl | (rename_i c; cases c <;> rfl)
@[simp] theorem ev_mCons (m : ME) (r : MA) : mCons m r env st = bnd (m env st) fun x s => onD x fun d => bnd (r env s) fun ds s2 => some (d :: ds, s2) := by
  cases h : m env st with
  | none => simp only [mCons, h, bnd_n]
  | some z =>
    obtain ⟨x, s⟩ := z
    simp only [mCons, h, bnd_s]
    cases x with
    | loc i => rfl
    | d d => simp only [onD_d]; cases h2 : r env s <;> rfl
@[simp] theorem ev_mTup (a : MA) : mTup a env st = bnd (a env st) fun ds s => if ds.length ≤ 16000000 then some (.d (.tup ds), s) else none := by
  cases h : a env st <;> simp only [mTup, h] <;> rfl
@[simp] theorem ev_mFLst (a : MA) : mFLst a env st = bnd (a env st) fun ds s => if ds.length ≤ 16000000 then some (.lst ds, s) else none := by
  cases h : a env st <;> simp only [mFLst, h] <;> rfl
@[simp] theorem ev_mFrz (f : MF) : mFrz f env st = bnd (f env st) fun so s => ob (dOf so) fun d => some (.d d, s) := by
  cases h : f env st with
  | none => simp only [mFrz, h, bnd_n]
  | some z => obtain ⟨x, s⟩ := z; simp only [mFrz, h, bnd_s]; cases dOf x <;> rfl
@[simp] theorem ev_mAlloc (f : MF) : mAlloc f env st = bnd (f env st) fun so s => some (.d (.ref s.length), s ++ [so]) := by
  cases h : f env st <;> simp only [mAlloc, h] <;> rfl
@[simp] theorem ev_mPart (m : ME) : mPart m env st = bnd (m env st) fun x s => ob (asI x) fun i => some (some i, s) := by
  cases h : m env st with
  | none => simp only [mPart, h, bnd_n]
  | some z =>
    obtain ⟨x, s⟩ := z
    simp only [mPart, h, bnd_s]
    cases x with
    | loc i => rfl
    | d d => cases d <;> rfl
@[simp] theorem ev_mNeg (m : ME) : mNeg m env st = bnd (m env st) fun x s => ob (asI x) fun i => some (.d (.int (-i)), s) := by
  cases h : m env st with
  | none => simp only [mNeg, h, bnd_n]
  | some z =>
    obtain ⟨x, s⟩ := z
    simp only [mNeg, h, bnd_s]
    cases x with
    | loc i => rfl
    | d d => cases d <;> rfl
@[simp] theorem ev_mRng1 (m : ME) : mRng1 m env st = bnd (m env st) fun x s => ob (asI x) fun j => if inR j then some (.rng 0 j.toNat, s) else none := by
  cases h : m env st with
  | none => simp only [mRng1, h, bnd_n]
  | some z =>
    obtain ⟨x, s⟩ := z
    simp only [mRng1, h, bnd_s]
    cases x with
    | loc i => rfl
    | d d => cases d <;> rfl
@[simp] theorem ev_mSeq (m : ME) : mSeq m env st = bnd (m env st) fun r s => ob (seqOf env s r) fun _ => some (.seq r, s) := by
  cases h : m env st with
  | none => simp only [mSeq, h, bnd_n]
  | some z => obtain ⟨x, s⟩ := z; simp only [mSeq, h, bnd_s]; cases seqOf env s x <;> rfl
@[simp] theorem ev_mSq (a b : MS) : mSq a b env st = sq (a env st) b := by
  cases h : a env st with
  | none => simp only [mSq, h]; rfl
  | some z => obtain ⟨f, e, s⟩ := z; cases f <;> simp only [mSq, h] <;> rfl
@[simp] theorem ev_mFz (i : Nat) : mFz i env st = oe (slotO env[i]?) (fun so => ob (dOf so) fun d => some (.nx, env.set i (.val d), st)) (some (.nx, env, st)) := by
  cases h : env[i]? with
  | none => simp only [mFz, h]; rfl
  | some z => cases z <;> simp only [mFz, h, slotO_o, oe_s] <;> first | rfl | (rename_i o; cases dOf o <;> rfl)
@[simp] theorem ev_mSet (i : Nat) (m : ME) : mSet i m env st = bnd (m env st) fun x s => onD x fun d => some (.nx, env.set i (.val d), s) := by
  cases h : m env st with
  | none => simp only [mSet, h, bnd_n]
  | some z =>
    obtain ⟨x, s⟩ := z
    simp only [mSet, h, bnd_s]
    cases x <;> rfl
@[simp] theorem ev_mSetO (i : Nat) (f : MF) : mSetO i f env st = bnd (f env st) fun so s => some (.nx, env.set i (.own so), s) := by
  cases h : f env st <;> simp only [mSetO, h] <;> rfl
@[simp] theorem ev_mExpr (m : ME) : mExpr m env st = bnd (m env st) fun _ s => some (.nx, env, s) := by
  cases h : m env st <;> simp only [mExpr, h] <;> rfl
def retR (env : Env) (x : R) : Option D := match x with | .d d => some d | .loc i => ob (slotO env[i]?) dOf
@[simp] theorem retR_d (d : D) : retR env (.d d) = some d := (rfl)
@[simp] theorem retR_l (i : Nat) : retR env (.loc i) = ob (slotO env[i]?) dOf := (rfl)
@[simp] theorem ev_mRet (m : ME) : mRet m env st = bnd (m env st) fun x s => ob (retR env x) fun d => some (.rt d, env, s) := by
  cases h : m env st with
  | none => simp only [mRet, h]; rfl
  | some z =>
    obtain ⟨x, s⟩ := z
    simp only [mRet, h, bnd_s]
    cases x with
    | d d => rfl
    | loc i =>
      simp only [retR]
      cases h2 : env[i]? with
      | none => rfl
      | some sl => cases sl <;> first | rfl | (rename_i so; simp only [slotO_o, ob_s]; cases dOf so <;> rfl)
@[simp] theorem ev_mRetN : mRetN env st = some (.rt .non, env, st) := (rfl)
@[simp] theorem ev_mBrk : mBrk env st = some (.bk, env, st) := (rfl)
@[simp] theorem ev_mCnt : mCnt env st = some (.ct, env, st) := (rfl)
@[simp] theorem ev_mAsg (g : MG) (m : ME) : mAsg g m env st = bnd (m env st) fun x s => onD x fun d => ob (g d env) fun e => some (.nx, e, s) := by
  cases h : m env st with
  | none => simp only [mAsg, h, bnd_n]
  | some z =>
    obtain ⟨x, s⟩ := z
    simp only [mAsg, h, bnd_s]
    cases x with
    | loc i => rfl
    | d d => simp only [onD_d]; cases g d env <;> rfl
@[simp] theorem ev_mCall (c : MFn) (a : MA) : mCall c a env st = bnd (a env st) fun ds s => bnd (c ds s) fun d s2 => some (.d d, s2) := by
  cases h : a env st with
  | none => simp only [mCall, h, bnd_n]
  | some z => obtain ⟨ds, s⟩ := z; simp only [mCall, h, bnd_s]; cases c ds s <;> rfl
def soL (so : SO) : Option (List D) := match so with | .lst xs => some xs | _ => none
@[simp] theorem soL_l (xs) : soL (.lst xs) = some xs := (rfl)
@[simp] theorem ev_mFRep (f : MF) (b : ME) : mFRep f b env st = bnd (f env st) fun so s => ob (soL so) fun xs => bnd (b env s) fun y s2 => ob (asI y) fun k => if -(2 ^ 62) ≤ k ∧ k < 2 ^ 62 ∧ xs.length * k.toNat ≤ 16000000 then some (.lst (List.replicate k.toNat xs).flatten, s2) else none := by
  cases h : f env st with
  | none => simp only [mFRep, h, bnd_n]
  | some z =>
    obtain ⟨so, s⟩ := z
    simp only [mFRep, h, bnd_s]
    cases so <;> first | rfl | skip
    simp only [soL_l, ob_s]
    cases h2 : b env s with
    | none => rfl
    | some z =>
      obtain ⟨y, s2⟩ := z
      cases y with
      | loc i => rfl
      | d d => cases d <;> rfl
@[simp] theorem ev_mSt (f : SO → D → D → Option SO) (o i v : ME) : mSt f o i v env st = bnd (v env st) fun x s => onD x fun dv => bnd (o env s) fun ro s2 => bnd (i env s2) fun y s3 => onD y fun di => chg (fun so => f so di dv) env s3 ro := by
  cases h : v env st with
  | none => simp only [mSt, h, bnd_n]
  | some z =>
    obtain ⟨x, s⟩ := z
    simp only [mSt, h, bnd_s]
    cases x with
    | loc i => rfl
    | d dv =>
      simp only [onD_d]
      cases h2 : o env s with
      | none => rfl
      | some z =>
        obtain ⟨ro, s2⟩ := z
        simp only [bnd_s]
        cases h3 : i env s2 with
        | none => rfl
        | some z => obtain ⟨y, s3⟩ := z; cases y <;> rfl
@[simp] theorem ev_mApp (o v : ME) : mApp o v env st = bnd (o env st) fun ro s => bnd (v env s) fun x s2 => onD x fun dv => ob (asL env s ro) fun _ => chg (fun so => appL so dv) env s2 ro := by
  cases h : o env st with
  | none => simp only [mApp, h, bnd_n]
  | some z =>
    obtain ⟨ro, s⟩ := z
    simp only [mApp, h, bnd_s]
    cases h2 : v env s with
    | none => rfl
    | some z =>
      obtain ⟨x, s2⟩ := z
      cases x with
      | loc i => rfl
      | d d => simp only [bnd_s, onD_d]; cases asL env s ro <;> rfl
@[simp] theorem ev_mStIx (o i v : ME) : mStIx o i v env st = sOr (mSt putL o i v) (mSt putKv o i v) env st := (rfl)
@[simp] theorem ev_mPar (i j : Nat) (a b : ME) : mPar i j a b env st = bnd (a env st) fun x s => onD x fun d => bnd (b env s) fun y s2 => onD y fun e => some (.nx, (env.set i (.val d)).set j (.val e), s2) := by
  cases h : a env st with
  | none => simp only [mPar, h, bnd_n]
  | some z =>
    obtain ⟨x, s⟩ := z
    simp only [mPar, h, bnd_s]
    cases x with
    | loc i => rfl
    | d d =>
      simp only [onD_d]
      cases h2 : b env s with
      | none => rfl
      | some z => obtain ⟨y, s2⟩ := z; cases y <;> rfl
@[simp] theorem ev_sOr (a b : MS) : sOr a b env st = oe (a env st) some (b env st) := by
  unfold sOr oe
  cases a env st <;> rfl
@[simp] theorem ev_fOr (f g : Env → Store → R → R → Option (R × Store)) (x y : R) : fOr f g env st x y = oe (f env st x y) some (g env st x y) := by
  unfold fOr oe
  cases f env st x y <;> rfl
@[simp] theorem ev_f2I' (C : Int → Int → Bool) (g : Int → Int → D) (x y : R) : f2I C g env st x y = ob (asI x) fun i => ob (asI y) fun j => if C i j = true then some (.d (g i j), st) else none := by
  cases x with
  | loc i => rfl
  | d d => cases d <;> first | rfl | (cases y with
    | loc i => rfl
    | d e => cases e <;> rfl)
@[simp] theorem ev_f2Cat (x y : R) : f2Cat env st x y = ob (asU x) fun xs => ob (asU y) fun ys => if xs.length + ys.length ≤ 16000000 then some (.d (.tup (xs ++ ys)), st) else none := by
  cases x with
  | loc i => rfl
  | d d => cases d <;> first | rfl | (cases y with
    | loc i => rfl
    | d e => cases e <;> rfl)
@[simp] theorem ev_f2RepTN (x y : R) : f2RepTN env st x y = ob (asU x) fun xs => ob (asI y) fun k => if xs.isEmpty = false ∧ 2 ≤ k ∧ k ≤ 1000 ∧ xs.length ≤ 1000 then some (.d (.tup (List.replicate k.toNat xs).flatten), st) else none := by
  cases x with
  | loc i => rfl
  | d d => cases d <;> first | rfl | (cases y with
    | loc i => rfl
    | d e => cases e <;> rfl)
@[simp] theorem ev_f2RepT1 (x y : R) : f2RepT1 env st x y = ob (asU x) fun xs => ob (asI y) fun k => if k = 1 then some (.d (.tup xs), st) else none := by
  cases x with
  | loc i => rfl
  | d d => cases d <;> first | rfl | (cases y with
    | loc i => rfl
    | d e => cases e <;> rfl)
@[simp] theorem ev_fMul (x y : R) : fMul env st x y = fOr (fOr (f2I cMul fun i j => .int (i * j)) f2RepTN) f2RepT1 env st x y := (rfl)
@[simp] theorem ev_fMax (x y : R) : fMax env st x y = f2I (fun _ _ => true) (fun i j => .int (if j > i then j else i)) env st x y := (rfl)
@[simp] theorem ev_fMin (x y : R) : fMin env st x y = f2I (fun _ _ => true) (fun i j => .int (if j < i then j else i)) env st x y := (rfl)
@[simp] theorem ev_f1Len (x : R) : f1Len env st x = oe (seqOf env st x) (fun xs => some (.d (.int xs.length), st)) (ob (asK env st x) fun kvs => some (.d (.int kvs.length), st)) := by
  unfold f1Len oe ob
  cases seqOf env st x <;> first | rfl | (cases asK env st x <;> rfl)
def asN : R → Option Int
  | .d (.int i) => some i
  | .d (.bl b) => some (if b then 1 else 0)
  | _ => none
@[simp] theorem asN_i (i : Int) : asN (.d (.int i)) = some i := (rfl)
@[simp] theorem asN_b (b : Bool) : asN (.d (.bl b)) = some (if b = true then 1 else 0) := (rfl)
@[simp] theorem ev_f1Int (x : R) : f1Int env st x = ob (asN x) fun i => some (.d (.int i), st) := by
  cases x with
  | loc i => rfl
  | d d => cases d <;> rfl
@[simp] theorem ev_f1Abs (x : R) : f1Abs env st x = ob (asI x) fun i => some (.d (.int (if i < 0 then -i else i)), st) := by
  cases x with
  | loc i => rfl
  | d d => cases d <;> rfl
@[simp] theorem ev_f1Tup (x : R) : f1Tup env st x = ob (seqOf env st x) fun xs => some (.d (.tup xs), st) := by
  unfold f1Tup ob
  cases seqOf env st x <;> rfl
@[simp] theorem ev_f1All (x : R) : f1All env st x = ob (asL env st x) fun xs => ob (bools xs) fun bs => some (.d (.bl (bs.all id)), st) := by
  unfold f1All
  cases asL env st x with
  | none => rfl
  | some xs => simp only [ob_s]; cases bools xs <;> rfl
@[simp] theorem ev_f1Any (x : R) : f1Any env st x = ob (asL env st x) fun xs => ob (bools xs) fun bs => some (.d (.bl (bs.any id)), st) := by
  unfold f1Any
  cases asL env st x with
  | none => rfl
  | some xs => simp only [ob_s]; cases bools xs <;> rfl
@[simp] theorem ev_seqOf (r : R) : seqOf env st r = oe (asU r) some (asL env st r) := by
  unfold seqOf oe
  cases asU r <;> rfl
@[simp] theorem ev_asL_r (n : Nat) : asL env st (.d (.ref n)) = stL st[n]? := by
  unfold asL stL
  rfl
@[simp] theorem ev_asL_o (i : Nat) : asL env st (.loc i) = slotL env[i]? := by
  unfold asL slotL
  rfl
@[simp] theorem ev_asK_r (n : Nat) : asK env st (.d (.ref n)) = stK st[n]? := by
  unfold asK stK
  rfl
@[simp] theorem ev_asK_o (i : Nat) : asK env st (.loc i) = slotK env[i]? := by
  unfold asK slotK
  rfl
def sliceOf (env : Env) (st : Store) (x : R) (l u : Option Int) : Option (R × Store) := oe (asU x) (fun xs => some (.d (.tup (cutD xs l u)), st)) (ob (asL env st x) fun xs => some (.d (.lst (cutD xs l u)), st))
@[simp] theorem ev_mSl (a : ME) (lo hi : MO) : mSl a lo hi env st = bnd (a env st) fun x s => bnd (lo env s) fun l s2 => bnd (hi env s2) fun u s3 => sliceOf env s3 x l u := by
  unfold mSl
  cases a env st with
  | none => rfl
  | some z =>
    obtain ⟨x, st1⟩ := z
    simp only [bnd_s]
    cases lo env st1 with
    | none => rfl
    | some z =>
      obtain ⟨l, st2⟩ := z
      simp only [bnd_s]
      cases hi env st2 with
      | none => rfl
      | some z =>
        obtain ⟨u, st3⟩ := z
        simp only [bnd_s]
        unfold sliceOf
        cases x with
        | loc i => simp only [oe, ob, asU]; cases asL env st3 (.loc i) <;> rfl
        | d d => cases d <;> first | rfl | (simp only [oe, ob, asU]; cases asL env st3 _ <;> rfl)
@[simp] theorem ev_var (i : Nat) : mVar i env st = slotR i env[i]? st := by
  unfold mVar slotR
  rfl
@[simp] theorem ev_f2IxL (x y : R) : f2IxL env st x y = ob (asL env st x) fun xs => ob (asI y) fun i => ob (atI xs i) fun d => some (.d d, st) := by
  unfold f2IxL
  cases asL env st x with
  | none => rfl
  | some xs =>
    cases y with
    | loc i => rfl
    | d d => cases d <;> first | rfl | (simp only [ob_s, asI_i]; rename_i i; cases atI xs i <;> rfl)
@[simp] theorem ev_f2IxU (x y : R) : f2IxU env st x y = ob (asU x) fun xs => ob (asI y) fun i => ob (atI xs i) fun d => some (.d d, st) := by
  unfold f2IxU
  cases asU x with
  | none => rfl
  | some xs =>
    cases y with
    | loc i => rfl
    | d d => cases d <;> first | rfl | (simp only [ob_s, asI_i]; rename_i i; cases atI xs i <;> rfl)
@[simp] theorem ev_f2IxK (x y : R) : f2IxK env st x y = ob (asK env st x) fun xs => onD y fun d => ob (keyOf d) fun k => ob (valD xs k) fun z => some (.d z, st) := by
  unfold f2IxK
  cases asK env st x with
  | none => rfl
  | some xs =>
    cases y with
    | loc i => rfl
    | d d =>
      simp only [ob_s, onD_d]
      cases keyOf d with
      | none => rfl
      | some k => simp only [ob_s]; cases valD xs k <;> rfl
@[simp] theorem ev_fIx (x y : R) : fIx env st x y = fOr (fOr f2IxL f2IxU) f2IxK env st x y := (rfl)
@[simp] theorem ev_chg_o (f : SO → Option SO) (k : Nat) : chg f env st (.loc k) = ob (slotO env[k]?) fun so => ob (f so) fun so2 => some (.nx, env.set k (.own so2), st) := by
  unfold chg
  simp only
  cases h : env[k]? with
  | none => rfl
  | some sl => cases sl <;> first | rfl | (rename_i so; simp only [slotO_o, ob_s]; cases f so <;> rfl)
@[simp] theorem ev_chg_r (f : SO → Option SO) (n : Nat) : chg f env st (.d (.ref n)) = ob st[n]? fun so => ob (f so) fun so2 => some (.nx, env, st.set n so2) := by
  unfold chg
  simp only
  cases h : st[n]? with
  | none => rfl
  | some so => simp only [ob_s]; cases f so <;> rfl
@[simp] theorem ev_appL (xs : List D) (v : D) : appL (.lst xs) v = if xs.length < 16000000 then some (.lst (xs ++ [v])) else none := (rfl)
@[simp] theorem ev_putL (xs : List D) (i : Int) (v : D) : putL (.lst xs) (.int i) v = ob (ixN xs.length i) fun j => some (.lst (xs.set j v)) := by
  unfold putL ob
  simp only
  cases ixN xs.length i <;> rfl
@[simp] theorem ev_putL0 (kvs) (i v : D) : putL (.dK kvs) i v = none := (rfl)
@[simp] theorem ev_putK (kvs) (i v : D) : putKv (.dK kvs) i v = ob (keyOf i) fun k => if kvs.length < 16000000 then some (.dK (putD kvs k v)) else none := by
  unfold putKv ob
  simp only
  cases keyOf i <;> rfl
@[simp] theorem ev_Isi (T n : String) (x : R) : f2Isi T env st x (.d (.ty n)) = if n = T then ob (tyOf env st x) fun S => ob (kitB S T) fun b => some (.d (.bl b), st) else none := by
  unfold f2Isi ob
  simp only
  split
  · cases tyOf env st x with
    | none => rfl
    | some S => simp only; cases kitB S T <;> rfl
  · rfl
@[simp] theorem ev_mFn (n : Nat) (b : MS) (ds : List D) : mFn n b ds st = fin (b (ds.map .val ++ List.replicate (n - ds.length) .none) st) := by
  unfold mFn
  cases h : b (ds.map .val ++ List.replicate (n - ds.length) .none) st with
  | none => rfl
  | some z => obtain ⟨f, e, s⟩ := z; cases f <;> rfl
@[simp] theorem ev_gT (n : Nat) (m : List D → Env → Option Env) (ds : List D) : gT n m (.tup ds) env = if ds.length = n then m ds env else none := (rfl)
@[simp] theorem ev_gsC (m : MG) (n : List D → Env → Option Env) (d : D) (ds : List D) : gsC m n (d :: ds) env = ob (m d env) fun e => n ds e := by
  unfold gsC ob
  simp only
  cases m d env <;> rfl
@[simp] theorem ev_gsN : gsN [] env = some env := (rfl)
@[simp] theorem ev_gN (i : Nat) (d : D) : gN i d env = some (env.set i (.val d)) := (rfl)
end
@[simp] theorem ev_asU_t (xs : List D) : asU (.d (.tup xs)) = some xs := (rfl)
@[simp] theorem ev_asU_l (xs : List D) : asU (.d (.lst xs)) = none := (rfl)
@[simp] theorem ev_asU_r (n : Nat) : asU (.d (.ref n)) = none := (rfl)
@[simp] theorem ev_asU_o (n : Nat) : asU (.loc n) = none := (rfl)
@[simp] theorem ev_asU_k (ks vs) : asU (.d (.dct ks vs)) = none := (rfl)
@[simp] theorem ev_asL_t (env : Env) (st : Store) (xs : List D) : asL env st (.d (.tup xs)) = none := (rfl)
@[simp] theorem ev_asL_l (env : Env) (st : Store) (xs : List D) : asL env st (.d (.lst xs)) = some xs := (rfl)
@[simp] theorem ev_asL_k (env : Env) (st : Store) (ks vs) : asL env st (.d (.dct ks vs)) = none := (rfl)
@[simp] theorem ev_asK_k (env : Env) (st : Store) (ks vs) : asK env st (.d (.dct ks vs)) = some (ks.zip vs) := (rfl)
@[simp] theorem ev_asK_t (env : Env) (st : Store) (xs : List D) : asK env st (.d (.tup xs)) = none := (rfl)
@[simp] theorem ev_asK_l (env : Env) (st : Store) (xs : List D) : asK env st (.d (.lst xs)) = none := (rfl)
@[simp] theorem atI_cast {α : Type} (xs : List α) (k : Nat) : atI xs (k : Int) = xs[k]? := by
  unfold atI ixN
  rw [if_pos (by omega)]
  by_cases h : k < xs.length
  · rw [if_pos (by omega)]; simp
  · rw [if_neg (by omega)]; simp; omega
theorem atI_nn {α : Type} (xs : List α) {i : Int} (h : 0 ≤ i) : atI xs i = xs[i.toNat]? := by
  obtain ⟨k, rfl⟩ : ∃ k : Nat, i = (k : Int) := ⟨i.toNat, by omega⟩
  rw [atI_cast, Int.toNat_natCast]
@[simp] theorem atI_m1 {α : Type} (xs : List α) : atI xs (-1) = xs[xs.length - 1]? := by
  unfold atI ixN
  rw [if_neg (by omega)]
  cases xs with
  | nil => rfl
  | cons x xs =>
    rw [if_pos (by simp only [List.length_cons]; omega)]
    have e : (-1 + ((x :: xs).length : Int)).toNat = (x :: xs).length - 1 := by simp only [List.length_cons]; omega
    rw [e]; rfl
@[simp] theorem ev_dOf_l (xs) : dOf (.lst xs) = some (.lst xs) := (rfl)
@[simp] theorem ev_dOf_k (xs) : dOf (.dK xs) = some (.dct (xs.map (·.1)) (xs.map (·.2))) := (rfl)
@[simp] theorem ixN_cast (n k : Nat) : ixN n (k : Int) = if k < n then some k else none := by
  unfold ixN
  rw [if_pos (by omega)]
  by_cases h : k < n
  · rw [if_pos (by omega), if_pos h]; simp
  · rw [if_neg (by omega), if_neg h]
theorem ixN_nn (n : Nat) {i : Int} (h : 0 ≤ i) : ixN n i = if i.toNat < n then some i.toNat else none := by
  obtain ⟨k, rfl⟩ : ∃ k : Nat, i = (k : Int) := ⟨i.toNat, by omega⟩
  rw [ixN_cast, Int.toNat_natCast]
@[simp] theorem atI_0 {α : Type} (xs : List α) : atI xs 0 = xs[0]? := atI_cast xs 0
@[simp] theorem ixN_0 (n : Nat) : ixN n 0 = if 0 < n then some 0 else none := ixN_cast n 0
@[simp] theorem atI_1 {α : Type} (xs : List α) : atI xs 1 = xs[1]? := atI_cast xs 1
@[simp] theorem ixN_1 (n : Nat) : ixN n 1 = if 1 < n then some 1 else none := ixN_cast n 1
@[simp] theorem atI_2 {α : Type} (xs : List α) : atI xs 2 = xs[2]? := atI_cast xs 2
@[simp] theorem ixN_2 (n : Nat) : ixN n 2 = if 2 < n then some 2 else none := ixN_cast n 2
@[simp] theorem atI_3 {α : Type} (xs : List α) : atI xs 3 = xs[3]? := atI_cast xs 3
@[simp] theorem ixN_3 (n : Nat) : ixN n 3 = if 3 < n then some 3 else none := ixN_cast n 3
@[simp] theorem atI_4 {α : Type} (xs : List α) : atI xs 4 = xs[4]? := atI_cast xs 4
@[simp] theorem ixN_4 (n : Nat) : ixN n 4 = if 4 < n then some 4 else none := ixN_cast n 4
@[simp] theorem atI_5 {α : Type} (xs : List α) : atI xs 5 = xs[5]? := atI_cast xs 5
@[simp] theorem ixN_5 (n : Nat) : ixN n 5 = if 5 < n then some 5 else none := ixN_cast n 5
@[simp] theorem atI_6 {α : Type} (xs : List α) : atI xs 6 = xs[6]? := atI_cast xs 6
@[simp] theorem ixN_6 (n : Nat) : ixN n 6 = if 6 < n then some 6 else none := ixN_cast n 6
@[simp] theorem atI_7 {α : Type} (xs : List α) : atI xs 7 = xs[7]? := atI_cast xs 7
@[simp] theorem ixN_7 (n : Nat) : ixN n 7 = if 7 < n then some 7 else none := ixN_cast n 7
@[simp] theorem atI_8 {α : Type} (xs : List α) : atI xs 8 = xs[8]? := atI_cast xs 8
@[simp] theorem ixN_8 (n : Nat) : ixN n 8 = if 8 < n then some 8 else none := ixN_cast n 8
@[simp] theorem atI_9 {α : Type} (xs : List α) : atI xs 9 = xs[9]? := atI_cast xs 9
@[simp] theorem ixN_9 (n : Nat) : ixN n 9 = if 9 < n then some 9 else none := ixN_cast n 9
@[simp] theorem atI_10 {α : Type} (xs : List α) : atI xs 10 = xs[10]? := atI_cast xs 10
@[simp] theorem ixN_10 (n : Nat) : ixN n 10 = if 10 < n then some 10 else none := ixN_cast n 10
@[simp] theorem atI_11 {α : Type} (xs : List α) : atI xs 11 = xs[11]? := atI_cast xs 11
@[simp] theorem ixN_11 (n : Nat) : ixN n 11 = if 11 < n then some 11 else none := ixN_cast n 11
@[simp] theorem atI_12 {α : Type} (xs : List α) : atI xs 12 = xs[12]? := atI_cast xs 12
@[simp] theorem ixN_12 (n : Nat) : ixN n 12 = if 12 < n then some 12 else none := ixN_cast n 12
@[simp] theorem ev_keyI (i : Int) : keyOf (.int i) = some (.inl i) := (rfl)
@[simp] theorem ev_keyS (x : Str) : keyOf (.str x) = some (.inr x) := (rfl)
@[simp] theorem ev_wipe (env : Env) (v : Nat) (vs : List Nat) : wipeE env (v :: vs) = (wipeE env vs).set v .none := (rfl)
@[simp] theorem ev_wipe0 (env : Env) : wipeE env [] = env := (rfl)
@[simp] theorem ev_mul1 (i j : Int) : cMul i j = (decide (-(2 ^ 64) < i ∧ i < 2 ^ 64) || decide (-(2 ^ 64) < j ∧ j < 2 ^ 64)) := (rfl)
@[simp] theorem ev_pos1 (i j : Int) : cPos i j = decide (0 < j) := (rfl)
@[simp] theorem dI_nil : dI [] = [] := (rfl)
@[simp] theorem dI_getElem (xs : List Int) (i : Nat) (h : i < (dI xs).length) : (dI xs)[i] = .int (xs[i]'(by simpa using h)) := by simp [dI]
theorem dI_get? (xs : List Int) (i : Nat) : (dI xs)[i]? = (xs[i]?).map .int := by simp [dI]
@[simp] theorem dI_set (xs : List Int) (i : Nat) (v : Int) : (dI xs).set i (.int v) = dI (xs.set i v) := by simp [dI, List.map_set]
@[simp] theorem dI_app (xs : List Int) (v : Int) : dI xs ++ [.int v] = dI (xs ++ [v]) := by simp [dI]
@[simp] theorem ev_eqI (neg : Bool) (env : Env) (st : Store) (a b : Int) : f2Eq neg env st (.d (.int a)) (.d (.int b)) = some (.d (.bl (if neg then !decide (a = b) else decide (a = b))), st) := by
  rw [ev_eq rfl rfl (by simp [depD]) (by simp [depD])]
  simp
@[simp] theorem ev_eqB' (neg : Bool) (env : Env) (st : Store) (a b : Bool) : f2Eq neg env st (.d (.bl a)) (.d (.bl b)) = some (.d (.bl (if neg then !(a == b) else a == b)), st) := ev_eqB
@[simp] theorem ev_eqT' (neg : Bool) (env : Env) (st : Store) (xs ys : List Int) : f2Eq neg env st (.d (tI xs)) (.d (tI ys)) = some (.d (.bl (if neg then !decide (xs = ys) else decide (xs = ys))), st) := ev_eqT
@[simp] theorem ev_asU_T (xs : List Int) : asU (.d (tI xs)) = some (dI xs) := (rfl)
@[simp] theorem ev_asL_T (env : Env) (st : Store) (xs : List Int) : asL env st (.d (tI xs)) = none := (rfl)
@[simp] theorem ev_asK_T (env : Env) (st : Store) (xs : List Int) : asK env st (.d (tI xs)) = none := (rfl)
@[simp] theorem dI_app2 (xs ys : List Int) : dI xs ++ dI ys = dI (xs ++ ys) := by simp [dI]
@[simp] theorem dI_take (xs : List Int) (n : Nat) : (dI xs).take n = dI (xs.take n) := by simp [dI, List.map_take]
@[simp] theorem dI_drop (xs : List Int) (n : Nat) : (dI xs).drop n = dI (xs.drop n) := by simp [dI, List.map_drop]
@[simp] theorem tup_dI (xs : List Int) : D.tup (dI xs) = tI xs := (rfl)
@[simp] theorem ev_tyT (env : Env) (st : Store) (xs : List Int) : tyOf env st (.d (tI xs)) = some "tuple" := (rfl)
@[simp] theorem ev_tyb (env : Env) (st : Store) (b : Bool) : tyOf env st (.d (.bl b)) = some "bool" := (rfl)
@[simp] theorem ev_tyi (env : Env) (st : Store) (b : Int) : tyOf env st (.d (.int b)) = some "int" := (rfl)
@[simp] theorem ev_tyt (env : Env) (st : Store) (xs) : tyOf env st (.d (.tup xs)) = some "tuple" := (rfl)
@[simp] theorem ev_tyl (env : Env) (st : Store) (xs) : tyOf env st (.d (.lst xs)) = some "list" := (rfl)
@[simp] theorem ev_tyk (env : Env) (st : Store) (ks vs) : tyOf env st (.d (.dct ks vs)) = some "dict" := (rfl)
@[simp] theorem ev_tyn (env : Env) (st : Store) : tyOf env st (.d .non) = some "NoneType" := (rfl)
@[simp] theorem ev_tys (env : Env) (st : Store) (x) : tyOf env st (.d (.str x)) = some "str" := (rfl)
@[simp] theorem kit_tt : kitB "tuple" "tuple" = some true := by decide +kernel
@[simp] theorem kit_bb : kitB "bool" "bool" = some true := by decide +kernel
@[simp] theorem kit_ll : kitB "list" "list" = some true := by decide +kernel
@[simp] theorem kit_dd : kitB "dict" "dict" = some true := by decide +kernel
@[simp] theorem kit_bi : kitB "bool" "int" = some true := by decide +kernel
@[simp] theorem kit_ii : kitB "int" "int" = some true := by decide +kernel
@[simp] theorem kit_ib : kitB "int" "bool" = some false := by decide +kernel
end Gx

set_option maxHeartbeats 2000000
namespace Gx
open PySem L2
section
variable (env : Env) (st : Store)
@[simp] theorem ev_mPsN : mPsN env st = some ([], st) := (rfl)
@[simp] theorem ev_mPsC (k v : ME) (r : MPs) : mPsC k v r env st = bnd (k env st) fun x s => onD x fun dk => ob (keyOf dk) fun kk => bnd (v env s) fun y s2 => onD y fun dv => bnd (r env s2) fun kvs s3 => some ((kk, dv) :: kvs, s3) := by
  cases h : k env st with
  | none => simp only [mPsC, h, bnd_n]
  | some z =>
    obtain ⟨x, s⟩ := z
    simp only [mPsC, h, bnd_s]
    cases x with
    | loc i => rfl
    | d dk =>
      simp only [onD_d]
      cases keyOf dk with
      | none => rfl
      | some kk =>
        simp only [ob_s]
        cases v env s with
        | none => rfl
        | some z =>
          obtain ⟨y, s2⟩ := z
          cases y with
          | loc i => rfl
          | d dv => simp only [bnd_s, onD_d]; cases r env s2 <;> rfl
@[simp] theorem ev_mFDisp (m : MPs) : mFDisp m env st = bnd (m env st) fun kvs s => if kvs.length ≤ 15 then some (.dK (mergeD [] kvs), s) else none := by
  cases h : m env st <;> simp only [mFDisp, h] <;> rfl
@[simp] theorem ev_m1F (a : ME) (f : Env → Store → R → Option SO) : m1F a f env st = bnd (a env st) fun x s => ob (f env s x) fun so => some (so, s) := by
  cases h : a env st with
  | none => simp only [m1F, h]; rfl
  | some z => obtain ⟨x, s⟩ := z; simp only [m1F, h, bnd_s]; cases f env s x <;> rfl
@[simp] theorem ev_f1List (x : R) : f1List env st x = ob (seqOf env st x) fun xs => some (.lst xs) := by
  unfold f1List
  cases seqOf env st x <;> rfl
@[simp] theorem ev_mChain (f g : Env → Store → R → R → Option (R × Store)) (a b c : ME) : mChain f g a b c env st = bnd (a env st) fun x s => bnd (b env s) fun y s2 => bnd (f env s2 x y) fun z s3 => onB z fun k => if k = true then bnd (c env s3) fun z s4 => g env s4 y z else some (.d (.bl false), s3) := by
  cases h : a env st with
  | none => simp only [mChain, h]; rfl
  | some z =>
    obtain ⟨x, s⟩ := z
    simp only [mChain, h, bnd_s]
    cases h2 : b env s with
    | none => rfl
    | some z =>
      obtain ⟨y, s2⟩ := z
      simp only [bnd_s]
      cases h3 : f env s2 x y with
      | none => rfl
      | some z =>
        obtain ⟨z, s3⟩ := z
        simp only [bnd_s]
        cases z with
        | loc i => rfl
        | d d =>
          cases d <;> first | rfl | skip
          rename_i k
          cases k with
          | false => rfl
          | true => simp only [onB_b, if_true]; cases c env s3 <;> rfl
@[simp] theorem ev_f2T (g : List Int → List Int → Bool) (x y : R) : f2T g env st x y = ob (asU x) fun xs => ob (asU y) fun ys => ob (numsOf xs) fun ns => ob (numsOf ys) fun ms => some (.d (.bl (g ns ms)), st) := by
  unfold f2T
  cases asU x with
  | none => rfl
  | some xs =>
    cases asU y with
    | none => rfl
    | some ys =>
      simp only [ob_s]
      cases numsOf xs with
      | none => rfl
      | some ns => simp only [ob_s]; cases numsOf ys <;> rfl
@[simp] theorem nums_dI : ∀ xs : List Int, numsOf (dI xs) = some xs
  | [] => rfl
  | x :: xs => by
    have := nums_dI xs
    simp only [dI] at this
    simp [dI, numsOf, this]
@[simp] theorem ev_fLeU (x y : R) : fLeU env st x y = fOr (f2I (fun _ _ => true) fun i j => .bl (decide (i ≤ j))) (f2T gLe) env st x y := (rfl)
@[simp] theorem ev_fGtU (x y : R) : fGtU env st x y = fOr (f2I (fun _ _ => true) fun i j => .bl (decide (j < i))) (f2T gGt) env st x y := (rfl)
@[simp] theorem ev_fLtU (x y : R) : fLtU env st x y = fOr (f2I (fun _ _ => true) fun i j => .bl (decide (i < j))) (f2T HT.lexLt) env st x y := (rfl)
@[simp] theorem ev_f2InK (neg : Bool) (x y : R) : f2InK neg env st x y = onD x fun d => ob (asK env st y) fun kvs => ob (keyOf d) fun k => some (.d (.bl (if neg then !(valD kvs k).isSome else (valD kvs k).isSome)), st) := by
  unfold f2InK
  cases x with
  | loc i => rfl
  | d d =>
    simp only [onD_d]
    cases asK env st y with
    | none => rfl
    | some kvs => simp only [ob_s]; cases keyOf d <;> rfl
@[simp] theorem ev_f2In (neg : Bool) (x y : R) : f2In neg env st x y = ob (toPR env st x) fun p => ob (listP env st y) fun ps => if SeqAt.shaped p && SeqAt.shaped (.list ps) then some (.d (.bl (if neg then !(ps.any fun z => PyData.eqv z p) else ps.any fun z => PyData.eqv z p)), st) else none := by
  unfold f2In
  cases toPR env st x with
  | none => rfl
  | some p => simp only [ob_s]; cases listP env st y <;> rfl
@[simp] theorem ev_f2Is (neg : Bool) (d : D) : f2Is neg env st (.d d) (.d .non) = some (.d (.bl (if neg then !decide (d = .non) else decide (d = .non))), st) := (rfl)
end
@[simp] theorem gGt2 (a b c d : Int) : gGt [a, b] [c, d] = (if a = c then (if b = d then false else decide (d < b)) else decide (c < a)) := by
  simp [gGt, Ob.lexAt]
@[simp] theorem gLe2 (a b c d : Int) : gLe [a, b] [c, d] = (if a = c then (if b = d then true else decide (b ≤ d)) else decide (a ≤ c)) := by
  simp [gLe, Ob.lexAt]
end Gx

namespace Gx
open PySem L2
/-! what a value with references shows -/
mutual
theorem toP_dr (d1 d2 : Nat → Option PyData) : ∀ x : D, okD x = true → toP d1 x = toP d2 x
  | .non, _ => rfl
  | .int i, _ => rfl
  | .str x, _ => rfl
  | .tup xs, h => by simp only [toP]; rw [toPs_dr d1 d2 xs h]
  | .lst xs, h => by simp only [toP]; rw [toPs_dr d1 d2 xs h]
  | .bl _, h => by simp [okD] at h
  | .ty _, h => by simp [okD] at h
  | .dct _ _, h => by simp [okD] at h
  | .dtt _ _, h => by simp [okD] at h
  | .ref _, h => by simp [okD] at h
  | .fn _, h => by simp [okD] at h
theorem toPs_dr (d1 d2 : Nat → Option PyData) : ∀ xs : List D, okDs xs = true → toPs d1 xs = toPs d2 xs
  | [], _ => rfl
  | x :: xs, h => by
    simp only [okDs, Bool.and_eq_true] at h
    simp only [toPs]
    rw [toP_dr d1 d2 x h.1, toPs_dr d1 d2 xs h.2]
end
def Vw (st : Store) (x y : D) : Prop := okD y = true ∧ toP (dr2 st) x = toP dr0 y
def Vws (st : Store) (xs ys : List D) : Prop := okDs ys = true ∧ toPs (dr2 st) xs = toPs dr0 ys
theorem vw_ok {st : Store} {x : D} (h : okD x = true) : Vw st x x := ⟨h, toP_dr _ _ x h⟩
theorem vws_ok {st : Store} {x : List D} (h : okDs x = true) : Vws st x x := ⟨h, toPs_dr _ _ x h⟩
theorem vw_ref {st : Store} {n : Nat} {xs : List D} (h : st[n]? = some (.lst xs)) (ho : okDs xs = true) : Vw st (.ref n) (.lst xs) := by
  refine ⟨ho, ?_⟩
  simp only [toP, dr2, drS]
  rw [h]
  dsimp only
  rw [toPs_dr _ dr0 xs ho]
theorem vws_nil {st : Store} : Vws st [] [] := ⟨rfl, rfl⟩
theorem vws_cons {st : Store} {x y : D} {xs ys : List D} (h : Vw st x y) (hs : Vws st xs ys) : Vws st (x :: xs) (y :: ys) := by
  refine ⟨by simp [okDs, h.1, hs.1], ?_⟩
  simp only [toPs]
  rw [h.2, hs.2]
theorem vw_lst {st : Store} {xs ys : List D} (h : Vws st xs ys) : Vw st (.lst xs) (.lst ys) := ⟨h.1, by simp only [toP]; rw [h.2]⟩
theorem vw_tup {st : Store} {xs ys : List D} (h : Vws st xs ys) : Vw st (.tup xs) (.tup ys) := ⟨h.1, by simp only [toP]; rw [h.2]⟩
theorem vws_map {α : Type} {st : Store} {f g : α → D} : ∀ {l : List α}, (∀ x ∈ l, Vw st (f x) (g x)) → Vws st (l.map f) (l.map g)
  | [], _ => vws_nil
  | x :: l, h => vws_cons (h x (by simp)) (vws_map fun y hy => h y (by simp [hy]))
theorem okDs_map {α : Type} {f : α → D} : ∀ {l : List α}, (∀ x ∈ l, okD (f x) = true) → okDs (l.map f) = true
  | [], _ => rfl
  | x :: l, h => by simp only [List.map_cons, okDs, Bool.and_eq_true]; exact ⟨h x (by simp), okDs_map fun y hy => h y (by simp [hy])⟩
theorem depDs_map {α : Type} {f : α → D} {n : Nat} : ∀ {l : List α}, (∀ x ∈ l, depD (f x) ≤ n) → depDs (l.map f) ≤ n
  | [], _ => Nat.zero_le _
  | x :: l, h => by
    have h1 := h x (by simp)
    have h2 := depDs_map (f := f) (n := n) (l := l) fun y hy => h y (by simp [hy])
    simp only [List.map_cons, depDs]; omega
theorem ev_eqV {neg : Bool} {env : Env} {st : Store} {x y x' y' : D} (hx : Vw st x x') (hy : Vw st y y') (dx : depD x' ≤ 64) (dy : depD y' ≤ 64) : f2Eq neg env st (.d x) (.d y) = some (.d (.bl (if neg then !decide (x' = y') else decide (x' = y'))), st) := by
  obtain ⟨p, h1, h2, h3⟩ := toP_okD dr0 x' hx.1
  obtain ⟨q, g1, g2, g3⟩ := toP_okD dr0 y' hy.1
  have a1 : toPR env st (.d x) = some p := hx.2.trans h1
  have a2 : toPR env st (.d y) = some q := hy.2.trans g1
  unfold f2Eq
  rw [a1, a2]
  dsimp only
  rw [if_pos, eqv_okD dr0 x' y' p q hx.1 hy.1 h1 g1]
  unfold SeqAt.shaped
  simp [h2, g2, h3, g3, dx, dy]
theorem ev_eqO {neg : Bool} {env : Env} {st : Store} {i : Nat} {xs ys zs : List D} (hi : env[i]? = some (.own (.lst xs))) (hx : Vws st xs ys) (hz : okDs zs = true) (dx : depDs ys ≤ 63) (dz : depDs zs ≤ 63) : f2Eq neg env st (.loc i) (.d (.lst zs)) = some (.d (.bl (if neg then !decide (ys = zs) else decide (ys = zs))), st) := by
  obtain ⟨ps, h1, h2, h3⟩ := toPs_okD dr0 ys hx.1
  obtain ⟨qs, g1, g2, g3⟩ := toPs_okD dr0 zs hz
  have a1 : toPR env st (.loc i) = some (.list ps) := by
    unfold toPR
    dsimp only
    rw [ev_asL_o, hi, slotL_o]
    dsimp only
    rw [hx.2, h1]
    rfl
  have a2 : toPR env st (.d (.lst zs)) = some (.list qs) := by
    unfold toPR
    dsimp only [toP]
    rw [toPs_dr _ dr0 zs hz, g1]
    rfl
  unfold f2Eq
  rw [a1, a2]
  dsimp only
  rw [if_pos]
  · simp only [PyData.eqv]
    rw [eqv_okDs dr0 ys zs ps qs hx.1 hz h1 g1]
  · unfold SeqAt.shaped
    simp [PyData.canLay0, PyData.depth, h2, g2, h3, g3]
    omega
theorem any_eqv (dr : Nat → Option PyData) {x : D} {p : PyData} (hx : okD x = true) (hp : toP dr x = some p) : ∀ {ys : List D} {ps : List PyData}, okDs ys = true → toPs dr ys = some ps → (ps.any fun z => PyData.eqv z p) = decide (x ∈ ys)
  | [], ps, _, h => by simp only [toPs] at h; cases h; simp
  | y :: ys, ps, h, h2 => by
    simp only [okDs, Bool.and_eq_true] at h
    obtain ⟨q, e1, _⟩ := toP_okD dr y h.1
    obtain ⟨qs, e2, _⟩ := toPs_okD dr ys h.2
    simp only [toPs] at h2
    rw [e1, e2] at h2
    cases h2
    simp only [List.any_cons]
    rw [any_eqv dr hx hp h.2 e2, eqv_okD dr y x q p h.1 hx e1 hp]
    by_cases h3 : x = y
    · simp [h3]
    · have h4 : ¬ y = x := fun e => h3 e.symm
      simp [h3, h4]
theorem ev_inO {neg : Bool} {env : Env} {st : Store} {i : Nat} {x : D} {ys : List D} (hi : env[i]? = some (.own (.lst ys))) (hx : okD x = true) (hy : okDs ys = true) (dx : depD x ≤ 64) (dy : depDs ys ≤ 63) : f2In neg env st (.d x) (.loc i) = some (.d (.bl (if neg then !decide (x ∈ ys) else decide (x ∈ ys))), st) := by
  obtain ⟨p, h1, h2, h3⟩ := toP_okD (dr2 st) x hx
  obtain ⟨qs, g1, g2, g3⟩ := toPs_okD (dr2 st) ys hy
  have a1 : toPR env st (.d x) = some p := h1
  have a2 : listP env st (.loc i) = some qs := by
    unfold listP
    simp only [ev_asL_o, hi, slotL_o]
    exact g1
  rw [ev_f2In, a1, a2]
  simp only [ob_s]
  rw [if_pos, any_eqv (dr2 st) hx h1 hy g1]
  unfold SeqAt.shaped
  simp [PyData.canLay0, PyData.depth, h2, g2, h3, g3, dx]
  omega
/-! comprehensions that change the store -/
theorem lcGo_inv {j : Nat} {e : ME} {env : Env} {chk : Store → Bool} (I : Nat → List D → Store → Prop) : ∀ (xs : List D) (i0 : Nat) (acc : List D) (st : Store), I i0 acc st → acc.length + xs.length ≤ 16000000 → (∀ i acc st, I i acc st → chk st = true) →
    (∀ (i : Nat) (hi : i < xs.length) acc st, I (i0 + i) acc st → ∃ d st2, e (env.set j (.val xs[i])) st = some (.d d, st2) ∧ I (i0 + i + 1) (acc ++ [d]) st2) →
    ∃ acc' st', lcGo j mYes e env chk xs st acc = some (acc', st') ∧ I (i0 + xs.length) acc' st'
  | [], i0, acc, st, h, _, hc, _ => ⟨acc, st, by unfold lcGo; rw [if_pos (hc _ _ _ h)], h⟩
  | x :: xs, i0, acc, st, h, hl, hc, hs => by
    obtain ⟨d, st2, h1, h2⟩ := hs 0 (by simp) acc st h
    obtain ⟨acc', st', h5, h6⟩ := lcGo_inv (chk := chk) I xs (i0 + 1) (acc ++ [d]) st2 h2 (by simp at hl ⊢; omega) hc (fun i hi a s q => by
      have := hs (i + 1) (by simp; omega) a s (by rw [show i0 + (i + 1) = i0 + 1 + i by omega]; exact q)
      rw [show i0 + (i + 1) + 1 = i0 + 1 + i + 1 by omega] at this
      exact this)
    refine ⟨acc', st', ?_, by rw [show i0 + (x :: xs).length = i0 + 1 + xs.length by simp; omega]; exact h6⟩
    unfold lcGo
    rw [if_pos (hc _ _ _ h)]
    simp only [ev_yes]
    have h1' : e (env.set j (.val x)) st = some (.d d, st2) := h1
    rw [h1']
    dsimp only
    rw [if_pos (by simp at hl; omega)]
    exact h5
theorem lc_rngI {m : ME} {j : Nat} {e : ME} {vs : List Nat} {env : Env} {st st1 : Store} {n : Nat} (I : Nat → List D → Store → Prop) (hm : m env st = some (.d (.int n), st1)) (hn : n ≤ 1000000) (h0 : I 0 [] st1)
    (h : ∀ (k : Nat) acc st, k < n → I k acc st → ∃ d st2, e ((wipeE env vs).set j (.val (.int k))) st = some (.d d, st2) ∧ I (k + 1) (acc ++ [d]) st2) :
    ∃ acc st', mLc (mRng1 m) j mYes e vs env st = some (.lst acc, st') ∧ I n acc st' := by
  have h1 : mRng1 m env st = some (.rng 0 n, st1) := by
    unfold mRng1; rw [hm]; dsimp only
    rw [if_pos (by unfold inR; exact decide_eq_true (by omega))]
    simp
  have h2 : (rngItems 0 n).length = n := by simp [rngItems]
  obtain ⟨acc, st', h3, h4⟩ := lcGo_inv (j := j) (e := e) (env := wipeE env vs) (chk := fun st => decide (srcItems env st (.rng 0 n) = some (rngItems 0 n))) I (rngItems 0 n) 0 [] st1 h0 (by simp [rngItems]; omega) (fun _ _ _ _ => by simp [srcItems]) (fun i hi a s q => by
    rw [h2] at hi
    have := h i a s hi (by simpa using q)
    simpa [rngItems] using this)
  refine ⟨acc, st', ?_, by simpa [h2] using h4⟩
  unfold mLc
  rw [h1]
  dsimp only [srcItems]
  dsimp only [srcItems] at h3
  rw [h3]
theorem lc_seqI {m : ME} {j : Nat} {e : ME} {vs : List Nat} {env : Env} {st st1 : Store} {d0 : D} {xs : List D} (I : Nat → List D → Store → Prop) (hm : m env st = some (.d d0, st1)) (hd : d0 = .lst xs ∨ d0 = .tup xs) (hn : xs.length ≤ 16000000) (h0 : I 0 [] st1)
    (h : ∀ (k : Nat) (hk : k < xs.length) acc st, I k acc st → ∃ d st2, e ((wipeE env vs).set j (.val xs[k])) st = some (.d d, st2) ∧ I (k + 1) (acc ++ [d]) st2) :
    ∃ acc st', mLc (mSeq m) j mYes e vs env st = some (.lst acc, st') ∧ I xs.length acc st' := by
  have hs : ∀ env st, seqOf env st (.d d0) = some xs := fun env st => by
    rcases hd with rfl | rfl <;> simp
  have h1 : mSeq m env st = some (.seq (.d d0), st1) := by
    rw [ev_mSeq, hm]; simp only [bnd_s]; rw [hs]; rfl
  obtain ⟨acc, st', h3, h4⟩ := lcGo_inv (j := j) (e := e) (env := wipeE env vs) (chk := fun st => decide (srcItems env st (.seq (.d d0)) = some xs)) I xs 0 [] st1 h0 (by simp; omega) (fun _ _ _ _ => decide_eq_true (hs _ _)) (fun i hi a s q => by
    have := h i hi a s (by simpa using q)
    simpa using this)
  refine ⟨acc, st', ?_, by simpa using h4⟩
  unfold mLc
  rw [h1]
  have h5 : srcItems env st1 (.seq (.d d0)) = some xs := by simp only [srcItems]; exact hs env st1
  dsimp only
  rw [h5]
  dsimp only
  rw [h3]
/-- [e for j in xs], the store unchanged -/
theorem lc_seq {m : ME} {j : Nat} {e : ME} {vs : List Nat} {env : Env} {st st1 : Store} {d0 : D} {xs : List D} (f : D → D) (hm : m env st = some (.d d0, st1)) (hd : d0 = .lst xs ∨ d0 = .tup xs) (hn : xs.length ≤ 16000000)
    (h : ∀ x ∈ xs, e ((wipeE env vs).set j (.val x)) st1 = some (.d (f x), st1)) :
    mLc (mSeq m) j mYes e vs env st = some (.lst (xs.map f), st1) := by
  obtain ⟨acc, st', h1, h2, h3⟩ := lc_seqI (j := j) (e := e) (vs := vs) (fun k acc s => s = st1 ∧ acc = (xs.take k).map f) hm hd hn ⟨rfl, by simp⟩ (fun k hk acc s ⟨h1, h2⟩ => by
    subst h1 h2
    refine ⟨f xs[k], s, h _ (List.getElem_mem hk), rfl, ?_⟩
    rw [List.take_add_one, List.map_append]
    simp [hk])
  rw [h1, h2, h3]
  simp
theorem ev_eq_self {neg : Bool} {env : Env} {st : Store} {x : D} (h : okD x = true) (d : depD x ≤ 64) : f2Eq neg env st (.d x) (.d x) = some (.d (.bl (!neg)), st) := by
  rw [ev_eq h h d d]; cases neg <;> simp
theorem ev_eq_t2 {neg : Bool} {env : Env} {st : Store} {a b : Int} : f2Eq neg env st (.d (.tup [.int a, .int b])) (.d (.tup [.int a, .int b])) = some (.d (.bl (!neg)), st) := ev_eq_self (by simp [okD, okDs]) (by simp [depD, depDs])
@[simp] theorem nums_nil : numsOf [] = some [] := (rfl)
@[simp] theorem nums_2 (a b : Int) : numsOf [.int a, .int b] = some [a, b] := (rfl)
@[simp] theorem okD_tup (xs : List D) : okD (.tup xs) = okDs xs := by simp [okD]
@[simp] theorem okD_lst (xs : List D) : okD (.lst xs) = okDs xs := by simp [okD]
@[simp] theorem okD_int (i : Int) : okD (.int i) = true := by simp [okD]
@[simp] theorem okDs_nil : okDs [] = true := by simp [okDs]
@[simp] theorem okDs_cons (x : D) (xs : List D) : okDs (x :: xs) = (okD x && okDs xs) := by simp [okDs]
@[simp] theorem depD_tup (xs : List D) : depD (.tup xs) = depDs xs + 1 := by simp [depD]
@[simp] theorem depD_lst (xs : List D) : depD (.lst xs) = depDs xs + 1 := by simp [depD]
@[simp] theorem depD_int (i : Int) : depD (.int i) = 0 := by simp [depD]
@[simp] theorem depDs_nil : depDs [] = 0 := by simp [depDs]
@[simp] theorem depDs_cons (x : D) (xs : List D) : depDs (x :: xs) = max (depD x) (depDs xs) := by simp [depDs]
end Gx

namespace Gx
open PySem L2
open PySem.W (AllAlike Sortable dataLe EachIs sorted_data alike dataLt)
section
variable {env : Env} {st : Store}
@[simp] theorem ev_mLf (m : MF) : mLf m env st = bnd (m env st) fun so s => ob (soL so) fun xs => some (xs, s) := by
  unfold mLf
  cases m env st with
  | none => rfl
  | some p => obtain ⟨so, s⟩ := p; cases so <;> rfl
@[simp] theorem ev_mLo (i : Nat) : mLo i env st = ob (slotL env[i]?) fun xs => some (xs, st) := by
  unfold mLo
  cases env[i]? with
  | none => rfl
  | some s =>
    cases s with
    | none => rfl
    | val d => rfl
    | own so => cases so <;> rfl
@[simp] theorem ev_mFCat (a b : ML) : mFCat a b env st = bnd (a env st) fun xs s => bnd (b env s) fun ys s2 => if xs.length + ys.length ≤ 16000000 then some (.lst (xs ++ ys), s2) else none := by
  unfold mFCat
  cases a env st with
  | none => rfl
  | some p =>
    obtain ⟨xs, s⟩ := p
    simp only [bnd_s]
    cases b env s <;> rfl
@[simp] theorem ev_mFSl (a : ME) (lo hi : MO) : mFSl a lo hi env st = bnd (a env st) fun x s => bnd (lo env s) fun l s2 => bnd (hi env s2) fun u s3 => ob (asL env s3 x) fun xs => some (.lst (cutD xs l u), s3) := by
  unfold mFSl
  cases a env st with
  | none => rfl
  | some p =>
    obtain ⟨x, s⟩ := p
    simp only [bnd_s]
    cases lo env s with
    | none => rfl
    | some p =>
      obtain ⟨l, s2⟩ := p
      simp only [bnd_s]
      cases hi env s2 with
      | none => rfl
      | some p =>
        obtain ⟨u, s3⟩ := p
        simp only [bnd_s]
        cases asL env s3 x <;> rfl
@[simp] theorem ev_f1Rev (x : R) : f1Rev env st x = ob (asL env st x) fun xs => some (.lst xs.reverse) := by
  unfold f1Rev
  cases asL env st x <;> rfl
@[simp] theorem ev_mMulX (a b : ME) : mMulX a b env st = m2 a b (f2I cMulX fun i j => .int (i * j)) env st := (rfl)
end
/-! ### sorted -/
/-- the order of the keys g -/
def leG {α : Type} (g : α → PyData) (a b : α) : Bool := !dataLt (g b) (g a)
theorem leG_eq {α : Type} (g : α → PyData) : leG g = dataLe false g := (PySem.W.dataLe_eq false g).symm
theorem leG_trans {α : Type} (g : α → PyData) (a b c : α) (h1 : leG g a b = true) (h2 : leG g b c = true) : leG g a c = true := by
  rw [leG_eq] at *
  exact (PySem.W.sortLe_total _ _ _).trans _ _ _ h1 h2
theorem leG_total {α : Type} (g : α → PyData) (a b : α) : (leG g a b || leG g b a) = true := by
  rw [leG_eq] at *
  rw [Bool.or_eq_true]
  exact (PySem.W.sortLe_total _ _ _).total _ _
theorem toPs_map {α : Type} {f : α → D} {g : α → PyData} (h : ∀ a, toP dr0 (f a) = some (g a)) : ∀ l : List α, toPs dr0 (l.map f) = some (l.map g)
  | [] => rfl
  | a :: l => by simp only [List.map_cons, toPs, h a, toPs_map h l]; rfl
theorem sort_map {α : Type} {f : α → D} {g : α → PyData} {l : List α} {env : Env} {st : Store} {x : R} (hx : asL env st x = some (l.map f)) (h : ∀ a, toP dr0 (f a) = some (g a)) (ok : sortOk (l.map g) = true) : f1Sort env st x = some (.lst ((l.mergeSort (leG g)).map f)) := by
  unfold f1Sort
  rw [hx]
  dsimp only
  rw [toPs_map h]
  dsimp only
  rw [if_pos ok, zip_map, ← List.map_mergeSort (f := fun a => (f a, g a)) (r := dataLe false g) (fun _ _ _ _ => rfl), List.map_map, leG_eq]
  rfl
/-! comprehensions over a list of things -/
theorem lcGo_filterA {α : Type} {g : α → D} {j : Nat} {t : MT} {e : ME} {env : Env} {chk : Store → Bool} {st : Store} (hc : chk st = true) (p : α → Bool) (f : α → D) : ∀ (xs : List α) (acc : List D), acc.length + xs.length ≤ 16000000 → (∀ x ∈ xs, t (env.set j (.val (g x))) st = some (p x, st)) → (∀ x ∈ xs, p x = true → e (env.set j (.val (g x))) st = some (.d (f x), st)) →
    lcGo j t e env chk (xs.map g) st acc = some (acc ++ (xs.filter p).map f, st)
  | [], acc, _, _, _ => by simp [lcGo, hc]
  | x :: xs, acc, hl, ht, h => by
    rw [List.map_cons]
    unfold lcGo
    rw [if_pos hc, ht x (by simp)]
    cases hp : p x with
    | true =>
      dsimp only
      rw [h x (by simp) hp]
      dsimp only
      rw [if_pos (by simp at hl; omega), lcGo_filterA hc p f xs (acc ++ [f x]) (by simp at hl ⊢; omega) (fun y hy => ht y (by simp [hy])) (fun y hy => h y (by simp [hy]))]
      simp [hp]
    | false =>
      dsimp only
      rw [lcGo_filterA hc p f xs acc (by simp at hl ⊢; omega) (fun y hy => ht y (by simp [hy])) (fun y hy => h y (by simp [hy]))]
      simp [hp]
theorem lc_seqIfA {α : Type} {g : α → D} {l : List α} {m : ME} {j : Nat} {t : MT} {e : ME} {vs : List Nat} {env : Env} {st st1 : Store} {d0 : D} (p : α → Bool) (f : α → D) (hm : m env st = some (.d d0, st1)) (hd : d0 = .lst (l.map g) ∨ d0 = .tup (l.map g)) (hn : l.length ≤ 16000000)
    (ht : ∀ x ∈ l, t ((wipeE env vs).set j (.val (g x))) st1 = some (p x, st1)) (h : ∀ x ∈ l, p x = true → e ((wipeE env vs).set j (.val (g x))) st1 = some (.d (f x), st1)) :
    mLc (mSeq m) j t e vs env st = some (.lst ((l.filter p).map f), st1) := by
  have hs : ∀ env st, seqOf env st (.d d0) = some (l.map g) := fun env st => by
    rcases hd with rfl | rfl <;> simp
  have h1 : mSeq m env st = some (.seq (.d d0), st1) := by
    rw [ev_mSeq, hm]; simp only [bnd_s]; rw [hs]; rfl
  have h5 : srcItems env st1 (.seq (.d d0)) = some (l.map g) := by simp only [srcItems]; exact hs env st1
  unfold mLc
  rw [h1]
  dsimp only
  rw [h5]
  dsimp only
  rw [lcGo_filterA (by simpa using h5) p f l [] (by simp; omega) ht h]
  simp
theorem lc_seqA {α : Type} {g : α → D} {l : List α} {m : ME} {j : Nat} {e : ME} {vs : List Nat} {env : Env} {st st1 : Store} {d0 : D} (f : α → D) (hm : m env st = some (.d d0, st1)) (hd : d0 = .lst (l.map g) ∨ d0 = .tup (l.map g)) (hn : l.length ≤ 16000000)
    (h : ∀ x ∈ l, e ((wipeE env vs).set j (.val (g x))) st1 = some (.d (f x), st1)) :
    mLc (mSeq m) j mYes e vs env st = some (.lst (l.map f), st1) := by
  have := lc_seqIfA (g := g) (l := l) (t := mYes) (fun _ => true) f hm hd hn (fun _ _ => rfl) (fun x hx _ => h x hx)
  rw [this, List.filter_eq_self.mpr (fun _ _ => rfl)]
end Gx

namespace Gx
open PySem L2
section
variable {env : Env} {st : Store}
@[simp] theorem ev_mFD0 : mFD0 env st = some (.dK [], st) := (rfl)
@[simp] theorem ev_f1Dict (x : R) : f1Dict env st x = ob (asK env st x) fun kvs => some (.dK kvs) := by
  unfold f1Dict
  cases asK env st x <;> rfl
@[simp] theorem ev_mGet2 (a b c : ME) : mGet2 a b c env st = bnd (a env st) fun x s => ob (asK env s x) fun _ => bnd (b env s) fun y s2 => onD y fun k => bnd (c env s2) fun w s3 => onD w fun z => ob (asK env s3 x) fun kvs => ob (keyOf k) fun kk => some (.d ((valD kvs kk).getD z), s3) := by
  unfold mGet2
  cases a env st with
  | none => rfl
  | some p =>
    obtain ⟨x, s⟩ := p
    simp only [bnd_s]
    cases asK env s x with
    | none => rfl
    | some _ =>
      simp only [ob_s]
      cases b env s with
      | none => rfl
      | some p =>
        obtain ⟨y, s2⟩ := p
        cases y with
        | loc i => rfl
        | d k =>
          simp only [bnd_s, onD_d]
          cases c env s2 with
          | none => rfl
          | some p =>
            obtain ⟨w, s3⟩ := p
            cases w with
            | loc i => rfl
            | d z =>
              simp only [bnd_s, onD_d]
              cases asK env s3 x with
              | none => rfl
              | some kvs => simp only [ob_s]; cases keyOf k <;> rfl
end
end Gx

namespace Gx
open PySem L2
section
variable (env : Env) (st : Store)
@[simp] theorem ev_eqS (neg : Bool) (a b : Str) (ha : PyData.strOk a = true) (hb : PyData.strOk b = true) : f2Eq neg env st (.d (.str a)) (.d (.str b)) = some (.d (.bl (if neg then !decide (a = b) else decide (a = b))), st) := by
  rw [ev_eq (by simpa [okD] using ha) (by simpa [okD] using hb) (by simp [depD]) (by simp [depD])]
  simp
@[simp] theorem ev_fIn (neg : Bool) (x y : R) : fIn neg env st x y = fOr (fOr (f2In neg) (f2InK neg)) (f2InU neg) env st x y := (rfl)
@[simp] theorem ev_listP (y : R) : listP env st y = ob (asL env st y) fun xs => toPs (dr2 st) xs := by
  unfold listP
  cases asL env st y <;> rfl
@[simp] theorem ev_tupP (y : R) : tupP st y = ob (asU y) fun xs => toPs (dr2 st) xs := by
  unfold tupP
  cases asU y <;> rfl
@[simp] theorem ev_f2InU (neg : Bool) (x y : R) : f2InU neg env st x y = ob (toPR env st x) fun p => ob (tupP st y) fun ps => if SeqAt.shaped p && SeqAt.shaped (.tuple ps) then some (.d (.bl (if neg then !(ps.any fun z => PyData.eqv z p) else ps.any fun z => PyData.eqv z p)), st) else none := by
  unfold f2InU
  cases toPR env st x with
  | none => rfl
  | some p => simp only [ob_s]; cases tupP st y <;> rfl
end
@[simp] theorem okD_str (x : Str) : okD (.str x) = PyData.strOk x := by simp [okD]
@[simp] theorem okD_non : okD .non = true := by simp [okD]
@[simp] theorem depD_str (x : Str) : depD (.str x) = 0 := by simp [depD]
@[simp] theorem depD_non : depD .non = 0 := by simp [depD]
@[simp] theorem okD_tI' (l : List Int) : okD (tI l) = true := by simp [tI, -tup_dI]
@[simp] theorem depD_tI' (l : List Int) : depD (tI l) = 1 := by simp [tI, -tup_dI, depDs_ints]
theorem ev_inU {neg : Bool} {env : Env} {st : Store} {x : D} {ys : List D} (hx : okD x = true) (hy : okDs ys = true) (dx : depD x ≤ 64) (dy : depDs ys ≤ 63) : fIn neg env st (.d x) (.d (.tup ys)) = some (.d (.bl (if neg then !decide (x ∈ ys) else decide (x ∈ ys))), st) := by
  obtain ⟨p, h1, h2, h3⟩ := toP_okD (dr2 st) x hx
  obtain ⟨qs, g1, g2, g3⟩ := toPs_okD (dr2 st) ys hy
  have a1 : toPR env st (.d x) = some p := h1
  have b1 : f2In neg env st (.d x) (.d (.tup ys)) = none := by
    rw [ev_f2In, a1]
    rfl
  have b2 : f2InK neg env st (.d x) (.d (.tup ys)) = none := by
    rw [ev_f2InK]
    rfl
  rw [ev_fIn, ev_fOr, ev_fOr, b1, b2, oe_n, oe_n, ev_f2InU, a1, ev_tupP]
  simp only [ob_s, ev_asU_t]
  rw [g1]
  simp only [ob_s]
  rw [if_pos, any_eqv (dr2 st) hx h1 hy g1]
  unfold SeqAt.shaped
  simp [PyData.canLay0, PyData.depth, h2, g2, h3, g3, dx]
  omega
theorem ev_inL {neg : Bool} {env : Env} {st : Store} {x : D} {ys : List D} (hx : okD x = true) (hy : okDs ys = true) (dx : depD x ≤ 64) (dy : depDs ys ≤ 63) : fIn neg env st (.d x) (.d (.lst ys)) = some (.d (.bl (if neg then !decide (x ∈ ys) else decide (x ∈ ys))), st) := by
  obtain ⟨p, h1, h2, h3⟩ := toP_okD (dr2 st) x hx
  obtain ⟨qs, g1, g2, g3⟩ := toPs_okD (dr2 st) ys hy
  have a1 : toPR env st (.d x) = some p := h1
  rw [ev_fIn, ev_fOr, ev_fOr, ev_f2In, a1, ev_listP]
  simp only [ob_s, ev_asL_l]
  rw [g1]
  simp only [ob_s]
  rw [if_pos, any_eqv (dr2 st) hx h1 hy g1]
  · rfl
  unfold SeqAt.shaped
  simp [PyData.canLay0, PyData.depth, h2, g2, h3, g3, dx]
  omega
end Gx

namespace Gx
open PySem L2
section
variable (env : Env) (st : Store)
@[simp] theorem ev_mAug (f : Int → Int → Int) (o i e : ME) : mAug f o i e env st = sOr (mAugL f o i e) (mAugK f o i e) env st := (rfl)
@[simp] theorem ev_mAugL (f : Int → Int → Int) (o i e : ME) : mAugL f o i e env st = bnd (o env st) fun ro st1 => bnd (i env st1) fun y st2 => ob (asI y) fun k => ob (asL env st2 ro) fun xs => if 0 ≤ k then ob xs[k.toNat]? fun z => ob (asI (.d z)) fun a => bnd (e env st2) fun u st3 => ob (asI u) fun b => chg (fun so => putL so (.int k) (.int (f a b))) env st3 ro else none := by
  unfold mAugL
  cases o env st with
  | none => rfl
  | some p =>
    obtain ⟨ro, st1⟩ := p
    simp only [bnd_s]
    cases i env st1 with
    | none => rfl
    | some p =>
      obtain ⟨y, st2⟩ := p
      cases y with
      | loc _ => rfl
      | d y =>
        cases y <;> first | rfl | skip
        rename_i k
        simp only [bnd_s, asI_i, ob_s]
        cases asL env st2 ro with
        | none => rfl
        | some xs =>
          simp only [ob_s]
          split
          · cases xs[k.toNat]? with
            | none => rfl
            | some z =>
              cases z <;> first | rfl | skip
              rename_i a
              simp only [ob_s, asI_i]
              cases e env st2 with
              | none => rfl
              | some p =>
                obtain ⟨u, st3⟩ := p
                cases u with
                | loc _ => rfl
                | d u => cases u <;> rfl
          · rfl
@[simp] theorem ev_mAugK (f : Int → Int → Int) (o i e : ME) : mAugK f o i e env st = bnd (o env st) fun ro st1 => bnd (i env st1) fun y st2 => onD y fun k => ob (asK env st2 ro) fun kvs => ob (keyOf k) fun kk => ob (valD kvs kk) fun z => ob (asI (.d z)) fun a => bnd (e env st2) fun u st3 => ob (asI u) fun b => chg (fun so => putKv so k (.int (f a b))) env st3 ro := by
  unfold mAugK
  cases o env st with
  | none => rfl
  | some p =>
    obtain ⟨ro, st1⟩ := p
    simp only [bnd_s]
    cases i env st1 with
    | none => rfl
    | some p =>
      obtain ⟨y, st2⟩ := p
      cases y with
      | loc _ => rfl
      | d k =>
        simp only [bnd_s, onD_d]
        cases asK env st2 ro with
        | none => rfl
        | some kvs =>
          simp only [ob_s]
          cases keyOf k with
          | none => rfl
          | some kk =>
            simp only [ob_s]
            cases valD kvs kk with
            | none => rfl
            | some z =>
              cases z <;> first | rfl | skip
              rename_i a
              simp only [ob_s, asI_i]
              cases e env st2 with
              | none => rfl
              | some p =>
                obtain ⟨u, st3⟩ := p
                cases u with
                | loc _ => rfl
                | d u => cases u <;> rfl
def refOf : R → Option Nat
  | .d (.ref n) => some n
  | _ => none
@[simp] theorem refOf_r (n : Nat) : refOf (.d (.ref n)) = some n := (rfl)
@[simp] theorem ev_mPopAt (mo mi : ME) : mPopAt mo mi env st = bnd (mo env st) fun x st1 => ob (refOf x) fun n => ob (stL st1[n]?) fun _ => bnd (mi env st1) fun y st2 => ob (asI y) fun i => ob (stL st2[n]?) fun xs => ob (ixN xs.length i) fun k => ob xs[k]? fun d => if xs.length ≤ 16000000 then some (.d d, st2.set n (.lst (xs.eraseIdx k))) else none := by
  unfold mPopAt
  cases mo env st with
  | none => rfl
  | some p =>
    obtain ⟨x, st1⟩ := p
    cases x with
    | loc _ => rfl
    | d x =>
      cases x <;> first | rfl | skip
      rename_i n
      simp only [bnd_s, refOf_r, ob_s]
      rw [ev_asL_r]
      cases stL st1[n]? with
      | none => rfl
      | some _ =>
        simp only [ob_s]
        cases mi env st1 with
        | none => rfl
        | some p =>
          obtain ⟨y, st2⟩ := p
          cases y with
          | loc _ => rfl
          | d y =>
            cases y <;> first | rfl | skip
            rename_i i
            simp only [bnd_s, asI_i, ob_s]
            cases st2[n]? with
            | none => rfl
            | some so =>
              cases so <;> first | rfl | skip
              rename_i xs
              simp only [stL_l, ob_s]
              cases ixN xs.length i with
              | none => rfl
              | some k =>
                simp only [ob_s]
                cases xs[k]? <;> rfl
@[simp] theorem ev_mFCatE (a b : ME) : mFCatE a b env st = bnd (a env st) fun x st1 => bnd (b env st1) fun y st2 => ob (asL env st2 x) fun xs => ob (asL env st2 y) fun ys => if xs.length + ys.length ≤ 16000000 then some (.lst (xs ++ ys), st2) else none := by
  unfold mFCatE
  cases a env st with
  | none => rfl
  | some p =>
    obtain ⟨x, st1⟩ := p
    simp only [bnd_s]
    cases b env st1 with
    | none => rfl
    | some p =>
      obtain ⟨y, st2⟩ := p
      simp only [bnd_s]
      cases asL env st2 x with
      | none => rfl
      | some xs => simp only [ob_s]; cases asL env st2 y <;> rfl
@[simp] theorem ev_mGet1 (a b : ME) : mGet1 a b env st = bnd (a env st) fun x s => ob (asK env s x) fun _ => bnd (b env s) fun y s2 => onD y fun k => ob (asK env s2 x) fun kvs => ob (keyOf k) fun kk => some (.d ((valD kvs kk).getD .non), s2) := by
  unfold mGet1
  cases a env st with
  | none => rfl
  | some p =>
    obtain ⟨x, s⟩ := p
    simp only [bnd_s]
    cases asK env s x with
    | none => rfl
    | some _ =>
      simp only [ob_s]
      cases b env s with
      | none => rfl
      | some p =>
        obtain ⟨y, s2⟩ := p
        cases y with
        | loc i => rfl
        | d k =>
          simp only [bnd_s, onD_d]
          cases asK env s2 x with
          | none => rfl
          | some kvs => simp only [ob_s]; cases keyOf k <;> rfl
@[simp] theorem ev_f2IsB (neg : Bool) (a b : Bool) : f2IsB neg env st (.d (.bl a)) (.d (.bl b)) = some (.d (.bl (if neg then !decide (a = b) else decide (a = b))), st) := (rfl)
@[simp] theorem ev_f2IsB_n (neg : Bool) (x : R) : f2IsB neg env st x (.d .non) = none := by
  cases x with
  | loc _ => rfl
  | d d => cases d <;> rfl
end
/-! ### dicts read and put -/
theorem valD_mem {κ : Type} [DecidableEq κ] {k : κ} {v : D} : ∀ {ls : List (κ × D)}, (ls.map (·.1)).Nodup → (k, v) ∈ ls → valD ls k = some v
  | [], _, h => by cases h
  | p :: ls, hn, h => by
    simp only [List.map_cons, List.nodup_cons] at hn
    unfold valD
    rw [List.find?_cons]
    rcases List.mem_cons.mp h with rfl | h
    · simp
    · have hne : ¬ p.1 = k := fun e => hn.1 (by rw [e]; exact List.mem_map.mpr ⟨(k, v), h, rfl⟩)
      simp only [hne, decide_false]
      exact valD_mem hn.2 h
theorem valD_none {κ : Type} [DecidableEq κ] {k : κ} {ls : List (κ × D)} : valD ls k = none ↔ k ∉ ls.map (·.1) := by
  unfold valD
  rw [Option.map_eq_none_iff, List.find?_eq_none]
  constructor
  · intro h hk
    obtain ⟨p, hp, rfl⟩ := List.mem_map.mp hk
    exact h p hp (by simp)
  · intro h p hp he
    exact h (List.mem_map.mpr ⟨p, hp, by simpa using he⟩)
theorem putD_new {κ : Type} [DecidableEq κ] {k : κ} {v : D} {ls : List (κ × D)} (h : k ∉ ls.map (·.1)) : putD ls k v = ls ++ [(k, v)] := by
  unfold putD
  rw [if_neg]
  intro e
  rw [List.any_eq_true] at e
  obtain ⟨p, hp, e⟩ := e
  exact h (List.mem_map.mpr ⟨p, hp, by simpa using e⟩)
/-- a dict comprehension over a list of things with keys all different -/
theorem dcGoG_nd {α : Type} {g : α → D} {mg : MG} {ek ev : ME} {env : Env} {bd : α → Env} {chk : Store → Bool} {st : Store} (hc : chk st = true) (fk : α → D) (kk : α → Key) (fv : α → D) : ∀ (xs : List α) (acc : List (Key × D)), acc.length + xs.length ≤ 1000000 →
    (∀ x ∈ xs, mg (g x) env = some (bd x)) → (∀ x ∈ xs, ek (bd x) st = some (.d (fk x), st)) → (∀ x ∈ xs, keyOf (fk x) = some (kk x)) → (∀ x ∈ xs, ev (bd x) st = some (.d (fv x), st)) → ((acc.map (·.1)) ++ xs.map kk).Nodup →
    dcGoG mg mYes ek ev env chk (xs.map g) st acc = some (acc ++ xs.map (fun x => (kk x, fv x)), st)
  | [], acc, _, _, _, _, _, _ => by
    simp only [List.map_nil, List.append_nil]
    unfold dcGoG
    rw [if_pos hc]
  | x :: xs, acc, hl, h1, h2, h3, h4, hn => by
    rw [List.map_cons]
    unfold dcGoG
    rw [if_pos hc, h1 x (by simp)]
    dsimp only
    simp only [ev_yes]
    rw [h2 x (by simp)]
    dsimp only
    rw [h3 x (by simp)]
    dsimp only
    rw [h4 x (by simp)]
    dsimp only
    have hnew : kk x ∉ acc.map (·.1) := fun e => by
      rw [List.nodup_append] at hn
      exact hn.2.2 _ e (kk x) (by simp) rfl
    rw [if_pos (by simp at hl; omega), putD_new hnew, dcGoG_nd hc fk kk fv xs (acc ++ [(kk x, fv x)]) (by simp at hl ⊢; omega) (fun y hy => h1 y (by simp [hy])) (fun y hy => h2 y (by simp [hy])) (fun y hy => h3 y (by simp [hy])) (fun y hy => h4 y (by simp [hy])) (by simpa using hn)]
    simp
theorem dc_seqG {α : Type} {g : α → D} {l : List α} {m : ME} {mg : MG} {ek ev : ME} {vs : List Nat} {env : Env} {st st1 : Store} {r0 : R} (bd : α → Env) (fk : α → D) (kk : α → Key) (fv : α → D) (hm : m env st = some (r0, st1)) (hs : seqOf env st1 r0 = some (l.map g)) (hn : l.length ≤ 1000000)
    (h1 : ∀ x ∈ l, mg (g x) (wipeE env vs) = some (bd x)) (h2 : ∀ x ∈ l, ek (bd x) st1 = some (.d (fk x), st1)) (h3 : ∀ x ∈ l, keyOf (fk x) = some (kk x)) (h4 : ∀ x ∈ l, ev (bd x) st1 = some (.d (fv x), st1)) (hd : (l.map kk).Nodup) :
    mDcG (mSeq m) mg mYes ek ev vs env st = some (.dK (l.map fun x => (kk x, fv x)), st1) := by
  have h1' : mSeq m env st = some (.seq r0, st1) := by
    rw [ev_mSeq, hm]; simp only [bnd_s]; rw [hs]; rfl
  unfold mDcG
  rw [h1']
  have h5 : srcItems env st1 (.seq r0) = some (l.map g) := by simp only [srcItems]; exact hs
  dsimp only
  rw [h5]
  dsimp only
  rw [dcGoG_nd (decide_eq_true h5) fk kk fv l [] (by simpa using hn) h1 h2 h3 h4 (by simpa using hd)]
  rfl
/-- == of dicts with the same entries -/
theorem ev_eqKK {neg : Bool} {env : Env} {st : Store} {x y : R} {ks : List (Key × D)} (h1 : asK env st x = some ks) (h2 : asK env st y = some ks) (hn : (ks.map (·.1)).Nodup) (hv : ∀ p ∈ ks, okD p.2 = true ∧ depD p.2 ≤ 60) : f2EqK neg env st x y = some (.d (.bl (!neg)), st) := by
  unfold f2EqK
  rw [h1, h2]
  dsimp only
  rw [if_pos]
  refine ⟨rfl, List.all_eq_true.mpr fun p hp => ?_⟩
  unfold eqAtK
  obtain ⟨q, e1, e2, e3⟩ := toP_okD (dr2 st) p.2 (hv p hp).1
  have hd := (hv p hp).2
  rw [valD_mem (v := p.2) hn hp]
  dsimp only
  rw [e1]
  dsimp only
  have hself : PyData.eqv q q = true := by
    rw [eqv_okD (dr2 st) p.2 p.2 q q (hv p hp).1 (hv p hp).1 e1 e1]; simp
  rw [hself]
  unfold SeqAt.shaped
  simp [e2, e3]
  omega
@[simp] theorem ev_same (neg : Bool) (env : Env) (st : Store) (x : D) (h : okD x = true) (d : depD x ≤ 64) : f2Eq neg env st (.d x) (.d x) = some (.d (.bl (!neg)), st) := ev_eq_self h d
@[simp] theorem ev_toPR_i (env : Env) (st : Store) (i : Int) : toPR env st (.d (.int i)) = some (.int i) := (rfl)
@[simp] theorem ev_toPR_s (env : Env) (st : Store) (x : Str) : toPR env st (.d (.str x)) = some (.str x) := (rfl)
@[simp] theorem ev_toPR_n (env : Env) (st : Store) : toPR env st (.d .non) = some .none := (rfl)
theorem sq_step {a b : MS} {env env1 : Env} {st st1 : Store} (h : a env st = some (.nx, env1, st1)) : mSq a b env st = b env1 st1 := by rw [ev_mSq, h, sq_nx]
theorem sq_ret {a b : MS} {env env1 : Env} {st st1 : Store} {d : D} (h : a env st = some (.rt d, env1, st1)) : mSq a b env st = some (.rt d, env1, st1) := by rw [ev_mSq, h, sq_rt]
/-! sources that are references -/
theorem lc_seqIfR {α : Type} {g : α → D} {l : List α} {m : ME} {j : Nat} {t : MT} {e : ME} {vs : List Nat} {env : Env} {st st1 : Store} {r0 : R} (p : α → Bool) (f : α → D) (hm : m env st = some (r0, st1)) (hs : seqOf env st1 r0 = some (l.map g)) (hn : l.length ≤ 16000000)
    (ht : ∀ x ∈ l, t ((wipeE env vs).set j (.val (g x))) st1 = some (p x, st1)) (h : ∀ x ∈ l, p x = true → e ((wipeE env vs).set j (.val (g x))) st1 = some (.d (f x), st1)) :
    mLc (mSeq m) j t e vs env st = some (.lst ((l.filter p).map f), st1) := by
  have h1 : mSeq m env st = some (.seq r0, st1) := by
    rw [ev_mSeq, hm]; simp only [bnd_s]; rw [hs]; rfl
  have h5 : srcItems env st1 (.seq r0) = some (l.map g) := by simp only [srcItems]; exact hs
  unfold mLc
  rw [h1]
  dsimp only
  rw [h5]
  dsimp only
  rw [lcGo_filterA (decide_eq_true h5) p f l [] (by simp; omega) ht h]
  simp
theorem lc_seqR {α : Type} {g : α → D} {l : List α} {m : ME} {j : Nat} {e : ME} {vs : List Nat} {env : Env} {st st1 : Store} {r0 : R} (f : α → D) (hm : m env st = some (r0, st1)) (hs : seqOf env st1 r0 = some (l.map g)) (hn : l.length ≤ 16000000)
    (h : ∀ x ∈ l, e ((wipeE env vs).set j (.val (g x))) st1 = some (.d (f x), st1)) :
    mLc (mSeq m) j mYes e vs env st = some (.lst (l.map f), st1) := by
  have := lc_seqIfR (g := g) (l := l) (t := mYes) (fun _ => true) f hm hs hn (fun _ _ => rfl) (fun x hx _ => h x hx)
  rw [this, List.filter_eq_self.mpr (fun _ _ => rfl)]
theorem for_seqR {m : ME} {g : MG} {body : MS} {env : Env} {st st1 : Store} {d : D} {xs : List D} (I : Nat → Env → Store → Prop) (hm : m env st = some (.d d, st1)) (h0 : I 0 env st1) (hI : ∀ i env st, I i env st → seqOf env st (.d d) = some xs)
    (hs : ∀ (k : Nat) (hk : k < xs.length) env st, I k env st → ∃ env1, g xs[k] env = some env1 ∧ ∃ f env2 st2, body env1 st = some (f, env2, st2) ∧ (f = .nx ∨ f = .ct) ∧ I (k + 1) env2 st2) :
    ∃ env' st', mFor (mSeq m) g body env st = some (.nx, env', st') ∧ I xs.length env' st' := by
  have h1 : mSeq m env st = some (.seq (.d d), st1) := by
    unfold mSeq; rw [hm]; dsimp only; rw [hI _ _ _ h0]
  unfold mFor
  rw [h1]
  dsimp only
  rw [if_pos (show isData _ = true from rfl)]
  dsimp only [srcItems]
  rw [hI _ _ _ h0]
  dsimp only
  obtain ⟨env', st', h2, h3⟩ := forGo_inv (g := g) (body := body) (chk := fun env st => decide (seqOf env st (.d d) = some xs)) I xs 0 env st1 h0 (fun i e s q => decide_eq_true (hI i e s q)) (fun i hi e s q => by
    have := hs i hi e s (by simpa using q)
    simpa using this)
  rw [Nat.zero_add] at h3
  exact ⟨env', st', h2, h3⟩
/-! ### frames of the store -/
def Fr (st st' : Store) (S : List Nat) : Prop := st.length ≤ st'.length ∧ ∀ i, i < st.length → i ∉ S → st'[i]? = st[i]?
theorem Fr.refl (st : Store) (S : List Nat) : Fr st st S := ⟨Nat.le_refl _, fun _ _ _ => rfl⟩
theorem Fr.trans {st st1 st2 : Store} {S T : List Nat} (h : Fr st st1 S) (h2 : Fr st1 st2 T) : Fr st st2 (S ++ T) := by
  refine ⟨Nat.le_trans h.1 h2.1, fun i hi hn => ?_⟩
  simp only [List.mem_append, not_or] at hn
  rw [h2.2 i (Nat.lt_of_lt_of_le hi h.1) hn.2, h.2 i hi hn.1]
theorem Fr.set (st : Store) (n : Nat) (x : SO) : Fr st (st.set n x) [n] := by
  refine ⟨by simp, fun i hi hn => ?_⟩
  rw [List.getElem?_set_ne]
  intro e
  exact hn (by simp [e])
theorem Fr.app (st : Store) (xs : List SO) : Fr st (st ++ xs) [] := ⟨by simp, fun i hi _ => List.getElem?_append_left hi⟩
theorem Fr.get {st st' : Store} {S : List Nat} (h : Fr st st' S) {i : Nat} {x : SO} (e : st[i]? = some x) (hn : i ∉ S) : st'[i]? = some x := by
  rw [h.2 i (List.getElem?_eq_some_iff.mp e).1 hn]; exact e
theorem Fr.mono {st st' : Store} {S T : List Nat} (h : Fr st st' S) (hs : ∀ i ∈ S, i ∈ T) : Fr st st' T := ⟨h.1, fun i hi hn => h.2 i hi fun q => hn (hs i q)⟩
theorem get_set {st : Store} {i : Nat} {y : SO} (h : st[i]? = some y) (x : SO) : (st.set i x)[i]? = some x := by
  have := (List.getElem?_eq_some_iff.mp h).1
  simp [this]
theorem get_app {st : Store} {i : Nat} {y : SO} (h : st[i]? = some y) (xs : List SO) : (st ++ xs)[i]? = some y := by
  rw [List.getElem?_append_left (List.getElem?_eq_some_iff.mp h).1]; exact h
theorem get_new {st : Store} (x : SO) : (st ++ [x])[st.length]? = some x := by simp
theorem get_lt {st : Store} {i : Nat} {y : SO} (h : st[i]? = some y) : i < st.length := (List.getElem?_eq_some_iff.mp h).1
end Gx

namespace Gx
open PySem L2
section
variable (env : Env) (st : Store)
@[simp] theorem ev_mFD0T : mFD0T env st = some (.dT [], st) := (rfl)
@[simp] theorem ev_mFTup (a : MA) : mFTup a env st = bnd (a env st) fun ds s => if ds.length ≤ 16000000 then some (.tup ds, s) else none := by
  cases h : a env st <;> simp only [mFTup, h] <;> rfl
@[simp] theorem ev_mKt (a : MA) : mKt a env st = bnd (a env st) fun ds s => if ds.length ≤ 16000000 then ob (keysOf ds) fun ks => some (ks, s) else none := by
  cases h : a env st with
  | none => simp only [mKt, h]; rfl
  | some p =>
    obtain ⟨ds, s⟩ := p
    simp only [mKt, h, bnd_s]
    split
    · cases keysOf ds <;> rfl
    · rfl
@[simp] theorem slotU_o (xs : List D) : slotU (some (.own (.tup xs))) = some xs := (rfl)
@[simp] theorem ev_mKv (i : Nat) : mKv i env st = ob (slotU env[i]?) fun ds => ob (keysOf ds) fun ks => some (ks, st) := by
  unfold mKv
  cases slotU env[i]? with
  | none => rfl
  | some ds => simp only [ob_s]; cases keysOf ds <;> rfl
@[simp] theorem keysOf_nil : keysOf [] = some [] := (rfl)
@[simp] theorem keysOf_cons (d : D) (ds : List D) : keysOf (d :: ds) = ob (keyOf d) fun k => ob (keysOf ds) fun ks => some (k :: ks) := by
  cases h : keyOf d with
  | none => simp only [keysOf, h, ob_n]
  | some k =>
    simp only [keysOf, h, ob_s]
    cases keysOf ds <;> rfl
def slotT (o : Option Slot) : Option (List (List Key × D)) := match o with | some (.own (.dT xs)) => some xs | _ => none
@[simp] theorem slotT_o (xs) : slotT (some (.own (.dT xs))) = some xs := (rfl)
def stT (o : Option SO) : Option (List (List Key × D)) := match o with | some (.dT xs) => some xs | _ => none
@[simp] theorem stT_o (xs) : stT (some (.dT xs)) = some xs := (rfl)
@[simp] theorem ev_asT_r (n : Nat) : asT env st (.d (.ref n)) = stT st[n]? := by
  unfold asT stT
  rfl
@[simp] theorem ev_asT_o (i : Nat) : asT env st (.loc i) = slotT env[i]? := by
  unfold asT slotT
  rfl
@[simp] theorem ev_asT_k (ks vs) : asT env st (.d (.dtt ks vs)) = some (ks.zip vs) := (rfl)
@[simp] theorem ev_mGet2T (a : ME) (k : MK) (c : ME) : mGet2T a k c env st = bnd (a env st) fun x s => ob (asT env s x) fun _ => bnd (k env s) fun kk s2 => bnd (c env s2) fun w s3 => onD w fun z => ob (asT env s3 x) fun kvs => some (.d ((valD kvs kk).getD z), s3) := by
  unfold mGet2T
  cases a env st with
  | none => rfl
  | some p =>
    obtain ⟨x, s⟩ := p
    simp only [bnd_s]
    cases asT env s x with
    | none => rfl
    | some _ =>
      simp only [ob_s]
      cases k env s with
      | none => rfl
      | some p =>
        obtain ⟨kk, s2⟩ := p
        simp only [bnd_s]
        cases c env s2 with
        | none => rfl
        | some p =>
          obtain ⟨w, s3⟩ := p
          cases w with
          | loc i => rfl
          | d z => simp only [bnd_s, onD_d]; cases asT env s3 x <;> rfl
@[simp] theorem ev_mIxT (a : ME) (k : MK) : mIxT a k env st = bnd (a env st) fun x s => bnd (k env s) fun kk s2 => ob (asT env s2 x) fun kvs => ob (valD kvs kk) fun z => some (.d z, s2) := by
  unfold mIxT
  cases a env st with
  | none => rfl
  | some p =>
    obtain ⟨x, s⟩ := p
    simp only [bnd_s]
    cases k env s with
    | none => rfl
    | some p =>
      obtain ⟨kk, s2⟩ := p
      simp only [bnd_s]
      cases asT env s2 x with
      | none => rfl
      | some kvs => simp only [ob_s]; cases valD kvs kk <;> rfl
@[simp] theorem ev_mInT (neg : Bool) (k : MK) (a : ME) : mInT neg k a env st = bnd (k env st) fun kk s => bnd (a env s) fun x s2 => ob (asT env s2 x) fun kvs => some (.d (.bl (if neg then !(valD kvs kk).isSome else (valD kvs kk).isSome)), s2) := by
  unfold mInT
  cases k env st with
  | none => rfl
  | some p =>
    obtain ⟨kk, s⟩ := p
    simp only [bnd_s]
    cases a env s with
    | none => rfl
    | some p =>
      obtain ⟨x, s2⟩ := p
      simp only [bnd_s]
      cases asT env s2 x <;> rfl
@[simp] theorem ev_mStT (o : ME) (k : MK) (v : ME) : mStT o k v env st = bnd (v env st) fun x s => onD x fun dv => bnd (o env s) fun ro s2 => bnd (k env s2) fun kk s3 => chg (fun so => putT so kk dv) env s3 ro := by
  unfold mStT
  cases v env st with
  | none => rfl
  | some p =>
    obtain ⟨x, s⟩ := p
    cases x with
    | loc i => rfl
    | d dv =>
      simp only [bnd_s, onD_d]
      cases o env s with
      | none => rfl
      | some p =>
        obtain ⟨ro, s2⟩ := p
        simp only [bnd_s]
        cases k env s2 <;> rfl
@[simp] theorem ev_putT (kvs : List (List Key × D)) (k : List Key) (v : D) : putT (.dT kvs) k v = if kvs.length < 16000000 then some (.dT (putD kvs k v)) else none := (rfl)
end
theorem valD_put {κ : Type} [DecidableEq κ] (k j : κ) (v : D) : ∀ kvs : List (κ × D), valD (putD kvs k v) j = if j = k then some v else valD kvs j := by
  have hmap : ∀ kvs : List (κ × D), valD (kvs.map fun kv => if kv.1 = k then (kv.1, v) else kv) j = (valD kvs j).map fun x => if j = k then v else x := by
    intro kvs
    induction kvs with
    | nil => rfl
    | cons p r ih =>
      by_cases hk : p.1 = k
      · by_cases hj : p.1 = j
        · have : j = k := hj.symm.trans hk
          simp [valD, hk, hj, this]
        · have hj2 : ¬ k = j := fun e => hj (hk.trans e)
          have ih' := ih
          unfold valD at ih' ⊢
          simp only [List.map_cons, hk, if_true, List.find?_cons, hj2, decide_false]
          exact ih'
      · by_cases hj : p.1 = j
        · have : ¬ j = k := fun e => hk (hj.trans e)
          simp [valD, hk, hj, this]
        · have ih' := ih
          unfold valD at ih' ⊢
          simp only [List.map_cons, hk, if_false, List.find?_cons, hj, decide_false]
          exact ih'
  intro kvs
  unfold putD
  split
  · rename_i h
    rw [hmap]
    by_cases e : j = k
    · subst e
      simp only [if_true]
      cases hv : valD kvs j with
      | none =>
        rw [List.any_eq_true] at h
        obtain ⟨p, hp, hp2⟩ := h
        exact absurd (List.mem_map.mpr ⟨p, hp, by simpa using hp2⟩) (valD_none.mp hv)
      | some _ => rfl
    · simp only [e, if_false]
      cases valD kvs j <;> rfl
  · rename_i h
    unfold valD
    rw [List.find?_append]
    by_cases e : j = k
    · subst e
      have : kvs.find? (fun kv => decide (kv.1 = j)) = none := by
        rw [List.find?_eq_none]
        intro p hp q
        apply h
        rw [List.any_eq_true]
        exact ⟨p, hp, q⟩
      simp [this]
    · have e2 : ¬ k = j := fun q => e q.symm
      simp only [e, if_false]
      cases kvs.find? (fun kv => decide (kv.1 = j)) with
      | some _ => rfl
      | none => simp [e2]
theorem putD_len {κ : Type} [DecidableEq κ] (k : κ) (v : D) (kvs : List (κ × D)) : (putD kvs k v).length ≤ kvs.length + 1 := by
  unfold putD
  split <;> simp
/-- [e for j in range(a, b)] -/
theorem lc_rng2 {ma mb : ME} {j : Nat} {e : ME} {vs : List Nat} {env : Env} {st st1 st2 : Store} {lo hi : Nat} (f : Nat → D) (hm : ma env st = some (.d (.int lo), st1)) (hm2 : mb env st1 = some (.d (.int hi), st2)) (hn : lo ≤ 1000000 ∧ hi ≤ 1000000) (h : ∀ k : Nat, lo ≤ k → k < hi → e ((wipeE env vs).set j (.val (.int k))) st2 = some (.d (f k), st2)) :
    mLc (mRng2 ma mb) j mYes e vs env st = some (.lst ((List.range' lo (hi - lo)).map f), st2) := by
  have h1 : mRng2 ma mb env st = some (.rng lo (hi - lo), st2) := by
    unfold mRng2; rw [hm]; dsimp only; rw [hm2]; dsimp only
    rw [if_pos (by unfold inR; rw [decide_eq_true (by omega), decide_eq_true (by omega)]; rfl)]
    congr 3
    omega
  have hit : rngItems lo (hi - lo) = (List.range' lo (hi - lo)).map fun (k : Nat) => D.int k := by
    rw [List.range'_eq_map_range]
    simp [rngItems, Function.comp_def]
  have h5 : srcItems env st2 (.rng lo (hi - lo)) = some ((List.range' lo (hi - lo)).map fun (k : Nat) => D.int k) := by
    simp only [srcItems]
    rw [hit]
  unfold mLc
  rw [h1]
  dsimp only
  rw [h5]
  dsimp only
  rw [lcGo_filterA (g := fun (k : Nat) => D.int k) (t := mYes) (decide_eq_true h5) (fun _ => true) f (List.range' lo (hi - lo)) [] (by simp; omega) (fun _ _ => rfl) (fun x hx _ => by
    rw [List.mem_range'] at hx
    obtain ⟨i, hi1, rfl⟩ := hx
    exact h _ (by omega) (by omega))]
  rw [List.filter_eq_self.mpr (fun _ _ => rfl)]
  simp
/-! ### layouts: where the objects of a program stand -/
structure Lay {O : Type} (dom : O → Prop) (A : O → Nat) (val : O → SO) (st : Store) : Prop where
  at_ : ∀ o, dom o → st[A o]? = some (val o)
  inj : ∀ o o', dom o → dom o' → A o = A o' → o = o'
theorem Lay.set {O : Type} {dom : O → Prop} {A : O → Nat} {val val' : O → SO} {st : Store} (H : Lay dom A val st) {o : O} {v : SO} (ho : dom o) (hv : val' o = v) (hne : ∀ o', dom o' → o' ≠ o → val' o' = val o') : Lay dom A val' (st.set (A o) v) := by
  refine ⟨fun o' h' => ?_, H.inj⟩
  by_cases e : o' = o
  · subst e
    rw [hv]
    exact get_set (H.at_ o' h') _
  · rw [List.getElem?_set_ne (fun q => e (H.inj _ _ h' ho q.symm)), hne o' h' e]
    exact H.at_ o' h'
theorem Lay.app {O : Type} {dom : O → Prop} {A : O → Nat} {val : O → SO} {st : Store} (H : Lay dom A val st) (xs : List SO) : Lay dom A val (st ++ xs) := ⟨fun o h => get_app (H.at_ o h) _, H.inj⟩
/-- an object moves to the end -/
theorem Lay.move {O : Type} {dom : O → Prop} {A A' : O → Nat} {val val' : O → SO} {st : Store} (H : Lay dom A val st) {o : O} {v : SO} (ho : dom o) (hA : A' o = st.length) (hA2 : ∀ o', dom o' → o' ≠ o → A' o' = A o') (hv : val' o = v) (hne : ∀ o', dom o' → o' ≠ o → val' o' = val o') : Lay dom A' val' (st ++ [v]) := by
  refine ⟨fun o' h' => ?_, fun a b ha hb e => ?_⟩
  · by_cases e : o' = o
    · subst e
      rw [hA, hv]
      exact get_new _
    · rw [hA2 o' h' e, hne o' h' e]
      exact get_app (H.at_ o' h') _
  · by_cases ea : a = o
    · subst ea
      by_cases eb : b = a
      · exact eb.symm
      · rw [hA, hA2 b hb eb] at e
        have := get_lt (H.at_ b hb)
        omega
    · by_cases eb : b = o
      · subst eb
        rw [hA, hA2 a ha ea] at e
        have := get_lt (H.at_ a ha)
        omega
      · rw [hA2 a ha ea, hA2 b hb eb] at e
        exact H.inj a b ha hb e
@[simp] theorem ev_dOf_T (xs) : dOf (.dT xs) = some (.dtt (xs.map (·.1)) (xs.map (·.2))) := (rfl)
@[simp] theorem ev_dOf_u (xs) : dOf (.tup xs) = some (.tup xs) := (rfl)
end Gx

namespace Gx
open PySem L2
section
variable (env : Env) (st : Store)
@[simp] theorem ev_fInC (neg : Bool) (hits : List (Str × D)) (misses : List Str) (z : Str) : fInC neg hits misses env st (.d (.str z)) = if (valD hits z).isSome then some (.d (.bl (!neg)), st) else if z ∈ misses then some (.d (.bl neg), st) else none := (rfl)
@[simp] theorem ev_fIxC (hits : List (Str × D)) (z : Str) : fIxC hits env st (.d (.str z)) = ob (valD hits z) fun v => some (.d v, st) := by
  unfold fIxC
  simp only
  cases valD hits z <;> rfl
@[simp] theorem ev_f2IxS (z : Str) (i : Int) : f2IxS env st (.d (.str z)) (.d (.int i)) = if z.length ≤ 16000000 then ob (atI z.cps.toList i) fun c => some (.d (.str ⟨#[c]⟩), st) else none := by
  unfold f2IxS
  simp only
  split
  · cases atI z.cps.toList i <;> rfl
  · rfl
@[simp] theorem ev_f1LenA_s (z : Str) : f1LenA env st (.d (.str z)) = if z.length ≤ 16000000 then some (.d (.int z.length), st) else none := (rfl)
@[simp] theorem ev_f1LenA_t (xs : List D) : f1LenA env st (.d (.tup xs)) = some (.d (.int xs.length), st) := (rfl)
@[simp] theorem ev_f1LenA_l (xs : List D) : f1LenA env st (.d (.lst xs)) = some (.d (.int xs.length), st) := (rfl)
@[simp] theorem ev_f1LenA_o (i : Nat) : f1LenA env st (.loc i) = f1Len env st (.loc i) := by
  unfold f1LenA
  cases f1Len env st (.loc i) <;> rfl
theorem ev_f1LenA {x : R} {z : R × Store} (h : f1Len env st x = some z) : f1LenA env st x = some z := by
  unfold f1LenA
  rw [h]
@[simp] theorem ev_asL_s (x : Str) : asL env st (.d (.str x)) = none := (rfl)
@[simp] theorem ev_asK_s (x : Str) : asK env st (.d (.str x)) = none := (rfl)
@[simp] theorem ev_asU_s' (x : Str) : asU (.d (.str x)) = none := (rfl)
end
@[simp] theorem kit_0_3 : kitB "int" "str" = some false := by decide +kernel
@[simp] theorem kit_0_4 : kitB "int" "list" = some false := by decide +kernel
@[simp] theorem kit_0_5 : kitB "int" "tuple" = some false := by decide +kernel
@[simp] theorem kit_0_6 : kitB "int" "dict" = some false := by decide +kernel
@[simp] theorem kit_1_3 : kitB "bool" "str" = some false := by decide +kernel
@[simp] theorem kit_1_4 : kitB "bool" "list" = some false := by decide +kernel
@[simp] theorem kit_1_5 : kitB "bool" "tuple" = some false := by decide +kernel
@[simp] theorem kit_1_6 : kitB "bool" "dict" = some false := by decide +kernel
@[simp] theorem kit_2_0 : kitB "NoneType" "int" = some false := by decide +kernel
@[simp] theorem kit_2_1 : kitB "NoneType" "bool" = some false := by decide +kernel
@[simp] theorem kit_2_3 : kitB "NoneType" "str" = some false := by decide +kernel
@[simp] theorem kit_2_4 : kitB "NoneType" "list" = some false := by decide +kernel
@[simp] theorem kit_2_5 : kitB "NoneType" "tuple" = some false := by decide +kernel
@[simp] theorem kit_2_6 : kitB "NoneType" "dict" = some false := by decide +kernel
@[simp] theorem kit_3_0 : kitB "str" "int" = some false := by decide +kernel
@[simp] theorem kit_3_1 : kitB "str" "bool" = some false := by decide +kernel
@[simp] theorem kit_3_3 : kitB "str" "str" = some true := by decide +kernel
@[simp] theorem kit_3_4 : kitB "str" "list" = some false := by decide +kernel
@[simp] theorem kit_3_5 : kitB "str" "tuple" = some false := by decide +kernel
@[simp] theorem kit_3_6 : kitB "str" "dict" = some false := by decide +kernel
@[simp] theorem kit_4_0 : kitB "list" "int" = some false := by decide +kernel
@[simp] theorem kit_4_1 : kitB "list" "bool" = some false := by decide +kernel
@[simp] theorem kit_4_3 : kitB "list" "str" = some false := by decide +kernel
@[simp] theorem kit_4_5 : kitB "list" "tuple" = some false := by decide +kernel
@[simp] theorem kit_4_6 : kitB "list" "dict" = some false := by decide +kernel
@[simp] theorem kit_5_0 : kitB "tuple" "int" = some false := by decide +kernel
@[simp] theorem kit_5_1 : kitB "tuple" "bool" = some false := by decide +kernel
@[simp] theorem kit_5_3 : kitB "tuple" "str" = some false := by decide +kernel
@[simp] theorem kit_5_4 : kitB "tuple" "list" = some false := by decide +kernel
@[simp] theorem kit_5_6 : kitB "tuple" "dict" = some false := by decide +kernel
@[simp] theorem kit_6_0 : kitB "dict" "int" = some false := by decide +kernel
@[simp] theorem kit_6_1 : kitB "dict" "bool" = some false := by decide +kernel
@[simp] theorem kit_6_3 : kitB "dict" "str" = some false := by decide +kernel
@[simp] theorem kit_6_4 : kitB "dict" "list" = some false := by decide +kernel
@[simp] theorem kit_6_5 : kitB "dict" "tuple" = some false := by decide +kernel
/-- a loop that may leave with one answer -/
theorem forGo_ret {g : MG} {body : MS} {chk : Env → Store → Bool} {st : Store} {r : D} (I : Env → Prop) (p : D → Bool) (hI : ∀ env, I env → chk env st = true) : ∀ (xs : List D) (env : Env), I env →
    (∀ x ∈ xs, ∀ env, I env → ∃ env1, g x env = some env1 ∧ ∃ env2, I env2 ∧ body env1 st = some (if p x = true then .nx else .rt r, env2, st)) →
    ∃ env', I env' ∧ forGo g body chk xs env st = some (if xs.all p = true then .nx else .rt r, env', st)
  | [], env, h, _ => ⟨env, h, by unfold forGo; rw [if_pos (hI _ h)]; rfl⟩
  | x :: xs, env, h, hs => by
    obtain ⟨env1, h1, env2, h2, h3⟩ := hs x (by simp) env h
    unfold forGo
    rw [if_pos (hI _ h), h1]
    dsimp only
    rw [h3]
    by_cases hp : p x = true
    · rw [if_pos hp]
      obtain ⟨env', h4, h5⟩ := forGo_ret I p hI xs env2 h2 (fun y hy => hs y (by simp [hy]))
      refine ⟨env', h4, ?_⟩
      dsimp only
      rw [h5]
      simp [hp]
    · rw [if_neg hp]
      refine ⟨env2, h2, ?_⟩
      simp [hp]
theorem for_rngR {m : ME} {g : MG} {body : MS} {env : Env} {st : Store} {n : Nat} {r : D} (I : Env → Prop) (p : Nat → Bool) (hm : m env st = some (.d (.int n), st)) (hn : n ≤ 1000000) (h0 : I env)
    (hs : ∀ k : Nat, k < n → ∀ env, I env → ∃ env1, g (.int (k : Nat)) env = some env1 ∧ ∃ env2, I env2 ∧ body env1 st = some (if p k = true then .nx else .rt r, env2, st)) :
    ∃ env', I env' ∧ mFor (mRng1 m) g body env st = some (if (List.range n).all p = true then .nx else .rt r, env', st) := by
  have h1 : mRng1 m env st = some (.rng 0 n, st) := by
    unfold mRng1; rw [hm]; dsimp only
    rw [if_pos (by unfold inR; exact decide_eq_true (by omega))]
    simp
  unfold mFor
  rw [h1]
  dsimp only
  rw [if_pos (show isData _ = true from rfl)]
  dsimp only [srcItems]
  obtain ⟨env', h2, h3⟩ := forGo_ret (g := g) (body := body) (chk := fun env st => decide (some (rngItems 0 n) = some (rngItems 0 n))) (st := st) (r := r) I (fun x => match x with | .int i => p i.toNat | _ => true) (fun _ _ => by simp) (rngItems 0 n) env h0 (fun x hx env he => by
    obtain ⟨k, hk, rfl⟩ := List.mem_map.mp hx
    simp only [Int.zero_add, Int.toNat_natCast]
    exact hs k (List.mem_range.mp hk) env he)
  refine ⟨env', h2, ?_⟩
  have e : (rngItems 0 n).all (fun x => match x with | .int i => p i.toNat | _ => true) = (List.range n).all p := by
    simp [rngItems, List.all_map, Function.comp_def]
  rw [e] at h3
  exact h3
/-- a comprehension over a text -/
theorem lc_txtI {m : ME} {j : Nat} {e : ME} {vs : List Nat} {env : Env} {st st1 : Store} {x : Str} (I : Nat → List D → Store → Prop) (hm : m env st = some (.d (.str x), st1)) (hn : x.cps.size ≤ 1000000) (h0 : I 0 [] st1)
    (h : ∀ (k : Nat) (hk : k < x.cps.toList.length) acc st, I k acc st → ∃ d st2, e ((wipeE env vs).set j (.val (.str ⟨#[x.cps.toList[k]]⟩))) st = some (.d d, st2) ∧ I (k + 1) (acc ++ [d]) st2) :
    ∃ acc st', mLc (mSeqS m) j mYes e vs env st = some (.lst acc, st') ∧ I x.cps.toList.length acc st' := by
  have h1 : mSeqS m env st = some (.txt x, st1) := by unfold mSeqS; rw [hm]
  have hl : (txtItems x).length = x.cps.toList.length := by simp [txtItems]
  obtain ⟨acc, st', h3, h4⟩ := lcGo_inv (j := j) (e := e) (env := wipeE env vs) (chk := fun st => decide (srcItems env st (.txt x) = some (txtItems x))) I (txtItems x) 0 [] st1 h0 (by rw [hl]; simp; omega) (fun _ _ _ _ => by simp [srcItems]) (fun i hi a s q => by
    rw [hl] at hi
    have := h i hi a s (by simpa using q)
    simpa [txtItems] using this)
  refine ⟨acc, st', ?_, by rw [Nat.zero_add, hl] at h4; exact h4⟩
  unfold mLc
  rw [h1]
  dsimp only [srcItems]
  dsimp only [srcItems] at h3
  rw [h3]
end Gx

set_option maxHeartbeats 4000000
namespace Law
open PySem L2 Gx
def top (i : Nat) : Stmt := PySem.Challenge.pw_commonage_k09_whole_fresh_copies_have_wh.main.body.getD i (.Pass ⟨0, 0, 0, 0⟩)
structure Txt (K : PySem.W.Frag) (mg : Str → Option Value) : Prop where
  k_FIRST_CELL : Cst K mg "FIRST_CELL" (.tup [(.int 0), (.tup [(.int 0), (.int 0)])])
  k_PAGE_WORDS : Cst K mg "PAGE_WORDS" (.int 4)
  len_ : mg "len" = none
  range_ : mg "range" = none
  max_ : mg "max" = none
  tuple_ : mg "tuple" = none
  sorted_ : mg "sorted" = none
  all_ : mg "all" = none
  int_ : mg "int" = none
  min_ : mg "min" = none
/-! _law_cell -/
abbrev s__law_cell : Stmt := top 20
abbrev n__law_cell : List Str := ["_law_script", "_law_k"]
theorem sc__law_cell : FnScope n__law_cell ["_law_script", "_law_k"] (defScope s__law_cell) := ⟨rfl, rfl, rfl, by decide +kernel, rfl, by decide +kernel, by decide +kernel⟩
def i__law_cell_1 : MS := (mIf (mTest (m2 (mVar 1) (m1 (mVar 0) f1Len) (f2I (fun _ _ => true) fun i j => .bl (decide (i < j)))))
    (mRet (m1 (mIx (mVar 0) (mVar 1)) f1Int))
    mSkip)
def b__law_cell : MS := (mSq i__law_cell_1
  (mRet (mC (.int 0))))
def f__law_cell : MFn := mFn 2 b__law_cell
theorem ok__law_cell {P : Program} {w : World} {K : PySem.W.Frag} {mg : Str → Option Value} {base : Heap} {f : Addr} {fd : FuncData} (F : Fun K "_law_cell" "_law_cell" s__law_cell f fd) (T : Txt K mg) : FnOk P w K mg base CX0 1 f fd ["_law_script", "_law_k"] (spM K 2 f__law_cell) :=
  xfn F sc__law_cell fun cdv A outer sh H E hr => (xs_cons (xif (xct kLt (xv 1) (xlen (by rfl) T.len_ (by decide +kernel) (xv 0)))
    (xs_one (xret (xint1 (by rfl) T.int_ (by decide +kernel) (xix (hu_of hr) (xv 0) (xv 1)))))
    xs_nil)
  (xs_one (xret xint)))
/-! with_count -/
abbrev s_with_count : Stmt := top 3
abbrev n_with_count : List Str := ["clock", "machine", "count"]
theorem sc_with_count : FnScope n_with_count ["clock", "machine", "count"] (defScope s_with_count) := ⟨rfl, rfl, rfl, by decide +kernel, rfl, by decide +kernel, by decide +kernel⟩
def b_with_count : MS := (mRet (mAdd (mAdd (mSl (mVar 0) mNoPart (mPart (mVar 1))) (mTup (mCons (mVar 2) mNil))) (mSl (mVar 0) (mPart (mAdd (mVar 1) (mC (.int 1)))) mNoPart)))
def f_with_count : MFn := mFn 3 b_with_count
theorem ok_with_count {P : Program} {w : World} {K : PySem.W.Frag} {mg : Str → Option Value} {base : Heap} {f : Addr} {fd : FuncData} (F : Fun K "with_count" "with_count" s_with_count f fd) (T : Txt K mg) : FnOk P w K mg base CX0 1 f fd ["clock", "machine", "count"] (spM K 3 f_with_count) :=
  xfn F sc_with_count fun cdv A outer sh H E hr => (xs_one (xret (xadd (xadd (xsl (xv 0) xno (xsome (xv 1))) (xtup (xcons (xv 2) xnil))) (xsl (xv 0) (xsome (xadd (xv 1) xint)) xno))))
/-! zero_clock -/
abbrev s_zero_clock : Stmt := top 1
abbrev n_zero_clock : List Str := ["machines"]
theorem sc_zero_clock : FnScope n_zero_clock ["machines"] (defScope s_zero_clock) := ⟨rfl, rfl, rfl, by decide +kernel, rfl, by decide +kernel, by decide +kernel⟩
def b_zero_clock : MS := (mRet (mMulA (mTup (mCons (mC (.int 0)) mNil)) (mVar 0)))
def f_zero_clock : MFn := mFn 1 b_zero_clock
theorem ok_zero_clock {P : Program} {w : World} {K : PySem.W.Frag} {mg : Str → Option Value} {base : Heap} {f : Addr} {fd : FuncData} (F : Fun K "zero_clock" "zero_clock" s_zero_clock f fd) (T : Txt K mg) : FnOk P w K mg base CX0 1 f fd ["machines"] (spM K 1 f_zero_clock) :=
  xfn F sc_zero_clock fun cdv A outer sh H E hr => (xs_one (xret (xmulA (xtup (xcons xint xnil)) (xv 0))))
/-! new_held -/
abbrev s_new_held : Stmt := top 13
abbrev n_new_held : List Str := ["machines"]
theorem sc_new_held : FnScope n_new_held ["machines"] (defScope s_new_held) := ⟨rfl, rfl, rfl, by decide +kernel, rfl, by decide +kernel, by decide +kernel⟩
def b_new_held : MS := (mRet (mAlloc (mFDisp (mPsC (mC (.str "need")) (mCall f_zero_clock (mCons (mVar 0) mNil)) (mPsC (mC (.str "has")) (mCall f_zero_clock (mCons (mVar 0) mNil)) mPsN)))))
def f_new_held : MFn := mFn 1 b_new_held
theorem ok_new_held {P : Program} {w : World} {K : PySem.W.Frag} {mg : Str → Option Value} {base : Heap} {f : Addr} {fd : FuncData} (F : Fun K "new_held" "new_held" s_new_held f fd) (T : Txt K mg) (C_zero_clock : Fn P w K mg base 1 "zero_clock" 1 f_zero_clock) : FnOk P w K mg base CX0 2 f fd ["machines"] (spM K 1 f_new_held) :=
  xfn F sc_new_held fun cdv A outer sh H E hr => (xs_one (xret (xalloc (xfdisp (xps_cons xstr (xcl C_zero_clock hr (by decide) (by rfl) (xcons (xv 0) xnil) (len_cons len_nil)) (xps_cons xstr (xcl C_zero_clock hr (by decide) (by rfl) (xcons (xv 0) xnil) (len_cons len_nil)) xps_nil)) (by rfl) (by rfl) (fun z => by cases z) (by decide)))))
/-! new_page -/
abbrev s_new_page : Stmt := top 7
abbrev n_new_page : List Str := []
theorem sc_new_page : FnScope n_new_page [] (defScope s_new_page) := ⟨rfl, rfl, rfl, by decide +kernel, rfl, by decide +kernel, by decide +kernel⟩
def b_new_page : MS := (mRet (mAlloc (mFRep (mFLst (mCons (mC (.tup [(.int 0), (.tup [(.int 0), (.int 0)])])) mNil)) (mC (.int 4)))))
def f_new_page : MFn := mFn 0 b_new_page
theorem ok_new_page {P : Program} {w : World} {K : PySem.W.Frag} {mg : Str → Option Value} {base : Heap} {f : Addr} {fd : FuncData} (F : Fun K "new_page" "new_page" s_new_page f fd) (T : Txt K mg) : FnOk P w K mg base CX0 1 f fd [] (spM K 0 f_new_page) :=
  xfn F sc_new_page fun cdv A outer sh H E hr => (xs_one (xret (xalloc (xfrep (xflst (xcons (xcst T.k_FIRST_CELL (by rfl)) xnil)) (xcst T.k_PAGE_WORDS (by rfl))))))
/-! _law_machine -/
abbrev s__law_machine : Stmt := top 23
abbrev n__law_machine : List Str := ["_law_machines", "_law_machine_here"]
theorem sc__law_machine : FnScope n__law_machine ["_law_machines", "_law_machine_here"] (defScope s__law_machine) := ⟨rfl, rfl, rfl, by decide +kernel, rfl, by decide +kernel, by decide +kernel⟩
def b__law_machine : MS := (mRet (mAlloc (mFDisp (mPsC (mC (.str "machine")) (mVar 1) (mPsC (mC (.str "page")) (mCall f_new_page mNil) (mPsC (mC (.str "held")) (mCall f_new_held (mCons (mVar 0) mNil)) (mPsC (mC (.str "stored")) (mAlloc mFD0) (mPsC (mC (.str "clock")) (mCall f_with_count (mCons (mCall f_zero_clock (mCons (mVar 0) mNil)) (mCons (mVar 1) (mCons (mC (.int 1)) mNil)))) (mPsC (mC (.str "letters")) (mAlloc (mFLst mNil)) (mPsC (mC (.str "done")) (mAlloc (mFLst mNil)) mPsN))))))))))
def f__law_machine : MFn := mFn 2 b__law_machine
theorem ok__law_machine {P : Program} {w : World} {K : PySem.W.Frag} {mg : Str → Option Value} {base : Heap} {f : Addr} {fd : FuncData} (F : Fun K "_law_machine" "_law_machine" s__law_machine f fd) (T : Txt K mg) (C_with_count : Fn P w K mg base 1 "with_count" 3 f_with_count) (C_zero_clock : Fn P w K mg base 1 "zero_clock" 1 f_zero_clock) (C_new_held : Fn P w K mg base 2 "new_held" 1 f_new_held) (C_new_page : Fn P w K mg base 1 "new_page" 0 f_new_page) : FnOk P w K mg base CX0 3 f fd ["_law_machines", "_law_machine_here"] (spM K 2 f__law_machine) :=
  xfn F sc__law_machine fun cdv A outer sh H E hr => (xs_one (xret (xalloc (xfdisp (xps_cons xstr (xv 1) (xps_cons xstr (xcl0 C_new_page hr (by decide) (by rfl)) (xps_cons xstr (xcl C_new_held hr (by decide) (by rfl) (xcons (xv 0) xnil) (len_cons len_nil)) (xps_cons xstr (xalloc xfd0) (xps_cons xstr (xcl C_with_count hr (by decide) (by rfl) (xcons (xcl C_zero_clock hr (by decide) (by rfl) (xcons (xv 0) xnil) (len_cons len_nil)) (xcons (xv 1) (xcons xint xnil))) (len_cons (len_cons (len_cons len_nil)))) (xps_cons xstr (xalloc (xflst xnil)) (xps_cons xstr (xalloc (xflst xnil)) xps_nil))))))) (by rfl) (by rfl) (fun z => by cases z) (by decide)))))
/-! _law_many -/
abbrev s__law_many : Stmt := top 22
abbrev n__law_many : List Str := ["_law_script", "_law_few", "_law_many_here"]
theorem sc__law_many : FnScope n__law_many ["_law_script", "_law_few", "_law_many_here"] (defScope s__law_many) := ⟨rfl, rfl, rfl, by decide +kernel, rfl, by decide +kernel, by decide +kernel⟩
def i__law_many_1 : MS := (mIf (mAndT (mTest (m2 (m1 (mVar 0) f1Len) (mC (.int 0)) (f2I (fun _ _ => true) fun i j => .bl (decide (j < i))))) (mTest (m2 (mMod (mFdiv (m1 (mIx (mVar 0) (mC (.int 0))) f1Int) (mC (.int 1009))) (mC (.int 5))) (mC (.int 1)) (f2Eq false))))
    (mRet (mVar 2))
    mSkip)
def b__law_many : MS := (mSq i__law_many_1
  (mRet (mVar 1)))
def f__law_many : MFn := mFn 3 b__law_many
theorem ok__law_many {P : Program} {w : World} {K : PySem.W.Frag} {mg : Str → Option Value} {base : Heap} {f : Addr} {fd : FuncData} (F : Fun K "_law_many" "_law_many" s__law_many f fd) (T : Txt K mg) : FnOk P w K mg base CX0 1 f fd ["_law_script", "_law_few", "_law_many_here"] (spM K 3 f__law_many) :=
  xfn F sc__law_many fun cdv A outer sh H E hr => (xs_cons (xif (xwt (xwa (xct kGt (xlen (by rfl) T.len_ (by decide +kernel) (xv 0)) xint) (xw1a (xct (kEq hr.units) (xmod (xfdiv (xint1 (by rfl) T.int_ (by decide +kernel) (xix (hu_of hr) (xv 0) xint)) xint) xint) xint))))
    (xs_one (xret (xv 2)))
    xs_nil)
  (xs_one (xret (xv 1))))
/-! _law_digits -/
abbrev s__law_digits : Stmt := top 21
abbrev n__law_digits : List Str := ["_law_cell_here", "_law_bases", "_law_digits_here", "_law_rest", "_law_base", "_law_mixed"]
theorem sc__law_digits : FnScope n__law_digits ["_law_cell_here", "_law_bases"] (defScope s__law_digits) := ⟨rfl, rfl, rfl, by decide +kernel, rfl, by decide +kernel, by decide +kernel⟩
def i__law_digits_1 : MS := (mIf (mTest (m2 (mVar 0) (mPow (mC (.int 10)) (mC (.int 18))) (f2I (fun _ _ => true) fun i j => .bl (decide (j ≤ i)))))
    (mSq (mApp (mVar 2) (mMod (m1 (mVar 3) f1Int) (mVar 4)))
  (mSet 3 (mFdiv (mVar 3) (mVar 4))))
    (mSq (mSet 3 (mMod (mAdd (mAdd (mMulA (m1 (mVar 3) f1Int) (mC (.int 48271))) (mMulA (mC (.int 1009)) (m1 (mVar 2) f1Len))) (mC (.int 12345))) (mC (.int 2147483647))))
  (mSq (mSet 5 (mMod (mMulA (m1 (mVar 3) f1Int) (m1 (mVar 3) f1Int)) (mC (.int 2147483629))))
  (mApp (mVar 2) (mMod (mFdiv (m1 (mVar 5) f1Int) (mC (.int 13))) (mVar 4))))))
def b__law_digits_1 : MS := i__law_digits_1
def l__law_digits_1 : MS := (mFor (mSeq (mVar 1)) (gN 4) b__law_digits_1)
def b__law_digits : MS := (mSq (mSetO 2 (mFLst mNil))
  (mSq (mSet 3 (m1 (mVar 0) f1Int))
  (mSq l__law_digits_1
  (mSq (mFz 2) (mRet (mVar 2))))))
def f__law_digits : MFn := mFn 6 b__law_digits
theorem ok__law_digits {P : Program} {w : World} {K : PySem.W.Frag} {mg : Str → Option Value} {base : Heap} {f : Addr} {fd : FuncData} (F : Fun K "_law_digits" "_law_digits" s__law_digits f fd) (T : Txt K mg) : FnOk P w K mg base CX0 1 f fd ["_law_cell_here", "_law_bases"] (spM K 2 f__law_digits) :=
  xfn F sc__law_digits fun cdv A outer sh H E hr => (xs_cons (xsetO (i := 2) sc__law_digits.nd rfl (by first | exact Or.inl rfl | exact Or.inr rfl) (xflst xnil))
  (xs_cons (xset (i := 3) sc__law_digits.nd rfl (by first | exact Or.inl rfl | exact Or.inr rfl) (xint1 (by rfl) T.int_ (by decide +kernel) (xv 0)))
  (xs_cons (xfor PassesOwn.never rfl (xseq (xv 1)) (xgn (i := 4) sc__law_digits.nd rfl (by first | exact Or.inl rfl | exact Or.inr rfl))
    (xs_one (xif (xct kGe (xv 0) (xpow xint xint))
    (xs_cons (xapp (xv 2) (xmod (xint1 (by rfl) T.int_ (by decide +kernel) (xv 3)) (xv 4)))
  (xs_one (xset (i := 3) sc__law_digits.nd rfl (by first | exact Or.inl rfl | exact Or.inr rfl) (xfdiv (xv 3) (xv 4)))))
    (xs_cons (xset (i := 3) sc__law_digits.nd rfl (by first | exact Or.inl rfl | exact Or.inr rfl) (xmod (xadd (xadd (xmulA (xint1 (by rfl) T.int_ (by decide +kernel) (xv 3)) xint) (xmulA xint (xlen (by rfl) T.len_ (by decide +kernel) (xv 2)))) xint) xint))
  (xs_cons (xset (i := 5) sc__law_digits.nd rfl (by first | exact Or.inl rfl | exact Or.inr rfl) (xmod (xmulA (xint1 (by rfl) T.int_ (by decide +kernel) (xv 3)) (xint1 (by rfl) T.int_ (by decide +kernel) (xv 3))) xint))
  (xs_one (xapp (xv 2) (xmod (xfdiv (xint1 (by rfl) T.int_ (by decide +kernel) (xv 5)) xint) (xv 4)))))))))
  (xs_fz 2 (xs_one (xret (xv 2)))))))
/-! is_fresh -/
abbrev s_is_fresh : Stmt := top 18
abbrev n_is_fresh : List Str := ["held", "needed", "owner", "has", "index"]
theorem sc_is_fresh : FnScope n_is_fresh ["held", "needed", "owner"] (defScope s_is_fresh) := ⟨rfl, rfl, rfl, by decide +kernel, rfl, by decide +kernel, by decide +kernel⟩
def c_is_fresh_1 : MF := (mLc (mRng1 (m1 (mVar 1) f1Len)) 4 mYes (mOrV (m2 (mIx (mVar 1) (mVar 4)) (mIx (mVar 3) (mVar 4)) (f2I (fun _ _ => true) fun i j => .bl (decide (i ≤ j)))) (m2 (mVar 4) (mVar 2) (f2Eq false))) ([4] : List Nat))
def b_is_fresh : MS := (mSq (mSet 3 (mIx (mVar 0) (mC (.str "has"))))
  (mRet (m1 (mFrz c_is_fresh_1) f1All)))
def f_is_fresh : MFn := mFn 5 b_is_fresh
theorem ok_is_fresh {P : Program} {w : World} {K : PySem.W.Frag} {mg : Str → Option Value} {base : Heap} {f : Addr} {fd : FuncData} (F : Fun K "is_fresh" "is_fresh" s_is_fresh f fd) (T : Txt K mg) : FnOk P w K mg base CX0 1 f fd ["held", "needed", "owner"] (spM K 3 f_is_fresh) :=
  xfn F sc_is_fresh fun cdv A outer sh H E hr => (xs_cons (xset (i := 3) sc_is_fresh.nd rfl (by first | exact Or.inl rfl | exact Or.inr rfl) (xix (hu_of hr) (xv 0) xstr))
  (xs_one (xret (xall rfl (by rfl) T.all_ (by decide +kernel) (xfrz (xlc (own := [("index", 4)]) (j := 4) rfl sc_is_fresh.nd (xrange1 (by rfl) T.range_ (xlen (by rfl) T.len_ (by decide +kernel) (xv 1))) (blkOk_by (N := n_is_fresh) (sc := defScope s_is_fresh) (own := [("index", 4)]) (by decide +kernel)) (fun _ _ _ _ _ => pg_name (i := 4) sc_is_fresh.nd rfl (by first | exact Or.inl rfl | exact Or.inr rfl)) (fun _ _ _ _ _ => (xor (xc kLe (xix (hu_of hr) (xv 1) (xv 4)) (xix (hu_of hr) (xv 3) (xv 4))) (xone (xc (kEq hr.units) (xv 4) (xv 2)))))))))))
/-! _law_right -/
abbrev s__law_right : Stmt := top 24
abbrev n__law_right : List Str := ["_law_team", "_law_one", "_law_other", "_law_number", "_law_place", "_law_key"]
theorem sc__law_right : FnScope n__law_right ["_law_team", "_law_one"] (defScope s__law_right) := ⟨rfl, rfl, rfl, by decide +kernel, rfl, by decide +kernel, by decide +kernel⟩
def i__law_right_1 : MS := (mIf (mAndT (mTest (m2 (mIx (mIx (mVar 1) (mC (.str "clock"))) (mIx (mVar 2) (mC (.str "machine")))) (mVar 3) (fOr (f2I (fun _ _ => true) fun i j => .bl (decide (j ≤ i))) f2GeD))) (mTest (m2 (mVar 5) (mIx (mIx (mIx (mVar 1) (mC (.str "page"))) (mVar 4)) (mC (.int 1))) fGtU)))
    (mRet (mC (.bl false)))
    mSkip)
def b__law_right_1 : MS := i__law_right_1
def l__law_right_1 : MS := (mFor (mSeq (mIx (mVar 2) (mC (.str "done")))) (gT 3 (gsC (gN 3) (gsC (gN 4) (gsC (gN 5) gsN)))) b__law_right_1)
def b__law_right_2 : MS := l__law_right_1
def l__law_right_2 : MS := (mFor (mSeq (mVar 0)) (gN 2) b__law_right_2)
def b__law_right : MS := (mSq l__law_right_2
  (mRet (mC (.bl true))))
def f__law_right : MFn := mFn 6 b__law_right
theorem ok__law_right {P : Program} {w : World} {K : PySem.W.Frag} {mg : Str → Option Value} {base : Heap} {f : Addr} {fd : FuncData} (F : Fun K "_law_right" "_law_right" s__law_right f fd) (T : Txt K mg) : FnOk P w K mg base CX0 1 f fd ["_law_team", "_law_one"] (spM K 2 f__law_right) :=
  xfn F sc__law_right fun cdv A outer sh H E hr => (xs_cons (xfor PassesOwn.never rfl (xseq (xv 0)) (xgn (i := 2) sc__law_right.nd rfl (by first | exact Or.inl rfl | exact Or.inr rfl))
    (xs_one (xfor PassesOwn.never rfl (xseq (xix (hu_of hr) (xv 2) xstr)) (xgtup (n := 3) rfl (xgs_cons (xgn (i := 3) sc__law_right.nd rfl (by first | exact Or.inl rfl | exact Or.inr rfl)) (xgs_cons (xgn (i := 4) sc__law_right.nd rfl (by first | exact Or.inl rfl | exact Or.inr rfl)) (xgs_cons (xgn (i := 5) sc__law_right.nd rfl (by first | exact Or.inl rfl | exact Or.inr rfl)) xgs_nil))))
    (xs_one (xif (xwt (xwa (xct (kGeD (hu65 hr)) (xix (hu_of hr) (xix (hu_of hr) (xv 1) xstr) (xix (hu_of hr) (xv 2) xstr)) (xv 3)) (xw1a (xct (kGtU hr.units0) (xv 5) (xix (hu_of hr) (xix (hu_of hr) (xix (hu_of hr) (xv 1) xstr) (xv 4)) xint)))))
    (xs_one (xret xbl))
    xs_nil)))))
  (xs_one (xret xbl)))
/-! store -/
abbrev s_store : Stmt := top 8
abbrev n_store : List Str := ["page", "place", "value", "machine", "key"]
theorem sc_store : FnScope n_store ["page", "place", "value", "machine"] (defScope s_store) := ⟨rfl, rfl, rfl, by decide +kernel, rfl, by decide +kernel, by decide +kernel⟩
def b_store : MS := (mSq (mSet 4 (mTup (mCons (mAdd (mIx (mIx (mIx (mVar 0) (mVar 1)) (mC (.int 1))) (mC (.int 0))) (mC (.int 1))) (mCons (mVar 3) mNil))))
  (mSq (mStIx (mVar 0) (mVar 1) (mTup (mCons (mVar 2) (mCons (mVar 4) mNil))))
  (mRet (mVar 4))))
def f_store : MFn := mFn 5 b_store
theorem ok_store {P : Program} {w : World} {K : PySem.W.Frag} {mg : Str → Option Value} {base : Heap} {f : Addr} {fd : FuncData} (F : Fun K "store" "store" s_store f fd) (T : Txt K mg) : FnOk P w K mg base CX0 1 f fd ["page", "place", "value", "machine"] (spM K 4 f_store) :=
  xfn F sc_store fun cdv A outer sh H E hr => (xs_cons (xset (i := 4) sc_store.nd rfl (by first | exact Or.inl rfl | exact Or.inr rfl) (xtup (xcons (xadd (xix (hu_of hr) (xix (hu_of hr) (xix (hu_of hr) (xv 0) (xv 1)) xint) xint) xint) (xcons (xv 3) xnil))))
  (xs_cons (xstix (hu_of hr) (xv 0) (xv 1) (xtup (xcons (xv 2) (xcons (xv 4) xnil))))
  (xs_one (xret (xv 4)))))
/-! _law_store -/
abbrev s__law_store : Stmt := top 25
abbrev n__law_store : List Str := ["_law_team", "_law_one", "_law_place", "_law_value", "_law_key", "_law_cells", "_law_other", "_law_number", "_law_there", "_law_elder"]
theorem sc__law_store : FnScope n__law_store ["_law_team", "_law_one", "_law_place", "_law_value"] (defScope s__law_store) := ⟨rfl, rfl, rfl, by decide +kernel, rfl, by decide +kernel, by decide +kernel⟩
def i__law_store_1 : MS := (mIf (mNotT (mTest (mCall f__law_right (mCons (mVar 0) (mCons (mVar 1) mNil)))))
    (mRet (mC (.bl false)))
    mSkip)
def i__law_store_2 : MS := (mIf (mAndT (mTest (m2 (mVar 8) (mVar 2) (f2Eq false))) (mAndT (mTest (m2 (mIx (mIx (mVar 1) (mC (.str "clock"))) (mIx (mVar 6) (mC (.str "machine")))) (mVar 7) (fOr (f2I (fun _ _ => true) fun i j => .bl (decide (j ≤ i))) f2GeD))) (mTest (m2 (mVar 9) (mVar 4) (fOr (f2I (fun _ _ => true) fun i j => .bl (decide (j ≤ i))) f2GeD)))))
    (mRet (mC (.bl false)))
    mSkip)
def b__law_store_1 : MS := i__law_store_2
def l__law_store_1 : MS := (mFor (mSeq (mIx (mVar 6) (mC (.str "done")))) (gT 3 (gsC (gN 7) (gsC (gN 8) (gsC (gN 9) gsN)))) b__law_store_1)
def b__law_store_2 : MS := l__law_store_1
def l__law_store_2 : MS := (mFor (mSeq (mVar 0)) (gN 6) b__law_store_2)
def i__law_store_3 : MS := (mIf (mTest (mCall f_is_fresh (mCons (mIx (mVar 1) (mC (.str "held"))) (mCons (mIx (mIx (mVar 1) (mC (.str "held"))) (mC (.str "need"))) (mCons (mIx (mVar 1) (mC (.str "machine"))) mNil)))))
    (mSq i__law_store_1
  (mSq (mSet 4 (mCall f_store (mCons (mIx (mVar 1) (mC (.str "page"))) (mCons (mVar 2) (mCons (mVar 3) (mCons (mIx (mVar 1) (mC (.str "machine"))) mNil))))))
  (mSq (mSet 5 (mIx (mVar 1) (mC (.str "stored"))))
  (mSq (mStIx (mVar 5) (mVar 2) (mTup (mCons (mVar 3) (mCons (mVar 4) mNil))))
  l__law_store_2))))
    mSkip)
def b__law_store : MS := (mSq i__law_store_3
  (mSq (mFz 5) (mRet (mC (.bl true)))))
def f__law_store : MFn := mFn 10 b__law_store
theorem ok__law_store {P : Program} {w : World} {K : PySem.W.Frag} {mg : Str → Option Value} {base : Heap} {f : Addr} {fd : FuncData} (F : Fun K "_law_store" "_law_store" s__law_store f fd) (T : Txt K mg) (C_is_fresh : Fn P w K mg base 1 "is_fresh" 3 f_is_fresh) (C__law_right : Fn P w K mg base 1 "_law_right" 2 f__law_right) (C_store : Fn P w K mg base 1 "store" 4 f_store) : FnOk P w K mg base CX0 2 f fd ["_law_team", "_law_one", "_law_place", "_law_value"] (spM K 4 f__law_store) :=
  xfn F sc__law_store fun cdv A outer sh H E hr => (xs_cons (xif (xtv (xcl C_is_fresh hr (by decide) (by rfl) (xcons (xix (hu_of hr) (xv 1) xstr) (xcons (xix (hu_of hr) (xix (hu_of hr) (xv 1) xstr) xstr) (xcons (xix (hu_of hr) (xv 1) xstr) xnil))) (len_cons (len_cons (len_cons len_nil)))))
    (xs_cons (xif (xnott (xtv (xcl C__law_right hr (by decide) (by rfl) (xcons (xv 0) (xcons (xv 1) xnil)) (len_cons (len_cons len_nil)))))
    (xs_one (xret xbl))
    xs_nil)
  (xs_cons (xset (i := 4) sc__law_store.nd rfl (by first | exact Or.inl rfl | exact Or.inr rfl) (xcl C_store hr (by decide) (by rfl) (xcons (xix (hu_of hr) (xv 1) xstr) (xcons (xv 2) (xcons (xv 3) (xcons (xix (hu_of hr) (xv 1) xstr) xnil)))) (len_cons (len_cons (len_cons (len_cons len_nil))))))
  (xs_cons (xset (i := 5) sc__law_store.nd rfl (by first | exact Or.inl rfl | exact Or.inr rfl) (xix (hu_of hr) (xv 1) xstr))
  (xs_cons (xstix (hu_of hr) (xv 5) (xv 2) (xtup (xcons (xv 3) (xcons (xv 4) xnil))))
  (xs_one (xfor PassesOwn.never rfl (xseq (xv 0)) (xgn (i := 6) sc__law_store.nd rfl (by first | exact Or.inl rfl | exact Or.inr rfl))
    (xs_one (xfor PassesOwn.never rfl (xseq (xix (hu_of hr) (xv 6) xstr)) (xgtup (n := 3) rfl (xgs_cons (xgn (i := 7) sc__law_store.nd rfl (by first | exact Or.inl rfl | exact Or.inr rfl)) (xgs_cons (xgn (i := 8) sc__law_store.nd rfl (by first | exact Or.inl rfl | exact Or.inr rfl)) (xgs_cons (xgn (i := 9) sc__law_store.nd rfl (by first | exact Or.inl rfl | exact Or.inr rfl)) xgs_nil))))
    (xs_one (xif (xwt (xwa (xct (kEq hr.units) (xv 8) (xv 2)) (xwa (xct (kGeD (hu65 hr)) (xix (hu_of hr) (xix (hu_of hr) (xv 1) xstr) (xix (hu_of hr) (xv 6) xstr)) (xv 7)) (xw1a (xct (kGeD (hu65 hr)) (xv 9) (xv 4))))))
    (xs_one (xret xbl))
    xs_nil))))))))))
    xs_nil)
  (xs_fz 5 (xs_one (xret xbl))))
/-! raised -/
abbrev s_raised : Stmt := top 14
abbrev n_raised : List Str := ["clock", "machine", "number"]
theorem sc_raised : FnScope n_raised ["clock", "machine", "number"] (defScope s_raised) := ⟨rfl, rfl, rfl, by decide +kernel, rfl, by decide +kernel, by decide +kernel⟩
def b_raised : MS := (mRet (mCall f_with_count (mCons (mVar 0) (mCons (mVar 1) (mCons (m2 (mIx (mVar 0) (mVar 1)) (mVar 2) fMax) mNil)))))
def f_raised : MFn := mFn 3 b_raised
theorem ok_raised {P : Program} {w : World} {K : PySem.W.Frag} {mg : Str → Option Value} {base : Heap} {f : Addr} {fd : FuncData} (F : Fun K "raised" "raised" s_raised f fd) (T : Txt K mg) (C_with_count : Fn P w K mg base 1 "with_count" 3 f_with_count) : FnOk P w K mg base CX0 2 f fd ["clock", "machine", "number"] (spM K 3 f_raised) :=
  xfn F sc_raised fun cdv A outer sh H E hr => (xs_one (xret (xcl C_with_count hr (by decide) (by rfl) (xcons (xv 0) (xcons (xv 1) (xcons (xmax rfl (by rfl) T.max_ (by decide +kernel) (xix (hu_of hr) (xv 0) (xv 1)) (xv 2)) xnil))) (len_cons (len_cons (len_cons len_nil))))))
/-! arrived -/
abbrev s_arrived : Stmt := top 16
abbrev n_arrived : List Str := ["held", "machine", "number"]
theorem sc_arrived : FnScope n_arrived ["held", "machine", "number"] (defScope s_arrived) := ⟨rfl, rfl, rfl, by decide +kernel, rfl, by decide +kernel, by decide +kernel⟩
def b_arrived : MS := (mStIx (mVar 0) (mC (.str "has")) (mCall f_raised (mCons (mIx (mVar 0) (mC (.str "has"))) (mCons (mVar 1) (mCons (mVar 2) mNil)))))
def f_arrived : MFn := mFn 3 b_arrived
theorem ok_arrived {P : Program} {w : World} {K : PySem.W.Frag} {mg : Str → Option Value} {base : Heap} {f : Addr} {fd : FuncData} (F : Fun K "arrived" "arrived" s_arrived f fd) (T : Txt K mg) (C_raised : Fn P w K mg base 2 "raised" 3 f_raised) : FnOk P w K mg base CX0 3 f fd ["held", "machine", "number"] (spM K 3 f_arrived) :=
  xfn F sc_arrived fun cdv A outer sh H E hr => (xs_one (xstix (hu_of hr) (xv 0) xstr (xcl C_raised hr (by decide) (by rfl) (xcons (xix (hu_of hr) (xv 0) xstr) (xcons (xv 1) (xcons (xv 2) xnil))) (len_cons (len_cons (len_cons len_nil))))))
/-! difference -/
abbrev s_difference : Stmt := top 11
abbrev n_difference : List Str := ["stored", "place"]
theorem sc_difference : FnScope n_difference ["stored"] (defScope s_difference) := ⟨rfl, rfl, rfl, by decide +kernel, rfl, by decide +kernel, by decide +kernel⟩
def c_difference_1 : MF := (mLc (mSeq (mFrz (m1F (mVar 0) f1Sort))) 1 mYes (mTup (mCons (mVar 1) (mCons (mIx (mIx (mVar 0) (mVar 1)) (mC (.int 0))) (mCons (mIx (mIx (mVar 0) (mVar 1)) (mC (.int 1))) mNil)))) ([1] : List Nat))
def b_difference : MS := (mRet (m1 (mFrz c_difference_1) f1Tup))
def f_difference : MFn := mFn 2 b_difference
theorem ok_difference {P : Program} {w : World} {K : PySem.W.Frag} {mg : Str → Option Value} {base : Heap} {f : Addr} {fd : FuncData} (F : Fun K "difference" "difference" s_difference f fd) (T : Txt K mg) : FnOk P w K mg base CX0 1 f fd ["stored"] (spM K 1 f_difference) :=
  xfn F sc_difference fun cdv A outer sh H E hr => (xs_one (xret (xtuple (by rfl) T.tuple_ (by decide +kernel) (xfrz (xlc (own := [("place", 1)]) (j := 1) rfl sc_difference.nd (xseq (xfrz (xsorted rfl (hu65 hr) (by rfl) T.sorted_ (by decide +kernel) (xv 0)))) (blkOk_by (N := n_difference) (sc := defScope s_difference) (own := [("place", 1)]) (by decide +kernel)) (fun _ _ _ _ _ => pg_name (i := 1) sc_difference.nd rfl (by first | exact Or.inl rfl | exact Or.inr rfl)) (fun _ _ _ _ _ => (xtup (xcons (xv 1) (xcons (xix (hu_of hr) (xix (hu_of hr) (xv 0) (xv 1)) xint) (xcons (xix (hu_of hr) (xix (hu_of hr) (xv 0) (xv 1)) xint) xnil))))))))))
/-! _law_end -/
abbrev s__law_end : Stmt := top 26
abbrev n__law_end : List Str := ["_law_team", "_law_one", "_law_home", "_law_machine_here", "_law_number", "_law_place", "_law_done", "_law_letters"]
theorem sc__law_end : FnScope n__law_end ["_law_team", "_law_one", "_law_home"] (defScope s__law_end) := ⟨rfl, rfl, rfl, by decide +kernel, rfl, by decide +kernel, by decide +kernel⟩
def b__law_end_1 : MS := (mSq (mSet 6 (mIx (mVar 1) (mC (.str "done"))))
  (mApp (mVar 6) (mTup (mCons (mVar 4) (mCons (mVar 5) (mCons (mIx (mIx (mIx (mVar 1) (mC (.str "stored"))) (mVar 5)) (mC (.int 1))) mNil))))))
def l__law_end_1 : MS := (mForK (mIx (mVar 1) (mC (.str "stored"))) (gN 5) b__law_end_1)
def i__law_end_1 : MS := (mIf (mTest (m2 (mVar 3) (mVar 2) (fOr (fOr (f2Eq true) (f2EqK true)) (f2Dq true))))
    (mSq (mSet 7 (mIx (mVar 1) (mC (.str "letters"))))
  (mApp (mVar 7) (mTup (mCons (mVar 4) (mCons (mCall f_difference (mCons (mIx (mVar 1) (mC (.str "stored"))) mNil)) mNil)))))
    mSkip)
def i__law_end_2 : MS := (mIf (mTest (m2 (mIx (mVar 1) (mC (.str "stored"))) (mFrz mFD0) (fOr (fOr (f2Eq true) (f2EqK true)) (f2Dq true))))
    (mSq l__law_end_1
  (mSq (mExpr (mCall f_arrived (mCons (mIx (mVar 1) (mC (.str "held"))) (mCons (mVar 3) (mCons (mVar 4) mNil)))))
  i__law_end_1))
    mSkip)
def b__law_end : MS := (mSq (mSet 3 (mIx (mVar 1) (mC (.str "machine"))))
  (mSq (mSet 4 (mIx (mIx (mVar 1) (mC (.str "clock"))) (mVar 3)))
  (mSq i__law_end_2
  (mSq (mFz 6) (mSq (mFz 7) (mSq (mStIx (mVar 1) (mC (.str "stored")) (mAlloc mFD0))
  (mSq (mStIx (mVar 1) (mC (.str "ended")) (mIx (mVar 1) (mC (.str "clock"))))
  (mStIx (mVar 1) (mC (.str "clock")) (mCall f_with_count (mCons (mIx (mVar 1) (mC (.str "clock"))) (mCons (mVar 3) (mCons (mAdd (mVar 4) (mC (.int 1))) mNil))))))))))))
def f__law_end : MFn := mFn 8 b__law_end
theorem ok__law_end {P : Program} {w : World} {K : PySem.W.Frag} {mg : Str → Option Value} {base : Heap} {f : Addr} {fd : FuncData} (F : Fun K "_law_end" "_law_end" s__law_end f fd) (T : Txt K mg) (C_arrived : Fn P w K mg base 3 "arrived" 3 f_arrived) (C_difference : Fn P w K mg base 1 "difference" 1 f_difference) (C_with_count : Fn P w K mg base 1 "with_count" 3 f_with_count) : FnOk P w K mg base CX0 4 f fd ["_law_team", "_law_one", "_law_home"] (spM K 3 f__law_end) :=
  xfn F sc__law_end fun cdv A outer sh H E hr => (xs_cons (xset (i := 3) sc__law_end.nd rfl (by first | exact Or.inl rfl | exact Or.inr rfl) (xix (hu_of hr) (xv 1) xstr))
  (xs_cons (xset (i := 4) sc__law_end.nd rfl (by first | exact Or.inl rfl | exact Or.inr rfl) (xix (hu_of hr) (xix (hu_of hr) (xv 1) xstr) (xv 3)))
  (xs_cons (xif (xct (kNeM (hu66 hr)) (xix (hu_of hr) (xv 1) xstr) (xfrz xfd0))
    (xs_cons (xforK PassesOwn.never rfl (xix (hu_of hr) (xv 1) xstr) (xgn (i := 5) sc__law_end.nd rfl (by first | exact Or.inl rfl | exact Or.inr rfl))
    (xs_cons (xset (i := 6) sc__law_end.nd rfl (by first | exact Or.inl rfl | exact Or.inr rfl) (xix (hu_of hr) (xv 1) xstr))
  (xs_one (xapp (xv 6) (xtup (xcons (xv 4) (xcons (xv 5) (xcons (xix (hu_of hr) (xix (hu_of hr) (xix (hu_of hr) (xv 1) xstr) (xv 5)) xint) xnil))))))))
  (xs_cons (xexpr (xcl C_arrived hr (by decide) (by rfl) (xcons (xix (hu_of hr) (xv 1) xstr) (xcons (xv 3) (xcons (xv 4) xnil))) (len_cons (len_cons (len_cons len_nil)))))
  (xs_one (xif (xct (kNeM (hu66 hr)) (xv 3) (xv 2))
    (xs_cons (xset (i := 7) sc__law_end.nd rfl (by first | exact Or.inl rfl | exact Or.inr rfl) (xix (hu_of hr) (xv 1) xstr))
  (xs_one (xapp (xv 7) (xtup (xcons (xv 4) (xcons (xcl C_difference hr (by decide) (by rfl) (xcons (xix (hu_of hr) (xv 1) xstr) xnil) (len_cons len_nil)) xnil))))))
    xs_nil))))
    xs_nil)
  (xs_fz 6 (xs_fz 7 (xs_cons (xstix (hu_of hr) (xv 1) xstr (xalloc xfd0))
  (xs_cons (xstix (hu_of hr) (xv 1) xstr (xix (hu_of hr) (xv 1) xstr))
  (xs_one (xstix (hu_of hr) (xv 1) xstr (xcl C_with_count hr (by decide) (by rfl) (xcons (xix (hu_of hr) (xv 1) xstr) (xcons (xv 3) (xcons (xadd (xv 4) xint) xnil))) (len_cons (len_cons (len_cons len_nil)))))))))))))
/-! merged -/
abbrev s_merged : Stmt := top 2
abbrev n_merged : List Str := ["one", "other", "index"]
theorem sc_merged : FnScope n_merged ["one", "other"] (defScope s_merged) := ⟨rfl, rfl, rfl, by decide +kernel, rfl, by decide +kernel, by decide +kernel⟩
def c_merged_1 : MF := (mLc (mRng1 (m1 (mVar 0) f1Len)) 2 mYes (m2 (mIx (mVar 0) (mVar 2)) (mIx (mVar 1) (mVar 2)) fMax) ([2] : List Nat))
def b_merged : MS := (mRet (m1 (mFrz c_merged_1) f1Tup))
def f_merged : MFn := mFn 3 b_merged
theorem ok_merged {P : Program} {w : World} {K : PySem.W.Frag} {mg : Str → Option Value} {base : Heap} {f : Addr} {fd : FuncData} (F : Fun K "merged" "merged" s_merged f fd) (T : Txt K mg) : FnOk P w K mg base CX0 1 f fd ["one", "other"] (spM K 2 f_merged) :=
  xfn F sc_merged fun cdv A outer sh H E hr => (xs_one (xret (xtuple (by rfl) T.tuple_ (by decide +kernel) (xfrz (xlc (own := [("index", 2)]) (j := 2) rfl sc_merged.nd (xrange1 (by rfl) T.range_ (xlen (by rfl) T.len_ (by decide +kernel) (xv 0))) (blkOk_by (N := n_merged) (sc := defScope s_merged) (own := [("index", 2)]) (by decide +kernel)) (fun _ _ _ _ _ => pg_name (i := 2) sc_merged.nd rfl (by first | exact Or.inl rfl | exact Or.inr rfl)) (fun _ _ _ _ _ => (xmax rfl (by rfl) T.max_ (by decide +kernel) (xix (hu_of hr) (xv 0) (xv 2)) (xix (hu_of hr) (xv 1) (xv 2)))))))))
/-! needs -/
abbrev s_needs : Stmt := top 15
abbrev n_needs : List Str := ["held", "machine", "number"]
theorem sc_needs : FnScope n_needs ["held", "machine", "number"] (defScope s_needs) := ⟨rfl, rfl, rfl, by decide +kernel, rfl, by decide +kernel, by decide +kernel⟩
def b_needs : MS := (mStIx (mVar 0) (mC (.str "need")) (mCall f_raised (mCons (mIx (mVar 0) (mC (.str "need"))) (mCons (mVar 1) (mCons (mVar 2) mNil)))))
def f_needs : MFn := mFn 3 b_needs
theorem ok_needs {P : Program} {w : World} {K : PySem.W.Frag} {mg : Str → Option Value} {base : Heap} {f : Addr} {fd : FuncData} (F : Fun K "needs" "needs" s_needs f fd) (T : Txt K mg) (C_raised : Fn P w K mg base 2 "raised" 3 f_raised) : FnOk P w K mg base CX0 3 f fd ["held", "machine", "number"] (spM K 3 f_needs) :=
  xfn F sc_needs fun cdv A outer sh H E hr => (xs_one (xstix (hu_of hr) (xv 0) xstr (xcl C_raised hr (by decide) (by rfl) (xcons (xix (hu_of hr) (xv 0) xstr) (xcons (xv 1) (xcons (xv 2) xnil))) (len_cons (len_cons (len_cons len_nil))))))
/-! _law_take_over -/
abbrev s__law_take_over : Stmt := top 27
abbrev n__law_take_over : List Str := ["_law_team", "_law_one", "_law_other", "_law_own", "_law_third", "_law_numbers", "_law_row"]
theorem sc__law_take_over : FnScope n__law_take_over ["_law_team", "_law_one", "_law_other"] (defScope s__law_take_over) := ⟨rfl, rfl, rfl, by decide +kernel, rfl, by decide +kernel, by decide +kernel⟩
def c__law_take_over_1 : MF := (mLc (mSeq (mIx (mVar 4) (mC (.str "done")))) 6 (mTest (m2 (mIx (mVar 6) (mC (.int 0))) (mIx (mIx (mVar 1) (mC (.str "clock"))) (mIx (mVar 4) (mC (.str "machine")))) (f2I (fun _ _ => true) fun i j => .bl (decide (i ≤ j))))) (mIx (mVar 6) (mC (.int 0))) ([6] : List Nat))
def i__law_take_over_1 : MS := (mIf (mTest (m2 (mIx (mVar 4) (mC (.str "machine"))) (mIx (mVar 1) (mC (.str "machine"))) (fOr (fOr (f2Eq true) (f2EqK true)) (f2Dq true))))
    (mSq (mSet 5 (mFrz c__law_take_over_1))
  (mExpr (mCall f_needs (mCons (mIx (mVar 1) (mC (.str "held"))) (mCons (mIx (mVar 4) (mC (.str "machine"))) (mCons (m1 (mFrz (mFCatE (mFrz (mFLst (mCons (mC (.int 0)) mNil))) (mVar 5))) f1Max) mNil))))))
    mSkip)
def b__law_take_over_1 : MS := i__law_take_over_1
def l__law_take_over_1 : MS := (mFor (mSeq (mVar 0)) (gN 4) b__law_take_over_1)
def i__law_take_over_2 : MS := (mIf (mAndT (mTest (m2 (mC (.str "ended")) (mVar 2) (fIn false))) (mTest (m2 (mVar 1) (mVar 2) (fOr (fOr (f2Eq true) (f2EqK true)) (f2Dq true)))))
    (mSq (mSet 3 (mIx (mIx (mVar 1) (mC (.str "clock"))) (mIx (mVar 1) (mC (.str "machine")))))
  (mSq (mStIx (mVar 1) (mC (.str "clock")) (mCall f_with_count (mCons (mCall f_merged (mCons (mIx (mVar 1) (mC (.str "clock"))) (mCons (mIx (mVar 2) (mC (.str "ended"))) mNil))) (mCons (mIx (mVar 1) (mC (.str "machine"))) (mCons (mVar 3) mNil)))))
  l__law_take_over_1))
    mSkip)
def b__law_take_over : MS := i__law_take_over_2
def f__law_take_over : MFn := mFn 7 b__law_take_over
theorem ok__law_take_over {P : Program} {w : World} {K : PySem.W.Frag} {mg : Str → Option Value} {base : Heap} {f : Addr} {fd : FuncData} (F : Fun K "_law_take_over" "_law_take_over" s__law_take_over f fd) (T : Txt K mg) (C_with_count : Fn P w K mg base 1 "with_count" 3 f_with_count) (C_merged : Fn P w K mg base 1 "merged" 2 f_merged) (C_needs : Fn P w K mg base 3 "needs" 3 f_needs) : FnOk P w K mg base CX0 4 f fd ["_law_team", "_law_one", "_law_other"] (spM K 3 f__law_take_over) :=
  xfn F sc__law_take_over fun cdv A outer sh H E hr => (xs_one (xif (xwt (xwa (xinUt (hu65 hr) xstr (xv 2)) (xw1a (xct (kNeM (hu66 hr)) (xv 1) (xv 2)))))
    (xs_cons (xset (i := 3) sc__law_take_over.nd rfl (by first | exact Or.inl rfl | exact Or.inr rfl) (xix (hu_of hr) (xix (hu_of hr) (xv 1) xstr) (xix (hu_of hr) (xv 1) xstr)))
  (xs_cons (xstix (hu_of hr) (xv 1) xstr (xcl C_with_count hr (by decide) (by rfl) (xcons (xcl C_merged hr (by decide) (by rfl) (xcons (xix (hu_of hr) (xv 1) xstr) (xcons (xix (hu_of hr) (xv 2) xstr) xnil)) (len_cons (len_cons len_nil))) (xcons (xix (hu_of hr) (xv 1) xstr) (xcons (xv 3) xnil))) (len_cons (len_cons (len_cons len_nil)))))
  (xs_one (xfor PassesOwn.never rfl (xseq (xv 0)) (xgn (i := 4) sc__law_take_over.nd rfl (by first | exact Or.inl rfl | exact Or.inr rfl))
    (xs_one (xif (xct (kNeM (hu66 hr)) (xix (hu_of hr) (xv 4) xstr) (xix (hu_of hr) (xv 1) xstr))
    (xs_cons (xla_d (xlaIf (own := [("_law_row", 6)]) (i := 5) (j := 6) rfl sc__law_take_over.nd rfl rfl (sw_true rfl rfl rfl (by decide +kernel)) (xseq (xix (hu_of hr) (xv 4) xstr)) (blkOk_by (N := n__law_take_over) (sc := defScope s__law_take_over) (own := [("_law_row", 6)]) (by decide +kernel)) (fun _ _ _ _ _ => pg_name (i := 6) sc__law_take_over.nd rfl (by first | exact Or.inl rfl | exact Or.inr rfl)) (fun _ _ _ _ _ => (xct kLe (xix (hu_of hr) (xv 6) xint) (xix (hu_of hr) (xix (hu_of hr) (xv 1) xstr) (xix (hu_of hr) (xv 4) xstr)))) (fun _ _ _ _ _ => (xix (hu_of hr) (xv 6) xint))))
  (xs_one (xexpr (xcl C_needs hr (by decide) (by rfl) (xcons (xix (hu_of hr) (xv 1) xstr) (xcons (xix (hu_of hr) (xv 4) xstr) (xcons (xmax1 rfl (by rfl) T.max_ (by decide +kernel) (xfrz (xfcatE (xfrz (xflst (xcons xint xnil))) (xv 5)))) xnil))) (len_cons (len_cons (len_cons len_nil)))))))
    xs_nil))))))
    xs_nil))
/-! merge -/
abbrev s_merge : Stmt := top 9
abbrev n_merge : List Str := ["page", "rows", "place", "value", "key"]
theorem sc_merge : FnScope n_merge ["page", "rows"] (defScope s_merge) := ⟨rfl, rfl, rfl, by decide +kernel, rfl, by decide +kernel, by decide +kernel⟩
def i_merge_1 : MS := (mIf (mTest (m2 (mVar 4) (mIx (mIx (mVar 0) (mVar 2)) (mC (.int 1))) fGtU))
    (mStIx (mVar 0) (mVar 2) (mTup (mCons (mVar 3) (mCons (mVar 4) mNil))))
    mSkip)
def b_merge_1 : MS := i_merge_1
def l_merge_1 : MS := (mFor (mSeq (mVar 1)) (gT 3 (gsC (gN 2) (gsC (gN 3) (gsC (gN 4) gsN)))) b_merge_1)
def b_merge : MS := l_merge_1
def f_merge : MFn := mFn 5 b_merge
theorem ok_merge {P : Program} {w : World} {K : PySem.W.Frag} {mg : Str → Option Value} {base : Heap} {f : Addr} {fd : FuncData} (F : Fun K "merge" "merge" s_merge f fd) (T : Txt K mg) : FnOk P w K mg base CX0 1 f fd ["page", "rows"] (spM K 2 f_merge) :=
  xfn F sc_merge fun cdv A outer sh H E hr => (xs_one (xfor PassesOwn.never rfl (xseq (xv 1)) (xgtup (n := 3) rfl (xgs_cons (xgn (i := 2) sc_merge.nd rfl (by first | exact Or.inl rfl | exact Or.inr rfl)) (xgs_cons (xgn (i := 3) sc_merge.nd rfl (by first | exact Or.inl rfl | exact Or.inr rfl)) (xgs_cons (xgn (i := 4) sc_merge.nd rfl (by first | exact Or.inl rfl | exact Or.inr rfl)) xgs_nil))))
    (xs_one (xif (xct (kGtU hr.units0) (xv 4) (xix (hu_of hr) (xix (hu_of hr) (xv 0) (xv 2)) xint))
    (xs_one (xstix (hu_of hr) (xv 0) (xv 2) (xtup (xcons (xv 3) (xcons (xv 4) xnil)))))
    xs_nil))))
/-! _law_arrive -/
abbrev s__law_arrive : Stmt := top 28
abbrev n__law_arrive : List Str := ["_law_team", "_law_one", "_law_home", "_law_letters", "_law_number", "_law_rows"]
theorem sc__law_arrive : FnScope n__law_arrive ["_law_team", "_law_one", "_law_home"] (defScope s__law_arrive) := ⟨rfl, rfl, rfl, by decide +kernel, rfl, by decide +kernel, by decide +kernel⟩
def i__law_arrive_1 : MS := (mIf (mTest (m2 (mIx (mVar 1) (mC (.str "letters"))) (mFrz (mFLst mNil)) (f2Eq true)))
    (mSq (mSet 3 (mIx (mVar 1) (mC (.str "letters"))))
  (mSq (mAsg (gT 2 (gsC (gN 4) (gsC (gN 5) gsN))) (mIx (mVar 3) (mC (.int 0))))
  (mSq (mExpr (mPopAt (mVar 3) (mC (.int 0))))
  (mSq (mExpr (mCall f_merge (mCons (mIx (mIx (mVar 0) (mVar 2)) (mC (.str "page"))) (mCons (mVar 5) mNil))))
  (mExpr (mCall f_arrived (mCons (mIx (mIx (mVar 0) (mVar 2)) (mC (.str "held"))) (mCons (mIx (mVar 1) (mC (.str "machine"))) (mCons (mVar 4) mNil)))))))))
    mSkip)
def b__law_arrive : MS := (mSq i__law_arrive_1
  (mSq (mFz 3) mSkip))
def f__law_arrive : MFn := mFn 6 b__law_arrive
theorem ok__law_arrive {P : Program} {w : World} {K : PySem.W.Frag} {mg : Str → Option Value} {base : Heap} {f : Addr} {fd : FuncData} (F : Fun K "_law_arrive" "_law_arrive" s__law_arrive f fd) (T : Txt K mg) (C_merge : Fn P w K mg base 1 "merge" 2 f_merge) (C_arrived : Fn P w K mg base 3 "arrived" 3 f_arrived) : FnOk P w K mg base CX0 4 f fd ["_law_team", "_law_one", "_law_home"] (spM K 3 f__law_arrive) :=
  xfn F sc__law_arrive fun cdv A outer sh H E hr => (xs_cons (xif (xct (kNe hr.units) (xix (hu_of hr) (xv 1) xstr) (xfrz (xflst xnil)))
    (xs_cons (xset (i := 3) sc__law_arrive.nd rfl (by first | exact Or.inl rfl | exact Or.inr rfl) (xix (hu_of hr) (xv 1) xstr))
  (xs_cons (xasg (xix (hu_of hr) (xv 3) xint) (xgtup (n := 2) rfl (xgs_cons (xgn (i := 4) sc__law_arrive.nd rfl (by first | exact Or.inl rfl | exact Or.inr rfl)) (xgs_cons (xgn (i := 5) sc__law_arrive.nd rfl (by first | exact Or.inl rfl | exact Or.inr rfl)) xgs_nil))))
  (xs_cons (xexpr (xpop (xv 3) xint))
  (xs_cons (xexpr (xcl C_merge hr (by decide) (by rfl) (xcons (xix (hu_of hr) (xix (hu_of hr) (xv 0) (xv 2)) xstr) (xcons (xv 5) xnil)) (len_cons (len_cons len_nil))))
  (xs_one (xexpr (xcl C_arrived hr (by decide) (by rfl) (xcons (xix (hu_of hr) (xix (hu_of hr) (xv 0) (xv 2)) xstr) (xcons (xix (hu_of hr) (xv 1) xstr) (xcons (xv 4) xnil))) (len_cons (len_cons (len_cons len_nil))))))))))
    xs_nil)
  (xs_fz 3 xs_nil))
/-! rows_of -/
abbrev s_rows_of : Stmt := top 10
abbrev n_rows_of : List Str := ["page", "place"]
theorem sc_rows_of : FnScope n_rows_of ["page"] (defScope s_rows_of) := ⟨rfl, rfl, rfl, by decide +kernel, rfl, by decide +kernel, by decide +kernel⟩
def c_rows_of_1 : MF := (mLc (mRng1 (mC (.int 4))) 1 mYes (mTup (mCons (mVar 1) (mCons (mIx (mIx (mVar 0) (mVar 1)) (mC (.int 0))) (mCons (mIx (mIx (mVar 0) (mVar 1)) (mC (.int 1))) mNil)))) ([1] : List Nat))
def b_rows_of : MS := (mRet (m1 (mFrz c_rows_of_1) f1Tup))
def f_rows_of : MFn := mFn 2 b_rows_of
theorem ok_rows_of {P : Program} {w : World} {K : PySem.W.Frag} {mg : Str → Option Value} {base : Heap} {f : Addr} {fd : FuncData} (F : Fun K "rows_of" "rows_of" s_rows_of f fd) (T : Txt K mg) : FnOk P w K mg base CX0 1 f fd ["page"] (spM K 1 f_rows_of) :=
  xfn F sc_rows_of fun cdv A outer sh H E hr => (xs_one (xret (xtuple (by rfl) T.tuple_ (by decide +kernel) (xfrz (xlc (own := [("place", 1)]) (j := 1) rfl sc_rows_of.nd (xrange1 (by rfl) T.range_ (xcst T.k_PAGE_WORDS (by rfl))) (blkOk_by (N := n_rows_of) (sc := defScope s_rows_of) (own := [("place", 1)]) (by decide +kernel)) (fun _ _ _ _ _ => pg_name (i := 1) sc_rows_of.nd rfl (by first | exact Or.inl rfl | exact Or.inr rfl)) (fun _ _ _ _ _ => (xtup (xcons (xv 1) (xcons (xix (hu_of hr) (xix (hu_of hr) (xv 0) (xv 1)) xint) (xcons (xix (hu_of hr) (xix (hu_of hr) (xv 0) (xv 1)) xint) xnil))))))))))
/-! had -/
abbrev s_had : Stmt := top 17
abbrev n_had : List Str := ["held", "clock"]
theorem sc_had : FnScope n_had ["held", "clock"] (defScope s_had) := ⟨rfl, rfl, rfl, by decide +kernel, rfl, by decide +kernel, by decide +kernel⟩
def b_had : MS := (mStIx (mVar 0) (mC (.str "has")) (mCall f_merged (mCons (mIx (mVar 0) (mC (.str "has"))) (mCons (mVar 1) mNil))))
def f_had : MFn := mFn 2 b_had
theorem ok_had {P : Program} {w : World} {K : PySem.W.Frag} {mg : Str → Option Value} {base : Heap} {f : Addr} {fd : FuncData} (F : Fun K "had" "had" s_had f fd) (T : Txt K mg) (C_merged : Fn P w K mg base 1 "merged" 2 f_merged) : FnOk P w K mg base CX0 2 f fd ["held", "clock"] (spM K 2 f_had) :=
  xfn F sc_had fun cdv A outer sh H E hr => (xs_one (xstix (hu_of hr) (xv 0) xstr (xcl C_merged hr (by decide) (by rfl) (xcons (xix (hu_of hr) (xv 0) xstr) (xcons (xv 1) xnil)) (len_cons (len_cons len_nil)))))
/-! _law_asked -/
abbrev s__law_asked : Stmt := top 29
abbrev n__law_asked : List Str := ["_law_team", "_law_one", "_law_home", "_law_there"]
theorem sc__law_asked : FnScope n__law_asked ["_law_team", "_law_one", "_law_home"] (defScope s__law_asked) := ⟨rfl, rfl, rfl, by decide +kernel, rfl, by decide +kernel, by decide +kernel⟩
def i__law_asked_1 : MS := (mIf (mOrT (mTest (m2 (mVar 1) (mVar 3) (fOr (fOr (f2Eq false) (f2EqK false)) (f2Dq false)))) (mNotT (mTest (mCall f_is_fresh (mCons (mIx (mVar 3) (mC (.str "held"))) (mCons (mIx (mIx (mVar 1) (mC (.str "held"))) (mC (.str "need"))) (mCons (mVar 2) mNil)))))))
    (mRet (mC (.bl true)))
    mSkip)
def b__law_asked : MS := (mSq (mSet 3 (mIx (mVar 0) (mVar 2)))
  (mSq i__law_asked_1
  (mSq (mExpr (mCall f_merge (mCons (mIx (mVar 1) (mC (.str "page"))) (mCons (mCall f_rows_of (mCons (mIx (mVar 3) (mC (.str "page"))) mNil)) mNil))))
  (mSq (mExpr (mCall f_had (mCons (mIx (mVar 1) (mC (.str "held"))) (mCons (mIx (mIx (mVar 3) (mC (.str "held"))) (mC (.str "has"))) mNil))))
  (mRet (mAndV (mCall f_is_fresh (mCons (mIx (mVar 1) (mC (.str "held"))) (mCons (mIx (mIx (mVar 1) (mC (.str "held"))) (mC (.str "need"))) (mCons (mIx (mVar 1) (mC (.str "machine"))) mNil)))) (mCall f__law_right (mCons (mVar 0) (mCons (mVar 1) mNil)))))))))
def f__law_asked : MFn := mFn 4 b__law_asked
theorem ok__law_asked {P : Program} {w : World} {K : PySem.W.Frag} {mg : Str → Option Value} {base : Heap} {f : Addr} {fd : FuncData} (F : Fun K "_law_asked" "_law_asked" s__law_asked f fd) (T : Txt K mg) (C_is_fresh : Fn P w K mg base 1 "is_fresh" 3 f_is_fresh) (C_merge : Fn P w K mg base 1 "merge" 2 f_merge) (C_rows_of : Fn P w K mg base 1 "rows_of" 1 f_rows_of) (C_had : Fn P w K mg base 2 "had" 2 f_had) (C__law_right : Fn P w K mg base 1 "_law_right" 2 f__law_right) : FnOk P w K mg base CX0 3 f fd ["_law_team", "_law_one", "_law_home"] (spM K 3 f__law_asked) :=
  xfn F sc__law_asked fun cdv A outer sh H E hr => (xs_cons (xset (i := 3) sc__law_asked.nd rfl (by first | exact Or.inl rfl | exact Or.inr rfl) (xix (hu_of hr) (xv 0) (xv 2)))
  (xs_cons (xif (xwt (xwo (xct (kEqM (hu66 hr)) (xv 1) (xv 3)) (xw1o (xnott (xtv (xcl C_is_fresh hr (by decide) (by rfl) (xcons (xix (hu_of hr) (xv 3) xstr) (xcons (xix (hu_of hr) (xix (hu_of hr) (xv 1) xstr) xstr) (xcons (xv 2) xnil))) (len_cons (len_cons (len_cons len_nil)))))))))
    (xs_one (xret xbl))
    xs_nil)
  (xs_cons (xexpr (xcl C_merge hr (by decide) (by rfl) (xcons (xix (hu_of hr) (xv 1) xstr) (xcons (xcl C_rows_of hr (by decide) (by rfl) (xcons (xix (hu_of hr) (xv 3) xstr) xnil) (len_cons len_nil)) xnil)) (len_cons (len_cons len_nil))))
  (xs_cons (xexpr (xcl C_had hr (by decide) (by rfl) (xcons (xix (hu_of hr) (xv 1) xstr) (xcons (xix (hu_of hr) (xix (hu_of hr) (xv 3) xstr) xstr) xnil)) (len_cons (len_cons len_nil))))
  (xs_one (xret (xand (xcl C_is_fresh hr (by decide) (by rfl) (xcons (xix (hu_of hr) (xv 1) xstr) (xcons (xix (hu_of hr) (xix (hu_of hr) (xv 1) xstr) xstr) (xcons (xix (hu_of hr) (xv 1) xstr) xnil))) (len_cons (len_cons (len_cons len_nil)))) (xone (xcl C__law_right hr (by decide) (by rfl) (xcons (xv 0) (xcons (xv 1) xnil)) (len_cons (len_cons len_nil)))))))))))
/-! law -/
abbrev s_law : Stmt := top 30
abbrev n_law : List Str := ["_law_script", "_law_machines", "_law_home", "_law_team", "_law_k", "_law_digits_here", "_law_one", "_law_machine_here"]
theorem sc_law : FnScope n_law ["_law_script"] (defScope s_law) := ⟨rfl, rfl, rfl, by decide +kernel, rfl, by decide +kernel, by decide +kernel⟩
def c_law_1 : MF := (mLc (mRng1 (mVar 1)) 7 mYes (mCall f__law_machine (mCons (mVar 1) (mCons (mVar 7) mNil))) ([7] : List Nat))
def i_law_1 : MS := (mIf (mAndT (mTest (m2 (mIx (mVar 5) (mC (.int 0))) (mC (.int 3)) (f2I (fun _ _ => true) fun i j => .bl (decide (i < j))))) (mNotT (mTest (mCall f__law_store (mCons (mVar 3) (mCons (mVar 6) (mCons (mIx (mVar 5) (mC (.int 3))) (mCons (mIx (mVar 5) (mC (.int 4))) mNil))))))))
    (mRet (mC (.bl false)))
    mSkip)
def i_law_2 : MS := (mIf (mTest (m2 (mIx (mVar 5) (mC (.int 0))) (mC (.int 4)) (f2Eq false)))
    (mExpr (mCall f__law_take_over (mCons (mVar 3) (mCons (mVar 6) (mCons (mIx (mVar 3) (mIx (mVar 5) (mC (.int 2)))) mNil)))))
    mSkip)
def i_law_3 : MS := (mIf (mOrT (mTest (m2 (mIx (mVar 5) (mC (.int 0))) (mC (.int 3)) (f2Eq false))) (mTest (m2 (mIx (mVar 5) (mC (.int 0))) (mC (.int 4)) (f2Eq false))))
    (mSq (mExpr (mCall f__law_end (mCons (mVar 3) (mCons (mVar 6) (mCons (mVar 2) mNil)))))
  i_law_2)
    mSkip)
def i_law_4 : MS := (mIf (mOrT (mTest (m2 (mIx (mVar 5) (mC (.int 0))) (mC (.int 5)) (f2Eq false))) (mTest (m2 (mIx (mVar 5) (mC (.int 0))) (mC (.int 6)) (f2Eq false))))
    (mExpr (mCall f__law_arrive (mCons (mVar 3) (mCons (mVar 6) (mCons (mVar 2) mNil)))))
    mSkip)
def i_law_5 : MS := (mIf (mAndT (mTest (m2 (mIx (mVar 5) (mC (.int 0))) (mC (.int 6)) (f2I (fun _ _ => true) fun i j => .bl (decide (j < i))))) (mNotT (mTest (mCall f__law_asked (mCons (mVar 3) (mCons (mVar 6) (mCons (mVar 2) mNil)))))))
    (mRet (mC (.bl false)))
    mSkip)
def b_law_1 : MS := (mSq (mSet 5 (mCall f__law_digits (mCons (mAdd (mCall f__law_cell (mCons (mVar 0) (mCons (mVar 4) mNil))) (mMulA (mC (.int 3)) (mVar 4))) (mCons (mFrz (mFLst (mCons (mC (.int 9)) (mCons (mVar 1) (mCons (mVar 1) (mCons (mC (.int 4)) (mCons (mC (.int 50)) mNil))))))) mNil))))
  (mSq (mSet 6 (mIx (mVar 3) (mIx (mVar 5) (mC (.int 1)))))
  (mSq i_law_1
  (mSq i_law_3
  (mSq i_law_4
  i_law_5)))))
def l_law_1 : MS := (mFor (mRng1 (m2 (m1 (mVar 0) f1Len) (mCall f__law_many (mCons (mVar 0) (mCons (mC (.int 20)) (mCons (mC (.int 60)) mNil)))) fMin)) (gN 4) b_law_1)
def b_law_2 : MS := (mExpr (mCall f__law_arrive (mCons (mVar 3) (mCons (mVar 6) (mCons (mVar 2) mNil)))))
def l_law_2 : MS := (mFor (mRng1 (m1 (mIx (mVar 6) (mC (.str "letters"))) f1Len)) (gN 4) b_law_2)
def b_law_3 : MS := l_law_2
def l_law_3 : MS := (mFor (mSeq (mVar 3)) (gN 6) b_law_3)
def i_law_6 : MS := (mIf (mNotT (mTest (mCall f__law_asked (mCons (mVar 3) (mCons (mVar 6) (mCons (mVar 2) mNil))))))
    (mRet (mC (.bl false)))
    mSkip)
def i_law_7 : MS := (mIf (mOrT (mNotT (mTest (mCall f_is_fresh (mCons (mIx (mVar 6) (mC (.str "held"))) (mCons (mIx (mIx (mVar 6) (mC (.str "held"))) (mC (.str "need"))) (mCons (mIx (mVar 6) (mC (.str "machine"))) mNil)))))) (mNotT (mTest (mCall f__law_right (mCons (mVar 3) (mCons (mVar 6) mNil))))))
    (mRet (mC (.bl false)))
    mSkip)
def b_law_4 : MS := (mSq i_law_6
  i_law_7)
def l_law_4 : MS := (mFor (mSeq (mVar 3)) (gN 6) b_law_4)
def b_law : MS := (mSq (mSet 1 (mAdd (mC (.int 3)) (mMod (m1 (mCall f__law_cell (mCons (mVar 0) (mCons (mC (.int 0)) mNil))) f1Int) (mC (.int 2)))))
  (mSq (mSet 2 (mMod (mFdiv (m1 (mCall f__law_cell (mCons (mVar 0) (mCons (mC (.int 0)) mNil))) f1Int) (mC (.int 2))) (mVar 1)))
  (mSq (mSet 3 (mFrz c_law_1))
  (mSq l_law_1
  (mSq l_law_3
  (mSq l_law_4
  (mRet (mC (.bl true)))))))))
def f_law : MFn := mFn 8 b_law
theorem ok_law {P : Program} {w : World} {K : PySem.W.Frag} {mg : Str → Option Value} {base : Heap} {f : Addr} {fd : FuncData} (F : Fun K "law" "law" s_law f fd) (T : Txt K mg) (C__law_cell : Fn P w K mg base 1 "_law_cell" 2 f__law_cell) (C__law_machine : Fn P w K mg base 3 "_law_machine" 2 f__law_machine) (C__law_many : Fn P w K mg base 1 "_law_many" 3 f__law_many) (C__law_digits : Fn P w K mg base 1 "_law_digits" 2 f__law_digits) (C__law_store : Fn P w K mg base 2 "_law_store" 4 f__law_store) (C__law_end : Fn P w K mg base 4 "_law_end" 3 f__law_end) (C__law_take_over : Fn P w K mg base 4 "_law_take_over" 3 f__law_take_over) (C__law_arrive : Fn P w K mg base 4 "_law_arrive" 3 f__law_arrive) (C__law_asked : Fn P w K mg base 3 "_law_asked" 3 f__law_asked) (C__law_right : Fn P w K mg base 1 "_law_right" 2 f__law_right) (C_is_fresh : Fn P w K mg base 1 "is_fresh" 3 f_is_fresh) : FnOk P w K mg base CX0 5 f fd ["_law_script"] (spM K 1 f_law) :=
  xfn F sc_law fun cdv A outer sh H E hr => (xs_cons (xset (i := 1) sc_law.nd rfl (by first | exact Or.inl rfl | exact Or.inr rfl) (xadd xint (xmod (xint1 (by rfl) T.int_ (by decide +kernel) (xcl C__law_cell hr (by decide) (by rfl) (xcons (xv 0) (xcons xint xnil)) (len_cons (len_cons len_nil)))) xint)))
  (xs_cons (xset (i := 2) sc_law.nd rfl (by first | exact Or.inl rfl | exact Or.inr rfl) (xmod (xfdiv (xint1 (by rfl) T.int_ (by decide +kernel) (xcl C__law_cell hr (by decide) (by rfl) (xcons (xv 0) (xcons xint xnil)) (len_cons (len_cons len_nil)))) xint) (xv 1)))
  (xs_cons (xla_d (xla (own := [("_law_machine_here", 7)]) (i := 3) (j := 7) rfl sc_law.nd rfl rfl (sw_true rfl rfl rfl (by decide +kernel)) (xrange1 (by rfl) T.range_ (xv 1)) (blkOk_by (N := n_law) (sc := defScope s_law) (own := [("_law_machine_here", 7)]) (by decide +kernel)) (fun _ _ _ _ _ => pg_name (i := 7) sc_law.nd rfl (by first | exact Or.inl rfl | exact Or.inr rfl)) (fun _ _ _ _ _ => (xcl C__law_machine hr (by decide) (by rfl) (xcons (xv 1) (xcons (xv 7) xnil)) (len_cons (len_cons len_nil))))))
  (xs_cons (xfor PassesOwn.never rfl (xrange1 (by rfl) T.range_ (xmin rfl (by rfl) T.min_ (by decide +kernel) (xlen (by rfl) T.len_ (by decide +kernel) (xv 0)) (xcl C__law_many hr (by decide) (by rfl) (xcons (xv 0) (xcons xint (xcons xint xnil))) (len_cons (len_cons (len_cons len_nil)))))) (xgn (i := 4) sc_law.nd rfl (by first | exact Or.inl rfl | exact Or.inr rfl))
    (xs_cons (xset (i := 5) sc_law.nd rfl (by first | exact Or.inl rfl | exact Or.inr rfl) (xcl C__law_digits hr (by decide) (by rfl) (xcons (xadd (xcl C__law_cell hr (by decide) (by rfl) (xcons (xv 0) (xcons (xv 4) xnil)) (len_cons (len_cons len_nil))) (xmulA xint (xv 4))) (xcons (xfrz (xflst (xcons xint (xcons (xv 1) (xcons (xv 1) (xcons xint (xcons xint xnil))))))) xnil)) (len_cons (len_cons len_nil))))
  (xs_cons (xset (i := 6) sc_law.nd rfl (by first | exact Or.inl rfl | exact Or.inr rfl) (xix (hu_of hr) (xv 3) (xix (hu_of hr) (xv 5) xint)))
  (xs_cons (xif (xwt (xwa (xct kLt (xix (hu_of hr) (xv 5) xint) xint) (xw1a (xnott (xtv (xcl C__law_store hr (by decide) (by rfl) (xcons (xv 3) (xcons (xv 6) (xcons (xix (hu_of hr) (xv 5) xint) (xcons (xix (hu_of hr) (xv 5) xint) xnil)))) (len_cons (len_cons (len_cons (len_cons len_nil))))))))))
    (xs_one (xret xbl))
    xs_nil)
  (xs_cons (xif (xwt (xwo (xct (kEq hr.units) (xix (hu_of hr) (xv 5) xint) xint) (xw1o (xct (kEq hr.units) (xix (hu_of hr) (xv 5) xint) xint))))
    (xs_cons (xexpr (xcl C__law_end hr (by decide) (by rfl) (xcons (xv 3) (xcons (xv 6) (xcons (xv 2) xnil))) (len_cons (len_cons (len_cons len_nil)))))
  (xs_one (xif (xct (kEq hr.units) (xix (hu_of hr) (xv 5) xint) xint)
    (xs_one (xexpr (xcl C__law_take_over hr (by decide) (by rfl) (xcons (xv 3) (xcons (xv 6) (xcons (xix (hu_of hr) (xv 3) (xix (hu_of hr) (xv 5) xint)) xnil))) (len_cons (len_cons (len_cons len_nil))))))
    xs_nil)))
    xs_nil)
  (xs_cons (xif (xwt (xwo (xct (kEq hr.units) (xix (hu_of hr) (xv 5) xint) xint) (xw1o (xct (kEq hr.units) (xix (hu_of hr) (xv 5) xint) xint))))
    (xs_one (xexpr (xcl C__law_arrive hr (by decide) (by rfl) (xcons (xv 3) (xcons (xv 6) (xcons (xv 2) xnil))) (len_cons (len_cons (len_cons len_nil))))))
    xs_nil)
  (xs_one (xif (xwt (xwa (xct kGt (xix (hu_of hr) (xv 5) xint) xint) (xw1a (xnott (xtv (xcl C__law_asked hr (by decide) (by rfl) (xcons (xv 3) (xcons (xv 6) (xcons (xv 2) xnil))) (len_cons (len_cons (len_cons len_nil)))))))))
    (xs_one (xret xbl))
    xs_nil))))))))
  (xs_cons (xfor PassesOwn.never rfl (xseq (xv 3)) (xgn (i := 6) sc_law.nd rfl (by first | exact Or.inl rfl | exact Or.inr rfl))
    (xs_one (xfor PassesOwn.never rfl (xrange1 (by rfl) T.range_ (xlen (by rfl) T.len_ (by decide +kernel) (xix (hu_of hr) (xv 6) xstr))) (xgn (i := 4) sc_law.nd rfl (by first | exact Or.inl rfl | exact Or.inr rfl))
    (xs_one (xexpr (xcl C__law_arrive hr (by decide) (by rfl) (xcons (xv 3) (xcons (xv 6) (xcons (xv 2) xnil))) (len_cons (len_cons (len_cons len_nil)))))))))
  (xs_cons (xfor PassesOwn.never rfl (xseq (xv 3)) (xgn (i := 6) sc_law.nd rfl (by first | exact Or.inl rfl | exact Or.inr rfl))
    (xs_cons (xif (xnott (xtv (xcl C__law_asked hr (by decide) (by rfl) (xcons (xv 3) (xcons (xv 6) (xcons (xv 2) xnil))) (len_cons (len_cons (len_cons len_nil))))))
    (xs_one (xret xbl))
    xs_nil)
  (xs_one (xif (xwt (xwo (xnott (xtv (xcl C_is_fresh hr (by decide) (by rfl) (xcons (xix (hu_of hr) (xv 6) xstr) (xcons (xix (hu_of hr) (xix (hu_of hr) (xv 6) xstr) xstr) (xcons (xix (hu_of hr) (xv 6) xstr) xnil))) (len_cons (len_cons (len_cons len_nil)))))) (xw1o (xnott (xtv (xcl C__law_right hr (by decide) (by rfl) (xcons (xv 3) (xcons (xv 6) xnil)) (len_cons (len_cons len_nil))))))))
    (xs_one (xret xbl))
    xs_nil))))
  (xs_one (xret xbl))))))))
/-! the end -/
theorem all_mk {l : PySem.W.OpenLaw} {w : World} {K : PySem.W.Frag} {h : Heap} {mg : Str → Option Value} {fa : Addr} (X : K.In h) (G : h.Ns mainGlobals mg) (hfa : mg "law" = some (.ref fa))
    {f0 : Addr} {od0 an0 : Option Addr} {sl0 : Array (Option Value)} {oc0 kV0 dc0 pm0 cd0 ct0 : Value}
    {f1 : Addr} {od1 an1 : Option Addr} {sl1 : Array (Option Value)} {oc1 kV1 dc1 pm1 cd1 ct1 : Value}
    {f2 : Addr} {od2 an2 : Option Addr} {sl2 : Array (Option Value)} {oc2 kV2 dc2 pm2 cd2 ct2 : Value}
    {f3 : Addr} {od3 an3 : Option Addr} {sl3 : Array (Option Value)} {oc3 kV3 dc3 pm3 cd3 ct3 : Value}
    {f4 : Addr} {od4 an4 : Option Addr} {sl4 : Array (Option Value)} {oc4 kV4 dc4 pm4 cd4 ct4 : Value}
    {f5 : Addr} {od5 an5 : Option Addr} {sl5 : Array (Option Value)} {oc5 kV5 dc5 pm5 cd5 ct5 : Value}
    {f6 : Addr} {od6 an6 : Option Addr} {sl6 : Array (Option Value)} {oc6 kV6 dc6 pm6 cd6 ct6 : Value}
    {f7 : Addr} {od7 an7 : Option Addr} {sl7 : Array (Option Value)} {oc7 kV7 dc7 pm7 cd7 ct7 : Value}
    {f8 : Addr} {od8 an8 : Option Addr} {sl8 : Array (Option Value)} {oc8 kV8 dc8 pm8 cd8 ct8 : Value}
    {f9 : Addr} {od9 an9 : Option Addr} {sl9 : Array (Option Value)} {oc9 kV9 dc9 pm9 cd9 ct9 : Value}
    {f10 : Addr} {od10 an10 : Option Addr} {sl10 : Array (Option Value)} {oc10 kV10 dc10 pm10 cd10 ct10 : Value}
    {f11 : Addr} {od11 an11 : Option Addr} {sl11 : Array (Option Value)} {oc11 kV11 dc11 pm11 cd11 ct11 : Value}
    {f12 : Addr} {od12 an12 : Option Addr} {sl12 : Array (Option Value)} {oc12 kV12 dc12 pm12 cd12 ct12 : Value}
    {f13 : Addr} {od13 an13 : Option Addr} {sl13 : Array (Option Value)} {oc13 kV13 dc13 pm13 cd13 ct13 : Value}
    {f14 : Addr} {od14 an14 : Option Addr} {sl14 : Array (Option Value)} {oc14 kV14 dc14 pm14 cd14 ct14 : Value}
    {f15 : Addr} {od15 an15 : Option Addr} {sl15 : Array (Option Value)} {oc15 kV15 dc15 pm15 cd15 ct15 : Value}
    {f16 : Addr} {od16 an16 : Option Addr} {sl16 : Array (Option Value)} {oc16 kV16 dc16 pm16 cd16 ct16 : Value}
    {f17 : Addr} {od17 an17 : Option Addr} {sl17 : Array (Option Value)} {oc17 kV17 dc17 pm17 cd17 ct17 : Value}
    {f18 : Addr} {od18 an18 : Option Addr} {sl18 : Array (Option Value)} {oc18 kV18 dc18 pm18 cd18 ct18 : Value}
    {f19 : Addr} {od19 an19 : Option Addr} {sl19 : Array (Option Value)} {oc19 kV19 dc19 pm19 cd19 ct19 : Value}
    {f20 : Addr} {od20 an20 : Option Addr} {sl20 : Array (Option Value)} {oc20 kV20 dc20 pm20 cd20 ct20 : Value}
    {f21 : Addr} {od21 an21 : Option Addr} {sl21 : Array (Option Value)} {oc21 kV21 dc21 pm21 cd21 ct21 : Value}
    {f22 : Addr} {od22 an22 : Option Addr} {sl22 : Array (Option Value)} {oc22 kV22 dc22 pm22 cd22 ct22 : Value}
    {f23 : Addr} {od23 an23 : Option Addr} {sl23 : Array (Option Value)} {oc23 kV23 dc23 pm23 cd23 ct23 : Value}
    {f24 : Addr} {od24 an24 : Option Addr} {sl24 : Array (Option Value)} {oc24 kV24 dc24 pm24 cd24 ct24 : Value}
    (a0 : PySem.W.nsIn K mainGlobals "_law_cell" = some (some (.ref f0))) (l0 : K.lookup f0 = some ⟨oc0, od0, .func (PySem.W.fnOf "_law_cell" "_law_cell" (defArgs s__law_cell) (defBody s__law_cell) (defScope s__law_cell) .none kV0 dc0 pm0 an0 cd0 ct0), sl0⟩) (c0 : PySem.W.codeIn K cd0 "_law_cell" = true) (k0 : PySem.W.keepIn K (.ref f0) = true)
    (a1 : PySem.W.nsIn K mainGlobals "with_count" = some (some (.ref f1))) (l1 : K.lookup f1 = some ⟨oc1, od1, .func (PySem.W.fnOf "with_count" "with_count" (defArgs s_with_count) (defBody s_with_count) (defScope s_with_count) .none kV1 dc1 pm1 an1 cd1 ct1), sl1⟩) (c1 : PySem.W.codeIn K cd1 "with_count" = true) (k1 : PySem.W.keepIn K (.ref f1) = true)
    (a2 : PySem.W.nsIn K mainGlobals "zero_clock" = some (some (.ref f2))) (l2 : K.lookup f2 = some ⟨oc2, od2, .func (PySem.W.fnOf "zero_clock" "zero_clock" (defArgs s_zero_clock) (defBody s_zero_clock) (defScope s_zero_clock) .none kV2 dc2 pm2 an2 cd2 ct2), sl2⟩) (c2 : PySem.W.codeIn K cd2 "zero_clock" = true) (k2 : PySem.W.keepIn K (.ref f2) = true)
    (a3 : PySem.W.nsIn K mainGlobals "new_held" = some (some (.ref f3))) (l3 : K.lookup f3 = some ⟨oc3, od3, .func (PySem.W.fnOf "new_held" "new_held" (defArgs s_new_held) (defBody s_new_held) (defScope s_new_held) .none kV3 dc3 pm3 an3 cd3 ct3), sl3⟩) (c3 : PySem.W.codeIn K cd3 "new_held" = true) (k3 : PySem.W.keepIn K (.ref f3) = true)
    (a4 : PySem.W.nsIn K mainGlobals "new_page" = some (some (.ref f4))) (l4 : K.lookup f4 = some ⟨oc4, od4, .func (PySem.W.fnOf "new_page" "new_page" (defArgs s_new_page) (defBody s_new_page) (defScope s_new_page) .none kV4 dc4 pm4 an4 cd4 ct4), sl4⟩) (c4 : PySem.W.codeIn K cd4 "new_page" = true) (k4 : PySem.W.keepIn K (.ref f4) = true)
    (a5 : PySem.W.nsIn K mainGlobals "_law_machine" = some (some (.ref f5))) (l5 : K.lookup f5 = some ⟨oc5, od5, .func (PySem.W.fnOf "_law_machine" "_law_machine" (defArgs s__law_machine) (defBody s__law_machine) (defScope s__law_machine) .none kV5 dc5 pm5 an5 cd5 ct5), sl5⟩) (c5 : PySem.W.codeIn K cd5 "_law_machine" = true) (k5 : PySem.W.keepIn K (.ref f5) = true)
    (a6 : PySem.W.nsIn K mainGlobals "_law_many" = some (some (.ref f6))) (l6 : K.lookup f6 = some ⟨oc6, od6, .func (PySem.W.fnOf "_law_many" "_law_many" (defArgs s__law_many) (defBody s__law_many) (defScope s__law_many) .none kV6 dc6 pm6 an6 cd6 ct6), sl6⟩) (c6 : PySem.W.codeIn K cd6 "_law_many" = true) (k6 : PySem.W.keepIn K (.ref f6) = true)
    (a7 : PySem.W.nsIn K mainGlobals "_law_digits" = some (some (.ref f7))) (l7 : K.lookup f7 = some ⟨oc7, od7, .func (PySem.W.fnOf "_law_digits" "_law_digits" (defArgs s__law_digits) (defBody s__law_digits) (defScope s__law_digits) .none kV7 dc7 pm7 an7 cd7 ct7), sl7⟩) (c7 : PySem.W.codeIn K cd7 "_law_digits" = true) (k7 : PySem.W.keepIn K (.ref f7) = true)
    (a8 : PySem.W.nsIn K mainGlobals "is_fresh" = some (some (.ref f8))) (l8 : K.lookup f8 = some ⟨oc8, od8, .func (PySem.W.fnOf "is_fresh" "is_fresh" (defArgs s_is_fresh) (defBody s_is_fresh) (defScope s_is_fresh) .none kV8 dc8 pm8 an8 cd8 ct8), sl8⟩) (c8 : PySem.W.codeIn K cd8 "is_fresh" = true) (k8 : PySem.W.keepIn K (.ref f8) = true)
    (a9 : PySem.W.nsIn K mainGlobals "_law_right" = some (some (.ref f9))) (l9 : K.lookup f9 = some ⟨oc9, od9, .func (PySem.W.fnOf "_law_right" "_law_right" (defArgs s__law_right) (defBody s__law_right) (defScope s__law_right) .none kV9 dc9 pm9 an9 cd9 ct9), sl9⟩) (c9 : PySem.W.codeIn K cd9 "_law_right" = true) (k9 : PySem.W.keepIn K (.ref f9) = true)
    (a10 : PySem.W.nsIn K mainGlobals "store" = some (some (.ref f10))) (l10 : K.lookup f10 = some ⟨oc10, od10, .func (PySem.W.fnOf "store" "store" (defArgs s_store) (defBody s_store) (defScope s_store) .none kV10 dc10 pm10 an10 cd10 ct10), sl10⟩) (c10 : PySem.W.codeIn K cd10 "store" = true) (k10 : PySem.W.keepIn K (.ref f10) = true)
    (a11 : PySem.W.nsIn K mainGlobals "_law_store" = some (some (.ref f11))) (l11 : K.lookup f11 = some ⟨oc11, od11, .func (PySem.W.fnOf "_law_store" "_law_store" (defArgs s__law_store) (defBody s__law_store) (defScope s__law_store) .none kV11 dc11 pm11 an11 cd11 ct11), sl11⟩) (c11 : PySem.W.codeIn K cd11 "_law_store" = true) (k11 : PySem.W.keepIn K (.ref f11) = true)
    (a12 : PySem.W.nsIn K mainGlobals "raised" = some (some (.ref f12))) (l12 : K.lookup f12 = some ⟨oc12, od12, .func (PySem.W.fnOf "raised" "raised" (defArgs s_raised) (defBody s_raised) (defScope s_raised) .none kV12 dc12 pm12 an12 cd12 ct12), sl12⟩) (c12 : PySem.W.codeIn K cd12 "raised" = true) (k12 : PySem.W.keepIn K (.ref f12) = true)
    (a13 : PySem.W.nsIn K mainGlobals "arrived" = some (some (.ref f13))) (l13 : K.lookup f13 = some ⟨oc13, od13, .func (PySem.W.fnOf "arrived" "arrived" (defArgs s_arrived) (defBody s_arrived) (defScope s_arrived) .none kV13 dc13 pm13 an13 cd13 ct13), sl13⟩) (c13 : PySem.W.codeIn K cd13 "arrived" = true) (k13 : PySem.W.keepIn K (.ref f13) = true)
    (a14 : PySem.W.nsIn K mainGlobals "difference" = some (some (.ref f14))) (l14 : K.lookup f14 = some ⟨oc14, od14, .func (PySem.W.fnOf "difference" "difference" (defArgs s_difference) (defBody s_difference) (defScope s_difference) .none kV14 dc14 pm14 an14 cd14 ct14), sl14⟩) (c14 : PySem.W.codeIn K cd14 "difference" = true) (k14 : PySem.W.keepIn K (.ref f14) = true)
    (a15 : PySem.W.nsIn K mainGlobals "_law_end" = some (some (.ref f15))) (l15 : K.lookup f15 = some ⟨oc15, od15, .func (PySem.W.fnOf "_law_end" "_law_end" (defArgs s__law_end) (defBody s__law_end) (defScope s__law_end) .none kV15 dc15 pm15 an15 cd15 ct15), sl15⟩) (c15 : PySem.W.codeIn K cd15 "_law_end" = true) (k15 : PySem.W.keepIn K (.ref f15) = true)
    (a16 : PySem.W.nsIn K mainGlobals "merged" = some (some (.ref f16))) (l16 : K.lookup f16 = some ⟨oc16, od16, .func (PySem.W.fnOf "merged" "merged" (defArgs s_merged) (defBody s_merged) (defScope s_merged) .none kV16 dc16 pm16 an16 cd16 ct16), sl16⟩) (c16 : PySem.W.codeIn K cd16 "merged" = true) (k16 : PySem.W.keepIn K (.ref f16) = true)
    (a17 : PySem.W.nsIn K mainGlobals "needs" = some (some (.ref f17))) (l17 : K.lookup f17 = some ⟨oc17, od17, .func (PySem.W.fnOf "needs" "needs" (defArgs s_needs) (defBody s_needs) (defScope s_needs) .none kV17 dc17 pm17 an17 cd17 ct17), sl17⟩) (c17 : PySem.W.codeIn K cd17 "needs" = true) (k17 : PySem.W.keepIn K (.ref f17) = true)
    (a18 : PySem.W.nsIn K mainGlobals "_law_take_over" = some (some (.ref f18))) (l18 : K.lookup f18 = some ⟨oc18, od18, .func (PySem.W.fnOf "_law_take_over" "_law_take_over" (defArgs s__law_take_over) (defBody s__law_take_over) (defScope s__law_take_over) .none kV18 dc18 pm18 an18 cd18 ct18), sl18⟩) (c18 : PySem.W.codeIn K cd18 "_law_take_over" = true) (k18 : PySem.W.keepIn K (.ref f18) = true)
    (a19 : PySem.W.nsIn K mainGlobals "merge" = some (some (.ref f19))) (l19 : K.lookup f19 = some ⟨oc19, od19, .func (PySem.W.fnOf "merge" "merge" (defArgs s_merge) (defBody s_merge) (defScope s_merge) .none kV19 dc19 pm19 an19 cd19 ct19), sl19⟩) (c19 : PySem.W.codeIn K cd19 "merge" = true) (k19 : PySem.W.keepIn K (.ref f19) = true)
    (a20 : PySem.W.nsIn K mainGlobals "_law_arrive" = some (some (.ref f20))) (l20 : K.lookup f20 = some ⟨oc20, od20, .func (PySem.W.fnOf "_law_arrive" "_law_arrive" (defArgs s__law_arrive) (defBody s__law_arrive) (defScope s__law_arrive) .none kV20 dc20 pm20 an20 cd20 ct20), sl20⟩) (c20 : PySem.W.codeIn K cd20 "_law_arrive" = true) (k20 : PySem.W.keepIn K (.ref f20) = true)
    (a21 : PySem.W.nsIn K mainGlobals "rows_of" = some (some (.ref f21))) (l21 : K.lookup f21 = some ⟨oc21, od21, .func (PySem.W.fnOf "rows_of" "rows_of" (defArgs s_rows_of) (defBody s_rows_of) (defScope s_rows_of) .none kV21 dc21 pm21 an21 cd21 ct21), sl21⟩) (c21 : PySem.W.codeIn K cd21 "rows_of" = true) (k21 : PySem.W.keepIn K (.ref f21) = true)
    (a22 : PySem.W.nsIn K mainGlobals "had" = some (some (.ref f22))) (l22 : K.lookup f22 = some ⟨oc22, od22, .func (PySem.W.fnOf "had" "had" (defArgs s_had) (defBody s_had) (defScope s_had) .none kV22 dc22 pm22 an22 cd22 ct22), sl22⟩) (c22 : PySem.W.codeIn K cd22 "had" = true) (k22 : PySem.W.keepIn K (.ref f22) = true)
    (a23 : PySem.W.nsIn K mainGlobals "_law_asked" = some (some (.ref f23))) (l23 : K.lookup f23 = some ⟨oc23, od23, .func (PySem.W.fnOf "_law_asked" "_law_asked" (defArgs s__law_asked) (defBody s__law_asked) (defScope s__law_asked) .none kV23 dc23 pm23 an23 cd23 ct23), sl23⟩) (c23 : PySem.W.codeIn K cd23 "_law_asked" = true) (k23 : PySem.W.keepIn K (.ref f23) = true)
    (a24 : PySem.W.nsIn K mainGlobals "law" = some (some (.ref f24))) (l24 : K.lookup f24 = some ⟨oc24, od24, .func (PySem.W.fnOf "law" "law" (defArgs s_law) (defBody s_law) (defScope s_law) .none kV24 dc24 pm24 an24 cd24 ct24), sl24⟩) (c24 : PySem.W.codeIn K cd24 "law" = true) (k24 : PySem.W.keepIn K (.ref f24) = true)
    (z_len : PySem.W.nsIn K mainGlobals "len" = some none)
    (z_range : PySem.W.nsIn K mainGlobals "range" = some none)
    (z_max : PySem.W.nsIn K mainGlobals "max" = some none)
    (z_tuple : PySem.W.nsIn K mainGlobals "tuple" = some none)
    (z_sorted : PySem.W.nsIn K mainGlobals "sorted" = some none)
    (z_all : PySem.W.nsIn K mainGlobals "all" = some none)
    (z_int : PySem.W.nsIn K mainGlobals "int" = some none)
    (z_min : PySem.W.nsIn K mainGlobals "min" = some none)
    {aFIRST_CELL0 : Addr} {ddFIRST_CELL0 : Option Addr} {nnFIRST_CELL0 : Nat} {slFIRST_CELL0 : Array (Option Value)} {tFIRST_CELL1 : Tok} {aFIRST_CELL2 : Addr} {ddFIRST_CELL2 : Option Addr} {nnFIRST_CELL2 : Nat} {slFIRST_CELL2 : Array (Option Value)} {tFIRST_CELL3 : Tok} {tFIRST_CELL4 : Tok} (hFIRST_CELL2 : K.lookup aFIRST_CELL2 = some ⟨.type "tuple", ddFIRST_CELL2, .seq #[(.int 0 tFIRST_CELL3), (.int 0 tFIRST_CELL4)] nnFIRST_CELL2, slFIRST_CELL2⟩) (hFIRST_CELL0 : K.lookup aFIRST_CELL0 = some ⟨.type "tuple", ddFIRST_CELL0, .seq #[(.int 0 tFIRST_CELL1), (.ref aFIRST_CELL2)] nnFIRST_CELL0, slFIRST_CELL0⟩) (qFIRST_CELL : PySem.W.nsIn K mainGlobals "FIRST_CELL" = some (some (.ref aFIRST_CELL0)))
    {tPAGE_WORDS0 : Tok} (qPAGE_WORDS : PySem.W.nsIn K mainGlobals "PAGE_WORDS" = some (some (.int 4 tPAGE_WORDS0)))
    : ∃ fd : FuncData, (∀ (s : Shared) (v : Value), BindsTo s fd ⟨[v], []⟩ [("_law_script", v)]) ∧ ∀ base : Heap, K.In base → base.Ns mainGlobals mg → FnOk l.prog w K mg base CX0 5 fa fd ["_law_script"] (spM K 1 f_law) := by
  have e := hfa.symm.trans (PySem.W.mg_of X G a24)
  cases e
  have T : Txt K mg := ⟨⟨⟨(.ref aFIRST_CELL0), _, PySem.W.mg_of X G qFIRST_CELL, rfl, fun _ _ => ⟨aFIRST_CELL0, [(.int 0), (.ref aFIRST_CELL2)], rfl, .inr ⟨_, _, _, hFIRST_CELL0, rfl, rfl, small16 (by simp), (.cons ⟨_, rfl⟩ (.cons rfl .nil))⟩, ⟨rfl, ⟨⟨aFIRST_CELL2, [(.int 0), (.int 0)], rfl, .inr ⟨_, _, _, hFIRST_CELL2, rfl, rfl, small16 (by simp), (.cons ⟨_, rfl⟩ (.cons ⟨_, rfl⟩ .nil))⟩, ⟨rfl, ⟨rfl, trivial⟩⟩⟩, trivial⟩⟩⟩⟩⟩, ⟨⟨(.int 4), _, PySem.W.mg_of X G qPAGE_WORDS, ⟨_, rfl⟩, fun _ _ => rfl⟩⟩, PySem.W.mg_none_of X G z_len, PySem.W.mg_none_of X G z_range, PySem.W.mg_none_of X G z_max, PySem.W.mg_none_of X G z_tuple, PySem.W.mg_none_of X G z_sorted, PySem.W.mg_none_of X G z_all, PySem.W.mg_none_of X G z_int, PySem.W.mg_none_of X G z_min⟩
  have F0 := fun_mk (st := s__law_cell) l0 c0 k0
  have B0 := F0.binds (ps := ["_law_script", "_law_k"]) fun _ _ _ _ _ _ us hl => match us, hl with | [_, _], _ => rfl
  have F1 := fun_mk (st := s_with_count) l1 c1 k1
  have B1 := F1.binds (ps := ["clock", "machine", "count"]) fun _ _ _ _ _ _ us hl => match us, hl with | [_, _, _], _ => rfl
  have F2 := fun_mk (st := s_zero_clock) l2 c2 k2
  have B2 := F2.binds (ps := ["machines"]) fun _ _ _ _ _ _ us hl => match us, hl with | [_], _ => rfl
  have F3 := fun_mk (st := s_new_held) l3 c3 k3
  have B3 := F3.binds (ps := ["machines"]) fun _ _ _ _ _ _ us hl => match us, hl with | [_], _ => rfl
  have F4 := fun_mk (st := s_new_page) l4 c4 k4
  have B4 := F4.binds (ps := []) fun _ _ _ _ _ _ us hl => match us, hl with | [], _ => rfl
  have F5 := fun_mk (st := s__law_machine) l5 c5 k5
  have B5 := F5.binds (ps := ["_law_machines", "_law_machine_here"]) fun _ _ _ _ _ _ us hl => match us, hl with | [_, _], _ => rfl
  have F6 := fun_mk (st := s__law_many) l6 c6 k6
  have B6 := F6.binds (ps := ["_law_script", "_law_few", "_law_many_here"]) fun _ _ _ _ _ _ us hl => match us, hl with | [_, _, _], _ => rfl
  have F7 := fun_mk (st := s__law_digits) l7 c7 k7
  have B7 := F7.binds (ps := ["_law_cell_here", "_law_bases"]) fun _ _ _ _ _ _ us hl => match us, hl with | [_, _], _ => rfl
  have F8 := fun_mk (st := s_is_fresh) l8 c8 k8
  have B8 := F8.binds (ps := ["held", "needed", "owner"]) fun _ _ _ _ _ _ us hl => match us, hl with | [_, _, _], _ => rfl
  have F9 := fun_mk (st := s__law_right) l9 c9 k9
  have B9 := F9.binds (ps := ["_law_team", "_law_one"]) fun _ _ _ _ _ _ us hl => match us, hl with | [_, _], _ => rfl
  have F10 := fun_mk (st := s_store) l10 c10 k10
  have B10 := F10.binds (ps := ["page", "place", "value", "machine"]) fun _ _ _ _ _ _ us hl => match us, hl with | [_, _, _, _], _ => rfl
  have F11 := fun_mk (st := s__law_store) l11 c11 k11
  have B11 := F11.binds (ps := ["_law_team", "_law_one", "_law_place", "_law_value"]) fun _ _ _ _ _ _ us hl => match us, hl with | [_, _, _, _], _ => rfl
  have F12 := fun_mk (st := s_raised) l12 c12 k12
  have B12 := F12.binds (ps := ["clock", "machine", "number"]) fun _ _ _ _ _ _ us hl => match us, hl with | [_, _, _], _ => rfl
  have F13 := fun_mk (st := s_arrived) l13 c13 k13
  have B13 := F13.binds (ps := ["held", "machine", "number"]) fun _ _ _ _ _ _ us hl => match us, hl with | [_, _, _], _ => rfl
  have F14 := fun_mk (st := s_difference) l14 c14 k14
  have B14 := F14.binds (ps := ["stored"]) fun _ _ _ _ _ _ us hl => match us, hl with | [_], _ => rfl
  have F15 := fun_mk (st := s__law_end) l15 c15 k15
  have B15 := F15.binds (ps := ["_law_team", "_law_one", "_law_home"]) fun _ _ _ _ _ _ us hl => match us, hl with | [_, _, _], _ => rfl
  have F16 := fun_mk (st := s_merged) l16 c16 k16
  have B16 := F16.binds (ps := ["one", "other"]) fun _ _ _ _ _ _ us hl => match us, hl with | [_, _], _ => rfl
  have F17 := fun_mk (st := s_needs) l17 c17 k17
  have B17 := F17.binds (ps := ["held", "machine", "number"]) fun _ _ _ _ _ _ us hl => match us, hl with | [_, _, _], _ => rfl
  have F18 := fun_mk (st := s__law_take_over) l18 c18 k18
  have B18 := F18.binds (ps := ["_law_team", "_law_one", "_law_other"]) fun _ _ _ _ _ _ us hl => match us, hl with | [_, _, _], _ => rfl
  have F19 := fun_mk (st := s_merge) l19 c19 k19
  have B19 := F19.binds (ps := ["page", "rows"]) fun _ _ _ _ _ _ us hl => match us, hl with | [_, _], _ => rfl
  have F20 := fun_mk (st := s__law_arrive) l20 c20 k20
  have B20 := F20.binds (ps := ["_law_team", "_law_one", "_law_home"]) fun _ _ _ _ _ _ us hl => match us, hl with | [_, _, _], _ => rfl
  have F21 := fun_mk (st := s_rows_of) l21 c21 k21
  have B21 := F21.binds (ps := ["page"]) fun _ _ _ _ _ _ us hl => match us, hl with | [_], _ => rfl
  have F22 := fun_mk (st := s_had) l22 c22 k22
  have B22 := F22.binds (ps := ["held", "clock"]) fun _ _ _ _ _ _ us hl => match us, hl with | [_, _], _ => rfl
  have F23 := fun_mk (st := s__law_asked) l23 c23 k23
  have B23 := F23.binds (ps := ["_law_team", "_law_one", "_law_home"]) fun _ _ _ _ _ _ us hl => match us, hl with | [_, _, _], _ => rfl
  have F24 := fun_mk (st := s_law) l24 c24 k24
  refine ⟨PySem.W.fnOf "law" "law" (defArgs s_law) (defBody s_law) (defScope s_law) .none kV24 dc24 pm24 an24 cd24 ct24, fun s v => .of_eq rfl, fun base _ _ => ?_⟩
  have C__law_cell : Fn l.prog w K mg base 1 "_law_cell" 2 f__law_cell := ⟨_, _, _, ok__law_cell F0 T, PySem.W.mg_of X G a0, k0, B0⟩
  have C_with_count : Fn l.prog w K mg base 1 "with_count" 3 f_with_count := ⟨_, _, _, ok_with_count F1 T, PySem.W.mg_of X G a1, k1, B1⟩
  have C_zero_clock : Fn l.prog w K mg base 1 "zero_clock" 1 f_zero_clock := ⟨_, _, _, ok_zero_clock F2 T, PySem.W.mg_of X G a2, k2, B2⟩
  have C_new_held : Fn l.prog w K mg base 2 "new_held" 1 f_new_held := ⟨_, _, _, ok_new_held F3 T C_zero_clock, PySem.W.mg_of X G a3, k3, B3⟩
  have C_new_page : Fn l.prog w K mg base 1 "new_page" 0 f_new_page := ⟨_, _, _, ok_new_page F4 T, PySem.W.mg_of X G a4, k4, B4⟩
  have C__law_machine : Fn l.prog w K mg base 3 "_law_machine" 2 f__law_machine := ⟨_, _, _, ok__law_machine F5 T C_with_count C_zero_clock C_new_held C_new_page, PySem.W.mg_of X G a5, k5, B5⟩
  have C__law_many : Fn l.prog w K mg base 1 "_law_many" 3 f__law_many := ⟨_, _, _, ok__law_many F6 T, PySem.W.mg_of X G a6, k6, B6⟩
  have C__law_digits : Fn l.prog w K mg base 1 "_law_digits" 2 f__law_digits := ⟨_, _, _, ok__law_digits F7 T, PySem.W.mg_of X G a7, k7, B7⟩
  have C_is_fresh : Fn l.prog w K mg base 1 "is_fresh" 3 f_is_fresh := ⟨_, _, _, ok_is_fresh F8 T, PySem.W.mg_of X G a8, k8, B8⟩
  have C__law_right : Fn l.prog w K mg base 1 "_law_right" 2 f__law_right := ⟨_, _, _, ok__law_right F9 T, PySem.W.mg_of X G a9, k9, B9⟩
  have C_store : Fn l.prog w K mg base 1 "store" 4 f_store := ⟨_, _, _, ok_store F10 T, PySem.W.mg_of X G a10, k10, B10⟩
  have C__law_store : Fn l.prog w K mg base 2 "_law_store" 4 f__law_store := ⟨_, _, _, ok__law_store F11 T C_is_fresh C__law_right C_store, PySem.W.mg_of X G a11, k11, B11⟩
  have C_raised : Fn l.prog w K mg base 2 "raised" 3 f_raised := ⟨_, _, _, ok_raised F12 T C_with_count, PySem.W.mg_of X G a12, k12, B12⟩
  have C_arrived : Fn l.prog w K mg base 3 "arrived" 3 f_arrived := ⟨_, _, _, ok_arrived F13 T C_raised, PySem.W.mg_of X G a13, k13, B13⟩
  have C_difference : Fn l.prog w K mg base 1 "difference" 1 f_difference := ⟨_, _, _, ok_difference F14 T, PySem.W.mg_of X G a14, k14, B14⟩
  have C__law_end : Fn l.prog w K mg base 4 "_law_end" 3 f__law_end := ⟨_, _, _, ok__law_end F15 T C_arrived C_difference C_with_count, PySem.W.mg_of X G a15, k15, B15⟩
  have C_merged : Fn l.prog w K mg base 1 "merged" 2 f_merged := ⟨_, _, _, ok_merged F16 T, PySem.W.mg_of X G a16, k16, B16⟩
  have C_needs : Fn l.prog w K mg base 3 "needs" 3 f_needs := ⟨_, _, _, ok_needs F17 T C_raised, PySem.W.mg_of X G a17, k17, B17⟩
  have C__law_take_over : Fn l.prog w K mg base 4 "_law_take_over" 3 f__law_take_over := ⟨_, _, _, ok__law_take_over F18 T C_with_count C_merged C_needs, PySem.W.mg_of X G a18, k18, B18⟩
  have C_merge : Fn l.prog w K mg base 1 "merge" 2 f_merge := ⟨_, _, _, ok_merge F19 T, PySem.W.mg_of X G a19, k19, B19⟩
  have C__law_arrive : Fn l.prog w K mg base 4 "_law_arrive" 3 f__law_arrive := ⟨_, _, _, ok__law_arrive F20 T C_merge C_arrived, PySem.W.mg_of X G a20, k20, B20⟩
  have C_rows_of : Fn l.prog w K mg base 1 "rows_of" 1 f_rows_of := ⟨_, _, _, ok_rows_of F21 T, PySem.W.mg_of X G a21, k21, B21⟩
  have C_had : Fn l.prog w K mg base 2 "had" 2 f_had := ⟨_, _, _, ok_had F22 T C_merged, PySem.W.mg_of X G a22, k22, B22⟩
  have C__law_asked : Fn l.prog w K mg base 3 "_law_asked" 3 f__law_asked := ⟨_, _, _, ok__law_asked F23 T C_is_fresh C_merge C_rows_of C_had C__law_right, PySem.W.mg_of X G a23, k23, B23⟩
  exact ok_law F24 T C__law_cell C__law_machine C__law_many C__law_digits C__law_store C__law_end C__law_take_over C__law_arrive C__law_asked C__law_right C_is_fresh
end Law

set_option maxHeartbeats 4000000
namespace Law
open PySem L2 Gx
@[simp] theorem sk_0 : PyData.strOk (Str.ofString "machine") = true := by decide +kernel
@[simp] theorem sk_1 : PyData.strOk (Str.ofString "page") = true := by decide +kernel
@[simp] theorem sk_2 : PyData.strOk (Str.ofString "held") = true := by decide +kernel
@[simp] theorem sk_3 : PyData.strOk (Str.ofString "stored") = true := by decide +kernel
@[simp] theorem sk_4 : PyData.strOk (Str.ofString "clock") = true := by decide +kernel
@[simp] theorem sk_5 : PyData.strOk (Str.ofString "letters") = true := by decide +kernel
@[simp] theorem sk_6 : PyData.strOk (Str.ofString "done") = true := by decide +kernel
@[simp] theorem sk_7 : PyData.strOk (Str.ofString "ended") = true := by decide +kernel
@[simp] theorem sk_8 : PyData.strOk (Str.ofString "need") = true := by decide +kernel
@[simp] theorem sk_9 : PyData.strOk (Str.ofString "has") = true := by decide +kernel
@[simp] theorem sn_0_1 : ¬ (Str.ofString "machine" = Str.ofString "page") := by decide +kernel
@[simp] theorem sn_0_2 : ¬ (Str.ofString "machine" = Str.ofString "held") := by decide +kernel
@[simp] theorem sn_0_3 : ¬ (Str.ofString "machine" = Str.ofString "stored") := by decide +kernel
@[simp] theorem sn_0_4 : ¬ (Str.ofString "machine" = Str.ofString "clock") := by decide +kernel
@[simp] theorem sn_0_5 : ¬ (Str.ofString "machine" = Str.ofString "letters") := by decide +kernel
@[simp] theorem sn_0_6 : ¬ (Str.ofString "machine" = Str.ofString "done") := by decide +kernel
@[simp] theorem sn_0_7 : ¬ (Str.ofString "machine" = Str.ofString "ended") := by decide +kernel
@[simp] theorem sn_0_8 : ¬ (Str.ofString "machine" = Str.ofString "need") := by decide +kernel
@[simp] theorem sn_0_9 : ¬ (Str.ofString "machine" = Str.ofString "has") := by decide +kernel
@[simp] theorem sn_1_0 : ¬ (Str.ofString "page" = Str.ofString "machine") := by decide +kernel
@[simp] theorem sn_1_2 : ¬ (Str.ofString "page" = Str.ofString "held") := by decide +kernel
@[simp] theorem sn_1_3 : ¬ (Str.ofString "page" = Str.ofString "stored") := by decide +kernel
@[simp] theorem sn_1_4 : ¬ (Str.ofString "page" = Str.ofString "clock") := by decide +kernel
@[simp] theorem sn_1_5 : ¬ (Str.ofString "page" = Str.ofString "letters") := by decide +kernel
@[simp] theorem sn_1_6 : ¬ (Str.ofString "page" = Str.ofString "done") := by decide +kernel
@[simp] theorem sn_1_7 : ¬ (Str.ofString "page" = Str.ofString "ended") := by decide +kernel
@[simp] theorem sn_1_8 : ¬ (Str.ofString "page" = Str.ofString "need") := by decide +kernel
@[simp] theorem sn_1_9 : ¬ (Str.ofString "page" = Str.ofString "has") := by decide +kernel
@[simp] theorem sn_2_0 : ¬ (Str.ofString "held" = Str.ofString "machine") := by decide +kernel
@[simp] theorem sn_2_1 : ¬ (Str.ofString "held" = Str.ofString "page") := by decide +kernel
@[simp] theorem sn_2_3 : ¬ (Str.ofString "held" = Str.ofString "stored") := by decide +kernel
@[simp] theorem sn_2_4 : ¬ (Str.ofString "held" = Str.ofString "clock") := by decide +kernel
@[simp] theorem sn_2_5 : ¬ (Str.ofString "held" = Str.ofString "letters") := by decide +kernel
@[simp] theorem sn_2_6 : ¬ (Str.ofString "held" = Str.ofString "done") := by decide +kernel
@[simp] theorem sn_2_7 : ¬ (Str.ofString "held" = Str.ofString "ended") := by decide +kernel
@[simp] theorem sn_2_8 : ¬ (Str.ofString "held" = Str.ofString "need") := by decide +kernel
@[simp] theorem sn_2_9 : ¬ (Str.ofString "held" = Str.ofString "has") := by decide +kernel
@[simp] theorem sn_3_0 : ¬ (Str.ofString "stored" = Str.ofString "machine") := by decide +kernel
@[simp] theorem sn_3_1 : ¬ (Str.ofString "stored" = Str.ofString "page") := by decide +kernel
@[simp] theorem sn_3_2 : ¬ (Str.ofString "stored" = Str.ofString "held") := by decide +kernel
@[simp] theorem sn_3_4 : ¬ (Str.ofString "stored" = Str.ofString "clock") := by decide +kernel
@[simp] theorem sn_3_5 : ¬ (Str.ofString "stored" = Str.ofString "letters") := by decide +kernel
@[simp] theorem sn_3_6 : ¬ (Str.ofString "stored" = Str.ofString "done") := by decide +kernel
@[simp] theorem sn_3_7 : ¬ (Str.ofString "stored" = Str.ofString "ended") := by decide +kernel
@[simp] theorem sn_3_8 : ¬ (Str.ofString "stored" = Str.ofString "need") := by decide +kernel
@[simp] theorem sn_3_9 : ¬ (Str.ofString "stored" = Str.ofString "has") := by decide +kernel
@[simp] theorem sn_4_0 : ¬ (Str.ofString "clock" = Str.ofString "machine") := by decide +kernel
@[simp] theorem sn_4_1 : ¬ (Str.ofString "clock" = Str.ofString "page") := by decide +kernel
@[simp] theorem sn_4_2 : ¬ (Str.ofString "clock" = Str.ofString "held") := by decide +kernel
@[simp] theorem sn_4_3 : ¬ (Str.ofString "clock" = Str.ofString "stored") := by decide +kernel
@[simp] theorem sn_4_5 : ¬ (Str.ofString "clock" = Str.ofString "letters") := by decide +kernel
@[simp] theorem sn_4_6 : ¬ (Str.ofString "clock" = Str.ofString "done") := by decide +kernel
@[simp] theorem sn_4_7 : ¬ (Str.ofString "clock" = Str.ofString "ended") := by decide +kernel
@[simp] theorem sn_4_8 : ¬ (Str.ofString "clock" = Str.ofString "need") := by decide +kernel
@[simp] theorem sn_4_9 : ¬ (Str.ofString "clock" = Str.ofString "has") := by decide +kernel
@[simp] theorem sn_5_0 : ¬ (Str.ofString "letters" = Str.ofString "machine") := by decide +kernel
@[simp] theorem sn_5_1 : ¬ (Str.ofString "letters" = Str.ofString "page") := by decide +kernel
@[simp] theorem sn_5_2 : ¬ (Str.ofString "letters" = Str.ofString "held") := by decide +kernel
@[simp] theorem sn_5_3 : ¬ (Str.ofString "letters" = Str.ofString "stored") := by decide +kernel
@[simp] theorem sn_5_4 : ¬ (Str.ofString "letters" = Str.ofString "clock") := by decide +kernel
@[simp] theorem sn_5_6 : ¬ (Str.ofString "letters" = Str.ofString "done") := by decide +kernel
@[simp] theorem sn_5_7 : ¬ (Str.ofString "letters" = Str.ofString "ended") := by decide +kernel
@[simp] theorem sn_5_8 : ¬ (Str.ofString "letters" = Str.ofString "need") := by decide +kernel
@[simp] theorem sn_5_9 : ¬ (Str.ofString "letters" = Str.ofString "has") := by decide +kernel
@[simp] theorem sn_6_0 : ¬ (Str.ofString "done" = Str.ofString "machine") := by decide +kernel
@[simp] theorem sn_6_1 : ¬ (Str.ofString "done" = Str.ofString "page") := by decide +kernel
@[simp] theorem sn_6_2 : ¬ (Str.ofString "done" = Str.ofString "held") := by decide +kernel
@[simp] theorem sn_6_3 : ¬ (Str.ofString "done" = Str.ofString "stored") := by decide +kernel
@[simp] theorem sn_6_4 : ¬ (Str.ofString "done" = Str.ofString "clock") := by decide +kernel
@[simp] theorem sn_6_5 : ¬ (Str.ofString "done" = Str.ofString "letters") := by decide +kernel
@[simp] theorem sn_6_7 : ¬ (Str.ofString "done" = Str.ofString "ended") := by decide +kernel
@[simp] theorem sn_6_8 : ¬ (Str.ofString "done" = Str.ofString "need") := by decide +kernel
@[simp] theorem sn_6_9 : ¬ (Str.ofString "done" = Str.ofString "has") := by decide +kernel
@[simp] theorem sn_7_0 : ¬ (Str.ofString "ended" = Str.ofString "machine") := by decide +kernel
@[simp] theorem sn_7_1 : ¬ (Str.ofString "ended" = Str.ofString "page") := by decide +kernel
@[simp] theorem sn_7_2 : ¬ (Str.ofString "ended" = Str.ofString "held") := by decide +kernel
@[simp] theorem sn_7_3 : ¬ (Str.ofString "ended" = Str.ofString "stored") := by decide +kernel
@[simp] theorem sn_7_4 : ¬ (Str.ofString "ended" = Str.ofString "clock") := by decide +kernel
@[simp] theorem sn_7_5 : ¬ (Str.ofString "ended" = Str.ofString "letters") := by decide +kernel
@[simp] theorem sn_7_6 : ¬ (Str.ofString "ended" = Str.ofString "done") := by decide +kernel
@[simp] theorem sn_7_8 : ¬ (Str.ofString "ended" = Str.ofString "need") := by decide +kernel
@[simp] theorem sn_7_9 : ¬ (Str.ofString "ended" = Str.ofString "has") := by decide +kernel
@[simp] theorem sn_8_0 : ¬ (Str.ofString "need" = Str.ofString "machine") := by decide +kernel
@[simp] theorem sn_8_1 : ¬ (Str.ofString "need" = Str.ofString "page") := by decide +kernel
@[simp] theorem sn_8_2 : ¬ (Str.ofString "need" = Str.ofString "held") := by decide +kernel
@[simp] theorem sn_8_3 : ¬ (Str.ofString "need" = Str.ofString "stored") := by decide +kernel
@[simp] theorem sn_8_4 : ¬ (Str.ofString "need" = Str.ofString "clock") := by decide +kernel
@[simp] theorem sn_8_5 : ¬ (Str.ofString "need" = Str.ofString "letters") := by decide +kernel
@[simp] theorem sn_8_6 : ¬ (Str.ofString "need" = Str.ofString "done") := by decide +kernel
@[simp] theorem sn_8_7 : ¬ (Str.ofString "need" = Str.ofString "ended") := by decide +kernel
@[simp] theorem sn_8_9 : ¬ (Str.ofString "need" = Str.ofString "has") := by decide +kernel
@[simp] theorem sn_9_0 : ¬ (Str.ofString "has" = Str.ofString "machine") := by decide +kernel
@[simp] theorem sn_9_1 : ¬ (Str.ofString "has" = Str.ofString "page") := by decide +kernel
@[simp] theorem sn_9_2 : ¬ (Str.ofString "has" = Str.ofString "held") := by decide +kernel
@[simp] theorem sn_9_3 : ¬ (Str.ofString "has" = Str.ofString "stored") := by decide +kernel
@[simp] theorem sn_9_4 : ¬ (Str.ofString "has" = Str.ofString "clock") := by decide +kernel
@[simp] theorem sn_9_5 : ¬ (Str.ofString "has" = Str.ofString "letters") := by decide +kernel
@[simp] theorem sn_9_6 : ¬ (Str.ofString "has" = Str.ofString "done") := by decide +kernel
@[simp] theorem sn_9_7 : ¬ (Str.ofString "has" = Str.ofString "ended") := by decide +kernel
@[simp] theorem sn_9_8 : ¬ (Str.ofString "has" = Str.ofString "need") := by decide +kernel

theorem zero_eq {m : Nat} {st : Store} (h : 1 ≤ m) (h2 : m ≤ 1000) : f_zero_clock [.int m] st = some (tI (List.replicate m 0), st) := by
  have hr : ∀ k : Nat, (List.replicate k [D.int 0]).flatten = dI (List.replicate k 0) := fun k => by
    induction k with
    | zero => rfl
    | succ k ih => rw [List.replicate_succ, List.flatten_cons, ih, List.replicate_succ]; rfl
  by_cases h1 : m = 1
  · subst h1
    simp [f_zero_clock, b_zero_clock]; rfl
  · have h3 : (2 : Int) ≤ m := by omega
    have h4 : (m : Int) ≤ 1000 := by omega
    simp [f_zero_clock, b_zero_clock, hr, h3, h4]

def zmax (a b : List Int) : List Int := List.zipWith (fun i j => if j > i then j else i) a b
theorem zmax_length {a b : List Int} (h : a.length = b.length) : (zmax a b).length = a.length := by simp [zmax, h]
theorem merged_eq {a b : List Int} {st : Store} (h : a.length = b.length) (ha : a.length ≤ 1000) : f_merged [tI a, tI b] st = some (tI (zmax a b), st) := by
  have hl : c_merged_1 [.val (tI a), .val (tI b), .none] st = some (.lst ((List.range a.length).map fun k => .int (if (b.getD k 0) > (a.getD k 0) then b.getD k 0 else a.getD k 0)), st) :=
    lc_rng (n := a.length) _ (by simp) (by omega) (fun k hk => by
      have hk' : k < b.length := by omega
      simp [hk, hk'])
  simp [f_merged, b_merged, hl]
  simp only [tI, D.tup.injEq]
  apply List.ext_getElem
  · simp [zmax, h]
  · intro i h1 h2
    simp at h1
    have hb : i < b.length := by omega
    simp [zmax, h1, hb]
theorem zmax_get {a b : List Int} (h : a.length = b.length) {i : Nat} (hi : i < a.length) : (zmax a b)[i]'(by rw [zmax_length h]; exact hi) = if b[i]'(h ▸ hi) > a[i] then b[i]'(h ▸ hi) else a[i] := by
  simp [zmax]

theorem with_eq {a : List Int} {p : Nat} {n : Int} {st : Store} (h : p < a.length) (ha : a.length ≤ 1000) : f_with_count [tI a, .int p, .int n] st = some (tI (a.set p n), st) := by
  have c : (p : Int) + 1 = ((p + 1 : Nat) : Int) := by omega
  have h1 : cutD (dI a) none (some (p : Int)) = dI (a.take p) := by
    simp only [cutD, dI_length, HT.sIx_none, HT.sIx_nat, List.drop_zero]
    rw [show min p a.length - 0 = p by omega]
    simp [dI, List.map_take]
  have h2 : cutD (dI a) (some ((p : Int) + 1)) none = dI (a.drop (p + 1)) := by
    rw [c]
    simp only [cutD, dI_length, HT.sIx_none, HT.sIx_nat]
    rw [show min (p + 1) a.length = p + 1 by omega]
    rw [List.take_of_length_le (by simp)]
    simp [dI, List.map_drop]
  simp [f_with_count, b_with_count, sliceOf, h1, h2]
  rw [if_pos (by omega)]
  simp
  rw [if_pos (by omega)]
  simp
  rw [List.set_eq_take_append_cons_drop, if_pos h]

theorem cdiv_small {i j : Int} (h : 0 < j) (h2 : j < 2 ^ 64) : cDivW i j = true := by
  unfold cDivW
  rw [decide_eq_true h, decide_eq_true]
  · rfl
  · have h3 : j.natAbs < 2 ^ 64 := by omega
    by_cases h0 : j.natAbs = 0
    · omega
    · have := (Nat.log2_lt h0).mpr h3
      omega
theorem pow18 : cPow 10 18 = true := by decide
theorem pow12 : cPow 10 12 = true := by decide
theorem digits_eq {c : Int} {bs : List Int} {st : Store} (hb : ∀ b ∈ bs, 0 < b ∧ b < 2 ^ 64) (hl : bs.length ≤ 1000) :
    ∃ ds : List Int, ds.length = bs.length ∧ (∀ i (h : i < ds.length) (h' : i < bs.length), 0 ≤ ds[i] ∧ ds[i] < bs[i]) ∧ f__law_digits [.int c, .lst (dI bs)] st = some (.lst (dI ds), st) := by
  have key : ∃ env' st', l__law_digits_1 [.val (.int c), .val (.lst (dI bs)), .own (.lst []), .val (.int c), .none, .none] st = some (.nx, env', st') ∧ _ := for_seq (st1 := st) (d := .lst (dI bs)) (xs := dI bs)
    (fun k env st' => st' = st ∧ ∃ (ds : List Int) (rest : Int) (s4 s5 : Slot), env = [.val (.int c), .val (.lst (dI bs)), .own (.lst (dI ds)), .val (.int rest), s4, s5] ∧ ds.length = k ∧ k ≤ bs.length ∧
      ∀ i (h : i < ds.length) (h' : i < bs.length), 0 ≤ ds[i] ∧ ds[i] < bs[i]) (by simp) (.inl rfl) ⟨rfl, [], c, .none, .none, rfl, rfl, Nat.zero_le _, by simp⟩ (by
      rintro k hk env st' ⟨rfl, ds, rest, s4, s5, rfl, hlen, hkb, hds⟩
      have hk' : k < bs.length := by simpa using hk
      obtain ⟨b0, b1⟩ := hb bs[k] (List.getElem_mem hk')
      have hd : ds.length < 16000000 := by omega
      have grow : ∀ x : Int, 0 ≤ x → x < bs[k] → ∀ i (h : i < (ds ++ [x]).length) (h' : i < bs.length), 0 ≤ (ds ++ [x])[i] ∧ (ds ++ [x])[i] < bs[i] := fun x h0 h1 i h h' => by
        by_cases hi : i < ds.length
        · rw [List.getElem_append_left hi]; exact hds i hi h'
        · have : i = k := by simp at h; omega
          subst this
          rw [List.getElem_append_right (by omega)]
          simp [hlen, h0, h1]
      refine ⟨_, rfl, .nx, ?_⟩
      by_cases hc : (1000000000000000000 : Int) ≤ c
      · refine ⟨[.val (.int c), .val (.lst (dI bs)), .own (.lst (dI (ds ++ [rest % bs[k]]))), .val (.int (rest / bs[k])), .val (.int bs[k]), s5], st', ?_, .inl rfl, rfl, ds ++ [rest % bs[k]], _, _, _, rfl, by simp [hlen], hk', grow _ (Int.emod_nonneg _ (by omega)) (Int.emod_lt_of_pos _ b0)⟩
        simp [b__law_digits_1, i__law_digits_1, pow18, hc, b0, hd, cdiv_small b0 b1, dI]
      · generalize hr : (rest * 48271 + 1009 * (ds.length : Int) + 12345) % 2147483647 = r
        have r0 : 0 ≤ r := by omega
        have r1 : r < 2147483647 := by omega
        have m1 : ((decide (-18446744073709551616 < r) && decide (r < 18446744073709551616)) = true) := by
          rw [decide_eq_true (by omega), decide_eq_true (by omega)]; rfl
        refine ⟨[.val (.int c), .val (.lst (dI bs)), .own (.lst (dI (ds ++ [r * r % 2147483629 / 13 % bs[k]]))), .val (.int r), .val (.int bs[k]), .val (.int (r * r % 2147483629))], st', ?_, .inl rfl, rfl, _, _, _, _, rfl, by simp [hlen], hk', grow _ (Int.emod_nonneg _ (by omega)) (Int.emod_lt_of_pos _ b0)⟩
        simp [b__law_digits_1, i__law_digits_1, pow18, hc, b0, hd, hr, cdiv_small (show (0 : Int) < 13 by decide) (by decide), dI, show -18446744073709551616 < r by omega, show r < 18446744073709551616 by omega])
  obtain ⟨env', st', h1, rfl, ds, rest, s4, s5, rfl, hlen, hkb, hds⟩ := key
  simp at hlen
  refine ⟨ds, hlen, hds, ?_⟩
  simp [f__law_digits, b__law_digits, h1]

theorem cell_eq {ns : List Int} {k : Nat} {st : Store} : f__law_cell [.lst (dI ns), .int k] st = some (.int (ns.getD k 0), st) := by
  by_cases h : k < ns.length
  · simp [f__law_cell, b__law_cell, i__law_cell_1, h]
  · simp [f__law_cell, b__law_cell, i__law_cell_1, h]
theorem cut_it (ns : List Int) : D.lst (ns.map D.int) = .lst (dI ns) := rfl

theorem many_eq {ns : List Int} {a b : Nat} {st : Store} : ∃ n : Nat, (n = a ∨ n = b) ∧ f__law_many [.lst (dI ns), .int a, .int b] st = some (.int n, st) := by
  have hcd : ∀ v : Int, cDivW v 1009 = true := fun v => cdiv_small (by decide) (by decide)
  by_cases h0 : 0 < ns.length
  · by_cases h1 : ns[0] / 1009 % 5 = 1
    · exact ⟨b, .inr rfl, by simp [f__law_many, b__law_many, i__law_many_1, h0, h1, hcd]⟩
    · exact ⟨a, .inl rfl, by simp [f__law_many, b__law_many, i__law_many_1, h0, h1, hcd]⟩
  · have : ns = [] := List.eq_nil_of_length_eq_zero (by omega)
    subst this
    exact ⟨a, .inl rfl, by simp [f__law_many, b__law_many, i__law_many_1]⟩

/-! cells, pages, rows -/
structure Cel where
  v : Int
  k : Int
  m : Int
deriving DecidableEq
def pD (f : Nat → Cel) : List D := (List.range 4).map fun p => .tup [.int (f p).v, .tup [.int (f p).k, .int (f p).m]]
def rD (r : Nat × Cel) : D := .tup [.int r.1, .int r.2.v, .tup [.int r.2.k, .int r.2.m]]
def f0 : Nat → Cel := fun _ => ⟨0, 0, 0⟩
def updC (f : Nat → Cel) (p : Nat) (c : Cel) : Nat → Cel := fun q => if q = p then c else f q
@[simp] theorem pD_len (f : Nat → Cel) : (pD f).length = 4 := by simp [pD]
@[simp] theorem pD_getE (f : Nat → Cel) (p : Nat) (h : p < (pD f).length) : (pD f)[p] = .tup [.int (f p).v, .tup [.int (f p).k, .int (f p).m]] := by simp [pD]
theorem pD_get {f : Nat → Cel} {p : Nat} (h : p < 4) : (pD f)[p]? = some (.tup [.int (f p).v, .tup [.int (f p).k, .int (f p).m]]) := by simp [pD, h]
theorem pD_set {f : Nat → Cel} {p : Nat} {a b c : Int} (h : p < 4) : (pD f).set p (.tup [.int a, .tup [.int b, .int c]]) = pD (updC f p ⟨a, b, c⟩) := by
  apply List.ext_getElem
  · simp [pD]
  · intro i h1 h2
    simp only [pD, List.getElem_set, List.getElem_map, List.getElem_range, updC]
    by_cases e : p = i
    · simp [e]
    · have e' : ¬ i = p := fun q => e q.symm
      simp [e, e']
theorem pD_ok (f : Nat → Cel) : okDs (pD f) = true := okDs_map fun x _ => by simp
theorem pD_dep (f : Nat → Cel) : depDs (pD f) ≤ 2 := depDs_map fun x _ => by simp
theorem rD_ok (l : List (Nat × Cel)) : okDs (l.map rD) = true := okDs_map fun x _ => by simp [rD]
theorem rD_dep (l : List (Nat × Cel)) : depDs (l.map rD) ≤ 2 := depDs_map fun x _ => by simp [rD]
def gtC (c d : Cel) : Bool := gGt [c.k, c.m] [d.k, d.m]
theorem gtC_eq (c d : Cel) : gtC c d = if c.k = d.k then (if c.m = d.m then false else decide (d.m < c.m)) else decide (d.k < c.k) := by simp [gtC]
def mst (f : Nat → Cel) (r : Nat × Cel) : Nat → Cel := if gtC r.2 (f r.1) = true then updC f r.1 r.2 else f
def mgs (f : Nat → Cel) (rows : List (Nat × Cel)) : Nat → Cel := rows.foldl mst f
def rowsOf (f : Nat → Cel) : List (Nat × Cel) := (List.range 4).map fun p => (p, f p)
theorem set_same {st : Store} {r : Nat} {x : SO} (h : st[r]? = some x) : st.set r x = st := by
  apply List.ext_getElem?
  intro i
  rw [List.getElem?_set]
  split
  · rename_i e
    subst e
    split
    · exact h.symm
    · rename_i q
      rw [List.getElem?_eq_none (by omega)] at h
      cases h
  · rfl
theorem mgs_take {f : Nat → Cel} {rows : List (Nat × Cel)} {i : Nat} (h : i < rows.length) : mgs f (rows.take (i + 1)) = mst (mgs f (rows.take i)) rows[i] := by
  unfold mgs
  rw [List.take_add_one, List.foldl_append]
  simp [h]

theorem merge_eq {f : Nat → Cel} {rows : List (Nat × Cel)} {r : Nat} {st : Store} (hr : st[r]? = some (.lst (pD f))) (hp : ∀ x ∈ rows, x.1 < 4) : f_merge [.ref r, .tup (rows.map rD)] st = some (.non, st.set r (.lst (pD (mgs f rows)))) := by
  have hlt : r < st.length := (List.getElem?_eq_some_iff.mp hr).1
  obtain ⟨env', st', h1, ⟨a, b, c, rfl⟩, rfl⟩ := for_seq (m := mVar 1) (g := gT 3 (gsC (gN 2) (gsC (gN 3) (gsC (gN 4) gsN)))) (body := b_merge_1) (env := [.val (.ref r), .val (.tup (rows.map rD)), .none, .none, .none]) (st := st) (st1 := st) (xs := rows.map rD)
    (fun i env s => (∃ a b c, env = [.val (.ref r), .val (.tup (rows.map rD)), a, b, c]) ∧ s = st.set r (.lst (pD (mgs f (rows.take i))))) (by simp) (.inr rfl) ⟨⟨_, _, _, rfl⟩, by simp [mgs, set_same hr]⟩ (by
      rintro i hi env s ⟨⟨a, b, c, rfl⟩, rfl⟩
      simp at hi
      have hx : rows[i].1 < 4 := hp _ (List.getElem_mem hi)
      generalize hg : mgs f (rows.take i) = g
      simp only [List.getElem_map, rD]
      refine ⟨_, rfl, .nx, ?_⟩
      by_cases hq : gtC rows[i].2 (g rows[i].1) = true
      · refine ⟨_, (st.set r (.lst (pD g))).set r (.lst (pD (updC g rows[i].1 rows[i].2))), ?_, .inl rfl, ⟨.val (.int rows[i].1), .val (.int rows[i].2.v), .val (.tup [.int rows[i].2.k, .int rows[i].2.m]), rfl⟩, ?_⟩
        · unfold gtC at hq
          simp [-gGt2, b_merge_1, i_merge_1, hlt, pD_get hx, hq, hx, pD_set hx]
        · rw [mgs_take hi, hg]
          unfold mst
          rw [if_pos hq]
          simp
      · refine ⟨_, st.set r (.lst (pD g)), ?_, .inl rfl, ⟨.val (.int rows[i].1), .val (.int rows[i].2.v), .val (.tup [.int rows[i].2.k, .int rows[i].2.m]), rfl⟩, ?_⟩
        · unfold gtC at hq
          simp [-gGt2, b_merge_1, i_merge_1, hlt, pD_get hx, hq]
        · rw [mgs_take hi, hg]
          unfold mst
          rw [if_neg hq])
  simp [f_merge, b_merge, l_merge_1, h1]

theorem new_page_eq {st : Store} : f_new_page [] st = some (.ref st.length, st ++ [.lst (pD f0)]) := by
  have e : pD f0 = [.tup [.int 0, .tup [.int 0, .int 0]], .tup [.int 0, .tup [.int 0, .int 0]], .tup [.int 0, .tup [.int 0, .int 0]], .tup [.int 0, .tup [.int 0, .int 0]]] := rfl
  rw [e]
  simp [f_new_page, b_new_page]
theorem rows_eq {f : Nat → Cel} {r : Nat} {st : Store} (hr : st[r]? = some (.lst (pD f))) : f_rows_of [.ref r] st = some (.tup ((rowsOf f).map rD), st) := by
  have hc : c_rows_of_1 [.val (.ref r), .none] st = some (.lst ((List.range 4).map fun p => rD (p, f p)), st) :=
    lc_rng (n := 4) _ (by simp) (by omega) (fun k hk => by
      simp [hr, pD_get hk, rD])
  simp [f_rows_of, b_rows_of, hc, rowsOf, Function.comp_def]

theorem store_eq {f : Nat → Cel} {r p : Nat} {v m : Int} {st : Store} (hr : st[r]? = some (.lst (pD f))) (hp : p < 4) : f_store [.ref r, .int p, .int v, .int m] st = some (.tup [.int ((f p).k + 1), .int m], st.set r (.lst (pD (updC f p ⟨v, (f p).k + 1, m⟩)))) := by
  simp [f_store, b_store, hr, pD_get hp, hp, pD_set hp]

/-! ### the row with the greatest key -/
def leC (c d : Cel) : Prop := c.k < d.k ∨ (c.k = d.k ∧ c.m ≤ d.m)
theorem gt_not {c d : Cel} (h : gtC c d = true) : leC d c := by
  rw [gtC_eq] at h
  unfold leC
  split at h
  · split at h
    · cases h
    · simp at h; omega
  · simp at h; omega
theorem ngt {c d : Cel} (h : ¬ gtC c d = true) : leC c d := by
  rw [gtC_eq] at h
  unfold leC
  split at h
  · split at h
    · omega
    · simp at h; omega
  · simp at h; omega
theorem leC.trans {a b c : Cel} (h : leC a b) (g : leC b c) : leC a c := by unfold leC at *; omega
theorem leC.refl (a : Cel) : leC a a := by unfold leC; omega
/-- c is the greatest of z and of what the rows have for p -/
structure Best (R : List (Nat × Cel)) (z : Cel) (p : Nat) (c : Cel) : Prop where
  lo : leC z c
  up : ∀ r ∈ R, r.1 = p → leC r.2 c
  one : c = z ∨ (p, c) ∈ R
theorem mgs_best : ∀ (R : List (Nat × Cel)) (f : Nat → Cel) (p : Nat), Best R (f p) p (mgs f R p)
  | [], f, p => ⟨leC.refl _, by simp, .inl rfl⟩
  | r :: R, f, p => by
    have ih := mgs_best R (mst f r) p
    have e : mgs f (r :: R) p = mgs (mst f r) R p := rfl
    rw [e]
    by_cases hp : r.1 = p
    · by_cases hg : gtC r.2 (f r.1) = true
      · have e2 : mst f r p = r.2 := by unfold mst updC; rw [if_pos hg]; simp [hp]
        rw [e2] at ih
        have g1 := gt_not hg
        rw [hp] at g1
        refine ⟨g1.trans ih.lo, ?_, ?_⟩
        · intro s hs hsp
          rcases List.mem_cons.mp hs with rfl | hs
          · exact ih.lo
          · exact ih.up s hs hsp
        · rcases ih.one with h | h
          · right; rw [h, ← hp]; simp
          · right; simp [h]
      · have e2 : mst f r p = f p := by unfold mst; rw [if_neg hg]
        rw [e2] at ih
        have g1 := ngt hg
        rw [hp] at g1
        refine ⟨ih.lo, ?_, ?_⟩
        · intro s hs hsp
          rcases List.mem_cons.mp hs with rfl | hs
          · exact g1.trans ih.lo
          · exact ih.up s hs hsp
        · rcases ih.one with h | h
          · exact .inl h
          · right; simp [h]
    · have e2 : mst f r p = f p := by
        unfold mst updC
        split
        · have : ¬ p = r.1 := fun q => hp q.symm
          simp [this]
        · rfl
      rw [e2] at ih
      refine ⟨ih.lo, ?_, ?_⟩
      · intro s hs hsp
        rcases List.mem_cons.mp hs with rfl | hs
        · exact absurd hsp hp
        · exact ih.up s hs hsp
      · rcases ih.one with h | h
        · exact .inl h
        · right; simp [h]

/-! the dict of what a copy needs and has -/
theorem nh : ¬ (Str.ofString "need" = Str.ofString "has") := by decide +kernel
theorem hn : ¬ (Str.ofString "has" = Str.ofString "need") := by decide +kernel
/-- the dict of what a copy needs and has -/
def held (need has : List Int) : SO := .dK [(.inr "need", tI need), (.inr "has", tI has)]
@[simp] theorem held_k (st : Store) (n : Nat) (need has : List Int) (h : st[n]? = some (held need has)) : stK st[n]? = some [(.inr "need", tI need), (.inr "has", tI has)] := by rw [h]; rfl
theorem val_need (a b : D) : valD [((.inr "need" : Key), a), (.inr "has", b)] (.inr "need") = some a := by simp [valD]
theorem val_has (a b : D) : valD [((.inr "need" : Key), a), (.inr "has", b)] (.inr "has") = some b := by simp [valD, nh]
theorem put_need (a b c : D) : putD [((.inr "need" : Key), a), (.inr "has", b)] (.inr "need") c = [(.inr "need", c), (.inr "has", b)] := by simp [putD, hn]
theorem put_has (a b c : D) : putD [((.inr "need" : Key), a), (.inr "has", b)] (.inr "has") c = [(.inr "need", a), (.inr "has", c)] := by simp [putD, nh]
theorem new_eq {m : Nat} {st : Store} (h : 1 ≤ m) (h2 : m ≤ 1000) : f_new_held [.int m] st = some (.ref st.length, st ++ [held (List.replicate m 0) (List.replicate m 0)]) := by
  simp [f_new_held, b_new_held, zero_eq h h2, mergeD, putD, nh, held]
theorem raised_eq {a : List Int} {p : Nat} {n : Int} {st : Store} (h : p < a.length) (ha : a.length ≤ 1000) : f_raised [tI a, .int p, .int n] st = some (tI (a.set p (if n > a[p] then n else a[p])), st) := by
  simp [f_raised, b_raised, h, with_eq h ha]
theorem needs_eq {a b : List Int} {p r : Nat} {n : Int} {st : Store} (hr : st[r]? = some (held a b)) (h : p < a.length) (ha : a.length ≤ 1000) : f_needs [.ref r, .int p, .int n] st = some (.non, st.set r (held (a.set p (if n > a[p] then n else a[p])) b)) := by
  have hr' := hr
  unfold held at hr'
  simp [f_needs, b_needs, hr', val_need, raised_eq h ha, put_need, held]
theorem arrived_eq {a b : List Int} {p r : Nat} {n : Int} {st : Store} (hr : st[r]? = some (held a b)) (h : p < b.length) (ha : b.length ≤ 1000) : f_arrived [.ref r, .int p, .int n] st = some (.non, st.set r (held a (b.set p (if n > b[p] then n else b[p])))) := by
  have hr' := hr
  unfold held at hr'
  simp [f_arrived, b_arrived, hr', val_has, raised_eq h ha, put_has, held]
theorem had_eq {a b c : List Int} {r : Nat} {st : Store} (hr : st[r]? = some (held a b)) (h : b.length = c.length) (ha : b.length ≤ 1000) : f_had [.ref r, tI c] st = some (.non, st.set r (held a (zmax b c))) := by
  have hr' := hr
  unfold held at hr'
  simp [f_had, b_had, hr', val_has, merged_eq h ha, put_has, held]
def fresh (need has : List Int) (o : Nat) : Bool := (List.range need.length).all fun k => decide (need.getD k 0 ≤ has.getD k 0) || decide (k = o)
theorem bools_map (f : Nat → Bool) : ∀ l : List Nat, bools (l.map fun k => D.bl (f k)) = some (l.map f)
  | [] => rfl
  | x :: l => by simp [bools, bools_map f l]
theorem fresh_eq {a b c : List Int} {r o : Nat} {st : Store} (hr : st[r]? = some (held a b)) (h : c.length = b.length) (ha : b.length ≤ 1000) : f_is_fresh [.ref r, tI c, .int o] st = some (.bl (fresh c b o), st) := by
  have hr' := hr
  unfold held at hr'
  have hl : c_is_fresh_1 [.val (.ref r), .val (tI c), .val (.int o), .val (tI b), .none] st = some (.lst ((List.range c.length).map fun k => .bl (decide (c.getD k 0 ≤ b.getD k 0) || decide (k = o))), st) :=
    lc_rng (n := c.length) _ (by simp) (by omega) (fun k hk => by
      have hk' : k < b.length := by omega
      by_cases h1 : c[k] ≤ b[k]
      · simp [hk, hk', h1]
      · have h2 : ((k : Int) = (o : Int)) ↔ k = o := by omega
        simp [hk, hk', h1, h2])
  simp [f_is_fresh, b_is_fresh, hr', val_has, hl, bools_map, fresh, List.all_map, Function.comp_def]

/-! machines -/
inductive Kd where | pg | hd | so | le | dn | mc
deriving DecidableEq
abbrev Ob := Nat × Kd
structure Mc where
  pg : Nat → Cel
  need : List Int
  has : List Int
  sl : List Nat
  sf : Nat → Cel
  clk : List Int
  les : List (Int × List (Nat × Cel))
  don : List (Int × (Nat × Cel))
  en : Option (List Int)
def clD (x : Cel) : D := .tup [.int x.v, .tup [.int x.k, .int x.m]]
def ent (f : Nat → Cel) (p : Nat) : Key × D := (.inl (p : Int), clD (f p))
def letD (l : Int × List (Nat × Cel)) : D := .tup [.int l.1, .tup (l.2.map rD)]
def donD (d : Int × (Nat × Cel)) : D := .tup [.int d.1, .int d.2.1, .tup [.int d.2.2.k, .int d.2.2.m]]
def enK (en : Option (List Int)) : List (Key × D) := match en with | none => [] | some e => [(.inr "ended", tI e)]
def mcK (A : Ob → Nat) (i : Nat) (clk : List Int) (en : Option (List Int)) : List (Key × D) :=
  [(.inr "machine", .int i), (.inr "page", .ref (A (i, .pg))), (.inr "held", .ref (A (i, .hd))), (.inr "stored", .ref (A (i, .so))), (.inr "clock", tI clk), (.inr "letters", .ref (A (i, .le))), (.inr "done", .ref (A (i, .dn)))] ++ enK en
def val (T : Nat → Mc) (A : Ob → Nat) : Ob → SO
  | (i, .pg) => .lst (pD (T i).pg)
  | (i, .hd) => held (T i).need (T i).has
  | (i, .so) => .dK ((T i).sl.map (ent (T i).sf))
  | (i, .le) => .lst ((T i).les.map letD)
  | (i, .dn) => .lst ((T i).don.map donD)
  | (i, .mc) => .dK (mcK A i (T i).clk (T i).en)
abbrev Ly (m : Nat) (A : Ob → Nat) (v : Ob → SO) (st : Store) : Prop := Lay (fun o : Ob => o.1 < m) A v st
def tmD (m : Nat) (A : Ob → Nat) : D := .lst ((List.range m).map fun i => .ref (A (i, .mc)))
def upv (v : Ob → SO) (o : Ob) (x : SO) : Ob → SO := fun o' => if o' = o then x else v o'
theorem Ly.up {m : Nat} {A : Ob → Nat} {v : Ob → SO} {st : Store} (H : Ly m A v st) {o : Ob} (ho : o.1 < m) (x : SO) : Ly m A (upv v o x) (st.set (A o) x) :=
  Lay.set H ho (by simp [upv]) fun o' _ hne => by simp [upv, hne]
theorem Ly.cg {m : Nat} {A : Ob → Nat} {v v' : Ob → SO} {st : Store} (H : Ly m A v st) (h : ∀ o : Ob, o.1 < m → v o = v' o) : Ly m A v' st := ⟨fun o ho => by rw [← h o ho]; exact H.at_ o ho, H.inj⟩
def upT (T : Nat → Mc) (i : Nat) (x : Mc) : Nat → Mc := fun j => if j = i then x else T j
section
variable {A : Ob → Nat} {i : Nat} {clk : List Int} {en : Option (List Int)}
@[simp] theorem k_machine : valD (mcK A i clk en) (.inr "machine") = some (.int i) := by simp [mcK, valD]
@[simp] theorem k_page : valD (mcK A i clk en) (.inr "page") = some (.ref (A (i, .pg))) := by simp [mcK, valD]
@[simp] theorem k_held : valD (mcK A i clk en) (.inr "held") = some (.ref (A (i, .hd))) := by simp [mcK, valD]
@[simp] theorem k_stored : valD (mcK A i clk en) (.inr "stored") = some (.ref (A (i, .so))) := by simp [mcK, valD]
@[simp] theorem k_clock : valD (mcK A i clk en) (.inr "clock") = some (tI clk) := by simp [mcK, valD]
@[simp] theorem k_letters : valD (mcK A i clk en) (.inr "letters") = some (.ref (A (i, .le))) := by simp [mcK, valD]
@[simp] theorem k_done : valD (mcK A i clk en) (.inr "done") = some (.ref (A (i, .dn))) := by simp [mcK, valD]
theorem k_ended : valD (mcK A i clk en) (.inr "ended") = en.map tI := by cases en <;> simp [mcK, enK, valD]
theorem mcK_len : (mcK A i clk en).length ≤ 8 := by cases en <;> simp [mcK, enK]
theorem p_clock (c : List Int) : putD (mcK A i clk en) (.inr "clock") (tI c) = mcK A i c en := by cases en <;> simp [mcK, enK, putD]
theorem p_ended (c : List Int) : putD (mcK A i clk en) (.inr "ended") (tI c) = mcK A i clk (some c) := by cases en <;> simp [mcK, enK, putD]
theorem p_stored (n : Nat) : putD (mcK A i clk en) (.inr "stored") (.ref n) = mcK (fun o => if o = (i, .so) then n else A o) i clk en := by cases en <;> simp [mcK, enK, putD]
end
theorem put_ent {sl : List Nat} {sf : Nat → Cel} {p : Nat} {c : Cel} : putD (sl.map (ent sf)) (.inl (p : Int)) (clD c) = (if p ∈ sl then sl else sl ++ [p]).map (ent (updC sf p c)) := by
  have hm : ((sl.map (ent sf)).any fun kv => decide (kv.1 = (.inl (p : Int) : Key))) = true ↔ p ∈ sl := by
    rw [List.any_eq_true]
    constructor
    · rintro ⟨x, hx, he⟩
      obtain ⟨q, hq, rfl⟩ := List.mem_map.mp hx
      simp [ent] at he
      have : q = p := by omega
      exact this ▸ hq
    · intro h
      exact ⟨ent sf p, List.mem_map.mpr ⟨p, h, rfl⟩, by simp [ent]⟩
  unfold putD
  by_cases h : p ∈ sl
  · rw [if_pos (hm.mpr h), if_pos h, List.map_map]
    apply List.map_congr_left
    intro q hq
    by_cases e : q = p
    · subst e; simp [ent, updC]
    · have e2 : ¬ ((q : Int) = (p : Int)) := by omega
      simp [ent, updC, e, e2]
  · rw [if_neg (fun q => h (hm.mp q)), if_neg h, List.map_append]
    congr 1
    · apply List.map_congr_left
      intro q hq
      have e : ¬ q = p := fun e => h (e ▸ hq)
      simp [ent, updC, e]
    · simp [ent, updC]
theorem val_ent {sf : Nat → Cel} {p : Nat} : ∀ {sl : List Nat}, p ∈ sl → valD (sl.map (ent sf)) (.inl (p : Int)) = some (clD (sf p))
  | q :: sl, h => by
    unfold valD
    rw [List.map_cons, List.find?_cons]
    by_cases e : q = p
    · subst e; simp [ent]
    · have e1 : ¬ ((q : Int) = (p : Int)) := by omega
      have ih := val_ent (sf := sf) (p := p) (sl := sl) (by
        rcases List.mem_cons.mp h with h | h
        · exact absurd h.symm e
        · exact h)
      unfold valD at ih
      simp only [ent, Sum.inl.injEq, e1, decide_false]
      exact ih
section
variable {m : Nat} {A : Ob → Nat} {T : Nat → Mc} {st : Store} {i j : Nat}
theorem g_mc (H : Ly m A (val T A) st) (hi : i < m) : st[A (i, .mc)]? = some (.dK (mcK A i (T i).clk (T i).en)) := H.at_ (i, .mc) hi
theorem g_pg (H : Ly m A (val T A) st) (hi : i < m) : st[A (i, .pg)]? = some (.lst (pD (T i).pg)) := H.at_ (i, .pg) hi
theorem g_hd (H : Ly m A (val T A) st) (hi : i < m) : st[A (i, .hd)]? = some (held (T i).need (T i).has) := H.at_ (i, .hd) hi
theorem g_so (H : Ly m A (val T A) st) (hi : i < m) : st[A (i, .so)]? = some (.dK ((T i).sl.map (ent (T i).sf))) := H.at_ (i, .so) hi
theorem g_le (H : Ly m A (val T A) st) (hi : i < m) : st[A (i, .le)]? = some (.lst ((T i).les.map letD)) := H.at_ (i, .le) hi
theorem g_dn (H : Ly m A (val T A) st) (hi : i < m) : st[A (i, .dn)]? = some (.lst ((T i).don.map donD)) := H.at_ (i, .dn) hi
/-! right -/
theorem right_in (H : Ly m A (val T A) st) (hi : i < m) (hj : j < m) (hc : j < (T i).clk.length) (h : ∀ d ∈ (T j).don, d.2.1 < 4 ∧ (d.1 ≤ (T i).clk[j] → gtC d.2.2 ((T i).pg d.2.1) = false)) {s0 s3 s4 s5 : Slot} :
    ∃ t3 t4 t5, l__law_right_1 [s0, .val (.ref (A (i, .mc))), .val (.ref (A (j, .mc))), s3, s4, s5] st = some (.nx, [s0, .val (.ref (A (i, .mc))), .val (.ref (A (j, .mc))), t3, t4, t5], st) := by
  have e1 := g_mc H hi
  have e2 := g_mc H hj
  have e3 := g_dn H hj
  have e4 := g_pg H hi
  obtain ⟨env', st', h1, rfl, t3, t4, t5, rfl⟩ := for_seqR (m := mIx (mVar 2) (mC (.str "done"))) (g := gT 3 (gsC (gN 3) (gsC (gN 4) (gsC (gN 5) gsN)))) (body := b__law_right_1) (env := [s0, .val (.ref (A (i, .mc))), .val (.ref (A (j, .mc))), s3, s4, s5]) (st := st) (st1 := st) (d := .ref (A (j, .dn))) (xs := (T j).don.map donD)
    (fun k env st' => st' = st ∧ ∃ t3 t4 t5, env = [s0, .val (.ref (A (i, .mc))), .val (.ref (A (j, .mc))), t3, t4, t5]) (by simp [e2]) ⟨rfl, _, _, _, rfl⟩ (by rintro k env st' ⟨rfl, _⟩; simp [e3]) (by
      rintro k hk env st' ⟨rfl, t3, t4, t5, rfl⟩
      have hk' : k < (T j).don.length := by simpa using hk
      obtain ⟨hp, hg⟩ := h _ (List.getElem_mem hk')
      rw [List.getElem_map]
      generalize (T j).don[k] = d at hp hg ⊢
      obtain ⟨n, p, c⟩ := d
      dsimp only at hp hg
      refine ⟨[s0, .val (.ref (A (i, .mc))), .val (.ref (A (j, .mc))), .val (.int n), .val (.int p), .val (.tup [.int c.k, .int c.m])], rfl, .nx, [s0, .val (.ref (A (i, .mc))), .val (.ref (A (j, .mc))), .val (.int n), .val (.int p), .val (.tup [.int c.k, .int c.m])], st', ?_, .inl rfl, rfl, _, _, _, rfl⟩
      by_cases hq : n ≤ (T i).clk[j]
      · have hg := hg hq
        unfold gtC at hg
        simp [-gGt2, b__law_right_1, i__law_right_1, e1, e2, e4, hc, hq, pD_get hp, hg]
      · simp [-gGt2, b__law_right_1, i__law_right_1, e1, e2, e4, hc, hq])
  refine ⟨t3, t4, t5, ?_⟩
  unfold l__law_right_1
  exact h1
theorem right_eq (H : Ly m A (val T A) st) (hi : i < m) (hc : (T i).clk.length = m) (h : ∀ j, j < m → ∀ d ∈ (T j).don, d.2.1 < 4 ∧ (d.1 ≤ (T i).clk.getD j 0 → gtC d.2.2 ((T i).pg d.2.1) = false)) :
    f__law_right [tmD m A, .ref (A (i, .mc))] st = some (.bl true, st) := by
  obtain ⟨env', st', h1, rfl, t2, t3, t4, t5, rfl⟩ := for_seq (m := mVar 0) (g := gN 2) (body := b__law_right_2) (env := [.val (tmD m A), .val (.ref (A (i, .mc))), .none, .none, .none, .none]) (st := st) (st1 := st) (d := tmD m A) (xs := (List.range m).map fun i => .ref (A (i, .mc)))
    (fun k env st' => st' = st ∧ ∃ t2 t3 t4 t5, env = [.val (tmD m A), .val (.ref (A (i, .mc))), t2, t3, t4, t5]) (by simp) (.inl rfl) ⟨rfl, _, _, _, _, rfl⟩ (by
      rintro k hk env st' ⟨rfl, t2, t3, t4, t5, rfl⟩
      have hk' : k < m := by simpa using hk
      obtain ⟨u3, u4, u5, hh⟩ := right_in (s0 := .val (tmD m A)) (s3 := t3) (s4 := t4) (s5 := t5) H hi hk' (by omega) (fun d hd => by
        obtain ⟨a, b⟩ := h k hk' d hd
        rw [List.getD_eq_getElem?_getD, List.getElem?_eq_getElem (by omega)] at b
        exact ⟨a, b⟩)
      refine ⟨[.val (tmD m A), .val (.ref (A (i, .mc))), .val (.ref (A (k, .mc))), t3, t4, t5], by simp [gN], .nx, _, _, hh, .inl rfl, rfl, _, _, _, _, rfl⟩)
  have h2 : l__law_right_2 [.val (tmD m A), .val (.ref (A (i, .mc))), .none, .none, .none, .none] st' = some (.nx, [.val (tmD m A), .val (.ref (A (i, .mc))), t2, t3, t4, t5], st') := by
    unfold l__law_right_2; exact h1
  simp [f__law_right, b__law_right, h2]
end
end Law

set_option maxHeartbeats 4000000
namespace Law
open PySem L2 Gx
theorem dlt2 (a b c d : Int) : PySem.W.dataLt (.tuple [.int a, .int b]) (.tuple [.int c, .int d]) = decide (a < c ∨ (a = c ∧ b < d)) := by
  rw [PySem.W.dataLt_tuple, PySem.W.dataLt_cons (by simp [PySem.W.alike])]
  by_cases h : a = c
  · rw [if_pos (by simp [PyData.eqv, h]), PySem.W.dataLt_cons (by simp [PySem.W.alike])]
    by_cases h2 : b = d
    · rw [if_pos (by simp [PyData.eqv, h2])]
      rw [decide_eq_false (by omega)]
      exact PyProof.Rows.lex_irrefl _
    · rw [if_neg (by simp [PyData.eqv, h2]), PySem.W.dataLt_int]
      exact decide_eq_decide.mpr (by omega)
  · rw [if_neg (by simp [PyData.eqv, h]), PySem.W.dataLt_int]
    exact decide_eq_decide.mpr (by omega)
theorem ge_key {a b c d : Int} {env : Gx.Env} {st : Store} : f2GeD env st (.d (.tup [.int a, .int b])) (.d (.tup [.int c, .int d])) = some (.d (.bl (!decide (a < c ∨ (a = c ∧ b < d)))), st) := by
  unfold f2GeD
  have e : ∀ x y : Int, toP dr0 (.tup [.int x, .int y]) = some (.tuple [.int x, .int y]) := fun _ _ => rfl
  dsimp only
  rw [e, e]
  dsimp only
  rw [if_pos (by simp [PySem.W.alike, PySem.W.alikeAll, notNone, PyData.depth, PyData.depthAll]), dlt2]
theorem leC_gt {c d : Cel} (h : leC c d) : gtC c d = false := by
  rw [gtC_eq]
  unfold leC at h
  split
  · split
    · rfl
    · simp; omega
  · simp; omega
section
variable {m : Nat} {A : Ob → Nat} {T : Nat → Mc} {st : Store} {i j : Nat}
theorem Ly.get {v : Ob → SO} {o : Ob} {x : SO} (H : Ly m A v st) (ho : o.1 < m) (h : v o = x) : st[A o]? = some x := by rw [← h]; exact H.at_ o ho
/-! store -/
def stM (x : Mc) (i p : Nat) (v : Int) : Mc := { x with pg := updC x.pg p ⟨v, (x.pg p).k + 1, i⟩, sl := if p ∈ x.sl then x.sl else x.sl ++ [p], sf := updC x.sf p ⟨v, (x.pg p).k + 1, i⟩ }
theorem store_in {clk ck : List Int} {en ek : Option (List Int)} {don : List (Int × (Nat × Cel))} {p : Nat} {a b : Int} (e1 : st[A (i, .mc)]? = some (.dK (mcK A i clk en))) (e2 : st[A (j, .mc)]? = some (.dK (mcK A j ck ek))) (e3 : st[A (j, .dn)]? = some (.lst (don.map donD))) (hc : j < clk.length)
    (h : ∀ d ∈ don, d.2.1 = p → d.1 ≤ clk[j] → (d.2.2.k < a ∨ (d.2.2.k = a ∧ d.2.2.m < b))) {s0 s3 s5 s7 s8 s9 : Slot} :
    ∃ t7 t8 t9, l__law_store_1 [s0, .val (.ref (A (i, .mc))), .val (.int p), s3, .val (.tup [.int a, .int b]), s5, .val (.ref (A (j, .mc))), s7, s8, s9] st = some (.nx, [s0, .val (.ref (A (i, .mc))), .val (.int p), s3, .val (.tup [.int a, .int b]), s5, .val (.ref (A (j, .mc))), t7, t8, t9], st) := by
  obtain ⟨env', st', h1, rfl, t7, t8, t9, rfl⟩ := for_seqR (m := mIx (mVar 6) (mC (.str "done"))) (g := gT 3 (gsC (gN 7) (gsC (gN 8) (gsC (gN 9) gsN)))) (body := b__law_store_1) (env := [s0, .val (.ref (A (i, .mc))), .val (.int p), s3, .val (.tup [.int a, .int b]), s5, .val (.ref (A (j, .mc))), s7, s8, s9]) (st := st) (st1 := st) (d := .ref (A (j, .dn))) (xs := don.map donD)
    (fun k env st' => st' = st ∧ ∃ t7 t8 t9, env = [s0, .val (.ref (A (i, .mc))), .val (.int p), s3, .val (.tup [.int a, .int b]), s5, .val (.ref (A (j, .mc))), t7, t8, t9]) (by simp [e2]) ⟨rfl, _, _, _, rfl⟩ (by rintro k env st' ⟨rfl, _⟩; simp [e3]) (by
      rintro k hk env st' ⟨rfl, t7, t8, t9, rfl⟩
      have hk' : k < don.length := by simpa using hk
      have hg := h _ (List.getElem_mem hk')
      rw [List.getElem_map]
      generalize don[k] = d at hg ⊢
      obtain ⟨n, q, c⟩ := d
      dsimp only at hg
      refine ⟨[s0, .val (.ref (A (i, .mc))), .val (.int p), s3, .val (.tup [.int a, .int b]), s5, .val (.ref (A (j, .mc))), .val (.int n), .val (.int q), .val (.tup [.int c.k, .int c.m])], rfl, .nx, [s0, .val (.ref (A (i, .mc))), .val (.int p), s3, .val (.tup [.int a, .int b]), s5, .val (.ref (A (j, .mc))), .val (.int n), .val (.int q), .val (.tup [.int c.k, .int c.m])], st', ?_, .inl rfl, rfl, _, _, _, rfl⟩
      by_cases hq : q = p
      · subst hq
        by_cases hn : n ≤ clk[j]
        · have hg := hg rfl hn
          simp [b__law_store_1, i__law_store_2, e1, e2, hc, hn, ge_key, hg]
        · simp [b__law_store_1, i__law_store_2, e1, e2, hc, hn]
      · have hq' : ¬ ((q : Int) = (p : Int)) := by omega
        simp [b__law_store_1, i__law_store_2, e1, e2, hc, hq'])
  refine ⟨t7, t8, t9, ?_⟩
  unfold l__law_store_1
  exact h1
theorem store_all {clk : List Int} {en : Option (List Int)} {p : Nat} {a b : Int} (e1 : st[A (i, .mc)]? = some (.dK (mcK A i clk en))) (e2 : ∀ j, j < m → ∃ ck ek, st[A (j, .mc)]? = some (.dK (mcK A j ck ek))) (e3 : ∀ j, j < m → st[A (j, .dn)]? = some (.lst ((T j).don.map donD))) (hc : clk.length = m)
    (h : ∀ j, j < m → ∀ d ∈ (T j).don, d.2.1 = p → d.1 ≤ clk.getD j 0 → (d.2.2.k < a ∨ (d.2.2.k = a ∧ d.2.2.m < b))) {s3 s5 s6 s7 s8 s9 : Slot} :
    ∃ t6 t7 t8 t9, l__law_store_2 [.val (tmD m A), .val (.ref (A (i, .mc))), .val (.int p), s3, .val (.tup [.int a, .int b]), s5, s6, s7, s8, s9] st = some (.nx, [.val (tmD m A), .val (.ref (A (i, .mc))), .val (.int p), s3, .val (.tup [.int a, .int b]), s5, t6, t7, t8, t9], st) := by
  obtain ⟨env', st', h1, rfl, t6, t7, t8, t9, rfl⟩ := for_seq (m := mVar 0) (g := gN 6) (body := b__law_store_2) (env := [.val (tmD m A), .val (.ref (A (i, .mc))), .val (.int p), s3, .val (.tup [.int a, .int b]), s5, s6, s7, s8, s9]) (st := st) (st1 := st) (d := tmD m A) (xs := (List.range m).map fun i => .ref (A (i, .mc)))
    (fun k env st' => st' = st ∧ ∃ t6 t7 t8 t9, env = [.val (tmD m A), .val (.ref (A (i, .mc))), .val (.int p), s3, .val (.tup [.int a, .int b]), s5, t6, t7, t8, t9]) (by simp) (.inl rfl) ⟨rfl, _, _, _, _, rfl⟩ (by
      rintro k hk env st' ⟨rfl, t6, t7, t8, t9, rfl⟩
      have hk' : k < m := by simpa using hk
      obtain ⟨ck, ek, e2⟩ := e2 k hk'
      obtain ⟨u7, u8, u9, hh⟩ := store_in (s0 := .val (tmD m A)) (s3 := s3) (s5 := s5) (s7 := t7) (s8 := t8) (s9 := t9) e1 e2 (e3 k hk') (by omega) (fun d hd q1 q2 => h k hk' d hd q1 (by rw [List.getD_eq_getElem?_getD, List.getElem?_eq_getElem (by omega)]; exact q2))
      refine ⟨[.val (tmD m A), .val (.ref (A (i, .mc))), .val (.int p), s3, .val (.tup [.int a, .int b]), s5, .val (.ref (A (k, .mc))), t7, t8, t9], by simp [gN], .nx, _, _, hh, .inl rfl, rfl, _, _, _, _, rfl⟩)
  exact ⟨t6, t7, t8, t9, by unfold l__law_store_2; exact h1⟩
theorem lstore_eq (H : Ly m A (val T A) st) (hi : i < m) (hm : m ≤ 8) (hc : (T i).clk.length = m) (hnl : (T i).need.length = m) (hhl : (T i).has.length = m) (hsl : (T i).sl.length ≤ 1000) {p : Nat} {v : Int} (hp : p < 4) (hd : ∀ j, j < m → ∀ d ∈ (T j).don, d.2.1 < 4)
    (hr : fresh (T i).need (T i).has i = true → ∀ j, j < m → ∀ d ∈ (T j).don, d.1 ≤ (T i).clk.getD j 0 → leC d.2.2 ((T i).pg d.2.1)) :
    ∃ st', f__law_store [tmD m A, .ref (A (i, .mc)), .int p, .int v] st = some (.bl true, st') ∧ Ly m A (val (if fresh (T i).need (T i).has i = true then upT T i (stM (T i) i p v) else T) A) st' := by
  have e1 := g_mc H hi
  have e2 := g_hd H hi
  have e2' := e2
  unfold held at e2'
  have hf := fresh_eq (r := A (i, .hd)) (o := i) (c := (T i).need) e2 (by omega) (by omega)
  cases hfr : fresh (T i).need (T i).has i with
  | false =>
    rw [hfr] at hf
    refine ⟨st, ?_, by simpa using H⟩
    simp [f__law_store, b__law_store, i__law_store_3, e1, e2', val_need, hf]
  | true =>
    rw [hfr] at hf hr
    have hr := hr rfl
    have hright := right_eq H hi hc fun j hj d hdm => ⟨hd j hj d hdm, fun hle => leC_gt (hr j hj d hdm hle)⟩
    have hst := store_eq (v := v) (m := (i : Int)) (g_pg H hi) hp
    generalize hcel : (⟨v, ((T i).pg p).k + 1, i⟩ : Cel) = cel at hst
    have hk : ((T i).pg p).k + 1 = cel.k := by rw [← hcel]
    have hmm : (i : Int) = cel.m := by rw [← hcel]
    have hv : v = cel.v := by rw [← hcel]
    have H1 := Ly.up H (o := (i, .pg)) hi (.lst (pD (updC (T i).pg p cel)))
    generalize hs1 : st.set (A (i, .pg)) (.lst (pD (updC (T i).pg p cel))) = st1 at hst H1
    have f1 : st1[A (i, .mc)]? = some (.dK (mcK A i (T i).clk (T i).en)) := Ly.get H1 (o := (i, .mc)) hi (by simp [upv, val])
    have f2 : st1[A (i, .so)]? = some (.dK ((T i).sl.map (ent (T i).sf))) := Ly.get H1 (o := (i, .so)) hi (by simp [upv, val])
    have H2 := Ly.up H1 (o := (i, .so)) hi (.dK ((if p ∈ (T i).sl then (T i).sl else (T i).sl ++ [p]).map (ent (updC (T i).sf p cel))))
    have hput : putD ((T i).sl.map (ent (T i).sf)) (.inl (p : Int)) (.tup [.int v, .tup [.int (((T i).pg p).k + 1), .int i]]) = (if p ∈ (T i).sl then (T i).sl else (T i).sl ++ [p]).map (ent (updC (T i).sf p cel)) := by
      rw [hv, hk, hmm]
      exact put_ent (c := cel)
    generalize hs2 : st1.set (A (i, .so)) (.dK ((if p ∈ (T i).sl then (T i).sl else (T i).sl ++ [p]).map (ent (updC (T i).sf p cel)))) = st2 at H2
    obtain ⟨t6, t7, t8, t9, hall⟩ := store_all (T := T) (a := ((T i).pg p).k + 1) (b := (i : Int)) (s3 := .val (.int v)) (s5 := .val (.ref (A (i, .so)))) (s6 := .none) (s7 := .none) (s8 := .none) (s9 := .none) (p := p) (Ly.get H2 (o := (i, .mc)) hi (by simp [upv, val]; rfl)) (fun j hj => ⟨(T j).clk, (T j).en, Ly.get H2 (o := (j, .mc)) hj (by simp [upv, val])⟩) (fun j hj => Ly.get H2 (o := (j, .dn)) hj (by simp [upv, val])) hc (fun j hj d hdm q1 q2 => by
      have := hr j hj d hdm q2
      rw [q1] at this
      unfold leC at this
      omega)
    have hls : ((T i).sl.map (ent (T i).sf)).length < 16000000 := by simp; omega
    refine ⟨st2, ?_, ?_⟩
    · have hmst : mStIx (mVar 5) (mVar 2) (mTup (mCons (mVar 3) (mCons (mVar 4) mNil))) [.val (tmD m A), .val (.ref (A (i, .mc))), .val (.int p), .val (.int v), .val (.tup [.int (((T i).pg p).k + 1), .int i]), .val (.ref (A (i, .so))), .none, .none, .none, .none] st1 = some (.nx, [.val (tmD m A), .val (.ref (A (i, .mc))), .val (.int p), .val (.int v), .val (.tup [.int (((T i).pg p).k + 1), .int i]), .val (.ref (A (i, .so))), .none, .none, .none, .none], st2) := by
        have hsl' : (T i).sl.length < 16000000 := by omega
        simp [f2, hsl', hput, hs2]
      simp [-ev_mStIx, f__law_store, b__law_store, i__law_store_3, i__law_store_1, e1, e2', val_need, hf, hright, hst, f1, hmst, hall]
    · refine Ly.cg H2 ?_
      rintro ⟨j, k⟩ hj
      rw [if_pos rfl]
      by_cases hji : j = i
      · subst hji
        cases k <;> simp [upv, val, upT, stM, hcel]
      · cases k <;> simp [upv, val, upT, hji]
end
end Law

set_option maxHeartbeats 4000000
namespace Law
open PySem L2 Gx
theorem forK_eq {mi : ME} {g : MG} {body : MS} {env : Gx.Env} {st st0 st1 : Store} {n : Nat} {kvs : List (Key × D)} (h1 : mi env st = some (.d (.ref n), st0)) (hn : st[n]? = some (.dK kvs)) (h2 : mi env (st.set n (.dF kvs)) = some (.d (.ref n), st1)) (h3 : st1 = st.set n (.dF kvs)) (no : noOwn env = true)
    (I : Nat → Gx.Env → Store → Prop) (h0 : I 0 env (st.set n (.dF kvs))) (hI : ∀ i env st, I i env st → st[n]? = some (.dF kvs))
    (hs : ∀ (k : Nat) (hk : k < kvs.length) env st, I k env st → ∃ env1, g (kyD kvs[k].1) env = some env1 ∧ ∃ f env2 st2, body env1 st = some (f, env2, st2) ∧ (f = .nx ∨ f = .ct) ∧ I (k + 1) env2 st2) :
    ∃ env' st', mForK mi g body env st = some (.nx, env', st'.set n (.dK kvs)) ∧ I kvs.length env' st' := by
  subst h3
  obtain ⟨env', st', h4, h5⟩ := forGo_inv (g := g) (body := body) (chk := fun _ st => decide (st[n]? = some (.dF kvs))) I (kvs.map fun p => kyD p.1) 0 env _ h0 (fun i e s q => decide_eq_true (hI i e s q)) (fun i hi e s q => by
    have hi' : i < kvs.length := by simpa using hi
    have := hs i hi' e s (by simpa using q)
    simpa using this)
  rw [Nat.zero_add, List.length_map] at h5
  refine ⟨env', st', ?_, h5⟩
  unfold mForK
  rw [h1]
  dsimp only
  rw [hn]
  dsimp only
  rw [h2]
  dsimp only
  rw [if_pos ⟨rfl, rfl, no⟩, h4]
  dsimp only
  rw [if_pos (hI _ _ _ h5)]
@[simp] theorem stL_dF (xs) : stL (some (.dF xs)) = none := (rfl)
theorem dict_noP {env : Gx.Env} {st : Store} {n : Nat} {ks : List (Key × D)} (h : st[n]? = some (.dK ks)) : toPR env st (.d (.ref n)) = none := by
  show dr2 st n = none
  unfold dr2 drS
  rw [h]
theorem ne_empty1 {env : Gx.Env} {st : Store} {n : Nat} {ks : List (Key × D)} (h : st[n]? = some (.dK ks)) (neg : Bool) (y : R) : f2Eq neg env st (.d (.ref n)) y = none := by
  unfold f2Eq
  rw [dict_noP h]
theorem ne_empty2 {env : Gx.Env} {st : Store} {n : Nat} {ks : List (Key × D)} (h : st[n]? = some (.dK ks)) (h0 : ks ≠ []) : f2EqK true env st (.d (.ref n)) (.d (.dct [] [])) = none := by
  have ek : asK env st (.d (.ref n)) = some ks := by simp [h]
  have ez : asK env st (.d (.dct [] [])) = some [] := rfl
  unfold f2EqK
  rw [ek, ez]
  dsimp only
  rw [if_neg (fun q => h0 (List.eq_nil_of_length_eq_zero q.1))]
theorem ne_empty3 {env : Gx.Env} {st : Store} {n : Nat} {ks : List (Key × D)} (h : st[n]? = some (.dK ks)) (h0 : ks ≠ []) : f2Dq true env st (.d (.ref n)) (.d (.dct [] [])) = some (.d (.bl true), st) := by
  have ek : asK env st (.d (.ref n)) = some ks := by simp [h]
  unfold f2Dq
  dsimp only
  rw [ek]
  dsimp only
  exact if_pos (fun q => h0 (List.eq_nil_of_length_eq_zero q))
theorem empty2 {env : Gx.Env} {st : Store} {n : Nat} (h : st[n]? = some (.dK [])) : f2EqK true env st (.d (.ref n)) (.d (.dct [] [])) = some (.d (.bl false), st) := by
  have ek : asK env st (.d (.ref n)) = some [] := by simp [h]
  have ez : asK env st (.d (.dct [] [])) = some [] := rfl
  unfold f2EqK
  rw [ek, ez]
  simp
def srt (sl : List Nat) : List Nat := ((sl.map fun (p : Nat) => (p : Int)).mergeSort fun i j => decide (i ≤ j)).map Int.toNat
theorem srt_cast (sl : List Nat) : (srt sl).map (fun (p : Nat) => (p : Int)) = (sl.map fun (p : Nat) => (p : Int)).mergeSort fun i j => decide (i ≤ j) := by
  unfold srt
  rw [List.map_map]
  refine (List.map_congr_left fun x hx => ?_).trans (List.map_id _)
  have := (List.mergeSort_perm _ _).mem_iff.mp hx
  obtain ⟨p, _, rfl⟩ := List.mem_map.mp this
  simp
theorem srt_mem {sl : List Nat} {p : Nat} : p ∈ srt sl ↔ p ∈ sl := by
  have h : (p : Int) ∈ (srt sl).map (fun (p : Nat) => (p : Int)) ↔ (p : Int) ∈ sl.map fun (p : Nat) => (p : Int) := by
    rw [srt_cast]
    exact (List.mergeSort_perm _ _).mem_iff
  have c : ∀ l : List Nat, (p : Int) ∈ l.map (fun (p : Nat) => (p : Int)) ↔ p ∈ l := fun l => by
    constructor
    · intro h
      obtain ⟨q, hq, e⟩ := List.mem_map.mp h
      have : q = p := by omega
      exact this ▸ hq
    · intro h
      exact List.mem_map.mpr ⟨p, h, rfl⟩
  rw [c, c] at h
  exact h
theorem srt_len (sl : List Nat) : (srt sl).length = sl.length := by
  unfold srt
  rw [List.length_map, List.length_mergeSort, List.length_map]
theorem keys_ent (f : Nat → Cel) : ∀ L : List Nat, intKeys ((L.map (ent f)).map (·.1)) = some (L.map fun (p : Nat) => (p : Int))
  | [] => rfl
  | q :: L => by
    have ih := keys_ent f L
    simp only [List.map_cons, intKeys, ent, intKey] at ih ⊢
    rw [ih]
theorem diff_eq {sl : List Nat} {sf : Nat → Cel} {n : Nat} {st : Store} (h : st[n]? = some (.dK (sl.map (ent sf)))) (hl : sl.length < 64) : f_difference [.ref n] st = some (.tup (((srt sl).map fun p => (p, sf p)).map rD), st) := by
  have hso : ∀ env, f1Sort env st (.d (.ref n)) = some (.lst ((srt sl).map fun (p : Nat) => .int p)) := fun env => by
    unfold f1Sort
    have e1 : asL env st (.d (.ref n)) = none := by simp [h]
    have e2 : asK env st (.d (.ref n)) = some (sl.map (ent sf)) := by simp [h]
    rw [e1, e2]
    dsimp only
    rw [keys_ent]
    dsimp only
    rw [if_pos (by simpa using hl), ← srt_cast, List.map_map]
    rfl
  have hc : c_difference_1 [.val (.ref n), .none] st = some (.lst ((srt sl).map fun p => rD (p, sf p)), st) :=
    lc_seqA (g := fun (p : Nat) => D.int p) (l := srt sl) (d0 := .lst ((srt sl).map fun (p : Nat) => .int p)) (st1 := st) _ (by simp [hso]) (.inl rfl) (by rw [srt_len]; omega) (fun p hp => by
      simp [h, val_ent (srt_mem.mp hp), clD, rD])
  simp [f_difference, b_difference, hc, Function.comp_def]
section
variable {m : Nat} {A : Ob → Nat} {T : Nat → Mc} {st : Store} {i j : Nat}
/-! end -/
def rs (l : List Int) (p : Nat) (n : Int) : List Int := l.set p (if n > l.getD p 0 then n else l.getD p 0)
def endN (x : Mc) (i h : Nat) (n : Int) : Mc :=
  if x.sl = [] then { x with en := some x.clk, clk := x.clk.set i (n + 1) }
  else { x with sl := [], don := x.don ++ x.sl.map (fun p => (n, (p, x.sf p))), has := rs x.has i n, les := if i = h then x.les else x.les ++ [(n, (srt x.sl).map fun p => (p, x.sf p))], en := some x.clk, clk := x.clk.set i (n + 1) }
def endM (x : Mc) (i h : Nat) : Mc := endN x i h (x.clk.getD i 0)
theorem end_one (H : Ly m A (val T A) st) (hi : i < m) (hhl : (T i).has.length = m) (hm : m ≤ 8) (hsl : (T i).sl.length ≤ 60) (hdl : (T i).don.length ≤ 10000000) (hll : (T i).les.length ≤ 10000000) (hs0 : (T i).sl ≠ []) {h : Nat} {num : Int} :
    ∃ st' s5 s6 s7, i__law_end_2 [.val (tmD m A), .val (.ref (A (i, .mc))), .val (.int h), .val (.int i), .val (.int num), .none, .none, .none] st = some (.nx, [.val (tmD m A), .val (.ref (A (i, .mc))), .val (.int h), .val (.int i), .val (.int num), s5, s6, s7], st') ∧ (∀ so, s6 ≠ .own so) ∧ (∀ so, s7 ≠ .own so) ∧
      Ly m A (upv (upv (upv (val T A) (i, .dn) (.lst (((T i).don ++ (T i).sl.map (fun p => (num, (p, (T i).sf p)))).map donD))) (i, .hd) (held (T i).need (rs (T i).has i num))) (i, .le) (.lst ((if i = h then (T i).les else (T i).les ++ [(num, (srt (T i).sl).map fun p => (p, (T i).sf p))]).map letD))) st' := by
  have e1 := g_mc H hi
  have e2 := g_so H hi
  have HL := Ly.up H (o := (i, .so)) hi (.dF ((T i).sl.map (ent (T i).sf)))
  have hdv : ∀ k (v : Ob → SO), k ≤ (T i).sl.length → True := fun _ _ _ => trivial
  obtain ⟨env', st', h1, ⟨s5, s6, rfl, h6⟩, H1⟩ := forK_eq (mi := mIx (mVar 1) (mC (.str "stored"))) (g := gN 5) (body := b__law_end_1) (env := [.val (tmD m A), .val (.ref (A (i, .mc))), .val (.int h), .val (.int i), .val (.int num), .none, .none, .none]) (st := st) (n := A (i, .so)) (kvs := (T i).sl.map (ent (T i).sf)) (st0 := st) (st1 := st.set (A (i, .so)) (.dF ((T i).sl.map (ent (T i).sf))))
    (by simp [e1]) e2 (by
      have := Ly.get HL (o := (i, .mc)) (x := .dK (mcK A i (T i).clk (T i).en)) hi (by simp [upv, val])
      simp [this]) rfl rfl
    (fun k env st' => (∃ s5 s6, env = [.val (tmD m A), .val (.ref (A (i, .mc))), .val (.int h), .val (.int i), .val (.int num), s5, s6, .none] ∧ ∀ so, s6 ≠ .own so) ∧ Ly m A (upv (upv (val T A) (i, .so) (.dF ((T i).sl.map (ent (T i).sf)))) (i, .dn) (.lst (((T i).don ++ ((T i).sl.take k).map (fun p => (num, (p, (T i).sf p)))).map donD))) st')
    ⟨⟨.none, .none, rfl, (fun _ => nofun)⟩, Ly.cg HL (by
      rintro ⟨j, k⟩ hj
      by_cases hji : j = i
      · subst hji; cases k <;> simp [upv, val]
      · cases k <;> simp [upv, val, hji])⟩
    (fun k env st' q => Ly.get q.2 (o := (i, .so)) hi (by simp [upv]))
    (by
      rintro k hk env st' ⟨⟨s5, s6, rfl, h6⟩, H1⟩
      have hk' : k < (T i).sl.length := by simpa using hk
      have g1 := Ly.get H1 (o := (i, .mc)) (x := .dK (mcK A i (T i).clk (T i).en)) hi (by simp [upv, val])
      have g2 := Ly.get H1 (o := (i, .so)) (x := .dF ((T i).sl.map (ent (T i).sf))) hi (by simp [upv, val])
      have g3 := Ly.get H1 (o := (i, .dn)) (x := .lst (((T i).don ++ ((T i).sl.take k).map (fun p => (num, (p, (T i).sf p)))).map donD)) hi (by simp [upv, val])
      have et : (T i).sl.take (k + 1) = (T i).sl.take k ++ [(T i).sl[k]] := by rw [List.take_add_one, List.getElem?_eq_getElem hk']; rfl
      have hp : (T i).sl[k] ∈ (T i).sl := List.getElem_mem hk'
      have ek : kyD ((T i).sl.map (ent (T i).sf))[k].1 = .int ((T i).sl[k] : Nat) := by rw [List.getElem_map]; rfl
      have hlen : ((T i).don ++ ((T i).sl.take k).map (fun p => (num, (p, (T i).sf p)))).length < 16000000 := by
        rw [List.length_append, List.length_map, List.length_take]; omega
      rw [ek, et]
      generalize (T i).sl[k] = p at hp ⊢
      have eacc : (T i).don ++ ((T i).sl.take k ++ [p]).map (fun p => (num, (p, (T i).sf p))) = ((T i).don ++ ((T i).sl.take k).map (fun p => (num, (p, (T i).sf p)))) ++ [(num, (p, (T i).sf p))] := by simp
      rw [eacc]
      have hv := val_ent (sf := (T i).sf) hp
      have H2 := Ly.up H1 (o := (i, .dn)) hi (.lst ((((T i).don ++ ((T i).sl.take k).map (fun p => (num, (p, (T i).sf p)))) ++ [(num, (p, (T i).sf p))]).map donD))
      generalize ((T i).don ++ ((T i).sl.take k).map (fun p => (num, (p, (T i).sf p)))) = acc at g3 hlen H2 ⊢
      refine ⟨_, rfl, .nx, [.val (tmD m A), .val (.ref (A (i, .mc))), .val (.int h), .val (.int i), .val (.int num), .val (.int p), .val (.ref (A (i, .dn))), .none], _, ?_, .inl rfl, ⟨_, _, rfl, (fun _ => nofun)⟩, Ly.cg H2 ?_⟩
      · have hlen' : acc.length < 16000000 := hlen
        simp [b__law_end_1, g1, g2, g3, hv, clD, hlen', donD]
      · rintro ⟨j, k⟩ hj
        by_cases hji : j = i
        · subst hji; cases k <;> simp [upv, val]
        · cases k <;> simp [upv, val, hji])
  rw [List.length_map, List.take_length] at H1
  -- unlock
  have H2 := Ly.up H1 (o := (i, .so)) hi (.dK ((T i).sl.map (ent (T i).sf)))
  generalize hst2 : st'.set (A (i, .so)) (.dK ((T i).sl.map (ent (T i).sf))) = st2 at h1 H2
  have a1 := Ly.get H2 (o := (i, .mc)) (x := .dK (mcK A i (T i).clk (T i).en)) hi (by simp [upv, val])
  have a2 := Ly.get H2 (o := (i, .hd)) (x := held (T i).need (T i).has) hi (by simp [upv, val])
  have harr := arrived_eq (r := A (i, .hd)) (p := i) (n := num) a2 (by omega) (by omega)
  have hrs : (T i).has.set i (if num > (T i).has[i]'(by omega) then num else (T i).has[i]'(by omega)) = rs (T i).has i num := by
    unfold rs
    rw [List.getD_eq_getElem?_getD, List.getElem?_eq_getElem (by omega)]
    rfl
  rw [hrs] at harr
  have H3 := Ly.up H2 (o := (i, .hd)) hi (held (T i).need (rs (T i).has i num))
  generalize hst3 : st2.set (A (i, .hd)) (held (T i).need (rs (T i).has i num)) = st3 at harr H3
  have hs1 : (T i).sl.map (ent (T i).sf) ≠ [] := fun q => hs0 (List.map_eq_nil_iff.mp q)
  have c1 := fun (env : Gx.Env) (y : R) => ne_empty1 (env := env) e2 true y
  have c2 := fun (env : Gx.Env) => ne_empty2 (env := env) e2 hs1
  have c3 := fun (env : Gx.Env) => ne_empty3 (env := env) e2 hs1
  by_cases hh : i = h
  · subst hh
    refine ⟨st3, s5, s6, .none, ?_, h6, (fun _ => nofun), Ly.cg H3 ?_⟩
    · skip
      have hl : l__law_end_1 [.val (tmD m A), .val (.ref (A (i, .mc))), .val (.int i), .val (.int i), .val (.int num), .none, .none, .none] st = some (.nx, [.val (tmD m A), .val (.ref (A (i, .mc))), .val (.int i), .val (.int i), .val (.int num), s5, s6, .none], st2) := h1
      simp [i__law_end_2, i__law_end_1, e1, c1, c2, c3, hl, a1, harr]
    · rintro ⟨j, k⟩ hj
      by_cases hji : j = i
      · subst hji; cases k <;> simp [upv, val]
      · cases k <;> simp [upv, val, hji]
  · have b1 := Ly.get H3 (o := (i, .mc)) (x := .dK (mcK A i (T i).clk (T i).en)) hi (by simp [upv, val])
    have b2 := Ly.get H3 (o := (i, .so)) (x := .dK ((T i).sl.map (ent (T i).sf))) hi (by simp [upv, val])
    have b3 := Ly.get H3 (o := (i, .le)) (x := .lst ((T i).les.map letD)) hi (by simp [upv, val])
    have hdiff := diff_eq b2 (by omega)
    have H4 := Ly.up H3 (o := (i, .le)) hi (.lst (((T i).les ++ [(num, (srt (T i).sl).map fun p => (p, (T i).sf p))]).map letD))
    have hll' : (T i).les.length < 16000000 := by omega
    refine ⟨_, s5, s6, .val (.ref (A (i, .le))), ?_, h6, (fun _ => nofun), Ly.cg H4 ?_⟩
    · have hih : ¬ ((i : Int) = (h : Int)) := by omega
      have hl : l__law_end_1 [.val (tmD m A), .val (.ref (A (i, .mc))), .val (.int h), .val (.int i), .val (.int num), .none, .none, .none] st = some (.nx, [.val (tmD m A), .val (.ref (A (i, .mc))), .val (.int h), .val (.int i), .val (.int num), s5, s6, .none], st2) := h1
      simp [i__law_end_2, i__law_end_1, e1, c1, c2, c3, hl, a1, harr, hih, b1, hdiff, b3, hll', letD]
    · rintro ⟨j, k⟩ hj
      by_cases hji : j = i
      · subst hji; cases k <;> simp [upv, val, hh]
      · cases k <;> simp [upv, val, hji, hh]
theorem end_eq (H : Ly m A (val T A) st) (hi : i < m) (hcl : (T i).clk.length = m) (hhl : (T i).has.length = m) (hm : m ≤ 8) (hsl : (T i).sl.length ≤ 60) (hdl : (T i).don.length ≤ 10000000) (hll : (T i).les.length ≤ 10000000) {h : Nat} :
    ∃ st' A', f__law_end [tmD m A, .ref (A (i, .mc)), .int h] st = some (.non, st') ∧ Ly m A' (val (upT T i (endM (T i) i h)) A') st' ∧ ∀ j, A' (j, .mc) = A (j, .mc) := by
  have e1 := g_mc H hi
  have e2 := g_so H hi
  have hnum : (T i).clk[i]? = some ((T i).clk.getD i 0) := by rw [List.getD_eq_getElem?_getD, List.getElem?_eq_getElem (by omega)]; rfl
  generalize hn : (T i).clk.getD i 0 = num at hnum
  have hnum' : (T i).clk[i]'(by omega) = num := by rw [List.getElem?_eq_getElem (by omega)] at hnum; exact Option.some.inj hnum
  have hil : i < (T i).clk.length := by omega
  -- what stands behind the first part
  have hE : endM (T i) i h = endN (T i) i h num := by unfold endM; rw [hn]
  rw [hE]
  clear hE hn
  let x1 : Mc := endN (T i) i h num
  obtain ⟨st1, s5, s6, s7, h1, h6, h7, H1⟩ : ∃ st1 s5 s6 s7, i__law_end_2 [.val (tmD m A), .val (.ref (A (i, .mc))), .val (.int h), .val (.int i), .val (.int num), .none, .none, .none] st = some (.nx, [.val (tmD m A), .val (.ref (A (i, .mc))), .val (.int h), .val (.int i), .val (.int num), s5, s6, s7], st1) ∧ (∀ so, s6 ≠ .own so) ∧ (∀ so, s7 ≠ .own so) ∧
      Ly m A (upv (upv (upv (val T A) (i, .dn) (.lst (x1.don.map donD))) (i, .hd) (held x1.need x1.has)) (i, .le) (.lst (x1.les.map letD))) st1 := by
    by_cases hs0 : (T i).sl = []
    · rw [hs0] at e2
      have c1 := fun (env : Gx.Env) (y : R) => ne_empty1 (env := env) e2 true y
      have c2 := fun (env : Gx.Env) => empty2 (env := env) e2
      refine ⟨st, .none, .none, .none, ?_, (fun _ => nofun), (fun _ => nofun), Ly.cg H ?_⟩
      · simp [i__law_end_2, e1, c1, c2]
      · rintro ⟨j, k⟩ hj
        by_cases hji : j = i
        · subst hji; cases k <;> simp [upv, val, x1, endN, hs0]
        · cases k <;> simp [upv, val, hji]
    · obtain ⟨st', s5, s6, s7, q1, q2, q3, q4⟩ := end_one H hi hhl hm hsl hdl hll hs0 (h := h) (num := num)
      refine ⟨st', s5, s6, s7, q1, q2, q3, Ly.cg q4 ?_⟩
      rintro ⟨j, k⟩ hj
      by_cases hji : j = i
      · subst hji; cases k <;> simp [upv, val, x1, endN, hs0]
      · cases k <;> simp [upv, val, hji]
  have hz : x1.sl = [] := by
    by_cases hs0 : (T i).sl = [] <;> simp [x1, endN, hs0]
  have hz2 : x1.clk = (T i).clk.set i (num + 1) := by
    by_cases hs0 : (T i).sl = [] <;> simp [x1, endN, hs0]
  have hz3 : x1.en = some (T i).clk := by
    by_cases hs0 : (T i).sl = [] <;> simp [x1, endN, hs0]
  have hz4 : x1.pg = (T i).pg := by
    by_cases hs0 : (T i).sl = [] <;> simp [x1, endN, hs0]
  have a1 := Ly.get H1 (o := (i, .mc)) (x := .dK (mcK A i (T i).clk (T i).en)) hi (by simp [upv, val])
  let A' : Ob → Nat := fun o => if o = (i, .so) then st1.length else A o
  have hA : ∀ o : Ob, o ≠ (i, .so) → A' o = A o := fun o ho => if_neg ho
  have HM := Lay.move (A' := A') (val' := upv (upv (upv (upv (val T A) (i, .dn) (.lst (x1.don.map donD))) (i, .hd) (held x1.need x1.has)) (i, .le) (.lst (x1.les.map letD))) (i, .so) (.dK [])) H1 (o := (i, .so)) (v := .dK []) hi (if_pos rfl) (fun o' _ hne => hA o' hne) (by simp [upv]) (fun o' _ hne => by simp [upv, hne])
  have b1 : (st1 ++ [SO.dK []])[A (i, .mc)]? = some (.dK (mcK A i (T i).clk (T i).en)) := get_app a1 _
  have hp1 : putD (mcK A i (T i).clk (T i).en) (.inr "stored") (.ref st1.length) = mcK A' i (T i).clk (T i).en := p_stored _
  have hl1 : (mcK A i (T i).clk (T i).en).length < 16000000 := Nat.lt_of_le_of_lt mcK_len (by omega)
  have hl2 : ∀ clk en, (mcK A' i clk en).length < 16000000 := fun clk en => Nat.lt_of_le_of_lt mcK_len (by omega)
  have HN := Ly.up HM (o := (i, .mc)) hi (.dK (mcK A' i (T i).clk (T i).en))
  have eA : A' (i, .mc) = A (i, .mc) := hA _ (by simp)
  rw [eA] at HN
  generalize hst2 : (st1 ++ [SO.dK []]).set (A (i, .mc)) (.dK (mcK A' i (T i).clk (T i).en)) = st2 at HN
  have d1 := Ly.get HN (o := (i, .mc)) (x := .dK (mcK A' i (T i).clk (T i).en)) hi (by simp [upv])
  rw [eA] at d1
  have HO := Ly.up HN (o := (i, .mc)) hi (.dK (mcK A' i (T i).clk (some (T i).clk)))
  rw [eA] at HO
  generalize hst3 : st2.set (A (i, .mc)) (.dK (mcK A' i (T i).clk (some (T i).clk))) = st3 at HO
  have f1 := Ly.get HO (o := (i, .mc)) (x := .dK (mcK A' i (T i).clk (some (T i).clk))) hi (by simp [upv])
  rw [eA] at f1
  have hwith := with_eq (a := (T i).clk) (p := i) (n := num + 1) (st := st3) (by omega) (by omega)
  have HP := Ly.up HO (o := (i, .mc)) hi (.dK (mcK A' i ((T i).clk.set i (num + 1)) (some (T i).clk)))
  rw [eA] at HP
  refine ⟨_, A', ?_, Ly.cg HP ?_, fun j => hA _ (by simp)⟩
  · have s1 : mSet 3 (mIx (mVar 1) (mC (.str "machine"))) [.val (tmD m A), .val (.ref (A (i, .mc))), .val (.int h), .none, .none, .none, .none, .none] st = some (.nx, [.val (tmD m A), .val (.ref (A (i, .mc))), .val (.int h), .val (.int i), .none, .none, .none, .none], st) := by simp [e1]
    have s2 : mSet 4 (mIx (mIx (mVar 1) (mC (.str "clock"))) (mVar 3)) [.val (tmD m A), .val (.ref (A (i, .mc))), .val (.int h), .val (.int i), .none, .none, .none, .none] st = some (.nx, [.val (tmD m A), .val (.ref (A (i, .mc))), .val (.int h), .val (.int i), .val (.int num), .none, .none, .none], st) := by simp [e1, hil, hnum']
    have s3 : mFz 6 [.val (tmD m A), .val (.ref (A (i, .mc))), .val (.int h), .val (.int i), .val (.int num), s5, s6, s7] st1 = some (.nx, [.val (tmD m A), .val (.ref (A (i, .mc))), .val (.int h), .val (.int i), .val (.int num), s5, s6, s7], st1) := by
      cases s6 <;> first | rfl | exact absurd rfl (h6 _)
    have s4 : mFz 7 [.val (tmD m A), .val (.ref (A (i, .mc))), .val (.int h), .val (.int i), .val (.int num), s5, s6, s7] st1 = some (.nx, [.val (tmD m A), .val (.ref (A (i, .mc))), .val (.int h), .val (.int i), .val (.int num), s5, s6, s7], st1) := by
      cases s7 <;> first | rfl | exact absurd rfl (h7 _)
    have s5' : mStIx (mVar 1) (mC (.str "stored")) (mAlloc mFD0) [.val (tmD m A), .val (.ref (A (i, .mc))), .val (.int h), .val (.int i), .val (.int num), s5, s6, s7] st1 = some (.nx, [.val (tmD m A), .val (.ref (A (i, .mc))), .val (.int h), .val (.int i), .val (.int num), s5, s6, s7], st2) := by
      simp [b1, hp1, hl1, hst2]
    have s6' : mStIx (mVar 1) (mC (.str "ended")) (mIx (mVar 1) (mC (.str "clock"))) [.val (tmD m A), .val (.ref (A (i, .mc))), .val (.int h), .val (.int i), .val (.int num), s5, s6, s7] st2 = some (.nx, [.val (tmD m A), .val (.ref (A (i, .mc))), .val (.int h), .val (.int i), .val (.int num), s5, s6, s7], st3) := by
      simp [d1, p_ended, hl2, hst3]
    have s7' : mStIx (mVar 1) (mC (.str "clock")) (mCall f_with_count (mCons (mIx (mVar 1) (mC (.str "clock"))) (mCons (mVar 3) (mCons (mAdd (mVar 4) (mC (.int 1))) mNil)))) [.val (tmD m A), .val (.ref (A (i, .mc))), .val (.int h), .val (.int i), .val (.int num), s5, s6, s7] st3 = some (.nx, [.val (tmD m A), .val (.ref (A (i, .mc))), .val (.int h), .val (.int i), .val (.int num), s5, s6, s7], st3.set (A (i, .mc)) (.dK (mcK A' i ((T i).clk.set i (num + 1)) (some (T i).clk)))) := by
      simp [f1, hwith, p_clock, hl2]
    have hb : b__law_end [.val (tmD m A), .val (.ref (A (i, .mc))), .val (.int h), .none, .none, .none, .none, .none] st = some (.nx, [.val (tmD m A), .val (.ref (A (i, .mc))), .val (.int h), .val (.int i), .val (.int num), s5, s6, s7], st3.set (A (i, .mc)) (.dK (mcK A' i ((T i).clk.set i (num + 1)) (some (T i).clk)))) := by
      unfold b__law_end
      rw [sq_step s1, sq_step s2, sq_step h1, sq_step s3, sq_step s4, sq_step s5', sq_step s6', s7']
    simp [f__law_end, hb]
  · have eK : ∀ j clk en, j ≠ i → mcK A' j clk en = mcK A j clk en := fun j clk en hj => by
      unfold mcK
      rw [hA (j, .pg) (by simp), hA (j, .hd) (by simp), hA (j, .so) (by simp [hj]), hA (j, .le) (by simp), hA (j, .dn) (by simp)]
    have eT : upT T i (endN (T i) i h num) i = x1 := if_pos rfl
    rintro ⟨j, k⟩ hj
    by_cases hji : j = i
    · rw [hji]
      cases k
      · simp [upv, val, eT]; exact hz4.symm ▸ rfl
      · simp [upv, val, eT]
      · simp [upv, val, eT, hz]
      · simp [upv, val, eT]
      · simp [upv, val, eT]
      · simp [upv, val, eT, hz2, hz3]
    · cases k <;> simp [upv, val, upT, hji, eK]
end
end Law

set_option maxHeartbeats 4000000
namespace Law
open PySem L2 Gx
theorem dOk_d {st : Store} {d : D} (h : okD d = true) (hd : depD d ≤ 60) : dataOk st d = true := by
  obtain ⟨p, e1, e2, e3⟩ := toP_okD (dr2 st) d h
  unfold dataOk
  rw [e1]
  dsimp only
  unfold SeqAt.shaped
  simp [e2, e3]
  omega
theorem lst_P {env : Gx.Env} {st : Store} {n : Nat} {xs : List D} (h : st[n]? = some (.lst xs)) (ho : okDs xs = true) (hd : depDs xs ≤ 50) : ∃ ps : List PyData, toPR env st (.d (.ref n)) = some (.list ps) ∧ ps.length = xs.length ∧ SeqAt.shaped (.list ps) = true := by
  obtain ⟨ps, e1, e2, e3⟩ := toPs_okD (drS dr0 st) xs ho
  have hl : ∀ (dr : Nat → Option PyData) (xs : List D) (ps : List PyData), toPs dr xs = some ps → ps.length = xs.length := by
    intro dr xs
    induction xs with
    | nil => intro ps h; simp only [toPs] at h; cases h; rfl
    | cons x xs ih =>
      intro ps h
      simp only [toPs] at h
      split at h
      · rename_i p e
        rw [Option.map_eq_some_iff] at h
        obtain ⟨qs, h, rfl⟩ := h
        simp [ih qs h]
      · cases h
  refine ⟨ps, ?_, hl _ _ _ e1, ?_⟩
  · show dr2 st n = some (.list ps)
    unfold dr2
    rw [drS, h]
    dsimp only
    rw [e1]
    rfl
  · unfold SeqAt.shaped
    simp [PyData.canLay0, PyData.depth, e2, e3]
    omega
theorem dOk_l {st : Store} {n : Nat} {xs : List D} (h : st[n]? = some (.lst xs)) (ho : okDs xs = true) (hd : depDs xs ≤ 50) : dataOk st (.ref n) = true := by
  obtain ⟨ps, e1, _, e2⟩ := lst_P (env := []) h ho hd
  have e1 : toP (dr2 st) (.ref n) = some (.list ps) := e1
  unfold dataOk
  rw [e1]
  exact e2
theorem ne_nil {env : Gx.Env} {st : Store} {n : Nat} {xs : List D} (h : st[n]? = some (.lst xs)) (ho : okDs xs = true) (hd : depDs xs ≤ 50) : f2Eq true env st (.d (.ref n)) (.d (.lst [])) = some (.d (.bl (!xs.isEmpty)), st) := by
  obtain ⟨ps, e1, e2, e3⟩ := lst_P (env := env) h ho hd
  have e4 : toPR env st (.d (.lst [])) = some (.list []) := rfl
  unfold f2Eq
  rw [e1, e4]
  dsimp only
  rw [e3]
  have e5 : SeqAt.shaped (.list []) = true := by decide
  rw [e5]
  cases xs with
  | nil =>
    cases ps with
    | nil => simp [PyData.eqv, PyData.eqvAll]
    | cons _ _ => simp at e2
  | cons x xs =>
    cases ps with
    | nil => simp at e2
    | cons _ _ => simp [PyData.eqv, PyData.eqvAll]
theorem let_ok (l : List (Int × List (Nat × Cel))) : okDs (l.map letD) = true ∧ depDs (l.map letD) ≤ 5 :=
  ⟨okDs_map fun x _ => by simp [letD, okD, okDs, rD_ok], depDs_map fun x _ => by
    have := rD_dep x.2
    simp only [letD, depD, depDs]; omega⟩
theorem don_ok (l : List (Int × (Nat × Cel))) : okDs (l.map donD) = true ∧ depDs (l.map donD) ≤ 5 :=
  ⟨okDs_map fun x _ => by simp [donD, okD, okDs], depDs_map fun x _ => by simp [donD, depD, depDs]⟩
section
variable {m : Nat} {A : Ob → Nat} {T : Nat → Mc} {st : Store} {i j o : Nat}
theorem cmp_k (H : Ly m A (val T A) st) (hi : i < m) (neg : Bool) {env : Gx.Env} (ho : o < m) : f2EqK neg env st (.d (.ref (A (i, .mc)))) (.d (.ref (A (o, .mc)))) = none := by
  have e1 := g_mc H hi
  have e2 := g_mc H ho
  have e3 := g_hd H hi
  have a1 : asK env st (.d (.ref (A (i, .mc)))) = some (mcK A i (T i).clk (T i).en) := by simp [e1]
  have a2 : asK env st (.d (.ref (A (o, .mc)))) = some (mcK A o (T o).clk (T o).en) := by simp [e2]
  unfold f2EqK
  rw [a1, a2]
  dsimp only
  refine if_neg fun q => ?_
  have hm : ((.inr "held", .ref (A (i, .hd))) : Key × D) ∈ mcK A i (T i).clk (T i).en := by simp [mcK]
  have := List.all_eq_true.mp q.2 _ hm
  unfold eqAtK at this
  dsimp only at this
  rw [k_held] at this
  dsimp only at this
  have z : toP (dr2 st) (.ref (A (i, .hd))) = none := by
    show dr2 st _ = none
    unfold dr2
    rw [drS, e3]
    rfl
  rw [z] at this
  cases this
theorem cmp_e (H : Ly m A (val T A) st) (hi : i < m) (neg : Bool) {env : Gx.Env} (y : R) : f2Eq neg env st (.d (.ref (A (i, .mc)))) y = none := ne_empty1 (g_mc H hi) neg y
theorem cmp_is (H : Ly m A (val T A) st) (hi : i < m) (neg : Bool) {env : Gx.Env} : f2Dq neg env st (.d (.ref (A (i, .mc)))) (.d (.ref (A (i, .mc)))) = some (.d (.bl (!neg)), st) := by
  have a1 : asK env st (.d (.ref (A (i, .mc)))) = some (mcK A i (T i).clk (T i).en) := by simp [g_mc H hi]
  unfold f2Dq
  dsimp only
  rw [a1]
  dsimp only
  rw [if_pos rfl]
theorem cmp_ne (H : Ly m A (val T A) st) (hi : i < m) (ho : o < m) (hne : i ≠ o) (neg : Bool) {env : Gx.Env} : f2Dq neg env st (.d (.ref (A (i, .mc)))) (.d (.ref (A (o, .mc)))) = some (.d (.bl neg), st) := by
  have e1 := g_mc H hi
  have e2 := g_mc H ho
  have a1 : asK env st (.d (.ref (A (i, .mc)))) = some (mcK A i (T i).clk (T i).en) := by simp [e1]
  have a2 : asK env st (.d (.ref (A (o, .mc)))) = some (mcK A o (T o).clk (T o).en) := by simp [e2]
  unfold f2Dq
  dsimp only
  rw [a1, a2]
  dsimp only
  rw [if_neg (fun q => hne (congrArg Prod.fst (H.inj (i, .mc) (o, .mc) hi ho q)))]
  by_cases hl : (mcK A i (T i).clk (T i).en).length ≠ (mcK A o (T o).clk (T o).en).length
  · rw [if_pos hl]
  · rw [if_neg hl]
    refine if_pos ⟨?_, ?_⟩
    · rw [List.any_eq_true]
      refine ⟨(.inr "machine", .int i), by simp [mcK], ?_⟩
      unfold difAt
      dsimp only
      rw [k_machine]
      simp
      omega
    · have cd : ∀ {d u : D}, dataOk st d = true → dataOk st u = true → cmpD st d u = true := fun h1 h2 => by unfold cmpD; rw [h1, h2]; rfl
      have ti : ∀ c, dataOk st (tI c) = true := fun c => dOk_d (by simp) (by simp)
      have page : ∀ k, k < m → dataOk st (.ref (A (k, .pg))) = true := fun k hk => dOk_l (g_pg H hk) (pD_ok _) (Nat.le_trans (pD_dep _) (by omega))
      have letr : ∀ k, k < m → dataOk st (.ref (A (k, .le))) = true := fun k hk => dOk_l (g_le H hk) (let_ok _).1 (Nat.le_trans (let_ok _).2 (by omega))
      have done : ∀ k, k < m → dataOk st (.ref (A (k, .dn))) = true := fun k hk => dOk_l (g_dn H hk) (don_ok _).1 (Nat.le_trans (don_ok _).2 (by omega))
      have heldc : cmpD st (.ref (A (i, .hd))) (.ref (A (o, .hd))) = true := by
        have g1 := g_hd H hi
        have g2 := g_hd H ho
        unfold held at g1 g2
        unfold cmpD
        dsimp only
        rw [g1, g2]
        simp [ti]
      have storc : cmpD st (.ref (A (i, .so))) (.ref (A (o, .so))) = true := by
        have ce : ∀ (sl : List Nat) (sf : Nat → Cel), (sl.map (ent sf)).all (fun p => dataOk st p.2) = true := fun sl sf => by
          rw [List.all_eq_true]
          intro p hp
          obtain ⟨q, _, rfl⟩ := List.mem_map.mp hp
          exact dOk_d (by simp [ent, clD, okD, okDs]) (by simp [ent, clD, depD, depDs])
        unfold cmpD
        dsimp only
        rw [g_so H hi, g_so H ho]
        dsimp only
        rw [ce, ce]
        simp
      rw [List.all_eq_true]
      intro p hp
      unfold mcK at hp
      simp only [List.cons_append, List.nil_append, List.mem_cons] at hp
      unfold cmpAt
      rcases hp with rfl | rfl | rfl | rfl | rfl | rfl | rfl | hp
      · dsimp only; rw [k_machine]; exact cd (dOk_d rfl (by simp [depD])) (dOk_d rfl (by simp [depD]))
      · dsimp only; rw [k_page]; exact cd (page i hi) (page o ho)
      · dsimp only; rw [k_held]; exact heldc
      · dsimp only; rw [k_stored]; exact storc
      · dsimp only; rw [k_clock]; exact cd (ti _) (ti _)
      · dsimp only; rw [k_letters]; exact cd (letr i hi) (letr o ho)
      · dsimp only; rw [k_done]; exact cd (done i hi) (done o ho)
      · unfold enK at hp
        split at hp
        · cases hp
        · rename_i e he
          rw [List.mem_singleton] at hp
          subst hp
          dsimp only
          rw [k_ended]
          cases (T o).en with
          | none => rfl
          | some c => exact cd (ti _) (ti _)
/-! take over -/
def mx0 (l : List Int) : Int := l.foldl max 0
theorem max_eq {env : Gx.Env} {st : Store} (l : List Int) : f1Max env st (.d (.lst (.int 0 :: dI l))) = some (.d (.int (mx0 l)), st) := by
  unfold f1Max
  have e1 : asL env st (.d (.lst (.int 0 :: dI l))) = some (.int 0 :: dI l) := rfl
  have hn : ∀ l : List Int, Gx.numsOf (dI l) = some l := fun l => by
    induction l with
    | nil => rfl
    | cons x l ih =>
      show Gx.numsOf (.int x :: dI l) = _
      simp only [Gx.numsOf, ih]
      rfl
  have e2 : Gx.numsOf (.int 0 :: dI l) = some (0 :: l) := by
    have := hn (0 :: l)
    exact this
  rw [e1]
  dsimp only
  rw [e2]
  dsimp only
  rw [List.max?_cons']
  rfl
theorem mx0_mem : ∀ (l : List Int) (a : Int), (l.foldl max a = a ∨ l.foldl max a ∈ l) ∧ a ≤ l.foldl max a ∧ ∀ x ∈ l, x ≤ l.foldl max a
  | [], a => ⟨.inl rfl, Int.le_refl _, by simp⟩
  | x :: l, a => by
    obtain ⟨h1, h2, h3⟩ := mx0_mem l (max a x)
    rw [List.foldl_cons]
    refine ⟨?_, by omega, fun y hy => ?_⟩
    · rcases h1 with h1 | h1
      · rw [h1]
        by_cases q : x ≤ a
        · left; omega
        · right; simp; left; omega
      · right; simp [h1]
    · rcases List.mem_cons.mp hy with rfl | hy
      · omega
      · exact h3 y hy
def nums (don : List (Int × (Nat × Cel))) (c : Int) : List Int := (don.filter fun d => decide (d.1 ≤ c)).map (·.1)
def ndK (m i : Nat) (need clk : List Int) (dons : Nat → List (Int × (Nat × Cel))) (k : Nat) : List Int := (List.range m).map fun q => if q < k ∧ q ≠ i then (if mx0 (nums (dons q) (clk.getD q 0)) > need.getD q 0 then mx0 (nums (dons q) (clk.getD q 0)) else need.getD q 0) else need.getD q 0
theorem ndK_len (m i : Nat) (need clk : List Int) (dons : Nat → List (Int × (Nat × Cel))) (k : Nat) : (ndK m i need clk dons k).length = m := by simp [ndK]
theorem ndK_at {m i : Nat} {need clk : List Int} {dons : Nat → List (Int × (Nat × Cel))} {k q : Nat} (hq : q < m) : (ndK m i need clk dons k).getD q 0 = if q < k ∧ q ≠ i then (if mx0 (nums (dons q) (clk.getD q 0)) > need.getD q 0 then mx0 (nums (dons q) (clk.getD q 0)) else need.getD q 0) else need.getD q 0 := by
  unfold ndK
  rw [List.getD_eq_getElem?_getD, List.getElem?_map, List.getElem?_range hq]
  rfl
theorem getD_in {l : List Int} {q : Nat} (h : q < l.length) : l[q] = l.getD q 0 := by rw [List.getD_eq_getElem?_getD, List.getElem?_eq_getElem h]; rfl
theorem ndK_zero {m i : Nat} {need clk : List Int} {dons : Nat → List (Int × (Nat × Cel))} (h : need.length = m) : ndK m i need clk dons 0 = need := by
  apply List.ext_getElem
  · rw [ndK_len, h]
  · intro q h1 h2
    rw [getD_in h1, getD_in h2, ndK_at (by omega), if_neg (by omega)]
theorem ndK_skip {m i : Nat} {need clk : List Int} {dons : Nat → List (Int × (Nat × Cel))} : ndK m i need clk dons (i + 1) = ndK m i need clk dons i := by
  apply List.ext_getElem
  · rw [ndK_len, ndK_len]
  · intro q h1 h2
    rw [ndK_len] at h1
    rw [getD_in, getD_in, ndK_at h1, ndK_at h1]
    by_cases e : q < i ∧ q ≠ i
    · rw [if_pos e, if_pos ⟨by omega, e.2⟩]
    · rw [if_neg e, if_neg (by omega)]
theorem ndK_step {m i k : Nat} {need clk : List Int} {dons : Nat → List (Int × (Nat × Cel))} (hk : k < m) (hi : k ≠ i) : (ndK m i need clk dons k).set k (if mx0 (nums (dons k) (clk.getD k 0)) > (ndK m i need clk dons k)[k]'(by rw [ndK_len]; exact hk) then mx0 (nums (dons k) (clk.getD k 0)) else (ndK m i need clk dons k)[k]'(by rw [ndK_len]; exact hk)) = ndK m i need clk dons (k + 1) := by
  have e0 : (ndK m i need clk dons k)[k]'(by rw [ndK_len]; exact hk) = need.getD k 0 := by rw [getD_in, ndK_at hk, if_neg (by omega)]
  rw [e0]
  apply List.ext_getElem
  · simp [ndK_len]
  · intro q h1 h2
    rw [ndK_len] at h2
    rw [getD_in (l := ndK m i need clk dons (k + 1)) (by rw [ndK_len]; exact h2), ndK_at h2]
    by_cases e : q = k
    · subst e
      rw [List.getElem_set_self]
      exact (if_pos (show q < q + 1 ∧ q ≠ i from ⟨by omega, hi⟩)).symm
    · rw [List.getElem_set_ne (fun z => e z.symm), getD_in (l := ndK m i need clk dons k) (by rw [ndK_len]; exact h2), ndK_at h2]
      by_cases e2 : q < k ∧ q ≠ i
      · rw [if_pos e2]
        exact (if_pos (show q < k + 1 ∧ q ≠ i from ⟨by omega, e2.2⟩)).symm
      · rw [if_neg e2]
        exact (if_neg (show ¬ (q < k + 1 ∧ q ≠ i) from by omega)).symm
def takM (T : Nat → Mc) (m i : Nat) (e : List Int) : Mc := { T i with clk := (zmax (T i).clk e).set i ((T i).clk.getD i 0), need := ndK m i (T i).need ((zmax (T i).clk e).set i ((T i).clk.getD i 0)) (fun j => (T j).don) m }
theorem take_eq (H : Ly m A (val T A) st) (hi : i < m) (ho : o < m) (hm : m ≤ 8) (hcl : (T i).clk.length = m) (hnl : (T i).need.length = m) (hel : ∀ e, (T o).en = some e → e.length = m) (hdl : ∀ j, j < m → (T j).don.length ≤ 10000000) :
    ∃ st', f__law_take_over [tmD m A, .ref (A (i, .mc)), .ref (A (o, .mc))] st = some (.non, st') ∧ Ly m A (val (match (T o).en with | some e => if i = o then T else upT T i (takM T m i e) | none => T) A) st' := by
  have e1 := g_mc H hi
  have e2 := g_mc H ho
  have kE := k_ended (A := A) (i := o) (clk := (T o).clk) (en := (T o).en)
  cases hen : (T o).en with
  | none =>
    rw [hen] at e2 kE
    refine ⟨st, ?_, H⟩
    simp [f__law_take_over, b__law_take_over, i__law_take_over_2, e2, kE]
  | some e =>
    have hel := hel e hen
    rw [hen] at e2 kE
    have q1 := fun (env : Gx.Env) (y : R) => cmp_e H hi true (env := env) y
    have q2 := fun (env : Gx.Env) => cmp_k H hi true (env := env) ho
    by_cases hio : i = o
    · subst hio
      have q3 := fun (env : Gx.Env) => cmp_is H hi true (env := env)
      refine ⟨st, ?_, by simpa using H⟩
      simp [f__law_take_over, b__law_take_over, i__law_take_over_2, e2, kE, q1, q2, q3]
    · have q3 := fun (env : Gx.Env) => cmp_ne H hi ho hio true (env := env)
      have hil : i < (T i).clk.length := by omega
      have hmg := merged_eq (a := (T i).clk) (b := e) (st := st) (by omega) (by omega)
      have hzl : (zmax (T i).clk e).length = m := by rw [zmax_length (by omega)]; exact hcl
      have hwi := with_eq (a := zmax (T i).clk e) (p := i) (n := (T i).clk.getD i 0) (st := st) (by omega) (by omega)
      have hown : (T i).clk[i] = (T i).clk.getD i 0 := getD_in hil
      generalize hclk : (zmax (T i).clk e).set i ((T i).clk.getD i 0) = clk at hwi
      have hckl : clk.length = m := by rw [← hclk]; simp [hzl]
      have hT : takM T m i e = { T i with clk := clk, need := ndK m i (T i).need clk (fun j => (T j).don) m } := by unfold takM; rw [hclk]
      generalize (T i).clk.getD i 0 = own at hown hwi
      have H1 := Ly.up H (o := (i, .mc)) hi (.dK (mcK A i clk (T i).en))
      generalize hst1 : st.set (A (i, .mc)) (.dK (mcK A i clk (T i).en)) = st1 at H1
      obtain ⟨env', st', hl, ⟨t4, t5, t6, rfl⟩, H2⟩ : ∃ env' st', l__law_take_over_1 [.val (tmD m A), .val (.ref (A (i, .mc))), .val (.ref (A (o, .mc))), .val (.int own), .none, .none, .none] st1 = some (.nx, env', st') ∧ (∃ t4 t5 t6, env' = [.val (tmD m A), .val (.ref (A (i, .mc))), .val (.ref (A (o, .mc))), .val (.int own), t4, t5, t6]) ∧
          Ly m A (upv (upv (val T A) (i, .mc) (.dK (mcK A i clk (T i).en))) (i, .hd) (held (ndK m i (T i).need clk (fun j => (T j).don) m) (T i).has)) st' := by
        have := for_seq (m := mVar 0) (g := gN 4) (body := b__law_take_over_1) (env := [.val (tmD m A), .val (.ref (A (i, .mc))), .val (.ref (A (o, .mc))), .val (.int own), .none, .none, .none]) (st := st1) (st1 := st1) (d := tmD m A) (xs := (List.range m).map fun i => .ref (A (i, .mc)))
          (fun k env st' => (∃ t4 t5 t6, env = [.val (tmD m A), .val (.ref (A (i, .mc))), .val (.ref (A (o, .mc))), .val (.int own), t4, t5, t6]) ∧ Ly m A (upv (upv (val T A) (i, .mc) (.dK (mcK A i clk (T i).en))) (i, .hd) (held (ndK m i (T i).need clk (fun j => (T j).don) k) (T i).has)) st') (by simp) (.inl rfl) ⟨⟨_, _, _, rfl⟩, Ly.cg H1 (by
            rw [ndK_zero hnl]
            rintro ⟨j, k⟩ hj
            by_cases hji : j = i
            · subst hji; cases k <;> simp [upv, val]
            · cases k <;> simp [upv, val, hji])⟩ (by
            rintro k hk env st' ⟨⟨t4, t5, t6, rfl⟩, H2⟩
            have hk' : k < m := by simpa using hk
            have a1 := Ly.get H2 (o := (i, .mc)) (x := .dK (mcK A i clk (T i).en)) hi (by simp [upv])
            have a2 := Ly.get H2 (o := (i, .hd)) (x := held (ndK m i (T i).need clk (fun j => (T j).don) k) (T i).has) hi (by simp [upv])
            by_cases hki : k = i
            · subst hki
              refine ⟨[.val (tmD m A), .val (.ref (A (k, .mc))), .val (.ref (A (o, .mc))), .val (.int own), .val (.ref (A (k, .mc))), t5, t6], by simp [gN], .nx, [.val (tmD m A), .val (.ref (A (k, .mc))), .val (.ref (A (o, .mc))), .val (.int own), .val (.ref (A (k, .mc))), t5, t6], st', ?_, .inl rfl, ⟨_, _, _, rfl⟩, ?_⟩
              · simp [b__law_take_over_1, i__law_take_over_1, a1]
              · rw [ndK_skip]; exact H2
            · have a3 := Ly.get H2 (o := (k, .mc)) (x := .dK (mcK A k (T k).clk (T k).en)) hk' (by simp [upv, val, hki])
              have a4 := Ly.get H2 (o := (k, .dn)) (x := .lst ((T k).don.map donD)) hk' (by simp [upv, val])
              have hkc : k < clk.length := by omega
              have hc : ∀ t5 t6, c__law_take_over_1 [.val (tmD m A), .val (.ref (A (i, .mc))), .val (.ref (A (o, .mc))), .val (.int own), .val (.ref (A (k, .mc))), t5, t6] st' = some (.lst (dI (nums (T k).don (clk[k]'hkc))), st') := fun t5 t6 => by
                unfold c__law_take_over_1
                rw [lc_seqIfR (g := donD) (l := (T k).don) (st1 := st') (r0 := .d (.ref (A (k, .dn)))) (fun d => decide (d.1 ≤ clk[k]'hkc)) (fun d => .int d.1) (by simp [a3]) (by simp [a4]) (by have := hdl k hk'; omega) (fun d hd => by
                  simp [donD, a1, a3, hkc]) (fun d hd _ => by simp [donD])]
                simp [nums, dI, Function.comp_def]
              rw [getD_in hkc] at hc
              have hnd := needs_eq (r := A (i, .hd)) (p := k) (n := mx0 (nums (T k).don (clk.getD k 0))) a2 (by rw [ndK_len]; exact hk') (by rw [ndK_len]; omega)
              rw [ndK_step (dons := fun j => (T j).don) hk' hki] at hnd
              have hlen : (nums (T k).don (clk.getD k 0)).length ≤ 10000000 := by
                unfold nums
                rw [List.length_map]
                exact Nat.le_trans (List.length_filter_le _ _) (hdl k hk')
              have H3 := Ly.up H2 (o := (i, .hd)) hi (held (ndK m i (T i).need clk (fun j => (T j).don) (k + 1)) (T i).has)
              generalize nums (T k).don (clk.getD k 0) = ns at hc hnd hlen
              have hmx := fun (env : Gx.Env) => max_eq (env := env) (st := st') ns
              have hki' : ¬ ((k : Int) = (i : Int)) := by omega
              refine ⟨[.val (tmD m A), .val (.ref (A (i, .mc))), .val (.ref (A (o, .mc))), .val (.int own), .val (.ref (A (k, .mc))), t5, t6], by simp [gN], .nx, [.val (tmD m A), .val (.ref (A (i, .mc))), .val (.ref (A (o, .mc))), .val (.int own), .val (.ref (A (k, .mc))), .val (.lst (dI ns)), t6], _, ?_, .inl rfl, ⟨_, _, _, rfl⟩, Ly.cg H3 ?_⟩
              · have h16 : 1 + ns.length ≤ 16000000 := by omega
                simp [b__law_take_over_1, i__law_take_over_1, a1, a3, hki', hc, hmx, hnd, h16]
              · rintro ⟨j, k⟩ hj
                by_cases hji : j = i
                · subst hji; cases k <;> simp [upv, val]
                · cases k <;> simp [upv, val, hji])
        obtain ⟨env', st', h1, h2⟩ := this
        rw [List.length_map, List.length_range] at h2
        exact ⟨env', st', by unfold l__law_take_over_1; exact h1, h2⟩
      refine ⟨st', ?_, Ly.cg H2 ?_⟩
      · have hpl : (mcK A i (T i).clk (T i).en).length < 16000000 := Nat.lt_of_le_of_lt mcK_len (by omega)
        simp [f__law_take_over, b__law_take_over, i__law_take_over_2, e1, e2, kE, q1, q2, q3, hil, hown, hmg, hwi, p_clock, hpl, hst1, hl]
      · dsimp only
        rw [if_neg hio, hT]
        rintro ⟨j, k⟩ hj
        by_cases hji : j = i
        · subst hji
          cases k <;> simp [upv, val, upT]
        · cases k <;> simp [upv, val, upT, hji]
end
end Law

set_option maxHeartbeats 4000000
namespace Law
open PySem L2 Gx
section
variable {m : Nat} {A : Ob → Nat} {T : Nat → Mc} {st : Store} {i j h : Nat}
/-! a letter arrives -/
def arrT (T : Nat → Mc) (i h : Nat) : Nat → Mc := match (T i).les with
  | [] => T
  | l :: r => upT (upT T i { T i with les := r }) h { T h with pg := mgs (T h).pg l.2, has := rs (T h).has i l.1 }
theorem arrive_eq (H : Ly m A (val T A) st) (hi : i < m) (hh : h < m) (hm : m ≤ 8) (hne : (T i).les ≠ [] → i ≠ h) (hhl : (T h).has.length = m) (hrow : ∀ l ∈ (T i).les, ∀ r ∈ l.2, r.1 < 4) (hll : (T i).les.length ≤ 10000000) :
    ∃ st', f__law_arrive [tmD m A, .ref (A (i, .mc)), .int h] st = some (.non, st') ∧ Ly m A (val (arrT T i h) A) st' := by
  have e1 := g_mc H hi
  have e2 := g_le H hi
  have e3 := g_mc H hh
  have hnil := fun (env : Gx.Env) => ne_nil (env := env) e2 (let_ok _).1 (Nat.le_trans (let_ok _).2 (by omega))
  cases hl : (T i).les with
  | nil =>
    rw [hl] at hnil
    refine ⟨st, ?_, by unfold arrT; rw [hl]; exact H⟩
    simp [f__law_arrive, b__law_arrive, i__law_arrive_1, e1, hnil]
  | cons l r =>
    have hih := hne (by rw [hl]; simp)
    rw [hl] at e2 hnil hll hrow
    have hrl := hrow l List.mem_cons_self
    have H1 := Ly.up H (o := (i, .le)) hi (.lst (r.map letD))
    generalize hst1 : st.set (A (i, .le)) (.lst (r.map letD)) = st1 at H1
    have a1 := Ly.get H1 (o := (h, .mc)) (x := .dK (mcK A h (T h).clk (T h).en)) hh (by simp [upv, val])
    have a2 := Ly.get H1 (o := (h, .pg)) (x := .lst (pD (T h).pg)) hh (by simp [upv, val])
    have hmg := merge_eq (rows := l.2) a2 hrl
    have H2 := Ly.up H1 (o := (h, .pg)) hh (.lst (pD (mgs (T h).pg l.2)))
    generalize hst2 : st1.set (A (h, .pg)) (.lst (pD (mgs (T h).pg l.2))) = st2 at H2 hmg
    have b1 := Ly.get H2 (o := (h, .mc)) (x := .dK (mcK A h (T h).clk (T h).en)) hh (by simp [upv, val])
    have b2 := Ly.get H2 (o := (h, .hd)) (x := held (T h).need (T h).has) hh (by simp [upv, val])
    have b3 := Ly.get H2 (o := (i, .mc)) (x := .dK (mcK A i (T i).clk (T i).en)) hi (by simp [upv, val])
    have harr := arrived_eq (r := A (h, .hd)) (p := i) (n := l.1) b2 (by omega) (by omega)
    have hrs : (T h).has.set i (if l.1 > (T h).has[i]'(by omega) then l.1 else (T h).has[i]'(by omega)) = rs (T h).has i l.1 := by
      unfold rs
      rw [getD_in (by omega)]
    rw [hrs] at harr
    have H3 := Ly.up H2 (o := (h, .hd)) hh (held (T h).need (rs (T h).has i l.1))
    refine ⟨_, ?_, Ly.cg H3 ?_⟩
    · have hlen : (l :: r).length ≤ 16000000 := by omega
      simp at hlen
      obtain ⟨n, rows⟩ := l
      have h16 : r.length ≤ 15999999 := hlen
      simp [f__law_arrive, b__law_arrive, i__law_arrive_1, e1, hnil, e2, letD, gsC, gsN, gN, gT, h16, hst1, tmD, hh, a1, hmg, b1, b3, harr]
    · unfold arrT
      rw [hl]
      have hih' : ¬ h = i := fun q => hih q.symm
      rintro ⟨j, k⟩ hj
      by_cases hji : j = i
      · subst hji
        cases k <;> simp [upv, val, upT, hih]
      · by_cases hjh : j = h
        · subst hjh
          cases k <;> simp [upv, val, upT, hji]
        · cases k <;> simp [upv, val, upT, hji, hjh]
/-! a machine asks -/
def askT (T : Nat → Mc) (i h : Nat) : Nat → Mc := if i = h ∨ fresh (T i).need (T h).has h = false then T else upT T i { T i with pg := mgs (T i).pg (rowsOf (T h).pg), has := zmax (T i).has (T h).has }
theorem asked_eq (H : Ly m A (val T A) st) (hi : i < m) (hh : h < m) (hm : m ≤ 8) (hcl : (T i).clk.length = m) (hnl : (T i).need.length = m) (hil : (T i).has.length = m) (hhl : (T h).has.length = m)
    (hfr : i ≠ h → fresh (T i).need (T h).has h = true → fresh (T i).need (zmax (T i).has (T h).has) i = true)
    (hrt : i ≠ h → fresh (T i).need (T h).has h = true → ∀ j, j < m → ∀ d ∈ (T j).don, d.2.1 < 4 ∧ (d.1 ≤ (T i).clk.getD j 0 → gtC d.2.2 (mgs (T i).pg (rowsOf (T h).pg) d.2.1) = false)) :
    ∃ st', f__law_asked [tmD m A, .ref (A (i, .mc)), .int h] st = some (.bl true, st') ∧ Ly m A (val (askT T i h) A) st' := by
  have e1 := g_mc H hi
  have e3 := g_mc H hh
  have e4 := g_hd H hh
  have e5 := g_hd H hi
  have e6 := g_pg H hh
  have e5' := e5
  unfold held at e5'
  have q1 := fun (env : Gx.Env) (y : R) => cmp_e H hi false (env := env) y
  have q2 := fun (env : Gx.Env) => cmp_k H hi false (env := env) hh
  have s0 : mSet 3 (mIx (mVar 0) (mVar 2)) [.val (tmD m A), .val (.ref (A (i, .mc))), .val (.int h), .none] st = some (.nx, [.val (tmD m A), .val (.ref (A (i, .mc))), .val (.int h), .val (.ref (A (h, .mc)))], st) := by
    simp [tmD, hh]
  by_cases hih : i = h
  · subst hih
    have q3 := fun (env : Gx.Env) => cmp_is H hi false (env := env)
    have s1 : i__law_asked_1 [.val (tmD m A), .val (.ref (A (i, .mc))), .val (.int i), .val (.ref (A (i, .mc)))] st = some (.rt (.bl true), [.val (tmD m A), .val (.ref (A (i, .mc))), .val (.int i), .val (.ref (A (i, .mc)))], st) := by
      simp [i__law_asked_1, q1, q2, q3]
    have hb : b__law_asked [.val (tmD m A), .val (.ref (A (i, .mc))), .val (.int i), .none] st = some (.rt (.bl true), [.val (tmD m A), .val (.ref (A (i, .mc))), .val (.int i), .val (.ref (A (i, .mc)))], st) := by
      unfold b__law_asked
      rw [sq_step s0, sq_ret s1]
    refine ⟨st, by simp [f__law_asked, hb], ?_⟩
    unfold askT
    rw [if_pos (.inl rfl)]
    exact H
  · have q3 := fun (env : Gx.Env) => cmp_ne H hi hh hih false (env := env)
    have f1 := fresh_eq (r := A (h, .hd)) (o := h) (c := (T i).need) e4 (by omega) (by omega)
    cases hf : fresh (T i).need (T h).has h with
    | false =>
      rw [hf] at f1
      have s1 : i__law_asked_1 [.val (tmD m A), .val (.ref (A (i, .mc))), .val (.int h), .val (.ref (A (h, .mc)))] st = some (.rt (.bl true), [.val (tmD m A), .val (.ref (A (i, .mc))), .val (.int h), .val (.ref (A (h, .mc)))], st) := by
        simp [i__law_asked_1, q1, q2, q3, e1, e3, e5', val_need, f1]
      have hb : b__law_asked [.val (tmD m A), .val (.ref (A (i, .mc))), .val (.int h), .none] st = some (.rt (.bl true), [.val (tmD m A), .val (.ref (A (i, .mc))), .val (.int h), .val (.ref (A (h, .mc)))], st) := by
        unfold b__law_asked
        rw [sq_step s0, sq_ret s1]
      refine ⟨st, by simp [f__law_asked, hb], ?_⟩
      unfold askT
      rw [if_pos (.inr hf)]
      exact H
    | true =>
      rw [hf] at f1
      have hfr := hfr hih hf
      have hrt := hrt hih hf
      have s1 : i__law_asked_1 [.val (tmD m A), .val (.ref (A (i, .mc))), .val (.int h), .val (.ref (A (h, .mc)))] st = some (.nx, [.val (tmD m A), .val (.ref (A (i, .mc))), .val (.int h), .val (.ref (A (h, .mc)))], st) := by
        simp [i__law_asked_1, q1, q2, q3, e1, e3, e5', val_need, f1]
      have hrows := rows_eq (r := A (h, .pg)) (st := st) e6
      have hmg := merge_eq (rows := rowsOf (T h).pg) (g_pg H hi) (fun x hx => by
        unfold rowsOf at hx
        obtain ⟨p, hp, rfl⟩ := List.mem_map.mp hx
        exact List.mem_range.mp hp)
      have H1 := Ly.up H (o := (i, .pg)) hi (.lst (pD (mgs (T i).pg (rowsOf (T h).pg))))
      generalize hst1 : st.set (A (i, .pg)) (.lst (pD (mgs (T i).pg (rowsOf (T h).pg)))) = st1 at H1 hmg
      have a1 := Ly.get H1 (o := (i, .mc)) (x := .dK (mcK A i (T i).clk (T i).en)) hi (by simp [upv, val])
      have a2 := Ly.get H1 (o := (h, .mc)) (x := .dK (mcK A h (T h).clk (T h).en)) hh (by simp [upv, val])
      have a3 := Ly.get H1 (o := (i, .hd)) (x := held (T i).need (T i).has) hi (by simp [upv, val])
      have a4 := Ly.get H1 (o := (h, .hd)) (x := held (T h).need (T h).has) hh (by simp [upv, val])
      have a4' := a4
      unfold held at a4'
      have hhad := had_eq (r := A (i, .hd)) (c := (T h).has) a3 (by omega) (by omega)
      have H2 := Ly.up H1 (o := (i, .hd)) hi (held (T i).need (zmax (T i).has (T h).has))
      generalize hst2 : st1.set (A (i, .hd)) (held (T i).need (zmax (T i).has (T h).has)) = st2 at H2 hhad
      have hT : askT T i h = upT T i { T i with pg := mgs (T i).pg (rowsOf (T h).pg), has := zmax (T i).has (T h).has } := by
        unfold askT
        rw [if_neg (by rw [hf]; simp [hih])]
      have H3 : Ly m A (val (askT T i h) A) st2 := Ly.cg H2 (by
        rw [hT]
        rintro ⟨j, k⟩ hj
        by_cases hji : j = i
        · subst hji; cases k <;> simp [upv, val, upT]
        · cases k <;> simp [upv, val, upT, hji])
      have hTi : askT T i h i = { T i with pg := mgs (T i).pg (rowsOf (T h).pg), has := zmax (T i).has (T h).has } := by rw [hT]; exact if_pos rfl
      have hTj : ∀ j, (askT T i h j).don = (T j).don := fun j => by
        rw [hT]
        unfold upT
        by_cases q : j = i
        · subst q; rw [if_pos rfl]
        · rw [if_neg q]
      have b1 : st2[A (i, .mc)]? = some (.dK (mcK A i (T i).clk (T i).en)) := by
        have := g_mc H3 hi
        rw [hTi] at this
        exact this
      have b2 : st2[A (i, .hd)]? = some (held (T i).need (zmax (T i).has (T h).has)) := by
        have := g_hd H3 hi
        rw [hTi] at this
        exact this
      have b2' := b2
      unfold held at b2'
      have zl : (zmax (T i).has (T h).has).length = m := by rw [zmax_length (by omega)]; exact hil
      have f2 := fresh_eq (r := A (i, .hd)) (o := i) (c := (T i).need) b2 (by omega) (by omega)
      rw [hfr] at f2
      have hright := right_eq H3 hi (by rw [hTi]; exact hcl) fun j hj d hd => by
        rw [hTj] at hd
        rw [hTi]
        exact hrt j hj d hd
      have s2 : mExpr (mCall f_merge (mCons (mIx (mVar 1) (mC (.str "page"))) (mCons (mCall f_rows_of (mCons (mIx (mVar 3) (mC (.str "page"))) mNil)) mNil))) [.val (tmD m A), .val (.ref (A (i, .mc))), .val (.int h), .val (.ref (A (h, .mc)))] st = some (.nx, [.val (tmD m A), .val (.ref (A (i, .mc))), .val (.int h), .val (.ref (A (h, .mc)))], st1) := by
        simp [e1, e3, hrows, hmg]
      have s3 : mExpr (mCall f_had (mCons (mIx (mVar 1) (mC (.str "held"))) (mCons (mIx (mIx (mVar 3) (mC (.str "held"))) (mC (.str "has"))) mNil))) [.val (tmD m A), .val (.ref (A (i, .mc))), .val (.int h), .val (.ref (A (h, .mc)))] st1 = some (.nx, [.val (tmD m A), .val (.ref (A (i, .mc))), .val (.int h), .val (.ref (A (h, .mc)))], st2) := by
        simp [a1, a2, a4', val_has, hhad]
      have hb : b__law_asked [.val (tmD m A), .val (.ref (A (i, .mc))), .val (.int h), .none] st = some (.rt (.bl true), [.val (tmD m A), .val (.ref (A (i, .mc))), .val (.int h), .val (.ref (A (h, .mc)))], st2) := by
        unfold b__law_asked
        rw [sq_step s0, sq_step s1, sq_step s2, sq_step s3]
        simp [b1, b2', val_need, f2, hright]
      exact ⟨st2, by simp [f__law_asked, hb], H3⟩
end
end Law

set_option maxHeartbeats 4000000
namespace Law
open PySem L2 Gx
/-! what always holds -/
structure Iv (m h : Nat) (T : Nat → Mc) : Prop where
  ln : ∀ i, i < m → (T i).need.length = m ∧ (T i).has.length = m ∧ (T i).clk.length = m ∧ ∀ e, (T i).en = some e → e.length = m
  hz : ∀ i j, i < m → j < m → 0 ≤ (T i).has.getD j 0
  a1 : ∀ i j, i < m → j < m → i ≠ j → (T i).clk.getD j 0 < (T j).clk.getD j 0
  a2 : ∀ i j e, i < m → j < m → (T i).en = some e → e.getD j 0 < (T j).clk.getD j 0
  b : ∀ j, j < m → ∀ d ∈ (T j).don, d.1 < (T j).clk.getD j 0 ∧ d.2.1 < 4
  c : ∀ i j, i < m → j < m → i ≠ j → ∀ d ∈ (T j).don, d.1 ≤ (T i).clk.getD j 0 → d.1 ≤ (T i).need.getD j 0
  dd : ∀ i j, i < m → j < m → (T i).has.getD j 0 < (T j).clk.getD j 0
  e : ∀ i j, i < m → j < m → ∀ d ∈ (T j).don, d.1 ≤ (T i).has.getD j 0 → leC d.2.2 ((T i).pg d.2.1)
  f1 : ∀ i, i < m → ∀ d ∈ (T i).don, leC d.2.2 ((T i).pg d.2.1)
  f2 : ∀ i, i < m → ∀ p ∈ (T i).sl, p < 4 ∧ leC ((T i).sf p) ((T i).pg p)
  g : ∀ j, j < m → j ≠ h → ∀ d ∈ (T j).don, leC d.2.2 ((T h).pg d.2.1) ∨ ∃ l ∈ (T j).les, l.1 = d.1 ∧ d.2 ∈ l.2
  l1 : ∀ j, j < m → (T j).les.Pairwise fun a b => a.1 < b.1
  l2 : ∀ j, j < m → ∀ l ∈ (T j).les, (T h).has.getD j 0 < l.1 ∧ l.1 < (T j).clk.getD j 0 ∧ ∀ r ∈ l.2, r.1 < 4
  lh : (T h).les = []
  l : ∀ j, j < m → j ≠ h → ∀ d ∈ (T j).don, d.1 ≤ (T h).has.getD j 0 ∨ ∃ l ∈ (T j).les, l.1 = d.1
  jj : ∀ d ∈ (T h).don, d.1 ≤ (T h).has.getD h 0
  k : ∀ i j, i < m → j < m → (T i).need.getD j 0 ≤ (T h).has.getD j 0 ∨ ∃ l ∈ (T j).les, (T i).need.getD j 0 ≤ l.1
theorem fresh_iff {need has : List Int} {o : Nat} : fresh need has o = true ↔ ∀ k, k < need.length → need.getD k 0 ≤ has.getD k 0 ∨ k = o := by
  unfold fresh
  rw [List.all_eq_true]
  constructor
  · intro h k hk
    have := h k (List.mem_range.mpr hk)
    rw [Bool.or_eq_true, decide_eq_true_eq, decide_eq_true_eq] at this
    exact this
  · intro h k hk
    rw [Bool.or_eq_true, decide_eq_true_eq, decide_eq_true_eq]
    exact h k (List.mem_range.mp hk)
theorem set_D {l : List Int} {p : Nat} {x : Int} (h : p < l.length) (i : Nat) : (l.set p x).getD i 0 = if i = p then x else l.getD i 0 := by
  rw [List.getD_eq_getElem?_getD, List.getD_eq_getElem?_getD]
  by_cases e : i = p
  · subst e; rw [List.getElem?_set_self h, if_pos rfl]; rfl
  · rw [List.getElem?_set_ne (Ne.symm e), if_neg e]
theorem rs_D {l : List Int} {p : Nat} {n : Int} (h : p < l.length) (i : Nat) : (rs l p n).getD i 0 = if i = p then (if n > l.getD p 0 then n else l.getD p 0) else l.getD i 0 := set_D h i
theorem rs_len (l : List Int) (p : Nat) (n : Int) : (rs l p n).length = l.length := by simp [rs]
theorem zmax_D {a b : List Int} (h : a.length = b.length) {i : Nat} (hi : i < a.length) : (zmax a b).getD i 0 = if b.getD i 0 > a.getD i 0 then b.getD i 0 else a.getD i 0 := by
  rw [← getD_in (by rw [zmax_length h]; exact hi), zmax_get h hi, getD_in hi, getD_in]
theorem upT_same (T : Nat → Mc) (i : Nat) (x : Mc) : upT T i x i = x := if_pos rfl
theorem upT_ne (T : Nat → Mc) {i j : Nat} (x : Mc) (h : j ≠ i) : upT T i x j = T j := if_neg h
section
variable {m h i j : Nat} {T : Nat → Mc}
theorem Iv.right (I : Iv m h T) (hi : i < m) (hf : fresh (T i).need (T i).has i = true) (hj : j < m) {d : Int × (Nat × Cel)} (hd : d ∈ (T j).don) (hle : d.1 ≤ (T i).clk.getD j 0) : leC d.2.2 ((T i).pg d.2.1) := by
  by_cases hij : i = j
  · subst hij; exact I.f1 i hi d hd
  · have h1 := I.c i j hi hj hij d hd hle
    rcases fresh_iff.mp hf j (by rw [(I.ln i hi).1]; exact hj) with h2 | h2
    · exact I.e i j hi hj d hd (by omega)
    · exact absurd h2.symm hij
/-- a store -/
theorem Iv.store (I : Iv m h T) (hi : i < m) {p : Nat} {v : Int} (hp : p < 4) : Iv m h (upT T i (stM (T i) i p v)) := by
  have eq : ∀ {α : Type} (π : Mc → α), π (stM (T i) i p v) = π (T i) → ∀ j, π (upT T i (stM (T i) i p v) j) = π (T j) := fun π hπ j => by
    by_cases q : j = i
    · subst q; rw [upT_same, hπ]
    · rw [upT_ne _ _ q]
  have en := eq Mc.need rfl
  have eh := eq Mc.has rfl
  have ec := eq Mc.clk rfl
  have el := eq Mc.les rfl
  have ed := eq Mc.don rfl
  have ee := eq Mc.en rfl
  have nu : leC ((T i).pg p) ⟨v, ((T i).pg p).k + 1, i⟩ := by unfold leC; dsimp only; omega
  have mono : ∀ j q, leC ((T j).pg q) ((upT T i (stM (T i) i p v) j).pg q) := fun j q => by
    by_cases z : j = i
    · subst z
      rw [upT_same]
      show leC _ (updC (T j).pg p _ q)
      unfold updC
      split
      · rename_i e; subst e; exact nu
      · exact leC.refl _
    · rw [upT_ne _ _ z]; exact leC.refl _
  refine ⟨fun i hi => by rw [en, eh, ec, ee]; exact I.ln i hi, fun i j hi hj => by rw [eh]; exact I.hz i j hi hj, fun i j hi hj hij => by rw [ec, ec]; exact I.a1 i j hi hj hij, fun i j e hi hj he => by rw [ee] at he; rw [ec]; exact I.a2 i j e hi hj he, fun j hj d hd => by rw [ed] at hd; rw [ec]; exact I.b j hj d hd,
    fun i j hi hj hij d hd hle => by rw [ed] at hd; rw [ec] at hle; rw [en]; exact I.c i j hi hj hij d hd hle, fun i j hi hj => by rw [eh, ec]; exact I.dd i j hi hj, fun i j hi hj d hd hle => by rw [ed] at hd; rw [eh] at hle; exact (I.e i j hi hj d hd hle).trans (mono i _), fun i hi d hd => by rw [ed] at hd; exact (I.f1 i hi d hd).trans (mono i _), fun j hj q hq => ?_,
    fun j hj hjh d hd => by rw [ed] at hd; rw [el]; exact (I.g j hj hjh d hd).imp (fun z => z.trans (mono h _)) id, fun j hj => by rw [el]; exact I.l1 j hj, fun j hj l hl => by rw [el] at hl; rw [eh, ec]; exact I.l2 j hj l hl, by rw [el]; exact I.lh, fun j hj hjh d hd => by rw [ed] at hd; rw [eh, el]; exact I.l j hj hjh d hd, fun d hd => by rw [ed] at hd; rw [eh]; exact I.jj d hd, fun i j hi hj => by rw [en, eh, el]; exact I.k i j hi hj⟩
  by_cases z : j = i
  · subst z
    rw [upT_same] at hq ⊢
    have hq : q ∈ (if p ∈ (T j).sl then (T j).sl else (T j).sl ++ [p]) := hq
    show q < 4 ∧ leC (updC (T j).sf p _ q) (updC (T j).pg p _ q)
    by_cases e : q = p
    · subst e
      refine ⟨hp, ?_⟩
      unfold updC
      rw [if_pos rfl, if_pos rfl]
      exact leC.refl _
    · have hq' : q ∈ (T j).sl := by
        split at hq
        · exact hq
        · rcases List.mem_append.mp hq with hq | hq
          · exact hq
          · exact absurd (List.mem_singleton.mp hq) e
      have := I.f2 j hj q hq'
      unfold updC
      rw [if_neg e, if_neg e]
      exact this
  · rw [upT_ne _ _ z] at hq ⊢
    exact I.f2 j hj q hq
/-- a letter arrives -/
theorem Iv.arrive (I : Iv m h T) (hh : h < m) (hi : i < m) : Iv m h (arrT T i h) := by
  unfold arrT
  cases hl : (T i).les with
  | nil => exact I
  | cons l r =>
    dsimp only
    have hih : i ≠ h := fun q => by rw [q, I.lh] at hl; cases hl
    have hhi : h ≠ i := fun q => hih q.symm
    generalize hT' : upT (upT T i { T i with les := r }) h { T h with pg := mgs (T h).pg l.2, has := rs (T h).has i l.1 } = T'
    have th : T' h = { T h with pg := mgs (T h).pg l.2, has := rs (T h).has i l.1 } := by rw [← hT', upT_same]
    have ti : T' i = { T i with les := r } := by rw [← hT', upT_ne _ _ hih, upT_same]
    have to : ∀ j, j ≠ i → j ≠ h → T' j = T j := fun j h1 h2 => by rw [← hT', upT_ne _ _ h2, upT_ne _ _ h1]
    have eq : ∀ {α : Type} (π : Mc → α), (∀ x les, π { x with les := les } = π x) → (∀ x pg has, π { x with pg := pg, has := has } = π x) → ∀ j, π (T' j) = π (T j) := fun π h1 h2 j => by
      by_cases q : j = i
      · subst q; rw [ti, h1]
      · by_cases q2 : j = h
        · subst q2; rw [th, h2]
        · rw [to j q q2]
    have en := eq Mc.need (fun _ _ => rfl) (fun _ _ _ => rfl)
    have ec := eq Mc.clk (fun _ _ => rfl) (fun _ _ _ => rfl)
    have ed := eq Mc.don (fun _ _ => rfl) (fun _ _ _ => rfl)
    have ee := eq Mc.en (fun _ _ => rfl) (fun _ _ _ => rfl)
    have es := eq Mc.sl (fun _ _ => rfl) (fun _ _ _ => rfl)
    have ef := eq Mc.sf (fun _ _ => rfl) (fun _ _ _ => rfl)
    have hhl := (I.ln h hh).2.1
    have lm : l ∈ (T i).les := by rw [hl]; exact List.mem_cons_self
    obtain ⟨lb, lc, lr⟩ := I.l2 i hi l lm
    have pw := I.l1 i hi
    rw [hl, List.pairwise_cons] at pw
    have hD : ∀ j, (T' h).has.getD j 0 = if j = i then l.1 else (T h).has.getD j 0 := fun j => by
      rw [th]
      show (rs (T h).has i l.1).getD j 0 = _
      rw [rs_D (by omega)]
      by_cases q : j = i
      · rw [if_pos q, if_pos q, if_pos lb]
      · rw [if_neg q, if_neg q]
    have hD2 : ∀ k, k ≠ h → (T' k).has = (T k).has := fun k hk => by
      by_cases q : k = i
      · subst q; rw [ti]
      · rw [to k q hk]
    have hmono : ∀ j, (T h).has.getD j 0 ≤ (T' h).has.getD j 0 := fun j => by
      rw [hD]
      split
      · rename_i q; subst q; omega
      · exact Int.le_refl _
    have pmono : ∀ j q, leC ((T j).pg q) ((T' j).pg q) := fun j q => by
      by_cases z : j = h
      · subst z
        rw [th]
        exact (mgs_best l.2 (T j).pg q).lo
      · by_cases z2 : j = i
        · subst z2; rw [ti]; exact leC.refl _
        · rw [to j z2 z]; exact leC.refl _
    have les_ne : ∀ j, j ≠ i → (T' j).les = (T j).les := fun j z => by
      by_cases q : j = h
      · subst q; rw [th]
      · rw [to j z q]
    have les_i : (T' i).les = r := by rw [ti]
    -- a letter of before stands still, or is the one that came
    have les_of : ∀ j l', l' ∈ (T j).les → l' ∈ (T' j).les ∨ (j = i ∧ l' = l) := fun j l' hl' => by
      by_cases q : j = i
      · subst q
        rw [hl] at hl'
        rw [les_i]
        rcases List.mem_cons.mp hl' with e | e
        · exact .inr ⟨rfl, e⟩
        · exact .inl e
      · rw [les_ne j q]; exact .inl hl'
    have les_sub : ∀ j l', l' ∈ (T' j).les → l' ∈ (T j).les := fun j l' hl' => by
      by_cases q : j = i
      · subst q; rw [les_i] at hl'; rw [hl]; exact List.mem_cons_of_mem _ hl'
      · rw [les_ne j q] at hl'; exact hl'
    refine ⟨fun k hk => ?_, fun k j hk hj => ?_, fun i j hi hj hij => by rw [ec, ec]; exact I.a1 i j hi hj hij, fun i j e hi hj he => by rw [ee] at he; rw [ec]; exact I.a2 i j e hi hj he, fun j hj d hd => by rw [ed] at hd; rw [ec]; exact I.b j hj d hd,
      fun i j hi hj hij d hd hle => by rw [ed] at hd; rw [ec] at hle; rw [en]; exact I.c i j hi hj hij d hd hle, fun k j hk hj => ?_, fun k j hk hj d hd hle => ?_, fun i hi d hd => by rw [ed] at hd; exact (I.f1 i hi d hd).trans (pmono i _), fun j hj q hq => by rw [es] at hq; rw [ef]; exact ⟨(I.f2 j hj q hq).1, (I.f2 j hj q hq).2.trans (pmono j _)⟩,
      fun j hj hjh d hd => ?_, fun j hj => ?_, fun j hj l' hl' => ?_, by rw [les_ne h hhi]; exact I.lh, fun j hj hjh d hd => ?_, fun d hd => by rw [ed] at hd; exact Int.le_trans (I.jj d hd) (hmono h), fun k j hk hj => ?_⟩
    · rw [en, ec, ee]
      refine ⟨(I.ln k hk).1, ?_, (I.ln k hk).2.2⟩
      by_cases q : k = h
      · subst q; rw [th]; show (rs _ _ _).length = m; rw [rs_len]; exact hhl
      · rw [hD2 k q]; exact (I.ln k hk).2.1
    · by_cases q : k = h
      · subst q; exact Int.le_trans (I.hz k j hk hj) (hmono j)
      · rw [hD2 k q]; exact I.hz k j hk hj
    · rw [ec]
      by_cases q : k = h
      · subst q
        rw [hD]
        split
        · rename_i z; subst z; exact lc
        · exact I.dd k j hk hj
      · rw [hD2 k q]; exact I.dd k j hk hj
    · rw [ed] at hd
      by_cases q : k = h
      · subst q
        by_cases old : d.1 ≤ (T k).has.getD j 0
        · exact (I.e k j hk hj d hd old).trans (pmono k _)
        · rw [hD] at hle
          split at hle
          · rename_i z
            subst z
            -- the number is the letter's
            rcases I.l j hj hih d hd with z | ⟨l', hl', e⟩
            · exact absurd z old
            · have hl2 : l' = l := by
                rw [hl] at hl'
                rcases List.mem_cons.mp hl' with z | z
                · exact z
                · have := pw.1 l' z; omega
              subst hl2
              rcases I.g j hj hih d hd with z | ⟨l2, hl2, e2, e3⟩
              · exact z.trans (pmono k _)
              · have hl3 : l2 = l' := by
                  rw [hl] at hl2
                  rcases List.mem_cons.mp hl2 with z | z
                  · exact z
                  · have := pw.1 l2 z; omega
                subst hl3
                rw [th]
                exact (mgs_best l2.2 (T k).pg d.2.1).up d.2 e3 rfl
          · exact absurd hle old
      · rw [hD2 k q] at hle
        exact (I.e k j hk hj d hd hle).trans (pmono k _)
    · rw [ed] at hd
      rcases I.g j hj hjh d hd with z | ⟨l', hl', e1, e2⟩
      · exact .inl (z.trans (pmono h _))
      · rcases les_of j l' hl' with z | ⟨z1, z2⟩
        · exact .inr ⟨l', z, e1, e2⟩
        · subst z2
          left
          rw [th]
          exact (mgs_best l'.2 (T h).pg d.2.1).up d.2 e2 rfl
    · by_cases q : j = i
      · subst q; rw [les_i]; exact pw.2
      · rw [les_ne j q]; exact I.l1 j hj
    · rw [ec]
      have hs := les_sub j l' hl'
      obtain ⟨z1, z2, z3⟩ := I.l2 j hj l' hs
      refine ⟨?_, z2, z3⟩
      rw [hD]
      split
      · rename_i z
        subst z
        rw [les_i] at hl'
        exact pw.1 l' hl'
      · exact z1
    · rw [ed] at hd
      rcases I.l j hj hjh d hd with z | ⟨l', hl', e1⟩
      · exact .inl (Int.le_trans z (hmono j))
      · rcases les_of j l' hl' with z | ⟨z1, z2⟩
        · exact .inr ⟨l', z, e1⟩
        · subst z1; subst z2
          left
          rw [hD, if_pos rfl]
          omega
    · rw [en]
      rcases I.k k j hk hj with z | ⟨l', hl', e1⟩
      · exact .inl (Int.le_trans z (hmono j))
      · rcases les_of j l' hl' with z | ⟨z1, z2⟩
        · exact .inr ⟨l', z, e1⟩
        · subst z1; subst z2
          left
          rw [hD, if_pos rfl]
          exact e1
end
end Law

set_option maxHeartbeats 4000000
namespace Law
open PySem L2 Gx
section
variable {m h i j : Nat} {T : Nat → Mc}
/-- an ask that is answered makes the copy fresh -/
theorem Iv.ask_fresh (I : Iv m h T) (hi : i < m) (hh : h < m) (hf : fresh (T i).need (T h).has h = true) : fresh (T i).need (zmax (T i).has (T h).has) i = true := by
  rw [fresh_iff] at hf ⊢
  intro k hk
  have hn := (I.ln i hi).1
  have h1 := (I.ln i hi).2.1
  have h2 := (I.ln h hh).2.1
  left
  rw [zmax_D (by omega) (by omega)]
  have key : (T i).need.getD k 0 ≤ (T h).has.getD k 0 := by
    rcases hf k hk with z | z
    · exact z
    · subst z
      rcases I.k i k hi (by omega) with z | ⟨l, hl, _⟩
      · exact z
      · rw [I.lh] at hl; cases hl
  split <;> omega
theorem Iv.ask (I : Iv m h T) (hi : i < m) (hh : h < m) : Iv m h (askT T i h) := by
  unfold askT
  by_cases hc : i = h ∨ fresh (T i).need (T h).has h = false
  · rw [if_pos hc]; exact I
  · rw [if_neg hc]
    have hih : i ≠ h := fun q => hc (.inl q)
    have hhi : h ≠ i := fun q => hih q.symm
    generalize hT' : upT T i { T i with pg := mgs (T i).pg (rowsOf (T h).pg), has := zmax (T i).has (T h).has } = T'
    have ti : T' i = { T i with pg := mgs (T i).pg (rowsOf (T h).pg), has := zmax (T i).has (T h).has } := by rw [← hT', upT_same]
    have to : ∀ j, j ≠ i → T' j = T j := fun j h1 => by rw [← hT', upT_ne _ _ h1]
    have th := to h hhi
    have eq : ∀ {α : Type} (π : Mc → α), (∀ x pg has, π { x with pg := pg, has := has } = π x) → ∀ j, π (T' j) = π (T j) := fun π h2 j => by
      by_cases q : j = i
      · subst q; rw [ti, h2]
      · rw [to j q]
    have en := eq Mc.need (fun _ _ _ => rfl)
    have ec := eq Mc.clk (fun _ _ _ => rfl)
    have ed := eq Mc.don (fun _ _ _ => rfl)
    have ee := eq Mc.en (fun _ _ _ => rfl)
    have es := eq Mc.sl (fun _ _ _ => rfl)
    have ef := eq Mc.sf (fun _ _ _ => rfl)
    have el := eq Mc.les (fun _ _ _ => rfl)
    have hil := (I.ln i hi).2.1
    have hhl := (I.ln h hh).2.1
    have pmono : ∀ j q, leC ((T j).pg q) ((T' j).pg q) := fun j q => by
      by_cases z : j = i
      · subst z; rw [ti]; exact (mgs_best _ _ q).lo
      · rw [to j z]; exact leC.refl _
    have hD : ∀ k, k < m → (T' i).has.getD k 0 = if (T h).has.getD k 0 > (T i).has.getD k 0 then (T h).has.getD k 0 else (T i).has.getD k 0 := fun k hk => by
      rw [ti]
      exact zmax_D (by omega) (by omega)
    refine ⟨fun k hk => ?_, fun k j hk hj => ?_, fun i j hi hj hij => by rw [ec, ec]; exact I.a1 i j hi hj hij, fun i j e hi hj he => by rw [ee] at he; rw [ec]; exact I.a2 i j e hi hj he, fun j hj d hd => by rw [ed] at hd; rw [ec]; exact I.b j hj d hd,
      fun i j hi hj hij d hd hle => by rw [ed] at hd; rw [ec] at hle; rw [en]; exact I.c i j hi hj hij d hd hle, fun k j hk hj => ?_, fun k j hk hj d hd hle => ?_, fun i hi d hd => by rw [ed] at hd; exact (I.f1 i hi d hd).trans (pmono i _), fun j hj q hq => by rw [es] at hq; rw [ef]; exact ⟨(I.f2 j hj q hq).1, (I.f2 j hj q hq).2.trans (pmono j _)⟩,
      fun j hj hjh d hd => by rw [ed] at hd; rw [th, el]; exact I.g j hj hjh d hd, fun j hj => by rw [el]; exact I.l1 j hj, fun j hj l' hl' => by rw [el] at hl'; rw [th, ec]; exact I.l2 j hj l' hl', by rw [el]; exact I.lh, fun j hj hjh d hd => by rw [ed] at hd; rw [th, el]; exact I.l j hj hjh d hd, fun d hd => by rw [th] at hd ⊢; exact I.jj d hd, fun k j hk hj => by rw [en, th, el]; exact I.k k j hk hj⟩
    · rw [en, ec, ee]
      refine ⟨(I.ln k hk).1, ?_, (I.ln k hk).2.2⟩
      by_cases q : k = i
      · subst q; rw [ti]; show (zmax _ _).length = m; rw [zmax_length (by omega)]; exact hil
      · rw [to k q]; exact (I.ln k hk).2.1
    · by_cases q : k = i
      · subst q
        rw [hD j hj]
        have a := I.hz k j hk hj
        have b := I.hz h j hh hj
        split <;> omega
      · rw [to k q]; exact I.hz k j hk hj
    · rw [ec]
      by_cases q : k = i
      · subst q
        rw [hD j hj]
        have a := I.dd k j hk hj
        have b := I.dd h j hh hj
        split <;> omega
      · rw [to k q]; exact I.dd k j hk hj
    · rw [ed] at hd
      by_cases q : k = i
      · subst q
        rw [hD j hj] at hle
        split at hle
        · have z := I.e h j hh hj d hd hle
          have hp := (I.b j hj d hd).2
          rw [ti]
          have u := (mgs_best (rowsOf (T h).pg) (T k).pg d.2.1).up (d.2.1, (T h).pg d.2.1) (by
            unfold rowsOf
            exact List.mem_map.mpr ⟨d.2.1, List.mem_range.mpr hp, rfl⟩) rfl
          exact z.trans u
        · exact (I.e k j hk hj d hd hle).trans (pmono k _)
      · rw [to k q] at hle ⊢
        exact I.e k j hk hj d hd hle
/-- what is asked behind the answer -/
theorem Iv.ask_right (I : Iv m h T) (hi : i < m) (hh : h < m) (hih : i ≠ h) (hf : fresh (T i).need (T h).has h = true) (hj : j < m) {d : Int × (Nat × Cel)} (hd : d ∈ (T j).don) : d.2.1 < 4 ∧ (d.1 ≤ (T i).clk.getD j 0 → gtC d.2.2 (mgs (T i).pg (rowsOf (T h).pg) d.2.1) = false) := by
  refine ⟨(I.b j hj d hd).2, fun hle => leC_gt ?_⟩
  have I2 := I.ask hi hh
  have hT : askT T i h = upT T i { T i with pg := mgs (T i).pg (rowsOf (T h).pg), has := zmax (T i).has (T h).has } := by
    unfold askT
    rw [if_neg (by rw [hf]; simp [hih])]
  rw [hT] at I2
  have hfr := I.ask_fresh hi hh hf
  have hd2 : d ∈ (upT T i { T i with pg := mgs (T i).pg (rowsOf (T h).pg), has := zmax (T i).has (T h).has } j).don := by
    by_cases q : j = i
    · subst q; rw [upT_same]; exact hd
    · rw [upT_ne _ _ q]; exact hd
  have := I2.right hi (by rw [upT_same]; exact hfr) hj hd2 (by rw [upT_same]; exact hle)
  rw [upT_same] at this
  exact this
/-- an interval ends -/
theorem Iv.fin (I : Iv m h T) (hi : i < m) (hh : h < m) : Iv m h (upT T i (endM (T i) i h)) := by
  have hcl := (I.ln i hi).2.2.1
  have hhl := (I.ln i hi).2.1
  unfold endM
  generalize hn : (T i).clk.getD i 0 = n
  have zc : (endN (T i) i h n).clk = (T i).clk.set i (n + 1) := by unfold endN; split <;> rfl
  have ze : (endN (T i) i h n).en = some (T i).clk := by unfold endN; split <;> rfl
  have zn : (endN (T i) i h n).need = (T i).need := by unfold endN; split <;> rfl
  have zp : (endN (T i) i h n).pg = (T i).pg := by unfold endN; split <;> rfl
  have zs : (endN (T i) i h n).sl = [] := by unfold endN; split <;> first | rfl | assumption
  -- what is done
  have zd : ∀ d, d ∈ (endN (T i) i h n).don → d ∈ (T i).don ∨ (d.1 = n ∧ d.2.1 < 4 ∧ leC d.2.2 ((T i).pg d.2.1) ∧ (d.1 ≤ (endN (T i) i h n).has.getD i 0) ∧ (i ≠ h → ∃ l ∈ (endN (T i) i h n).les, l.1 = d.1 ∧ d.2 ∈ l.2)) := by
    intro d hd
    unfold endN at hd
    split at hd
    · exact .inl hd
    · rename_i hs
      rcases List.mem_append.mp hd with hd | hd
      · exact .inl hd
      · right
        obtain ⟨p, hp, rfl⟩ := List.mem_map.mp hd
        obtain ⟨f1, f2⟩ := I.f2 i hi p hp
        refine ⟨rfl, f1, f2, ?_, fun hih => ?_⟩
        · unfold endN
          rw [if_neg hs]
          show n ≤ (rs (T i).has i n).getD i 0
          rw [rs_D (by omega), if_pos rfl]
          split <;> omega
        · unfold endN
          rw [if_neg hs]
          show ∃ l ∈ (if i = h then (T i).les else (T i).les ++ [(n, (srt (T i).sl).map fun p => (p, (T i).sf p))]), _
          rw [if_neg hih]
          exact ⟨_, List.mem_append_right _ (List.mem_singleton.mpr rfl), rfl, List.mem_map.mpr ⟨p, srt_mem.mpr hp, rfl⟩⟩
  have zd2 : ∀ d ∈ (T i).don, d ∈ (endN (T i) i h n).don := fun d hd => by
    unfold endN
    split
    · exact hd
    · exact List.mem_append_left _ hd
  -- what it has
  have zh : ∀ k, (endN (T i) i h n).has.getD k 0 = (T i).has.getD k 0 ∨ (k = i ∧ (endN (T i) i h n).has.getD k 0 = n ∧ (T i).has.getD k 0 ≤ n) := fun k => by
    unfold endN
    split
    · exact .inl rfl
    · show (rs (T i).has i n).getD k 0 = _ ∨ _ ∧ (rs (T i).has i n).getD k 0 = n ∧ _
      rw [rs_D (by omega)]
      by_cases q : k = i
      · rw [if_pos q]
        split
        · subst q; exact .inr ⟨rfl, rfl, by omega⟩
        · subst q; exact .inl rfl
      · rw [if_neg q]; exact .inl rfl
  have zhl : (endN (T i) i h n).has.length = m := by
    unfold endN
    split
    · exact hhl
    · show (rs _ _ _).length = m; rw [rs_len]; exact hhl
  have zl : (endN (T i) i h n).les = (T i).les ∨ (i ≠ h ∧ (endN (T i) i h n).les = (T i).les ++ [(n, (srt (T i).sl).map fun p => (p, (T i).sf p))]) := by
    unfold endN
    split
    · exact .inl rfl
    · by_cases q : i = h
      · left; exact if_pos q
      · right; exact ⟨q, if_neg q⟩
  generalize endN (T i) i h n = x at zc ze zn zp zs zd zd2 zh zhl zl
  generalize hT' : upT T i x = T'
  have ti : T' i = x := by rw [← hT', upT_same]
  have to : ∀ j, j ≠ i → T' j = T j := fun j h1 => by rw [← hT', upT_ne _ _ h1]
  have en : ∀ j, (T' j).need = (T j).need := fun j => by
    by_cases q : j = i
    · subst q; rw [ti, zn]
    · rw [to j q]
  have ep : ∀ j, (T' j).pg = (T j).pg := fun j => by
    by_cases q : j = i
    · subst q; rw [ti, zp]
    · rw [to j q]
  have cD : ∀ k j, k < m → (T' k).clk.getD j 0 = if k = i ∧ j = i then n + 1 else (T k).clk.getD j 0 := fun k j hk => by
    by_cases q : k = i
    · subst q
      rw [ti, zc, set_D (by omega)]
      by_cases q2 : j = k
      · rw [if_pos q2, if_pos ⟨rfl, q2⟩]
      · rw [if_neg q2, if_neg (fun z => q2 z.2)]
    · rw [to k q, if_neg (fun z => q z.1)]
  have cmono : ∀ j, j < m → (T j).clk.getD j 0 ≤ (T' j).clk.getD j 0 := fun j hj => by
    rw [cD j j hj]
    split
    · rename_i z; rw [z.1, hn]; omega
    · exact Int.le_refl _
  have hlt : ∀ k, k < m → (T k).has.getD i 0 < n := fun k hk => by rw [← hn]; exact I.dd k i hk hi
  have hmono : ∀ k j, (T k).has.getD j 0 ≤ (T' k).has.getD j 0 := fun k j => by
    by_cases q : k = i
    · subst q
      rw [ti]
      rcases zh j with z | ⟨_, z, z2⟩ <;> omega
    · rw [to k q]; exact Int.le_refl _
  have lsub : ∀ j l', l' ∈ (T j).les → l' ∈ (T' j).les := fun j l' hl' => by
    by_cases q : j = i
    · subst q
      rw [ti]
      rcases zl with z | ⟨_, z⟩
      · rw [z]; exact hl'
      · rw [z]; exact List.mem_append_left _ hl'
    · rw [to j q]; exact hl'
  have dcase : ∀ j d, d ∈ (T' j).don → d ∈ (T j).don ∨ (j = i ∧ d.1 = n ∧ d.2.1 < 4 ∧ leC d.2.2 ((T i).pg d.2.1) ∧ d.1 ≤ (T' i).has.getD i 0 ∧ (i ≠ h → ∃ l ∈ (T' i).les, l.1 = d.1 ∧ d.2 ∈ l.2)) := fun j d hd => by
    by_cases q : j = i
    · subst q
      rw [ti] at hd ⊢
      rcases zd d hd with z | z
      · exact .inl z
      · exact .inr ⟨rfl, z⟩
    · rw [to j q] at hd; exact .inl hd
  refine ⟨fun k hk => ?_, fun k j hk hj => Int.le_trans (I.hz k j hk hj) (hmono k j), fun k j hk hj hkj => ?_, fun k j e hk hj he => ?_, fun j hj d hd => ?_, fun k j hk hj hkj d hd hle => ?_, fun k j hk hj => ?_, fun k j hk hj d hd hle => ?_, fun k hk d hd => ?_, fun j hj q hq => ?_,
    fun j hj hjh d hd => ?_, fun j hj => ?_, fun j hj l' hl' => ?_, ?_, fun j hj hjh d hd => ?_, fun d hd => ?_, fun k j hk hj => ?_⟩
  · by_cases q : k = i
    · subst q
      rw [ti, zn, zc, ze]
      refine ⟨(I.ln k hk).1, zhl, by simp [hcl], fun e he => ?_⟩
      cases he; exact hcl
    · rw [to k q]; exact I.ln k hk
  · rw [cD k j hk, if_neg (fun z => hkj (z.1.trans z.2.symm))]
    exact Int.lt_of_lt_of_le (I.a1 k j hk hj hkj) (cmono j hj)
  · by_cases q : k = i
    · subst q
      rw [ti, ze] at he
      cases he
      by_cases q2 : j = k
      · subst q2
        rw [cD j j hj, if_pos ⟨rfl, rfl⟩]; omega
      · exact Int.lt_of_lt_of_le (I.a1 k j hk hj (fun z => q2 z.symm)) (cmono j hj)
    · rw [to k q] at he
      exact Int.lt_of_lt_of_le (I.a2 k j e hk hj he) (cmono j hj)
  · rcases dcase j d hd with z | ⟨z, z1, z2, _⟩
    · exact ⟨Int.lt_of_lt_of_le (I.b j hj d z).1 (cmono j hj), (I.b j hj d z).2⟩
    · subst z
      rw [cD j j hj, if_pos ⟨rfl, rfl⟩]
      exact ⟨by omega, z2⟩
  · rw [cD k j hk, if_neg (fun z => hkj (z.1.trans z.2.symm))] at hle
    rw [en]
    rcases dcase j d hd with z | ⟨z, z1, _⟩
    · exact I.c k j hk hj hkj d z hle
    · subst z
      have := I.a1 k j hk hj hkj
      omega
  · by_cases q : k = i
    · subst q
      rw [ti]
      rcases zh j with z | ⟨z0, z1, _⟩
      · rw [z]; exact Int.lt_of_lt_of_le (I.dd k j hk hj) (cmono j hj)
      · subst z0
        rw [z1, cD j j hj, if_pos ⟨rfl, rfl⟩]; omega
    · rw [to k q]; exact Int.lt_of_lt_of_le (I.dd k j hk hj) (cmono j hj)
  · rw [ep]
    rcases dcase j d hd with z | ⟨z, z1, z2, z3, _⟩
    · by_cases q : k = i
      · subst q
        rw [ti] at hle
        rcases zh j with y | ⟨y, _⟩
        · rw [y] at hle; exact I.e k j hk hj d z hle
        · subst y; exact I.f1 j hj d z
      · rw [to k q] at hle; exact I.e k j hk hj d z hle
    · subst z
      by_cases q : k = j
      · subst q; exact z3
      · rw [to k q] at hle
        have := hlt k hk
        omega
  · rw [ep]
    rcases dcase k d hd with z | ⟨z, z1, z2, z3, _⟩
    · exact I.f1 k hk d z
    · subst z; exact z3
  · by_cases q2 : j = i
    · subst q2; rw [ti, zs] at hq; cases hq
    · rw [to j q2] at hq ⊢; exact I.f2 j hj q hq
  · rw [ep]
    rcases dcase j d hd with z | ⟨z, z1, z2, z3, z4, z5⟩
    · exact (I.g j hj hjh d z).imp id fun ⟨l', hl', y⟩ => ⟨l', lsub j l' hl', y⟩
    · subst z; exact .inr (z5 hjh)
  · by_cases q : j = i
    · subst q
      rw [ti]
      rcases zl with z | ⟨_, z⟩
      · rw [z]; exact I.l1 j hj
      · rw [z, List.pairwise_append]
        refine ⟨I.l1 j hj, List.pairwise_singleton _ _, fun a ha b hb => ?_⟩
        rw [List.mem_singleton.mp hb]
        have := (I.l2 j hj a ha).2.1
        rw [hn] at this
        exact this
    · rw [to j q]; exact I.l1 j hj
  · have old : l' ∈ (T j).les → (T' h).has.getD j 0 < l'.1 ∧ l'.1 < (T' j).clk.getD j 0 ∧ ∀ r ∈ l'.2, r.1 < 4 := fun hl' => by
      obtain ⟨y1, y2, y3⟩ := I.l2 j hj l' hl'
      refine ⟨?_, Int.lt_of_lt_of_le y2 (cmono j hj), y3⟩
      by_cases q : h = i
      · rw [q, ti]
        rcases zh j with z | ⟨z0, _⟩
        · rw [z, ← q]; exact y1
        · rw [z0, ← q, I.lh] at hl'; cases hl'
      · rw [to h q]; exact y1
    by_cases q : j = i
    · subst q
      rw [ti] at hl'
      rcases zl with z | ⟨hjh, z⟩
      · rw [z] at hl'; exact old hl'
      · rw [z] at hl'
        rcases List.mem_append.mp hl' with hl' | hl'
        · exact old hl'
        · rw [List.mem_singleton.mp hl']
          refine ⟨?_, ?_, fun r hr => ?_⟩
          · rw [to h (fun y => hjh y.symm)]; exact hlt h hh
          · rw [cD j j hj, if_pos ⟨rfl, rfl⟩]; dsimp only; omega
          · obtain ⟨p, hp, rfl⟩ := List.mem_map.mp hr
            exact (I.f2 j hj p (srt_mem.mp hp)).1
    · rw [to j q] at hl'; exact old hl'
  · by_cases q : h = i
    · rw [q, ti]
      rcases zl with z | ⟨y, _⟩
      · rw [z, ← q]; exact I.lh
      · exact absurd q.symm y
    · rw [to h q]; exact I.lh
  · rcases dcase j d hd with z | ⟨z, z1, z2, z3, z4, z5⟩
    · exact (I.l j hj hjh d z).imp (fun y => Int.le_trans y (hmono h j)) fun ⟨l', hl', y⟩ => ⟨l', lsub j l' hl', y⟩
    · subst z
      obtain ⟨l', hl', y, _⟩ := z5 hjh
      exact .inr ⟨l', hl', y⟩
  · rcases dcase h d hd with z | ⟨z, z1, z2, z3, z4, z5⟩
    · exact Int.le_trans (I.jj d z) (hmono h h)
    · rw [z]; exact z4
  · rw [en]
    exact (I.k k j hk hj).imp (fun y => Int.le_trans y (hmono h j)) fun ⟨l', hl', y⟩ => ⟨l', lsub j l' hl', y⟩
/-- a clock is taken over -/
theorem Iv.take (I : Iv m h T) (hh : h < m) (hi : i < m) {o : Nat} (ho : o < m) (hio : i ≠ o) {e : List Int} (hen : (T o).en = some e) : Iv m h (upT T i (takM T m i e)) := by
  have hcl := (I.ln i hi).2.2.1
  have hnl := (I.ln i hi).1
  have hel := (I.ln o ho).2.2.2 e hen
  have zl : (zmax (T i).clk e).length = m := by rw [zmax_length (by omega)]; exact hcl
  generalize hclk : (zmax (T i).clk e).set i ((T i).clk.getD i 0) = clk
  have hckl : clk.length = m := by rw [← hclk]; simp [zl]
  have kD : ∀ k, k < m → clk.getD k 0 = if k = i then (T i).clk.getD i 0 else (if e.getD k 0 > (T i).clk.getD k 0 then e.getD k 0 else (T i).clk.getD k 0) := fun k hk => by
    rw [← hclk, set_D (by omega), zmax_D (by omega) (by omega)]
  have hT : takM T m i e = { T i with clk := clk, need := ndK m i (T i).need clk (fun j => (T j).don) m } := by unfold takM; rw [hclk]
  rw [hT]
  generalize hT' : upT T i { T i with clk := clk, need := ndK m i (T i).need clk (fun j => (T j).don) m } = T'
  have ti : T' i = { T i with clk := clk, need := ndK m i (T i).need clk (fun j => (T j).don) m } := by rw [← hT', upT_same]
  have to : ∀ j, j ≠ i → T' j = T j := fun j h1 => by rw [← hT', upT_ne _ _ h1]
  have eq : ∀ {α : Type} (π : Mc → α), (∀ x clk need, π { x with clk := clk, need := need } = π x) → ∀ j, π (T' j) = π (T j) := fun π h2 j => by
    by_cases q : j = i
    · subst q; rw [ti, h2]
    · rw [to j q]
  have eh := eq Mc.has (fun _ _ _ => rfl)
  have ep := eq Mc.pg (fun _ _ _ => rfl)
  have ed := eq Mc.don (fun _ _ _ => rfl)
  have ee := eq Mc.en (fun _ _ _ => rfl)
  have es := eq Mc.sl (fun _ _ _ => rfl)
  have ef := eq Mc.sf (fun _ _ _ => rfl)
  have el := eq Mc.les (fun _ _ _ => rfl)
  have ec : ∀ j, j < m → (T' j).clk.getD j 0 = (T j).clk.getD j 0 := fun j hj => by
    by_cases q : j = i
    · subst q; rw [ti]; show clk.getD j 0 = _; rw [kD j hj, if_pos rfl]
    · rw [to j q]
  have nD : ∀ k, k < m → (T' i).need.getD k 0 = if k < m ∧ k ≠ i then (if mx0 (nums (T k).don (clk.getD k 0)) > (T i).need.getD k 0 then mx0 (nums (T k).don (clk.getD k 0)) else (T i).need.getD k 0) else (T i).need.getD k 0 := fun k hk => by
    rw [ti]; exact ndK_at hk
  refine ⟨fun k hk => ?_, fun k j hk hj => by rw [eh]; exact I.hz k j hk hj, fun k j hk hj hkj => ?_, fun k j e' hk hj he => by rw [ee] at he; rw [ec j hj]; exact I.a2 k j e' hk hj he, fun j hj d hd => by rw [ed] at hd; rw [ec j hj]; exact I.b j hj d hd, fun k j hk hj hkj d hd hle => ?_, fun k j hk hj => by rw [eh, ec j hj]; exact I.dd k j hk hj,
    fun k j hk hj d hd hle => by rw [ed] at hd; rw [eh] at hle; rw [ep]; exact I.e k j hk hj d hd hle, fun k hk d hd => by rw [ed] at hd; rw [ep]; exact I.f1 k hk d hd, fun j hj q hq => by rw [es] at hq; rw [ef, ep]; exact I.f2 j hj q hq, fun j hj hjh d hd => by rw [ed] at hd; rw [ep, el]; exact I.g j hj hjh d hd, fun j hj => by rw [el]; exact I.l1 j hj,
    fun j hj l' hl' => by rw [el] at hl'; rw [eh, ec j hj]; exact I.l2 j hj l' hl', by rw [el]; exact I.lh, fun j hj hjh d hd => by rw [ed] at hd; rw [eh, el]; exact I.l j hj hjh d hd, fun d hd => by rw [ed] at hd; rw [eh]; exact I.jj d hd, fun k j hk hj => ?_⟩
  · by_cases q : k = i
    · subst q
      rw [ti]
      exact ⟨ndK_len _ _ _ _ _ _, (I.ln k hk).2.1, hckl, (I.ln k hk).2.2.2⟩
    · rw [to k q]; exact I.ln k hk
  · rw [ec j hj]
    by_cases q : k = i
    · subst q
      rw [ti]
      show clk.getD j 0 < _
      rw [kD j hj, if_neg (fun z => hkj z.symm)]
      have a := I.a1 k j hk hj hkj
      have b := I.a2 o j e ho hj hen
      split <;> omega
    · rw [to k q]; exact I.a1 k j hk hj hkj
  · rw [ed] at hd
    by_cases q : k = i
    · subst q
      rw [nD j hj, if_pos ⟨hj, fun z => hkj z.symm⟩]
      rw [ti] at hle
      have hle : d.1 ≤ clk.getD j 0 := hle
      have hm : d.1 ∈ nums (T j).don (clk.getD j 0) := List.mem_map.mpr ⟨d, List.mem_filter.mpr ⟨hd, decide_eq_true hle⟩, rfl⟩
      have := (mx0_mem (nums (T j).don (clk.getD j 0)) 0).2.2 d.1 hm
      have hx : d.1 ≤ mx0 (nums (T j).don (clk.getD j 0)) := this
      split <;> omega
    · rw [to k q] at hle ⊢
      exact I.c k j hk hj hkj d hd hle
  · rw [eh, el]
    by_cases q : k = i
    · subst q
      rw [nD j hj]
      split
      · rename_i hc
        split
        · -- the greatest number
          rcases (mx0_mem (nums (T j).don (clk.getD j 0)) 0).1 with z | z
          · left
            have z : mx0 (nums (T j).don (clk.getD j 0)) = 0 := z
            rw [z]
            exact I.hz h j hh hj
          · obtain ⟨d, hd, e1⟩ := List.mem_map.mp z
            have hd := (List.mem_filter.mp hd).1
            have e1 : d.1 = mx0 (nums (T j).don (clk.getD j 0)) := e1
            rw [← e1]
            by_cases hjh : j = h
            · subst hjh; exact .inl (I.jj d hd)
            · exact (I.l j hj hjh d hd).imp id fun ⟨l', hl', y⟩ => ⟨l', hl', by omega⟩
        · exact I.k k j hk hj
      · exact I.k k j hk hj
    · rw [to k q]; exact I.k k j hk hj
end
end Law

set_option maxHeartbeats 4000000
namespace Law
open PySem L2 Gx
def A0 : Ob → Nat
  | (i, .pg) => 6 * i
  | (i, .hd) => 6 * i + 1
  | (i, .so) => 6 * i + 2
  | (i, .le) => 6 * i + 3
  | (i, .dn) => 6 * i + 4
  | (i, .mc) => 6 * i + 5
def T0 (m i : Nat) : Mc := ⟨f0, List.replicate m 0, List.replicate m 0, [], f0, (List.replicate m 0).set i 1, [], [], none⟩
theorem machine_eq {m i : Nat} {st : Store} (hm : 1 ≤ m) (hm2 : m ≤ 8) (hi : i < m) (hs : st.length = 6 * i) : f__law_machine [.int m, .int i] st = some (.ref (6 * i + 5), st ++ [.lst (pD f0), held (List.replicate m 0) (List.replicate m 0), .dK [], .lst [], .lst [], .dK (mcK A0 i ((List.replicate m 0).set i 1) none)]) := by
  have h1 := fun (st : Store) => new_eq (m := m) (st := st) hm (by omega)
  have h2 := fun (st : Store) => zero_eq (m := m) (st := st) hm (by omega)
  have h3 := fun (st : Store) => with_eq (a := List.replicate m 0) (p := i) (n := 1) (st := st) (by simpa using hi) (by simp; omega)
  have h4 := fun (st : Store) => new_page_eq (st := st)
  simp [f__law_machine, b__law_machine, h1, h2, h3, h4, hs, mergeD, putD, mcK, enK, A0]
theorem blk_get {i : Nat} {st : Store} (hs : st.length = 6 * i) (a b c d e f : SO) (n : Nat) (hn : n < 6) : (st ++ [a, b, c, d, e, f])[6 * i + n]? = [a, b, c, d, e, f][n]? := by
  rw [List.getElem?_append_right (by omega)]
  congr 1
  omega
theorem team_eq {m : Nat} (hm : 1 ≤ m) (hm2 : m ≤ 8) {s0 s2 s3 s4 s5 s6 s7 : Slot} : ∃ st, c_law_1 [s0, .val (.int m), s2, s3, s4, s5, s6, s7] [] = some (.lst ((List.range m).map fun i => .ref (A0 (i, .mc))), st) ∧ Ly m A0 (val (T0 m) A0) st := by
  obtain ⟨acc, st', h1, h2, h3, h4⟩ := lc_rngI (m := mVar 1) (j := 7) (e := mCall f__law_machine (mCons (mVar 1) (mCons (mVar 7) mNil))) (vs := [7]) (env := [s0, .val (.int m), s2, s3, s4, s5, s6, s7]) (st := []) (st1 := []) (n := m)
    (fun k acc st => acc = (List.range k).map (fun i => .ref (A0 (i, .mc))) ∧ st.length = 6 * k ∧ ∀ o : Ob, o.1 < k → st[A0 o]? = some (val (T0 m) A0 o)) (by simp) (by omega) ⟨rfl, rfl, fun o ho => absurd ho (by omega)⟩ (by
      rintro k acc st hk ⟨rfl, hs, hg⟩
      have hmc := machine_eq (st := st) hm hm2 hk hs
      refine ⟨.ref (6 * k + 5), st ++ [.lst (pD f0), held (List.replicate m 0) (List.replicate m 0), .dK [], .lst [], .lst [], .dK (mcK A0 k ((List.replicate m 0).set k 1) none)], ?_, ?_, ?_, ?_⟩
      · simp [wipeE, hmc]
      · rw [List.range_succ, List.map_append]; rfl
      · simp [hs]; omega
      · rintro ⟨i, kd⟩ ho
        by_cases hik : i < k
        · exact get_app (hg (i, kd) hik) _
        · have e : i = k := by
            have : i < k + 1 := ho
            omega
          subst e
          cases kd
          · exact (blk_get hs _ _ _ _ _ _ 0 (by omega)).trans rfl
          · exact (blk_get hs _ _ _ _ _ _ 1 (by omega)).trans rfl
          · exact (blk_get hs _ _ _ _ _ _ 2 (by omega)).trans rfl
          · exact (blk_get hs _ _ _ _ _ _ 3 (by omega)).trans rfl
          · exact (blk_get hs _ _ _ _ _ _ 4 (by omega)).trans rfl
          · exact (blk_get hs _ _ _ _ _ _ 5 (by omega)).trans rfl)
  refine ⟨st', ?_, fun o ho => h4 o ho, ?_⟩
  · unfold c_law_1
    rw [h1, h2]
  · rintro ⟨i, a⟩ ⟨j, b⟩ _ _ e
    have key : a = b ∧ i = j := by
      cases a <;> cases b <;> simp only [A0] at e <;> first | exact ⟨rfl, by omega⟩ | (exfalso; omega)
    rw [key.1, key.2]
theorem rep_D (m j : Nat) : (List.replicate m (0 : Int)).getD j 0 = 0 := by
  rw [List.getD_eq_getElem?_getD, List.getElem?_replicate]
  split <;> rfl
theorem Iv.zero {m h : Nat} (hh : h < m) : Iv m h (T0 m) := by
  have cD : ∀ i j, i < m → (T0 m i).clk.getD j 0 = if j = i then 1 else 0 := fun i j hi => by
    show ((List.replicate m (0 : Int)).set i 1).getD j 0 = _
    rw [set_D (by simpa using hi), rep_D]
  refine ⟨fun i hi => ⟨by simp [T0], by simp [T0], by simp [T0], fun e he => (by cases he)⟩, fun i j hi hj => ?_, fun i j hi hj hij => ?_, fun i j e hi hj he => (by cases he), fun j hj d hd => (by cases hd), fun i j hi hj hij d hd => (by cases hd), fun i j hi hj => ?_, fun i j hi hj d hd => (by cases hd), fun i hi d hd => (by cases hd), fun i hi p hp => (by cases hp),
    fun j hj hjh d hd => (by cases hd), fun j hj => .nil, fun j hj l hl => (by cases hl), rfl, fun j hj hjh d hd => (by cases hd), fun d hd => (by cases hd), fun i j hi hj => .inl ?_⟩
  · show 0 ≤ (List.replicate m (0 : Int)).getD j 0; rw [rep_D]; omega
  · rw [cD i j hi, cD j j hj, if_neg (fun q => hij q.symm), if_pos rfl]; omega
  · rw [cD j j hj, if_pos rfl]; show (List.replicate m (0 : Int)).getD j 0 < 1; rw [rep_D]; omega
  · show (List.replicate m (0 : Int)).getD j 0 ≤ (List.replicate m (0 : Int)).getD j 0; exact Int.le_refl _
/-! sizes -/
def Sz (k : Nat) (T : Nat → Mc) : Prop := ∀ j, (T j).sl.length ≤ k ∧ (T j).don.length ≤ 60 * k ∧ (T j).les.length ≤ k
theorem Sz.upT {k : Nat} {T : Nat → Mc} (S : Sz k T) {i : Nat} {x : Mc} (h : x.sl.length ≤ k + 1 ∧ x.don.length ≤ 60 * (k + 1) ∧ x.les.length ≤ k + 1) : Sz (k + 1) (upT T i x) := fun j => by
  by_cases q : j = i
  · subst q; rw [upT_same]; exact h
  · rw [upT_ne _ _ q]
    have := S j
    omega
theorem Sz.succ {k : Nat} {T : Nat → Mc} (S : Sz k T) : Sz (k + 1) T := fun j => by have := S j; omega
theorem tm_same {m : Nat} {A : Ob → Nat} (h : ∀ j, A (j, .mc) = A0 (j, .mc)) : tmD m A = tmD m A0 := by
  unfold tmD
  congr 2
  funext i
  rw [h]
structure Sta (m h k : Nat) (T : Nat → Mc) (A : Ob → Nat) (st : Store) : Prop where
  ly : Ly m A (val T A) st
  am : ∀ j, A (j, .mc) = A0 (j, .mc)
  iv : Iv m h T
  sz : Sz k T
section
variable {m h k i : Nat} {T : Nat → Mc} {A : Ob → Nat} {st : Store}
theorem Sta.store (S : Sta m h k T A st) (hm : m ≤ 8) (hk : k ≤ 60) (hi : i < m) {p : Nat} {v : Int} (hp : p < 4) : ∃ T' st', f__law_store [tmD m A0, .ref (A0 (i, .mc)), .int p, .int v] st = some (.bl true, st') ∧ Sta m h (k + 1) T' A st' := by
  have hz := S.sz i
  obtain ⟨st', h1, h2⟩ := lstore_eq S.ly hi hm (S.iv.ln i hi).2.2.1 (S.iv.ln i hi).1 (S.iv.ln i hi).2.1 (by omega) (v := v) hp (fun j hj d hd => (S.iv.b j hj d hd).2) (fun hf j hj d hd hle => S.iv.right hi hf hj hd hle)
  rw [tm_same S.am, S.am] at h1
  refine ⟨_, st', h1, h2, S.am, ?_, ?_⟩
  · split
    · exact S.iv.store hi hp
    · exact S.iv
  · split
    · refine S.sz.upT ⟨?_, ?_, ?_⟩
      · show (if p ∈ (T i).sl then (T i).sl else (T i).sl ++ [p]).length ≤ _
        split
        · omega
        · rw [List.length_append]; simp; omega
      · show (T i).don.length ≤ _; omega
      · show (T i).les.length ≤ _; omega
    · exact S.sz.succ
theorem Sta.fin (S : Sta m h k T A st) (hm : m ≤ 8) (hk : k ≤ 60) (hi : i < m) (hh : h < m) : ∃ T' A' st', f__law_end [tmD m A0, .ref (A0 (i, .mc)), .int h] st = some (.non, st') ∧ Sta m h (k + 1) T' A' st' := by
  have hz := S.sz i
  obtain ⟨st', A', h1, h2, h3⟩ := end_eq S.ly hi (S.iv.ln i hi).2.2.1 (S.iv.ln i hi).2.1 hm (by omega) (by omega) (by omega) (h := h)
  rw [tm_same S.am, S.am] at h1
  refine ⟨_, A', st', h1, h2, fun j => (h3 j).trans (S.am j), S.iv.fin hi hh, S.sz.upT ?_⟩
  unfold endM endN
  split
  · exact ⟨by show (T i).sl.length ≤ _; omega, by show (T i).don.length ≤ _; omega, by show (T i).les.length ≤ _; omega⟩
  · refine ⟨by simp, ?_, ?_⟩
    · show ((T i).don ++ (T i).sl.map _).length ≤ _
      rw [List.length_append, List.length_map]; omega
    · show (if i = h then (T i).les else (T i).les ++ [_]).length ≤ _
      split
      · omega
      · rw [List.length_append]; simp; omega
theorem Sta.take (S : Sta m h k T A st) (hm : m ≤ 8) (hk : k ≤ 61) (hi : i < m) (hh : h < m) {o : Nat} (ho : o < m) : ∃ T' st', f__law_take_over [tmD m A0, .ref (A0 (i, .mc)), .ref (A0 (o, .mc))] st = some (.non, st') ∧ Sta m h k T' A st' := by
  obtain ⟨st', h1, h2⟩ := take_eq S.ly hi ho hm (S.iv.ln i hi).2.2.1 (S.iv.ln i hi).1 (S.iv.ln o ho).2.2.2 (fun j _ => by have := S.sz j; omega)
  rw [tm_same S.am, S.am, S.am] at h1
  cases hen : (T o).en with
  | none =>
    rw [hen] at h2
    exact ⟨T, st', h1, h2, S.am, S.iv, S.sz⟩
  | some e =>
    rw [hen] at h2
    dsimp only at h2
    by_cases hio : i = o
    · rw [if_pos hio] at h2
      exact ⟨T, st', h1, h2, S.am, S.iv, S.sz⟩
    · rw [if_neg hio] at h2
      refine ⟨_, st', h1, h2, S.am, S.iv.take hh hi ho hio hen, fun j => ?_⟩
      by_cases q : j = i
      · subst q; rw [upT_same]; exact S.sz j
      · rw [upT_ne _ _ q]; exact S.sz j
theorem arr_les (I : Iv m h T) (hi : i < m) (q : Nat) : (arrT T i h q).les = if q = i then (T i).les.tail else (T q).les := by
  unfold arrT
  cases hl : (T i).les with
  | nil =>
    dsimp only
    by_cases z : q = i
    · rw [if_pos z, z, hl]; rfl
    · rw [if_neg z]
  | cons l r =>
    have hih : i ≠ h := fun q => by rw [q, I.lh] at hl; cases hl
    dsimp only
    by_cases z : q = h
    · subst z
      rw [upT_same, if_neg (fun y => hih y.symm)]
    · rw [upT_ne _ _ z]
      by_cases y : q = i
      · subst y; rw [upT_same, if_pos rfl]; rfl
      · rw [upT_ne _ _ y, if_neg y]
theorem arr_don (i h q : Nat) : (arrT T i h q).don = (T q).don ∧ (arrT T i h q).sl = (T q).sl := by
  unfold arrT
  cases hl : (T i).les with
  | nil => exact ⟨rfl, rfl⟩
  | cons l r =>
    dsimp only
    by_cases z : q = h
    · subst z
      rw [upT_same]
      exact ⟨rfl, rfl⟩
    · rw [upT_ne _ _ z]
      by_cases y : q = i
      · subst y; rw [upT_same]; exact ⟨rfl, rfl⟩
      · rw [upT_ne _ _ y]; exact ⟨rfl, rfl⟩
theorem Sta.arrive (S : Sta m h k T A st) (hm : m ≤ 8) (hk : k ≤ 100) (hi : i < m) (hh : h < m) : ∃ st', f__law_arrive [tmD m A0, .ref (A0 (i, .mc)), .int h] st = some (.non, st') ∧ Sta m h k (arrT T i h) A st' := by
  obtain ⟨st', h1, h2⟩ := arrive_eq S.ly hi hh hm (fun q e => q (by rw [e]; exact S.iv.lh)) (S.iv.ln h hh).2.1 (fun l hl r hr => (S.iv.l2 i hi l hl).2.2 r hr) (by have := S.sz i; omega)
  rw [tm_same S.am, S.am] at h1
  refine ⟨st', h1, h2, S.am, S.iv.arrive hh hi, fun j => ?_⟩
  rw [arr_les S.iv hi, (arr_don i h j).1, (arr_don i h j).2]
  have := S.sz j
  refine ⟨this.1, this.2.1, ?_⟩
  split
  · rename_i q; subst q; rw [List.length_tail]; omega
  · exact this.2.2
theorem ask_same (i h q : Nat) : (askT T i h q).don = (T q).don ∧ (askT T i h q).sl = (T q).sl ∧ (askT T i h q).les = (T q).les := by
  unfold askT
  split
  · exact ⟨rfl, rfl, rfl⟩
  · by_cases y : q = i
    · subst y; rw [upT_same]; exact ⟨rfl, rfl, rfl⟩
    · rw [upT_ne _ _ y]; exact ⟨rfl, rfl, rfl⟩
theorem Sta.asked (S : Sta m h k T A st) (hm : m ≤ 8) (hi : i < m) (hh : h < m) : ∃ st', f__law_asked [tmD m A0, .ref (A0 (i, .mc)), .int h] st = some (.bl true, st') ∧ Sta m h k (askT T i h) A st' := by
  obtain ⟨st', h1, h2⟩ := asked_eq S.ly hi hh hm (S.iv.ln i hi).2.2.1 (S.iv.ln i hi).1 (S.iv.ln i hi).2.1 (S.iv.ln h hh).2.1 (fun _ hf => S.iv.ask_fresh hi hh hf) (fun hih hf j hj d hd => S.iv.ask_right hi hh hih hf hj hd)
  rw [tm_same S.am, S.am] at h1
  refine ⟨st', h1, h2, S.am, S.iv.ask hi hh, fun j => ?_⟩
  rw [(ask_same i h j).1, (ask_same i h j).2.1, (ask_same i h j).2.2]
  exact S.sz j
end
end Law

set_option maxHeartbeats 4000000
namespace Law
open PySem L2 Gx
def en9 (ns : List Int) (m h : Nat) (s4 s5 s6 s7 : Slot) : Gx.Env := [.val (.lst (dI ns)), .val (.int m), .val (.int h), .val (tmD m A0), s4, s5, s6, s7]
theorem tm_at {m i : Nat} (hi : i < m) : ((List.range m).map fun i => D.ref (A0 (i, .mc)))[i]? = some (.ref (A0 (i, .mc))) := by simp [hi]
section
variable {ns : List Int} {m h : Nat}
theorem turn9 (hm1 : 3 ≤ m) (hm : m ≤ 8) (hh : h < m) {k : Nat} (hk : k < 60) {T : Nat → Mc} {A : Ob → Nat} {st : Store} (S : Sta m h k T A st) {s5 s6 s7 : Slot} :
    ∃ T' A' st' t5 t6, b_law_1 (en9 ns m h (.val (.int k)) s5 s6 s7) st = some (.nx, en9 ns m h (.val (.int k)) t5 t6 s7, st') ∧ Sta m h (k + 1) T' A' st' := by
  have hce := cell_eq (ns := ns) (k := k) (st := st)
  generalize ns.getD k 0 = v at hce
  obtain ⟨ds, hlen, hd, hf⟩ := digits_eq (c := v + 3 * (k : Int)) (bs := [9, (m : Int), (m : Int), 4, 50]) (st := st) (by intro b hb; simp at hb; rcases hb with rfl | rfl | rfl | rfl | rfl <;> omega) (by simp)
  have e5 : dI [9, (m : Int), (m : Int), 4, 50] = [.int 9, .int m, .int m, .int 4, .int 50] := rfl
  rw [e5] at hf
  match ds, hlen with
  | [d0, d1, d2, d3, d4], _ =>
  have b0 := hd 0 (by simp) (by simp)
  have b1 := hd 1 (by simp) (by simp)
  have b2 := hd 2 (by simp) (by simp)
  have b3 := hd 3 (by simp) (by simp)
  simp at b0 b1 b2 b3
  obtain ⟨i, rfl⟩ := Int.eq_ofNat_of_zero_le b1.1
  obtain ⟨o, rfl⟩ := Int.eq_ofNat_of_zero_le b2.1
  obtain ⟨p, rfl⟩ := Int.eq_ofNat_of_zero_le b3.1
  have hi : i < m := by omega
  have ho : o < m := by omega
  have hp : p < 4 := by omega
  clear hd b1 b2 b3
  have hkw : (k : Int) < 18446744073709551616 := by omega
  have hkw2 : -18446744073709551616 < (k : Int) := by omega
  have g1 : mSet 5 (mCall f__law_digits (mCons (mAdd (mCall f__law_cell (mCons (mVar 0) (mCons (mVar 4) mNil))) (mMulA (mC (.int 3)) (mVar 4))) (mCons (mFrz (mFLst (mCons (mC (.int 9)) (mCons (mVar 1) (mCons (mVar 1) (mCons (mC (.int 4)) (mCons (mC (.int 50)) mNil))))))) mNil))) (en9 ns m h (.val (.int k)) s5 s6 s7) st = some (.nx, en9 ns m h (.val (.int k)) (.val (.lst (dI [d0, (i : Int), (o : Int), (p : Int), d4]))) s6 s7, st) := by
    simp [en9, hce, hf, hkw, hkw2]
  generalize hE : en9 ns m h (.val (.int k)) (.val (.lst (dI [d0, (i : Int), (o : Int), (p : Int), d4]))) (.val (.ref (A0 (i, .mc)))) s7 = E
  have g2 : mSet 6 (mIx (mVar 3) (mIx (mVar 5) (mC (.int 1)))) (en9 ns m h (.val (.int k)) (.val (.lst (dI [d0, (i : Int), (o : Int), (p : Int), d4]))) s6 s7) st = some (.nx, E, st) := by
    rw [← hE]
    simp [en9, tmD, hi]
  suffices hg : ∃ T' A' st', mSq i_law_1 (mSq i_law_3 (mSq i_law_4 i_law_5)) E st = some (.nx, E, st') ∧ Sta m h (k + 1) T' A' st' by
    obtain ⟨T', A', st', q1, q2⟩ := hg
    refine ⟨T', A', st', .val (.lst (dI [d0, (i : Int), (o : Int), (p : Int), d4])), .val (.ref (A0 (i, .mc))), ?_, q2⟩
    unfold b_law_1
    rw [sq_step g1, sq_step g2, q1, ← hE]
  have n1 : ¬ d0 < 3 → ∀ st, i_law_1 E st = some (.nx, E, st) := fun q st => by rw [← hE]; simp [en9, i_law_1, q]
  have n3 : ¬ (d0 = 3 ∨ d0 = 4) → ∀ st, i_law_3 E st = some (.nx, E, st) := fun q st => by
    have q1 : ¬ d0 = 3 := fun z => q (.inl z)
    have q2 : ¬ d0 = 4 := fun z => q (.inr z)
    rw [← hE]; simp [en9, i_law_3, q1, q2]
  have n4 : ¬ (d0 = 5 ∨ d0 = 6) → ∀ st, i_law_4 E st = some (.nx, E, st) := fun q st => by
    have q1 : ¬ d0 = 5 := fun z => q (.inl z)
    have q2 : ¬ d0 = 6 := fun z => q (.inr z)
    rw [← hE]; simp [en9, i_law_4, q1, q2]
  have n5 : ¬ 6 < d0 → ∀ st, i_law_5 E st = some (.nx, E, st) := fun q st => by rw [← hE]; simp [en9, i_law_5, q]
  by_cases c1 : d0 < 3
  · obtain ⟨T', st', h1, h2⟩ := S.store hm (by omega) hi hp (v := d4)
    have g3 : i_law_1 E st = some (.nx, E, st') := by rw [← hE]; simp [en9, i_law_1, c1, h1]
    refine ⟨T', A, st', ?_, h2⟩
    rw [sq_step g3, sq_step (n3 (by omega) st'), sq_step (n4 (by omega) st'), n5 (by omega) st']
  · by_cases c3 : d0 = 3 ∨ d0 = 4
    · obtain ⟨T', A', st', h1, h2⟩ := S.fin hm (by omega) hi hh
      by_cases c4 : d0 = 4
      · obtain ⟨T2, st2, h3, h4⟩ := h2.take hm (by omega) hi hh ho
        have g3 : i_law_3 E st = some (.nx, E, st2) := by
          rw [← hE]
          have tm : tmD m A0 = .lst ((List.range m).map fun i => .ref (A0 (i, .mc))) := rfl
          have h3' := h3
          have h1' := h1
          simp [en9, i_law_3, i_law_2, c4, h1]
          simp [tmD] at h3 ⊢
          simp [ho, h3]
        refine ⟨T2, A', st2, ?_, h4⟩
        rw [sq_step (n1 c1 st), sq_step g3, sq_step (n4 (by omega) st2), n5 (by omega) st2]
      · have c33 : d0 = 3 := by omega
        have g3 : i_law_3 E st = some (.nx, E, st') := by
          rw [← hE]
          simp [en9, i_law_3, i_law_2, c33, h1]
        refine ⟨T', A', st', ?_, h2⟩
        rw [sq_step (n1 c1 st), sq_step g3, sq_step (n4 (by omega) st'), n5 (by omega) st']
    · by_cases c5 : d0 = 5 ∨ d0 = 6
      · obtain ⟨st', h1, h2⟩ := S.arrive hm (by omega) hi hh
        have g3 : i_law_4 E st = some (.nx, E, st') := by
          rw [← hE]
          rcases c5 with c5 | c5 <;> simp [en9, i_law_4, c5, h1]
        refine ⟨_, A, st', ?_, h2.ly, h2.am, h2.iv, h2.sz.succ⟩
        rw [sq_step (n1 c1 st), sq_step (n3 c3 st), sq_step g3, n5 (by omega) st']
      · have c6 : 6 < d0 := by omega
        obtain ⟨st', h1, h2⟩ := S.asked hm hi hh
        have g3 : i_law_5 E st = some (.nx, E, st') := by
          rw [← hE]
          simp [en9, i_law_5, c6, h1]
        refine ⟨_, A, st', ?_, h2.ly, h2.am, h2.iv, h2.sz.succ⟩
        rw [sq_step (n1 c1 st), sq_step (n3 c3 st), sq_step (n4 c5 st), g3]
/-- all letters of a machine arrive -/
theorem letters9 (hm : m ≤ 8) (hh : h < m) {k : Nat} (hk : k ≤ 100) {T : Nat → Mc} {A : Ob → Nat} {st : Store} (S : Sta m h k T A st) {i : Nat} (hi : i < m) (hz : ∀ q, q < i → (T q).les = []) {s4 s5 s7 : Slot} :
    ∃ T' st' t4, l_law_2 (en9 ns m h s4 s5 (.val (.ref (A0 (i, .mc)))) s7) st = some (.nx, en9 ns m h t4 s5 (.val (.ref (A0 (i, .mc)))) s7, st') ∧ Sta m h k T' A st' ∧ ∀ q, q < i + 1 → (T' q).les = [] := by
  have e1 := g_mc S.ly hi
  have e2 := g_le S.ly hi
  have hz2 := S.sz i
  rw [S.am] at e1
  obtain ⟨env', st', h1, T', t4, rfl, h2, h3, h4⟩ := for_rng (m := m1 (mIx (mVar 6) (mC (.str "letters"))) f1Len) (g := gN 4) (body := b_law_2) (n := (T i).les.length) (env := en9 ns m h s4 s5 (.val (.ref (A0 (i, .mc)))) s7) (st := st) (st1 := st)
    (fun t env st' => ∃ T' t4, env = en9 ns m h t4 s5 (.val (.ref (A0 (i, .mc)))) s7 ∧ Sta m h k T' A st' ∧ (∀ q, q < i → (T' q).les = []) ∧ (T' i).les = (T i).les.drop t) (by simp [en9, e1, e2]) (by omega) ⟨T, s4, rfl, S, hz, by simp⟩ (by
      rintro t env st' ht ⟨T', t4, rfl, S', hz', hd⟩
      obtain ⟨st2, h1, h2⟩ := S'.arrive hm hk hi hh
      refine ⟨en9 ns m h (.val (.int t)) s5 (.val (.ref (A0 (i, .mc)))) s7, rfl, .nx, en9 ns m h (.val (.int t)) s5 (.val (.ref (A0 (i, .mc)))) s7, st2, ?_, .inl rfl, _, _, rfl, h2, fun q hq => ?_, ?_⟩
      · simp [en9, b_law_2, h1]
      · rw [arr_les S'.iv hi, if_neg (by omega)]; exact hz' q hq
      · rw [arr_les S'.iv hi, if_pos rfl, hd, List.tail_drop])
  refine ⟨T', st', t4, by unfold l_law_2; exact h1, h2, fun q hq => ?_⟩
  by_cases z : q = i
  · subst z; rw [h4, List.drop_length]
  · exact h3 q (by omega)
theorem last9 (hm : m ≤ 8) (hh : h < m) {k : Nat} {T : Nat → Mc} {A : Ob → Nat} {st : Store} (S : Sta m h k T A st) {i : Nat} (hi : i < m) (hz : ∀ q, q < m → (T q).les = []) {s4 s5 s7 : Slot} :
    ∃ T' st', b_law_4 (en9 ns m h s4 s5 (.val (.ref (A0 (i, .mc)))) s7) st = some (.nx, en9 ns m h s4 s5 (.val (.ref (A0 (i, .mc)))) s7, st') ∧ Sta m h k T' A st' ∧ ∀ q, q < m → (T' q).les = [] := by
  obtain ⟨st', h1, h2⟩ := S.asked hm hi hh
  have hk0 : ∀ j, j < m → (T i).need.getD j 0 ≤ (T h).has.getD j 0 := fun j hj => by
    rcases S.iv.k i j hi hj with z | ⟨l, hl, _⟩
    · exact z
    · rw [hz j hj] at hl; cases hl
  have hnl := (S.iv.ln i hi).1
  have hfr : fresh (askT T i h i).need (askT T i h i).has i = true := by
    by_cases hih : i = h
    · have e : askT T i h = T := by unfold askT; rw [if_pos (.inl hih)]
      rw [e, fresh_iff]
      intro j hj
      left
      have := hk0 j (by omega)
      rw [hih] at this ⊢
      exact this
    · have hf : fresh (T i).need (T h).has h = true := by
        rw [fresh_iff]
        intro j hj
        exact .inl (hk0 j (by omega))
      have e : askT T i h = upT T i { T i with pg := mgs (T i).pg (rowsOf (T h).pg), has := zmax (T i).has (T h).has } := by
        unfold askT
        rw [if_neg (by rw [hf]; simp [hih])]
      rw [e, upT_same]
      exact S.iv.ask_fresh hi hh hf
  have e1 := g_mc h2.ly hi
  have e2 := g_hd h2.ly hi
  rw [h2.am] at e1
  have ln := h2.iv.ln i hi
  have f1 := fresh_eq (r := A (i, .hd)) (o := i) (c := (askT T i h i).need) e2 (by omega) (by omega)
  rw [hfr] at f1
  have hright := right_eq h2.ly hi ln.2.2.1 fun j hj d hd => ⟨(h2.iv.b j hj d hd).2, fun hle => leC_gt (h2.iv.right hi hfr hj hd hle)⟩
  rw [tm_same h2.am, h2.am] at hright
  have e2' := e2
  unfold held at e2'
  refine ⟨_, st', ?_, h2, fun q hq => by rw [(ask_same i h q).2.2]; exact hz q hq⟩
  have g1 : i_law_6 (en9 ns m h s4 s5 (.val (.ref (A0 (i, .mc)))) s7) st = some (.nx, en9 ns m h s4 s5 (.val (.ref (A0 (i, .mc)))) s7, st') := by
    simp [en9, i_law_6, h1]
  have g2 : i_law_7 (en9 ns m h s4 s5 (.val (.ref (A0 (i, .mc)))) s7) st' = some (.nx, en9 ns m h s4 s5 (.val (.ref (A0 (i, .mc)))) s7, st') := by
    simp [en9, i_law_7, e1, e2', val_need, f1, hright]
  unfold b_law_4
  rw [sq_step g1, g2]
end
theorem law_true (ns : List Int) (hl : ns.length ≤ 63) (hb : ∀ z ∈ ns, PySem.Builtin.Int.intBits z ≤ 1048576) : ∃ st, f_law [.lst (ns.map .int)] [] = some (.bl true, st) := by
  rw [cut_it]
  have hc0 := cell_eq (ns := ns) (k := 0) (st := [])
  rw [show ((0 : Nat) : Int) = 0 from rfl] at hc0
  generalize ns.getD 0 0 = v at hc0
  obtain ⟨m, hm, m3, m4⟩ : ∃ m : Nat, 3 + v % 2 = (m : Int) ∧ 3 ≤ m ∧ m ≤ 4 := ⟨(3 + v % 2).toNat, by omega, by omega, by omega⟩
  obtain ⟨h, hhe, hh⟩ : ∃ h : Nat, v / 2 % (m : Int) = (h : Int) ∧ h < m := ⟨(v / 2 % (m : Int)).toNat, by
    have := Int.emod_nonneg (v / 2) (show (m : Int) ≠ 0 by omega); omega, by
    have := Int.emod_lt_of_pos (v / 2) (show (0 : Int) < m by omega); omega⟩
  have hcd : cDivW v 2 = true := cdiv_small (by decide) (by decide)
  have hmp : 0 < m := by omega
  obtain ⟨st0, hteam, hly⟩ := team_eq (m := m) (by omega) (by omega) (s0 := .val (.lst (dI ns))) (s2 := .val (.int h)) (s3 := .none) (s4 := .none) (s5 := .none) (s6 := .none) (s7 := .none)
  have S0 : Sta m h 0 (T0 m) A0 st0 := ⟨hly, fun _ => rfl, Iv.zero hh, fun j => ⟨by simp [T0], by simp [T0], by simp [T0]⟩⟩
  obtain ⟨y, hy, hmany⟩ := many_eq (ns := ns) (a := 20) (b := 60) (st := st0)
  rw [show ((20 : Nat) : Int) = 20 from rfl, show ((60 : Nat) : Int) = 60 from rfl] at hmany
  obtain ⟨n, hn, hn2⟩ : ∃ n : Nat, (if y < ns.length then (y : Int) else (ns.length : Int)) = (n : Int) ∧ n ≤ 60 := by
    split
    · exact ⟨y, rfl, by omega⟩
    · exact ⟨ns.length, rfl, by omega⟩
  obtain ⟨env1, st1, g1, T1, A1, u4, u5, u6, rfl, S1⟩ : ∃ env' st', l_law_1 (en9 ns m h .none .none .none .none) st0 = some (.nx, env', st') ∧ ∃ T A u4 u5 u6, env' = en9 ns m h u4 u5 u6 .none ∧ Sta m h n T A st' :=
    for_rng (n := n) (st1 := st0) (fun k env st => ∃ T A u4 u5 u6, env = en9 ns m h u4 u5 u6 .none ∧ Sta m h k T A st) (by simp [en9, hmany, hn]) (by omega) ⟨_, _, _, _, _, rfl, S0⟩ (by
      rintro k env st hk ⟨T, A, u4, u5, u6, rfl, S⟩
      obtain ⟨T', A', st', t5, t6, q1, q2⟩ := turn9 (ns := ns) m3 (by omega) hh (by omega) S (s5 := u5) (s6 := u6) (s7 := .none)
      exact ⟨en9 ns m h (.val (.int k)) u5 u6 .none, rfl, .nx, _, _, q1, .inl rfl, _, _, _, _, _, rfl, q2⟩)
  obtain ⟨env2, st2, g2, T2, w4, w6, rfl, S2, hz⟩ : ∃ env' st', l_law_3 (en9 ns m h u4 u5 u6 .none) st1 = some (.nx, env', st') ∧ ∃ T w4 w6, env' = en9 ns m h w4 u5 w6 .none ∧ Sta m h n T A1 st' ∧ ∀ q, q < m → (T q).les = [] := by
    have := for_seq (m := mVar 3) (g := gN 6) (body := b_law_3) (env := en9 ns m h u4 u5 u6 .none) (st := st1) (st1 := st1) (d := tmD m A0) (xs := (List.range m).map fun i => .ref (A0 (i, .mc)))
      (fun k env st => ∃ T w4 w6, env = en9 ns m h w4 u5 w6 .none ∧ Sta m h n T A1 st ∧ ∀ q, q < k → (T q).les = []) (by simp [en9]) (.inl rfl) ⟨T1, _, _, rfl, S1, fun q hq => absurd hq (by omega)⟩ (by
      rintro k hk env st ⟨T, w4, w6, rfl, S, hz⟩
      have hk' : k < m := by simpa using hk
      obtain ⟨T', st', t4, q1, q2, q3⟩ := letters9 (ns := ns) (by omega) hh (by omega) S hk' hz (s4 := w4) (s5 := u5) (s7 := .none)
      refine ⟨en9 ns m h w4 u5 (.val (.ref (A0 (k, .mc)))) .none, by simp [gN, en9], .nx, _, _, q1, .inl rfl, _, _, _, rfl, q2, q3⟩)
    obtain ⟨env', st', q1, T, w4, w6, q2, q3, q4⟩ := this
    rw [List.length_map, List.length_range] at q4
    exact ⟨env', st', by unfold l_law_3; exact q1, T, w4, w6, q2, q3, q4⟩
  obtain ⟨env3, st3, g3, z6, rfl⟩ : ∃ env' st', l_law_4 (en9 ns m h w4 u5 w6 .none) st2 = some (.nx, env', st') ∧ ∃ z6, env' = en9 ns m h w4 u5 z6 .none := by
    have := for_seq (m := mVar 3) (g := gN 6) (body := b_law_4) (env := en9 ns m h w4 u5 w6 .none) (st := st2) (st1 := st2) (d := tmD m A0) (xs := (List.range m).map fun i => .ref (A0 (i, .mc)))
      (fun k env st => ∃ T z6, env = en9 ns m h w4 u5 z6 .none ∧ Sta m h n T A1 st ∧ ∀ q, q < m → (T q).les = []) (by simp [en9]) (.inl rfl) ⟨T2, _, rfl, S2, hz⟩ (by
      rintro k hk env st ⟨T, z6, rfl, S, hz⟩
      have hk' : k < m := by simpa using hk
      obtain ⟨T', st', q1, q2, q3⟩ := last9 (ns := ns) (by omega) hh S hk' hz (s4 := w4) (s5 := u5) (s7 := .none)
      refine ⟨en9 ns m h w4 u5 (.val (.ref (A0 (k, .mc)))) .none, by simp [gN, en9], .nx, _, _, q1, .inl rfl, _, _, rfl, q2, q3⟩)
    obtain ⟨env', st', q1, T, z6, q2, _⟩ := this
    exact ⟨env', st', by unfold l_law_4; exact q1, z6, q2⟩
  simp only [en9, tmD] at g1 g2 g3
  refine ⟨st3, ?_⟩
  simp [f_law, b_law, hc0, hm, hcd, hmp, hhe, hteam, g1, g2, g3]
end Law

theorem Law.walk {l : PySem.W.OpenLaw} {q : PySem.Program} {loose : List PySem.Str} {XP : (PySem.Str → Option PySem.Value) → PySem.Heap → Prop} {YP : PySem.World → PySem.Heap → Prop} {d : PySem.DefRec} {K : PySem.Params → PySem.W.Frag} (hn : l.most = some 63) (hdf : d.params.defaults = [])
    (hY : ∀ (w : PySem.World) (h : PySem.Heap), YP w h → (K w.params).In h)
    (F : ∀ (w : PySem.World) (mg : PySem.Str → Option PySem.Value) (fa : PySem.Addr) (h : PySem.Heap), (K w.params).In h → h.Ns PySem.mainGlobals mg → mg d.name = some (.ref fa) →
      ∃ fd : PySem.FuncData, (∀ (s : PySem.Shared) (u : PySem.Value), PySem.BindsTo s fd ⟨[u], []⟩ [("_law_script", u)]) ∧ ∀ base : PySem.Heap, (K w.params).In base → base.Ns PySem.mainGlobals mg → L2.FnOk l.prog w (K w.params) mg base L2.CX0 5 fa fd ["_law_script"] (Gx.spM (K w.params) 1 Law.f_law)) :
    PySem.W.WalkO q loose XP YP l.row.toRowW d [] (fun f vs => PySem.call f vs) :=
  L2.walk_ofB (n := 63) (k := 5) (x := "_law_script") (CX := fun _ => L2.CX0) (sp := fun w => Gx.spM (K w.params) 1 Law.f_law) hn (by decide) hdf ⟨rfl, by decide, by decide⟩ hY F (fun w H a ns hl hb _ hS => Gx.law_sp hS (Law.law_true ns hl hb)) fun _ _ _ _ _ z => z
open PySem PySem.W PyProof.Rows in
set_option maxRecDepth 100000 in
set_option maxHeartbeats 0 in
theorem PySem.Challenge.cw_commonage_k09_whole_fresh_copies_have_wh_holds : PySem.Challenge.rw_commonage_k09_whole_fresh_copies_have_wh.Holds := by
  w_on; o_law; k_head; (case hw => w_witness2)
  k_fill
  refine Law.walk (l := PySem.Challenge.rw_commonage_k09_whole_fresh_copies_have_wh) rfl rfl (fun w h Y => PySem.W.kIn_of Y) ?F
  case F =>
    intro w mg fa h KX G hmg
    refine' Law.all_mk KX G hmg ?a0 ?l0 ?c0 ?k0 ?a1 ?l1 ?c1 ?k1 ?a2 ?l2 ?c2 ?k2 ?a3 ?l3 ?c3 ?k3 ?a4 ?l4 ?c4 ?k4 ?a5 ?l5 ?c5 ?k5 ?a6 ?l6 ?c6 ?k6 ?a7 ?l7 ?c7 ?k7 ?a8 ?l8 ?c8 ?k8 ?a9 ?l9 ?c9 ?k9 ?a10 ?l10 ?c10 ?k10 ?a11 ?l11 ?c11 ?k11 ?a12 ?l12 ?c12 ?k12 ?a13 ?l13 ?c13 ?k13 ?a14 ?l14 ?c14 ?k14 ?a15 ?l15 ?c15 ?k15 ?a16 ?l16 ?c16 ?k16 ?a17 ?l17 ?c17 ?k17 ?a18 ?l18 ?c18 ?k18 ?a19 ?l19 ?c19 ?k19 ?a20 ?l20 ?c20 ?k20 ?a21 ?l21 ?c21 ?k21 ?a22 ?l22 ?c22 ?k22 ?a23 ?l23 ?c23 ?k23 ?a24 ?l24 ?c24 ?k24 ?z_len ?z_range ?z_max ?z_tuple ?z_sorted ?z_all ?z_int ?z_min ?hFIRST_CELL2 ?hFIRST_CELL0 ?qFIRST_CELL ?qPAGE_WORDS
    (case a0 => k_is)
    (case l0 => k_is)
    (case c0 => k_is)
    (case k0 => k_is)
    (case a1 => k_is)
    (case l1 => k_is)
    (case c1 => k_is)
    (case k1 => k_is)
    (case a2 => k_is)
    (case l2 => k_is)
    (case c2 => k_is)
    (case k2 => k_is)
    (case a3 => k_is)
    (case l3 => k_is)
    (case c3 => k_is)
    (case k3 => k_is)
    (case a4 => k_is)
    (case l4 => k_is)
    (case c4 => k_is)
    (case k4 => k_is)
    (case a5 => k_is)
    (case l5 => k_is)
    (case c5 => k_is)
    (case k5 => k_is)
    (case a6 => k_is)
    (case l6 => k_is)
    (case c6 => k_is)
    (case k6 => k_is)
    (case a7 => k_is)
    (case l7 => k_is)
    (case c7 => k_is)
    (case k7 => k_is)
    (case a8 => k_is)
    (case l8 => k_is)
    (case c8 => k_is)
    (case k8 => k_is)
    (case a9 => k_is)
    (case l9 => k_is)
    (case c9 => k_is)
    (case k9 => k_is)
    (case a10 => k_is)
    (case l10 => k_is)
    (case c10 => k_is)
    (case k10 => k_is)
    (case a11 => k_is)
    (case l11 => k_is)
    (case c11 => k_is)
    (case k11 => k_is)
    (case a12 => k_is)
    (case l12 => k_is)
    (case c12 => k_is)
    (case k12 => k_is)
    (case a13 => k_is)
    (case l13 => k_is)
    (case c13 => k_is)
    (case k13 => k_is)
    (case a14 => k_is)
    (case l14 => k_is)
    (case c14 => k_is)
    (case k14 => k_is)
    (case a15 => k_is)
    (case l15 => k_is)
    (case c15 => k_is)
    (case k15 => k_is)
    (case a16 => k_is)
    (case l16 => k_is)
    (case c16 => k_is)
    (case k16 => k_is)
    (case a17 => k_is)
    (case l17 => k_is)
    (case c17 => k_is)
    (case k17 => k_is)
    (case a18 => k_is)
    (case l18 => k_is)
    (case c18 => k_is)
    (case k18 => k_is)
    (case a19 => k_is)
    (case l19 => k_is)
    (case c19 => k_is)
    (case k19 => k_is)
    (case a20 => k_is)
    (case l20 => k_is)
    (case c20 => k_is)
    (case k20 => k_is)
    (case a21 => k_is)
    (case l21 => k_is)
    (case c21 => k_is)
    (case k21 => k_is)
    (case a22 => k_is)
    (case l22 => k_is)
    (case c22 => k_is)
    (case k22 => k_is)
    (case a23 => k_is)
    (case l23 => k_is)
    (case c23 => k_is)
    (case k23 => k_is)
    (case a24 => k_is)
    (case l24 => k_is)
    (case c24 => k_is)
    (case k24 => k_is)
    (case z_len => k_is)
    (case z_range => k_is)
    (case z_max => k_is)
    (case z_tuple => k_is)
    (case z_sorted => k_is)
    (case z_all => k_is)
    (case z_int => k_is)
    (case z_min => k_is)
    (case qFIRST_CELL => k_is)
    (case hFIRST_CELL0 => k_is)
    (case hFIRST_CELL2 => k_is)
    (case qPAGE_WORDS => k_is)
