import PyProof.Rows.All
import Wide.All
import OpenK.AllK
import Wide.FinOn
import HandS.Iter
import HandS.TupLen
import KE.KDictKeyed
import KE.KDictWalk
import KE.KDictCopyH
import KE.KDictDisplayH
import PyProof.Rows.TupTab
import HandS.ForMost
import HandS.Exc
import HandS.ExcInit
import HandS.TryMany
import HandS.Lambda
import HandS.Flow
import HandS.Style
import HandS.IsInst
import HandS.CallLocal
import HandS.Deep
import HandS.Star
import HandS.TupAny
import HandS.TupMul
import HandS.Wide
import KE.SortData
import KE.DataMinMax
import KE.DataFind
import KE.DataCmp
import PyProof.ReprRoads
import PyProof.TupleOfSeq
import HandS.ExcValue
import HandS.Conv
import HandS.Text
import HandS.Zip
import HandS.TryOnly
import KE.GoesMore
import HandS.ExcField
import HandS.EndTab
import HandS.EndOwn
import HandS.Defaults
import HandS.Codes
import KE.KNestM
import KE.SortLaws
import PySem.Challenge.RW_netsfolded_k44_whole_curves
set_option Elab.async false
set_option linter.all false
set_option maxRecDepth 100000
set_option maxHeartbeats 4000000
/-! PD1: dicts by their exact object: keys are whole numbers, or tuples of such, nested. -/
namespace PD
open PySem PySem.Spec PyProof.Rows L2
/-- the object at d is o -/
def DX (d : Addr) (o : Obj) : HO := .ext fun h => h.get? d = some o
/-- no text within -/
inductive Nt : NestedKey → Prop
  | num (i : Int) : Nt (.num i)
  | tup (ks : List NestedKey) (h : ∀ k ∈ ks, Nt k) : Nt (.tup ks)
mutual
theorem hash_w (w w' : World) : ∀ k : NestedKey, Nt k → k.hash w = k.hash w'
  | .none, h => by cases h
  | .num i, _ => by simp only [NestedKey.hash]
  | .text x, h => by cases h
  | .tup ks, h => by
    cases h with
    | tup _ h => simp only [NestedKey.hash, hashes_w w w' ks h]
theorem hashes_w (w w' : World) : ∀ ks : List NestedKey, (∀ k ∈ ks, Nt k) → NestedKey.hashes w ks = NestedKey.hashes w' ks
  | [], _ => by simp only [NestedKey.hashes]
  | k :: ks, h => by
    simp only [NestedKey.hashes, hash_w w w' k (h k (by simp)), hashes_w w w' ks fun j hj => h j (by simp [hj])]
end
/-- the value v is the key k -/
inductive NK (K : PySem.W.Frag) (H : Hp) : NestedKey → V → Prop
  | num (i : Int) : NK K H (.num i) (.int i)
  | tup {q : Addr} {vs : List V} {ks : List NestedKey} (s : SqT K H q vs) (l : ks.length = vs.length) (h : ∀ (i : Nat) (k : NestedKey) (v : V), ks[i]? = some k → vs[i]? = some v → NK K H k v) : NK K H (.tup ks) (.ref q)
theorem NK.nt {K : PySem.W.Frag} {H : Hp} {k : NestedKey} {v : V} (h : NK K H k v) : Nt k := by
  induction h with
  | num i => exact .num i
  | @tup q vs ks s l h ih =>
    refine .tup ks fun k hk => ?_
    obtain ⟨i, hi, e⟩ := List.mem_iff_getElem.mp hk
    exact ih i k (vs[i]'(by omega)) (by rw [List.getElem?_eq_getElem hi, e]) (List.getElem?_eq_getElem _)
theorem SqT.mono {K : PySem.W.Frag} {H H' : Hp} {q : Addr} {vs : List V} (s : SqT K H q vs) (e : ∀ o, H q = some o → H' q = some o) : SqT K H' q vs := by
  rcases s with (s | ⟨o, s⟩) | s
  · exact .inl (.inl (e _ s))
  · exact .inl (.inr ⟨o, e _ s⟩)
  · exact .inr s
theorem nested_all {h : Heap} : ∀ {ks : List NestedKey} {us : List Value}, ks.length = us.length → (∀ (i : Nat) (k : NestedKey) (u : Value), ks[i]? = some k → us[i]? = some u → NestedIs h k u) → NestedAll h ks us
  | [], [], _, _ => .nil
  | k :: ks, u :: us, l, h => .cons (h 0 k u rfl rfl) (nested_all (by simpa using l) fun i k u e1 e2 => h (i + 1) k u (by simpa using e1) (by simpa using e2))
  | [], _ :: _, l, _ => by cases l
  | _ :: _, [], l, _ => by cases l
section
variable {X : Cx} {pins : List (Addr × Obj)} {σ : L2.St} {H : Hp} {s : Shared}
theorem NK.is (I : Inv X pins σ H s) {k : NestedKey} {v : V} (h : NK X.K H k v) : ∀ {u : Value}, RelV v u → NestedIs s.heap k u := by
  induction h with
  | num i =>
    intro u r
    obtain ⟨t, rfl⟩ := (show ∃ t, u = Value.int i t from r)
    exact .int i t
  | @tup q vs ks sq l h ih =>
    intro u r
    cases (show u = Value.ref q from r)
    obtain ⟨its, rv, ⟨o, e1, e2, n, e3⟩, _⟩ := I.tuple sq
    refine .tup e1 e2 e3 ?_
    rw [List.toList_toArray]
    have hl := rv.length
    refine nested_all (by omega) fun i k u e1 e2 => ?_
    have hi : i < vs.length := by
      have := (List.getElem?_eq_some_iff.mp e1).1
      omega
    obtain ⟨u', q1, q2⟩ := rv.get (List.getElem?_eq_getElem hi)
    rw [e2] at q1
    cases q1
    exact ih i k _ e1 (List.getElem?_eq_getElem hi) q2
theorem dx_get (I : Inv X pins σ H s) {d : Addr} {o : Obj} (e : H d = some (DX d o)) : s.heap.get? d = some o := (I.hok d _ e).1
theorem dx_ok {P : Program} {w : World} {H' : Hp} {h : Heap} {d : Addr} {o : Obj} (e : h.get? d = some o) : ObjOk P w H' h d (DX d o) := ⟨e, ⟨o, e⟩, fun h1 h2 q k => k o q⟩
theorem dx_mut {d : Addr} {o : Obj} : Mut (some (DX d o)) := True.intro
/-- the object at d is replaced -/
theorem dx_write {d : Addr} {o o' : Obj} {h' : Heap} {t' : Nat} (I : Inv X pins σ H s) (e : H d = some (DX d o)) (hs : Heap.SameBut d s.heap h') (he : h'.get? d = some o') : Inv X pins σ (upd H d (DX d o')) { s with heap := h', toks := t' } :=
  d_write I (by rw [e]; exact dx_mut) hs ⟨o', he⟩ (dx_ok he)
theorem dx_laid {d : Addr} {o : Obj} {h' : Heap} {t' : Nat} (I : Inv X pins σ H s) (k : ∀ b ob, s.heap.get? b = some ob → h'.get? b = some ob) (hd : s.heap.objs.size ≤ d) (he : h'.get? d = some o) : Inv X pins σ (upd H d (DX d o)) { s with heap := h', toks := t' } :=
  I.laid (a := d) (o := DX d o) k hd (dx_ok he)
end
/-! ### what stands in a dict -/
abbrev En := NestedKey × V × V
def Ent (e : DictEntry) (x : En) : Prop := (∀ w, x.1.hash w = e.hash) ∧ RelV x.2.1 e.key ∧ RelV x.2.2 e.val
structure Dc (o : Obj) (L : List En) : Prop where
  ex : o.ExactDict
  dat : ∃ es ep, o.data = .dict es ep ∧ Paired Ent es.toList L
  nd : (L.map (·.1)).Nodup
  sz : L.length ≤ sizeLine
def fnd (L : List En) (k : NestedKey) : Option V := (L.find? fun x => decide (x.1 = k)).map (·.2.2)
def has (L : List En) (k : NestedKey) : Bool := L.any fun x => decide (x.1 = k)
def put (L : List En) (k : NestedKey) (kv v : V) : List En := if has L k then L.map fun x => if x.1 = k then (x.1, x.2.1, v) else x else L ++ [(k, kv, v)]
def del (L : List En) (k : NestedKey) : List En := L.filter fun x => decide (x.1 ≠ k)
/-- all keys are whole numbers; all are tuples -/
def AllI (L : List En) : Prop := ∀ x ∈ L, ∃ i, x.1 = .num i ∧ x.2.1 = .int i
def AllT (K : PySem.W.Frag) (H : Hp) (L : List En) : Prop := ∀ x ∈ L, (∃ ks, x.1 = .tup ks) ∧ NK K H x.1 x.2.1 ∧ x.1.depth ≤ 8
theorem put_len (L : List En) (k : NestedKey) (kv v : V) : (put L k kv v).length ≤ L.length + 1 := by
  unfold put
  split
  · rw [List.length_map]; omega
  · rw [List.length_append]; simp
theorem has_fnd (L : List En) (k : NestedKey) : has L k = (fnd L k).isSome := by
  unfold has fnd
  induction L with
  | nil => rfl
  | cons x r ih =>
    rw [List.any_cons, List.find?_cons]
    by_cases h : x.1 = k
    · simp [h]
    · simp only [decide_eq_false h, Bool.false_or]
      exact ih
theorem not_has {L : List En} {k : NestedKey} (h : has L k = false) : k ∉ L.map (·.1) := fun m => by
  obtain ⟨x, hx, e⟩ := List.mem_map.mp m
  unfold has at h
  rw [List.any_eq_false] at h
  exact h x hx (decide_eq_true e)
theorem put_nd {L : List En} (h : (L.map (·.1)).Nodup) (k : NestedKey) (kv v : V) : ((put L k kv v).map (·.1)).Nodup := by
  unfold put
  split
  · rw [List.map_map]
    have : L.map ((·.1) ∘ fun x : En => if x.1 = k then (x.1, x.2.1, v) else x) = L.map (·.1) := by
      apply List.map_congr_left
      intro x _
      dsimp only [Function.comp]
      split <;> rfl
    rw [this]
    exact h
  · rename_i hn
    rw [Bool.not_eq_true] at hn
    rw [List.map_append, List.nodup_append]
    refine ⟨h, by simp, fun a ha b hb => ?_⟩
    have hb' : b = k := by simpa using hb
    rw [hb']
    rintro rfl
    exact not_has hn ha
theorem Paired.mem {α β : Type} {R : α → β → Prop} : ∀ {l : List α} {m : List β}, Paired R l m → ∀ b ∈ m, ∃ a ∈ l, R a b
  | _, _, .nil, _, h => by cases h
  | _, _, .cons r t, b, h => by
    rcases List.mem_cons.mp h with rfl | h
    · exact ⟨_, by simp, r⟩
    · obtain ⟨a, h1, h2⟩ := Paired.mem t b h
      exact ⟨a, by simp [h1], h2⟩
theorem Paired.mapR {α β γ : Type} {R : α → β → Prop} {S : α → γ → Prop} (f : β → γ) : ∀ {l : List α} {m : List β}, Paired R l m → (∀ a b, R a b → S a (f b)) → Paired S l (m.map f)
  | _, _, .nil, _ => .nil
  | _, _, .cons r t, h => .cons (h _ _ r) (Paired.mapR f t h)
end PD
set_option Elab.async false
set_option linter.all false
set_option maxRecDepth 100000
set_option maxHeartbeats 4000000
/-! PD2: such a dict as the library tells it, and back. -/
namespace PD
open PySem PySem.Spec PyProof.Rows L2
section
variable {P : Program} {w : World} {h h' : Heap} {d : Addr} {o : Obj} {L : List En}
abbrev PI1 : List En → List (Int × Value) → Prop := Paired fun (x : En) (p : Int × Value) => x.1 = .num p.1 ∧ x.2.1 = .int p.1 ∧ RelV x.2.2 p.2
abbrev PT1 : List En → List (NestedKey × Addr × Value) → Prop := Paired fun (x : En) (p : NestedKey × Addr × Value) => x.1 = p.1 ∧ x.2.1 = .ref p.2.1 ∧ RelV x.2.2 p.2.2
theorem pi1_keys {L : List En} {vs : List (Int × Value)} (p : PI1 L vs) : L.map (·.1) = (vs.map (·.1)).map NestedKey.num := by
  induction p with
  | nil => rfl
  | cons r t ih => simp only [List.map_cons, ih, r.1]
theorem pt1_keys {L : List En} {vs : List (NestedKey × Addr × Value)} (p : PT1 L vs) : L.map (·.1) = vs.map (·.1) := by
  induction p with
  | nil => rfl
  | cons r t ih => simp only [List.map_cons, ih, r.1]
theorem ents_int : ∀ {es : List DictEntry} {L : List En}, Paired Ent es L → AllI L → ∃ vs : List (Int × Value), Pairs (intKind P w) es vs ∧ PI1 L vs ∧ ∀ e ∈ es, ∃ k, (intKind P w).is k e.key = true ∧ e.hash = (intKind P w).hash k
  | _, _, .nil, _ => ⟨[], .nil, .nil, fun _ h => by cases h⟩
  | e :: es, x :: L, .cons r t, a => by
    obtain ⟨vs, h1, h2, h3⟩ := ents_int t fun y hy => a y (by simp [hy])
    obtain ⟨i, e1, e2⟩ := a x (by simp)
    obtain ⟨r1, r2, r3⟩ := r
    rw [e2] at r2
    obtain ⟨tk, e3⟩ := (show ∃ t, e.key = Value.int i t from r2)
    have hk : (intKind P w).is i e.key = true := by
      rw [e3]
      show Value.isInt i (Value.int i tk) = true
      simp [Value.isInt]
    refine ⟨(i, e.val) :: vs, .cons hk rfl h1, .cons ⟨e1, e2, r3⟩ h2, fun f hf => ?_⟩
    rcases List.mem_cons.mp hf with rfl | hf
    · refine ⟨i, hk, ?_⟩
      rw [← r1 w, e1]
      simp only [NestedKey.hash]
      rfl
    · exact h3 f hf
theorem dc_int (e : h.get? d = some o) (c : Dc o L) (a : AllI L) : ∃ vs, h.DictOf (intKind P w) d vs ∧ PI1 L vs := by
  obtain ⟨es, ep, hd, hp⟩ := c.dat
  obtain ⟨vs, h1, h2, h3⟩ := ents_int (P := P) (w := w) hp a
  refine ⟨vs, ⟨o, es, ep, e, c.ex, hd, fun f hf => h3 f (by simpa using hf), h1, ?_⟩, h2⟩
  have := c.nd
  rw [pi1_keys h2] at this
  exact (List.pairwise_map.mp this).imp fun h z => h (by rw [z])
theorem ents_of_int : ∀ {es : List DictEntry} {vs : List (Int × Value)} {L : List En}, Pairs (intKind P w) es vs → PI1 L vs → (∀ e ∈ es, ∃ k, (intKind P w).is k e.key = true ∧ e.hash = (intKind P w).hash k) → Paired Ent es L
  | _, _, _, .nil, .nil, _ => .nil
  | e :: es, (i, v) :: vs, x :: L, .cons k1 k2 t, .cons r q, hk => by
    refine .cons ?_ (ents_of_int t q fun f hf => hk f (by simp [hf]))
    obtain ⟨r1, r2, r3⟩ := r
    obtain ⟨j, j1, j2⟩ := hk e (by simp)
    have ij : j = i := (intKind P w).inj _ _ _ j1 k1
    subst ij
    refine ⟨fun w' => ?_, ?_, ?_⟩
    · rw [j2, r1]
      simp only [NestedKey.hash]
      rfl
    · rw [r2]
      obtain ⟨t, e3⟩ := Value.isInt_shape (show Value.isInt j e.key = true from k1)
      exact ⟨t, e3⟩
    · rw [k2]
      exact r3
theorem dc_of_int {vs : List (Int × Value)} (m : h.DictOf (intKind P w) d vs) (p : PI1 L vs) (sz : L.length ≤ sizeLine) : ∃ o, h.get? d = some o ∧ Dc o L := by
  obtain ⟨o, es, ep, e1, e2, e3, e4, e5, e6⟩ := m
  refine ⟨o, e1, e2, ⟨es, ep, e3, ents_of_int e5 p fun f hf => e4 f (by simpa using hf)⟩, ?_, sz⟩
  rw [pi1_keys p]
  exact List.Pairwise.map _ (fun a b h z => h (NestedKey.num.inj z)) e6
end
section
variable {X : Cx} {pins : List (Addr × Obj)} {σ : L2.St} {H : Hp} {s : Shared} {d : Addr} {o : Obj} {L : List En}
theorem ents_tup : ∀ {es : List DictEntry} {L : List En}, Paired Ent es L → AllT X.K H L → ∃ xs, es = xs.map (entryOfKey (nestedKind X.prog X.w)) ∧ PT1 L xs
  | _, _, .nil, _ => ⟨[], rfl, .nil⟩
  | e :: es, x :: L, .cons r t, a => by
    obtain ⟨xs, h1, h2⟩ := ents_tup t fun y hy => a y (by simp [hy])
    obtain ⟨⟨ks, e1⟩, e2, e3⟩ := a x (by simp)
    obtain ⟨r1, r2, r3⟩ := r
    rw [e1] at e2
    obtain ⟨q, e4⟩ : ∃ q, x.2.1 = .ref q := by
      generalize x.2.1 = v at e2
      cases e2 with
      | tup => exact ⟨_, rfl⟩
    rw [e4] at r2
    have e5 : e.key = Value.ref q := r2
    refine ⟨(x.1, q, e.val) :: xs, ?_, .cons ⟨rfl, e4, r3⟩ h2⟩
    rw [List.map_cons, ← h1]
    congr 1
    obtain ⟨eh, ek, ev⟩ := e
    have r1' := r1 X.w
    unfold entryOfKey
    dsimp only at r1' e5 ⊢
    rw [e5, ← r1']
    rfl
theorem dc_tup (I : Inv X pins σ H s) (e : s.heap.get? d = some o) (c : Dc o L) (a : AllT X.K H L) : ∃ xs, s.heap.DictOfH (nestedKind X.prog X.w) d xs ∧ PT1 L xs := by
  obtain ⟨es, ep, hd, hp⟩ := c.dat
  obtain ⟨xs, h1, h2⟩ := ents_tup (X := X) hp a
  refine ⟨xs, ⟨o, es, ep, e, c.ex, hd, h1, fun x hx => ?_, ?_⟩, h2⟩
  · obtain ⟨y, hy, e1, e2, e3⟩ := PD.Paired.mem h2 x hx
    obtain ⟨⟨ks, q1⟩, q2, q3⟩ := a y hy
    rw [← e1]
    exact ⟨q2.is I (by rw [e2]; rfl), q3⟩
  · rw [← pt1_keys h2]
    exact c.nd
theorem ents_of_tup {P : Program} {w : World} : ∀ {xs : List (NestedKey × Addr × Value)} {L : List En}, PT1 L xs → (∀ x ∈ L, Nt x.1) → Paired Ent (xs.map (entryOfKey (nestedKind P w))) L
  | _, _, .nil, _ => .nil
  | x :: xs, y :: L, .cons r t, n => by
    rw [List.map_cons]
    refine .cons ?_ (ents_of_tup t fun z hz => n z (by simp [hz]))
    obtain ⟨r1, r2, r3⟩ := r
    refine ⟨fun w' => ?_, ?_, r3⟩
    · rw [hash_w w' w y.1 (n y (by simp)), r1]
      rfl
    · rw [r2]
      rfl
theorem dc_of_tup {P : Program} {w : World} {h : Heap} {xs : List (NestedKey × Addr × Value)} (m : h.DictOfH (nestedKind P w) d xs) (p : PT1 L xs) (n : ∀ x ∈ L, Nt x.1) (sz : L.length ≤ sizeLine) : ∃ o, h.get? d = some o ∧ Dc o L := by
  obtain ⟨o, es, ep, e1, e2, e3, e4, e5, e6⟩ := m
  refine ⟨o, e1, e2, ⟨es, ep, e3, by rw [e4]; exact ents_of_tup p n⟩, ?_, sz⟩
  rw [pt1_keys p]
  exact e6
/-! ### found, put, deleted -/
theorem pi1_fnd {vs : List (Int × Value)} (p : PI1 L vs) (i : Int) : RelO (fnd L (.num i)) (valueAt vs i) := by
  induction p with
  | nil => exact True.intro
  | @cons x q L vs r t ih =>
    obtain ⟨r1, r2, r3⟩ := r
    unfold fnd valueAt at ih ⊢
    rw [List.find?_cons, List.find?_cons]
    by_cases h : q.1 = i
    · have h' : x.1 = .num i := by rw [r1, h]
      simp only [h, h', decide_true]
      exact r3
    · have h' : ¬ x.1 = .num i := by rw [r1]; exact fun z => h (NestedKey.num.inj z)
      simp only [h, h', decide_false]
      exact ih
theorem pt1_fnd {xs : List (NestedKey × Addr × Value)} (p : PT1 L xs) (k : NestedKey) : RelO (fnd L k) ((atKey xs k).map (·.2)) := by
  induction p with
  | nil => exact True.intro
  | @cons x q L vs r t ih =>
    obtain ⟨r1, r2, r3⟩ := r
    unfold fnd atKey at ih ⊢
    rw [List.find?_cons, List.find?_cons]
    by_cases h : q.1 = k
    · have h' : x.1 = k := by rw [r1, h]
      simp only [h, h', decide_true]
      exact r3
    · have h' : ¬ x.1 = k := by rw [r1]; exact h
      simp only [h, h', decide_false]
      exact ih
theorem pi1_put {vs : List (Int × Value)} (p : PI1 L vs) (i : Int) {v : V} {u : Value} (r : RelV v u) : PI1 (put L (.num i) (.int i) v) (stored vs i u) := by
  have e : has L (.num i) = vs.any fun kv => decide (kv.1 = i) := by
    unfold has
    induction p with
    | nil => rfl
    | @cons x q L vs r t ih =>
      rw [List.any_cons, List.any_cons, ih, r.1]
      congr 1
      by_cases h : q.1 = i
      · simp [h]
      · have : ¬ NestedKey.num q.1 = .num i := fun z => h (NestedKey.num.inj z)
        simp [h, this]
  unfold put stored
  rw [e]
  split
  · clear e
    have go : ∀ {L : List En} {vs : List (Int × Value)}, PI1 L vs → PI1 (L.map fun x => if x.1 = .num i then (x.1, x.2.1, v) else x) (vs.map fun kv => if kv.1 = i then (kv.1, u) else kv) := by
      intro L vs p
      induction p with
      | nil => exact .nil
      | @cons x q L vs rr t ih =>
        rw [List.map_cons, List.map_cons]
        refine .cons ?_ ih
        obtain ⟨r1, r2, r3⟩ := rr
        by_cases h : q.1 = i
        · have h' : x.1 = .num i := by rw [r1, h]
          rw [if_pos h, if_pos h']
          exact ⟨r1, r2, r⟩
        · have h' : ¬ x.1 = .num i := by rw [r1]; exact fun z => h (NestedKey.num.inj z)
          rw [if_neg h, if_neg h']
          exact ⟨r1, r2, r3⟩
    exact go p
  · exact Paired.snoc p ⟨rfl, rfl, r⟩
theorem pt1_put {xs : List (NestedKey × Addr × Value)} (p : PT1 L xs) (k : NestedKey) (q : Addr) {v : V} {u : Value} (r : RelV v u) : PT1 (put L k (.ref q) v) (storedH xs k q u) := by
  have e : has L k = (atKey xs k).isSome := by
    rw [has_fnd, (pt1_fnd p k).isSome_eq, Option.isSome_map]
  unfold put storedH
  rw [e]
  split
  · clear e
    have go : ∀ {L : List En} {xs : List (NestedKey × Addr × Value)}, PT1 L xs → PT1 (L.map fun x => if x.1 = k then (x.1, x.2.1, v) else x) (xs.map (putAt k u)) := by
      intro L xs p
      induction p with
      | nil => exact .nil
      | @cons x q L vs rr t ih =>
        rw [List.map_cons, List.map_cons]
        refine .cons ?_ ih
        obtain ⟨r1, r2, r3⟩ := rr
        unfold putAt
        by_cases h : q.1 = k
        · have h' : x.1 = k := by rw [r1, h]
          rw [if_pos h, if_pos h']
          exact ⟨r1, r2, r⟩
        · have h' : ¬ x.1 = k := by rw [r1]; exact h
          rw [if_neg h, if_neg h']
          exact ⟨r1, r2, r3⟩
    exact go p
  · exact Paired.snoc p ⟨rfl, rfl, r⟩
theorem pi1_del {vs : List (Int × Value)} (p : PI1 L vs) (i : Int) : PI1 (del L (.num i)) (without vs i) := by
  unfold del without
  induction p with
  | nil => exact .nil
  | @cons x q L vs r t ih =>
    rw [List.filter_cons, List.filter_cons]
    by_cases h : q.1 = i
    · have h' : x.1 = .num i := by rw [r.1, h]
      simp only [h, h', ne_eq, not_true_eq_false, decide_false, Bool.false_eq_true, if_false]
      exact ih
    · have h' : ¬ x.1 = .num i := by rw [r.1]; exact fun z => h (NestedKey.num.inj z)
      simp only [h, h', ne_eq, not_false_eq_true, decide_true, if_true]
      exact .cons r ih
theorem pt1_del {xs : List (NestedKey × Addr × Value)} (p : PT1 L xs) (k : NestedKey) : PT1 (del L k) (withoutH xs k) := by
  unfold del withoutH
  induction p with
  | nil => exact .nil
  | @cons x q L vs r t ih =>
    rw [List.filter_cons, List.filter_cons]
    by_cases h : q.1 = k
    · have h' : x.1 = k := by rw [r.1, h]
      simp only [h, h', ne_eq, not_true_eq_false, decide_false, Bool.false_eq_true, if_false]
      exact ih
    · have h' : ¬ x.1 = k := by rw [r.1]; exact h
      simp only [h, h', ne_eq, not_false_eq_true, decide_true, if_true]
      exact .cons r ih
end
end PD
set_option Elab.async false
set_option linter.all false
set_option maxRecDepth 100000
set_option maxHeartbeats 4000000
/-! PD3: reading and writing such a dict. -/
namespace PD
open PySem PySem.Spec PyProof.Rows L2
/-- kv is the key k, and of the dict's kind -/
def Ky (K : PySem.W.Frag) (H : Hp) (L : List En) (k : NestedKey) (kv : V) : Prop :=
  (∃ i, k = .num i ∧ kv = .int i ∧ AllI L) ∨ (∃ ks q, k = .tup ks ∧ kv = .ref q ∧ NK K H k kv ∧ k.depth ≤ 8 ∧ AllT K H L)
theorem Ky.nt {K : PySem.W.Frag} {H : Hp} {L : List En} {k : NestedKey} {kv : V} (h : Ky K H L k kv) : Nt k := by
  rcases h with ⟨i, rfl, _⟩ | ⟨ks, q, rfl, _, h, _⟩
  · exact .num i
  · exact h.nt
theorem room_in1 {P : Program} {w : World} {A : Around} (hu : A.units + 9 < cLine) : (nestedKind P w).room A.in1 := by
  show A.in1.units + 8 < cLine
  have : A.in1.units = A.units + 1 := rfl
  omega
section
variable {X : Cx} {pins : List (Addr × Obj)} {σ : L2.St} {H : Hp} {s : Shared} {d : Addr} {o : Obj} {L : List En} {k : NestedKey} {kv v : V} {u r : Value} {A : Around} {E : Value → Shared → Prop}
theorem n_get {Q : Value → Shared → Prop} (hu : A.units + 9 < cLine) (I : Inv X pins σ H s) (e : H d = some (DX d o)) (c : Dc o L) (ky : Ky X.K H L k kv) (hf : fnd L k = some v) (ru : RelV kv u) (h : ∀ w' s', Inv X pins σ H s' → RelV v w' → Q w' s') :
    wpAny (model X.prog X.w) A (getItem (.ref d) u) Q E s := by
  have eo := dx_get I e
  rcases ky with ⟨i, rfl, rfl, a⟩ | ⟨ks, q, rfl, rfl, nk, dp, a⟩
  · obtain ⟨t, rfl⟩ := (show ∃ t, u = Value.int i t from ru)
    obtain ⟨vs, m, p⟩ := dc_int (P := X.prog) (w := X.w) eo c a
    obtain ⟨w', hw, rw'⟩ := RelO.some_of (v := v) (o := valueAt vs i) (by rw [← hf]; exact pi1_fnd p i)
    exact wpAny_getItem_of (knd := intKind X.prog X.w) (k := i) (by show Value.isInt i (Value.int i t) = true; simp [Value.isInt]) m.mapOf hw (h w' _ (I.tok _) rw')
  · cases (show u = Value.ref q from ru)
    obtain ⟨xs, m, p⟩ := dc_tup I eo c a
    obtain ⟨w', hw, rw'⟩ := RelO.some_of (v := v) (o := (atKey xs (.tup ks)).map (·.2)) (by rw [← hf]; exact pt1_fnd p _)
    obtain ⟨pp, hp, hp2⟩ := Option.map_eq_some_iff.mp hw
    refine wpAny_getItem_heap (knd := nestedKind X.prog X.w) (k := .tup ks) (room_in1 hu) ⟨nk.is I rfl, dp⟩ m hp ?_
    rw [hp2]
    exact h w' _ (I.tok _) rw'
theorem n_in {Q : Value → Shared → Prop} (hu : A.units + 9 < cLine) (I : Inv X pins σ H s) (hd : (d == sysModules) = false) (e : H d = some (DX d o)) (c : Dc o L) (ky : Ky X.K H L k kv) (ru : RelV kv u) (h : ∀ s', Inv X pins σ H s' → Q (.bool (has L k)) s') :
    wpAny (model X.prog X.w) A (compareOp .In u (.ref d)) Q E s := by
  have eo := dx_get I e
  rcases ky with ⟨i, rfl, rfl, a⟩ | ⟨ks, q, rfl, rfl, nk, dp, a⟩
  · obtain ⟨t, rfl⟩ := (show ∃ t, u = Value.int i t from ru)
    obtain ⟨vs, m, p⟩ := dc_int (P := X.prog) (w := X.w) eo c a
    refine wpAny_in_of (knd := intKind X.prog X.w) (k := i) (by show Value.isInt i (Value.int i t) = true; simp [Value.isInt]) hd m.mapOf ?_
    rw [← (pi1_fnd p i).isSome_eq, ← has_fnd]
    exact h _ (I.tok _)
  · cases (show u = Value.ref q from ru)
    obtain ⟨xs, m, p⟩ := dc_tup I eo c a
    refine wpAny_in_heap (knd := nestedKind X.prog X.w) (k := .tup ks) (room_in1 hu) ⟨nk.is I rfl, dp⟩ hd m ?_
    have q := (pt1_fnd p (.tup ks)).isSome_eq
    rw [Option.isSome_map] at q
    rw [← q, ← has_fnd]
    exact h _ (I.tok _)
theorem n_notIn {Q : Value → Shared → Prop} (hu : A.units + 9 < cLine) (I : Inv X pins σ H s) (hd : (d == sysModules) = false) (e : H d = some (DX d o)) (c : Dc o L) (ky : Ky X.K H L k kv) (ru : RelV kv u) (h : ∀ s', Inv X pins σ H s' → Q (.bool (!has L k)) s') :
    wpAny (model X.prog X.w) A (compareOp .NotIn u (.ref d)) Q E s := by
  have eo := dx_get I e
  rcases ky with ⟨i, rfl, rfl, a⟩ | ⟨ks, q, rfl, rfl, nk, dp, a⟩
  · obtain ⟨t, rfl⟩ := (show ∃ t, u = Value.int i t from ru)
    obtain ⟨vs, m, p⟩ := dc_int (P := X.prog) (w := X.w) eo c a
    refine wpAny_notIn_of (knd := intKind X.prog X.w) (k := i) (by show Value.isInt i (Value.int i t) = true; simp [Value.isInt]) hd m.mapOf ?_
    rw [← (pi1_fnd p i).isSome_eq, ← has_fnd]
    exact h _ (I.tok _)
  · cases (show u = Value.ref q from ru)
    obtain ⟨xs, m, p⟩ := dc_tup I eo c a
    refine wpAny_notIn_heap (knd := nestedKind X.prog X.w) (k := .tup ks) (room_in1 hu) ⟨nk.is I rfl, dp⟩ hd m ?_
    have q := (pt1_fnd p (.tup ks)).isSome_eq
    rw [Option.isSome_map] at q
    rw [← q, ← has_fnd]
    exact h _ (I.tok _)
theorem AllT.nt {K : PySem.W.Frag} {H : Hp} {L : List En} (a : AllT K H L) : ∀ x ∈ L, Nt x.1 := fun x hx => (a x hx).2.1.nt
theorem put_mem {L : List En} {k : NestedKey} {kv v : V} {x : En} (h : x ∈ put L k kv v) : (∃ y ∈ L, x.1 = y.1 ∧ x.2.1 = y.2.1) ∨ (x.1 = k ∧ x.2.1 = kv) := by
  unfold put at h
  split at h
  · obtain ⟨y, hy, rfl⟩ := List.mem_map.mp h
    refine .inl ⟨y, hy, ?_⟩
    split <;> exact ⟨rfl, rfl⟩
  · rcases List.mem_append.mp h with h | h
    · exact .inl ⟨x, h, rfl, rfl⟩
    · cases List.mem_singleton.mp h
      exact .inr ⟨rfl, rfl⟩
/-- d[k] = v -/
theorem n_set {Q : Unit → Shared → Prop} (hu : A.units + 9 < cLine) (I : Inv X pins σ H s) (e : H d = some (DX d o)) (c : Dc o L) (ky : Ky X.K H L k kv) (hl : L.length < sizeLine) (ru : RelV kv u) (rv : RelV v r) (h : ∀ o' s', Inv X pins σ (upd H d (DX d o')) s' → Dc o' (put L k kv v) → Q () s') :
    wpAny (model X.prog X.w) A (setItem (.ref d) u r) Q E s := by
  have eo := dx_get I e
  have hz : (put L k kv v).length ≤ sizeLine := by have := put_len L k kv v; omega
  rcases ky with ⟨i, rfl, rfl, a⟩ | ⟨ks, q, rfl, rfl, nk, dp, a⟩
  · obtain ⟨t, rfl⟩ := (show ∃ t, u = Value.int i t from ru)
    obtain ⟨vs, m, p⟩ := dc_int (P := X.prog) (w := X.w) eo c a
    refine wpAny_setItem_pairs (knd := intKind X.prog X.w) (k := i) (hsz := by rw [← Paired.length p]; omega) (by show Value.isInt i (Value.int i t) = true; simp [Value.isInt]) m fun h' m' hs => ?_
    obtain ⟨o', e', c'⟩ := dc_of_int m' (pi1_put p i rv) hz
    exact h o' _ (dx_write I e hs e') c'
  · cases (show u = Value.ref q from ru)
    obtain ⟨xs, m, p⟩ := dc_tup I eo c a
    refine wpAny_setItem_heap (knd := nestedKind X.prog X.w) (k := .tup ks) (hsz := by rw [← Paired.length p]; omega) (room_in1 hu) ⟨nk.is I rfl, dp⟩ m fun h' m' hs => ?_
    obtain ⟨o', e', c'⟩ := dc_of_tup m' (pt1_put p (.tup ks) q rv) (fun x hx => by
      rcases put_mem hx with ⟨y, hy, e1, _⟩ | ⟨e1, _⟩
      · rw [e1]; exact a.nt y hy
      · rw [e1]; exact nk.nt) hz
    exact h o' _ (dx_write I e hs e') c'
theorem del_len (L : List En) (k : NestedKey) : (del L k).length ≤ L.length := List.length_filter_le _ _
/-- d.pop(k), there -/
theorem n_pop {Q : Value → Shared → Prop} (hu : A.units + 9 < cLine) (I : Inv X pins σ H s) (hd : (d == sysModules) = false) (e : H d = some (DX d o)) (c : Dc o L) (ky : Ky X.K H L k kv) (hf : fnd L k = some v) (ru : RelV kv u) (h : ∀ w' o' s', Inv X pins σ (upd H d (DX d o')) s' → Dc o' (del L k) → RelV v w' → Q w' s') :
    wpAny (model X.prog X.w) A (call (.builtin "dict.pop") [.ref d, u]) Q E s := by
  have eo := dx_get I e
  have hz : (del L k).length ≤ sizeLine := by have := del_len L k; have := c.sz; omega
  rcases ky with ⟨i, rfl, rfl, a⟩ | ⟨ks, q, rfl, rfl, nk, dp, a⟩
  · obtain ⟨t, rfl⟩ := (show ∃ t, u = Value.int i t from ru)
    obtain ⟨vs, m, p⟩ := dc_int (P := X.prog) (w := X.w) eo c a
    obtain ⟨w', hw, rw'⟩ := RelO.some_of (v := v) (o := valueAt vs i) (by rw [← hf]; exact pi1_fnd p i)
    refine call_meetsIn PySem.F.slot_dict_pop m.typeIs PySem.F.entry_dict_pop (PySem.F.args_dict_pop_2 _ _) (meets_dict_pop_there (intKind X.prog X.w) d (k := i) (key := .int i t) (by show Value.isInt i (Value.int i t) = true; simp [Value.isInt]) [] (.inl rfl) rfl)
      ⟨vs, w', m, by rw [← Paired.length p]; exact c.sz, hw, fun h' m' hs => ?_⟩
    obtain ⟨o', e', c'⟩ := dc_of_int m' (pi1_del p i) hz
    exact h w' o' _ (dx_write I e hs e') c' rw'
  · cases (show u = Value.ref q from ru)
    obtain ⟨xs, m, p⟩ := dc_tup I eo c a
    obtain ⟨w', hw, rw'⟩ := RelO.some_of (v := v) (o := (atKey xs (.tup ks)).map (·.2)) (by rw [← hf]; exact pt1_fnd p _)
    obtain ⟨pp, hp, hp2⟩ := Option.map_eq_some_iff.mp hw
    refine call_pop_heap (knd := nestedKind X.prog X.w) (k := .tup ks) (more := []) (hsz := by rw [← Paired.length p]; exact c.sz) (.inl rfl) (PySem.F.args_dict_pop_2 _ _) (room_in1 hu) ⟨nk.is I rfl, dp⟩ hd m hp fun h' m' hs => ?_
    obtain ⟨o', e', c'⟩ := dc_of_tup m' (pt1_del p (.tup ks)) (fun x hx => a.nt x (List.mem_filter.mp hx).1) hz
    rw [hp2]
    exact h w' o' _ (dx_write I e hs e') c' rw'
theorem n_raw (I : Inv X pins σ H s) (e : H d = some (DX d o)) (c : Dc o L) : ∃ es ep, o.data = .dict es ep ∧ s.heap.DictRaw d es ep ∧ es.size = L.length ∧ Paired Ent es.toList L := by
  obtain ⟨es, ep, h1, h2⟩ := c.dat
  refine ⟨es, ep, h1, ⟨o, dx_get I e, c.ex, h1⟩, ?_, h2⟩
  have := Paired.length h2
  rw [Array.length_toList] at this
  exact this
/-- as a dict of whole numbers, or as one of tuples -/
theorem n_both (I : Inv X pins σ H s) (e : H d = some (DX d o)) (c : Dc o L) (a : AllI L ∨ AllT X.K H L) : (∃ vs, s.heap.DictOf (intKind X.prog X.w) d vs ∧ vs.length = L.length) ∨ ∃ xs, s.heap.DictOfH (nestedKind X.prog X.w) d xs ∧ xs.length = L.length := by
  rcases a with a | a
  · obtain ⟨vs, m, p⟩ := dc_int (P := X.prog) (w := X.w) (dx_get I e) c a
    exact .inl ⟨vs, m, (Paired.length p).symm⟩
  · obtain ⟨xs, m, p⟩ := dc_tup I (dx_get I e) c a
    exact .inr ⟨xs, m, (Paired.length p).symm⟩
theorem n_len {Q : Value → Shared → Prop} (I : Inv X pins σ H s) (hd : (d == sysModules) = false) (e : H d = some (DX d o)) (c : Dc o L) (a : AllI L ∨ AllT X.K H L) (h : ∀ t s', Inv X pins σ H s' → Q (.int L.length t) s') : wpAny (model X.prog X.w) A (call (.builtin "len") [.ref d]) Q E s := by
  have hz := c.sz
  rw [sizeLine_eq] at hz
  rcases n_both I e c a with ⟨vs, m, l⟩ | ⟨xs, m, l⟩
  · refine call_len_dict hd m (by omega) ?_
    rw [l]
    exact h _ _ (I.tok _)
  · refine call_len_dictH hd m (by omega) ?_
    rw [l]
    exact h _ _ (I.tok _)
end
end PD
set_option Elab.async false
set_option linter.all false
set_option maxRecDepth 100000
set_option maxHeartbeats 4000000
/-! PD4: such a dict walked: keys, values, items; its truth. -/
namespace PD
open PySem PySem.Spec PyProof.Rows L2
section
variable {X : Cx} {pins : List (Addr × Obj)} {σ : L2.St} {H : Hp} {s : Shared} {d : Addr} {o : Obj} {L : List En} {A : Around} {E : Value → Shared → Prop}
theorem truthy_H {K : Type} [DecidableEq K] {prog : Program} {w : World} {knd : HeapKind prog w K} {xs : List (K × Addr × Value)} {Q : Bool → Shared → Prop} (hd : (d == sysModules) = false) (hm : s.heap.DictOfH knd d xs) (hfit : (xs.length : Int) < 2 ^ 63)
    (h : Q (!xs.isEmpty) { s with toks := s.toks + 1 + 1 }) : wpAny (model prog w) A (truthy (.ref d)) Q E s := by
  have hne : ((xs.length : Int) != 0) = !xs.isEmpty := by cases xs <;> simp <;> omega
  have key : wpAny (model prog w) A (runValue (.builtin "len" ⟨[.ref d], []⟩)) (fun r s' => r = .int xs.length (s.toks + 1) ∧ Q (!xs.isEmpty) s') E s := by
    refine wpAny_runValue (codeAny_builtin entry_len ?_)
    rw [Around.under_plainId plain_len _]
    exact wpAny_mono (wpAny_len_body_dictH (Q := fun r s' => r = .int xs.length (s.toks + 1) ∧ Q (!xs.isEmpty) s') hd hm hfit ⟨rfl, h⟩)
      (fun fin s' h' => by obtain ⟨r, rfl, hq⟩ := h'; exact hq) fun _ _ e => e
  unfold truthy
  first
    | refine wpAny_bind (wpAny_callSpecial?_none (name := Str.ofString "__bool__") hm.typeIs noBool_dict ?_)
    | refine wpAny_bind (wpAny_pure (wpAny_bind (wpAny_callSpecial?_none (name := Str.ofString "__bool__") hm.typeIs noBool_dict ?_)))
  first
    | refine wpAny_bind (wpAny_specialOf (name := Str.ofString "__len__") hm.typeIs F.slot_dict_len.lookup ?_)
    | refine wpAny_bind (wpAny_pure (wpAny_bind (wpAny_specialOf (name := Str.ofString "__len__") hm.typeIs F.slot_dict_len.lookup ?_)))
  first
    | exact wpAny_bind (wpAny_mono key (fun r s' h' => by obtain ⟨rfl, hq⟩ := h'; exact wpAny_pure (hne ▸ hq)) fun _ _ e => e)
    | exact wpAny_bind (wpAny_pure (wpAny_bind (wpAny_mono key (fun r s' h' => by obtain ⟨rfl, hq⟩ := h'; exact wpAny_pure (hne ▸ hq)) fun _ _ e => e)))
theorem emp_of_len {α β : Type} {xs : List α} {ys : List β} (h : xs.length = ys.length) : xs.isEmpty = ys.isEmpty := by
  cases xs <;> cases ys <;> first | rfl | cases h
theorem n_truth {Q : Bool → Shared → Prop} (I : Inv X pins σ H s) (hd : (d == sysModules) = false) (e : H d = some (DX d o)) (c : Dc o L) (a : AllI L ∨ AllT X.K H L) (h : ∀ s', Inv X pins σ H s' → Q (!L.isEmpty) s') : wpAny (model X.prog X.w) A (truthy (.ref d)) Q E s := by
  have hz := c.sz
  rw [sizeLine_eq] at hz
  rcases n_both I e c a with ⟨vs, m, l⟩ | ⟨xs, m, l⟩
  · refine wpAny_truthy_dict hd m (by omega) ?_
    rw [emp_of_len l]
    exact h _ (I.tok _)
  · refine truthy_H hd m (by omega) ?_
    rw [emp_of_len l]
    exact h _ (I.tok _)
end
/-! ### walked -/
def Ik (d : Addr) (o : Obj) (L : List En) : It :=
  ⟨fun i H => H d = some (DX d o) ∧ i < L.length, fun i H x H' => H' = H ∧ ∃ y, L[i]? = some y ∧ x = y.2.1, fun i H => H d = some (DX d o) ∧ L.length ≤ i⟩
def Iv (d : Addr) (o : Obj) (L : List En) : It :=
  ⟨fun i H => H d = some (DX d o) ∧ i < L.length, fun i H x H' => H' = H ∧ ∃ y, L[i]? = some y ∧ x = y.2.2, fun i H => H d = some (DX d o) ∧ L.length ≤ i⟩
def Ii (d : Addr) (o : Obj) (L : List En) : It :=
  ⟨fun i H => H d = some (DX d o) ∧ i < L.length, fun i H x H' => ∃ T y, L[i]? = some y ∧ x = .ref T ∧ H T = none ∧ H' = upd H T (.tup [y.2.1, y.2.2]), fun i H => H d = some (DX d o) ∧ L.length ≤ i⟩
theorem ent_at {es : Array DictEntry} {L : List En} (h : Paired Ent es.toList L) {i : Nat} (hi : i < es.size) : ∃ y, L[i]? = some y ∧ Ent es[i] y := by
  have e : es.toList[i]? = some es[i] := by simp [hi]
  exact paired_get h e
theorem dc_es {o : Obj} {L : List En} (c : Dc o L) {es : Array DictEntry} {ep : Nat} (hod : o.data = .dict es ep) : es.size = L.length ∧ Paired Ent es.toList L := by
  obtain ⟨es', ep', h1, h2⟩ := c.dat
  rw [hod] at h1
  cases h1
  have := Paired.length h2
  rw [Array.length_toList] at this
  exact ⟨this, h2⟩
section
variable {P : Program} {w : World} {K : PySem.W.Frag} {tg : Expr} {d : Addr} {o : Obj} {es : Array DictEntry} {ep : Nat} {L : List En}
theorem turn_k (it : Addr) (c : Dc o L) (hod : o.data = .dict es ep) : Turn P w K tg (Ik d o L) [it] it (fun i h => h.IsKeyIter it d i es.size ep) where
  mem := by simp
  obj := fun i h st b hb => by
    have e : b = it := by simpa using hb
    subst e
    obtain ⟨oi, e, c, dd⟩ := st
    exact ⟨oi, e, fun v z => by rw [dd] at z; cases z⟩
  keep := fun i h h' st k => st.at fun oi e => k it (by simp) oi e
  item := by
    intro X hP hw hK hc i pins s σ H E I hf st hg
    subst hP hw hK
    obtain ⟨hd, hi⟩ := hg
    obtain ⟨f0, f1, f2, f3, f4, f5⟩ := hf it (by simp)
    obtain ⟨hs, hp⟩ := dc_es c hod
    have hr : s.heap.DictRaw d es ep := ⟨o, dx_get I hd, c.ex, hod⟩
    have hi' : i < es.size := by omega
    obtain ⟨y, hy, _, hk, _⟩ := ent_at hp hi'
    refine wpAny_pyNext_keys_item_raw st hr hi' fun h' st' sb => ?_
    have I1 : Inv X pins σ H { s with heap := h' } := I.turned (t' := s.toks) (fun b ob hb e => (sb.2 b hb).trans e) f0 f1 f3 f4 f5
    obtain ⟨oi, e, cc, dd⟩ := id st'
    exact ⟨_, rfl, go_of (s := { s with heap := h' }) e cc dd (by decide) ⟨y.2.1, H, I1, hk, ⟨rfl, y, hy, rfl⟩, st', fun b hb => (hf b hb).1⟩⟩
  done := by
    intro X hP hw hK hc i pins s σ H E I hf st hg
    subst hP hw hK
    obtain ⟨hd, hi⟩ := hg
    obtain ⟨f0, f1, f2, f3, f4, f5⟩ := hf it (by simp)
    obtain ⟨hs, hp⟩ := dc_es c hod
    have hr : s.heap.DictRaw d es ep := ⟨o, dx_get I hd, c.ex, hod⟩
    exact wpAny_pyNext_keys_end_raw (I.ok.hd hc) st hr (by omega) fun h' eb => ⟨rfl, I.turned (t' := s.toks) (fun b ob hb e => eb b ob hb e) f0 f1 f3 f4 f5⟩
  self := fun A i s Q E st h => by
    refine wpAny_pyIter_slot st.typeIs F.slot_dict_keyiterator_iter (wpAny_call_entry F.slot_dict_keyiterator_iter st.typeIs F.entry_dict_keyiterator_iter ?_ (F.args_dict_keyiterator_iter_1 _))
    show wpAny _ _ (ret (.ref it)) _ _ s
    exact wpAny_pure ⟨_, rfl, "dict_keyiterator", _, st.typeIs, F.slot_dict_keyiterator_next.lookup, h⟩
theorem turn_v (it : Addr) (c : Dc o L) (hod : o.data = .dict es ep) : Turn P w K tg (Iv d o L) [it] it (fun i h => h.IsValIter it d i es.size ep) where
  mem := by simp
  obj := fun i h st b hb => by
    have e : b = it := by simpa using hb
    subst e
    obtain ⟨oi, e, c, dd⟩ := st
    exact ⟨oi, e, fun v z => by rw [dd] at z; cases z⟩
  keep := fun i h h' st k => st.at fun oi e => k it (by simp) oi e
  item := by
    intro X hP hw hK hc i pins s σ H E I hf st hg
    subst hP hw hK
    obtain ⟨hd, hi⟩ := hg
    obtain ⟨f0, f1, f2, f3, f4, f5⟩ := hf it (by simp)
    obtain ⟨hs, hp⟩ := dc_es c hod
    have hr : s.heap.DictRaw d es ep := ⟨o, dx_get I hd, c.ex, hod⟩
    have hi' : i < es.size := by omega
    obtain ⟨y, hy, _, _, hk⟩ := ent_at hp hi'
    refine wpAny_pyNext_values_item_raw st hr hi' fun h' st' sb => ?_
    have I1 : Inv X pins σ H { s with heap := h' } := I.turned (t' := s.toks) (fun b ob hb e => (sb.2 b hb).trans e) f0 f1 f3 f4 f5
    obtain ⟨oi, e, cc, dd⟩ := id st'
    exact ⟨_, rfl, go_of (s := { s with heap := h' }) e cc dd (by decide) ⟨y.2.2, H, I1, hk, ⟨rfl, y, hy, rfl⟩, st', fun b hb => (hf b hb).1⟩⟩
  done := by
    intro X hP hw hK hc i pins s σ H E I hf st hg
    subst hP hw hK
    obtain ⟨hd, hi⟩ := hg
    obtain ⟨f0, f1, f2, f3, f4, f5⟩ := hf it (by simp)
    obtain ⟨hs, hp⟩ := dc_es c hod
    have hr : s.heap.DictRaw d es ep := ⟨o, dx_get I hd, c.ex, hod⟩
    exact wpAny_pyNext_values_end_raw (I.ok.hd hc) st hr (by omega) fun h' eb => ⟨rfl, I.turned (t' := s.toks) (fun b ob hb e => eb b ob hb e) f0 f1 f3 f4 f5⟩
  self := fun A i s Q E st h => wpAny_pyIter_valiter st h
theorem turn_i {elts : List Expr} {kk : Nat} {tpos : Pos} (it : Addr) (c : Dc o L) (hod : o.data = .dict es ep) : Turn P w K (.Tuple elts kk tpos) (Ii d o L) [it] it (fun i h => ∃ ok ov, IsItemIter h it d i es.size ep ok ov) where
  mem := by simp
  obj := fun i h st b hb => by
    have e : b = it := by simpa using hb
    subst e
    obtain ⟨ok, ov, e⟩ := st
    exact ⟨_, e, fun v z => nomatch z⟩
  keep := fun i h h' st k => let ⟨ok, ov, e⟩ := st; ⟨ok, ov, k it (by simp) _ e⟩
  item := by
    intro X hP hw hK hc i pins s σ H E I hf st hg
    subst hP hw hK
    obtain ⟨hd, hi⟩ := hg
    obtain ⟨hs, hp⟩ := dc_es c hod
    have hr : s.heap.DictRaw d es ep := ⟨o, dx_get I hd, c.ex, hod⟩
    have hi' : i < es.size := by omega
    obtain ⟨y, hy, _, hk, hv⟩ := ent_at hp hi'
    obtain ⟨ok, ov, he⟩ := st
    have hlt : it < s.heap.objs.size := Heap.lt_size he
    refine wpAny_pyNext_items_item_raw he hr hi' fun h' ho hT hz hkk => ?_
    refine ⟨_, rfl, wpAny_letOwnedTupleGo_items (s := { s with heap := h' }) ho fun h'' he' sb => ?_⟩
    have hT2 : h''.get? s.heap.objs.size = some { cls := .type "tuple", data := .seq #[es[i].key, es[i].val] } := (sb.2 _ (Nat.ne_of_gt hlt)).trans hT
    have new : ObjOk X.prog X.w (upd H s.heap.objs.size (.tup [y.2.1, y.2.2])) h'' s.heap.objs.size (.tup [y.2.1, y.2.2]) :=
      ⟨by show 2 ≤ sizeLine; decide, [es[i].key, es[i].val], .cons hk (.cons hv .nil), ⟨_, hT2, rfl, _, rfl⟩⟩
    have I1 : Inv X pins σ (upd H s.heap.objs.size (.tup [y.2.1, y.2.2])) { s with heap := h'' } :=
      I.turnedNew (t' := s.toks) (ch := [it]) (fun b ob hb e => (sb.2 b (by simpa using hb)).trans (hkk b ob (by simpa using hb) e)) hf (Nat.le_refl _) new
    refine ⟨.ref s.heap.objs.size, _, I1, rfl, ⟨_, y, hy, rfl, I.hok.fresh (Nat.le_refl _), rfl⟩, ⟨_, _, he'⟩, fun b hb => ?_⟩
    have e : b = it := by simpa using hb
    rw [e, upd_ne (Nat.ne_of_lt hlt)]
    exact (hf it (by simp)).1
  done := by
    intro X hP hw hK hc i pins s σ H E I hf st hg
    subst hP hw hK
    obtain ⟨hd, hi⟩ := hg
    obtain ⟨f0, f1, f2, f3, f4, f5⟩ := hf it (by simp)
    obtain ⟨hs, hp⟩ := dc_es c hod
    have hr : s.heap.DictRaw d es ep := ⟨o, dx_get I hd, c.ex, hod⟩
    obtain ⟨ok, ov, he⟩ := st
    exact wpAny_pyNext_items_end_raw (I.ok.hd hc) he hr (by omega) fun h' eb => ⟨rfl, I.turned (t' := s.toks) (fun b ob hb e => eb b ob hb e) f0 f1 f3 f4 f5⟩
  self := fun A i s Q E st h => let ⟨_, _, e⟩ := st; PySem.W.kcp_self e h
end
/-- what is told of a dict that is walked -/
def DcA (H : Hp) (d : Addr) (o : Obj) (L : List En) : Prop := (d == sysModules) = false ∧ H d = some (DX d o) ∧ Dc o L
section
variable {X : Cx} {tg e : Expr} {td : TE} {apos cpos : Pos}
theorem pi_k (he : PE X e td) : L2.PI X tg e (fun σ H R => td σ H fun x H1 => ∃ d o L, x = .ref d ∧ DcA H1 d o L ∧ R (Ik d o L) H1) := by
  refine ⟨fun pins s σ H R I h => ?_⟩
  refine thn (he.run pins s σ H _ I h) fun u s1 ⟨x, H1, I1, rx, d, o, L, ex, ⟨hs, hd, c⟩, q⟩ => ?_
  subst ex
  obtain rfl : u = Value.ref d := rx
  obtain ⟨es, ep, h1, h2⟩ := c.dat
  exact wpAny_pyIter_dict_raw hs ⟨o, dx_get I1 hd, c.ex, h1⟩ (pi_one (tk := s1.toks) I1 _ (turn_k _ c h1) ⟨_, Heap.get?_push_size _ rfl, rfl, rfl⟩ q)
theorem pi_v (he : PE X e td) (hbase : attributeBase e "values" X.env (eval e X.env) = eval e X.env) (hline : (apos.endLine == cpos.line) = true) : L2.PI X tg (.Call (.Attribute e "values" apos) [] [] cpos) (fun σ H R => td σ H fun x H1 => ∃ d o L, x = .ref d ∧ DcA H1 d o L ∧ R (Iv d o L) H1) := by
  refine ⟨fun pins s σ H R I h => ?_⟩
  refine wpAny_Call_method (T := "dict") (id := "dict.values") hbase rfl hline F.plainAttrs_dict F.slot_dict_values F.type_dict_values (thn (he.run pins s σ H _ I h) fun u s1 ⟨x, H1, I1, rx, d, o, L, ex, ⟨hs, hd, c⟩, q⟩ => ?_)
  subst ex
  obtain rfl : u = Value.ref d := rx
  obtain ⟨es, ep, h1, h2⟩ := c.dat
  have hg := dx_get I1 hd
  have hr : s1.heap.DictRaw d es ep := ⟨o, hg, c.ex, h1⟩
  refine ⟨hr.typeIs, fun a z => by cases z; exact ⟨o, hg, c.ex.2.1⟩, ?_⟩
  have I2 : Inv X pins σ H1 { s1 with heap := s1.heap.push { cls := .type "dict_values", data := .fields #[.ref d] } } := I1.kept (t' := s1.toks) fun b ob q => Heap.get?_push_of_some _ q
  have fin : wpAny (model X.prog X.w) X.A (pyIter (.ref s1.heap.objs.size)) (PIE X pins σ tg R) X.xe { s1 with heap := s1.heap.push { cls := .type "dict_values", data := .fields #[.ref d] } } :=
    wpAny_pyIter_values_raw ⟨_, Heap.get?_push_size _ rfl, rfl, rfl⟩ (hr.push _) (pi_one (tk := s1.toks) I2 _ (turn_v _ c h1) ⟨_, Heap.get?_push_size _ rfl, rfl, rfl⟩ q)
  show wpAny _ _ (callWith cpos (.builtin "dict.values") [.ref d] [] []) _ X.xe s1
  exact method_meetsIn F.slot_dict_values F.entry_dict_values rfl (PySem.evalArgs_none ⟨rfl, hr.typeIs, F.args_dict_values_1 _, _, meets_dict_values_raw d hs, ⟨es, ep, hr⟩, fin⟩)
theorem pi_i {elts : List Expr} {kk : Nat} {tpos : Pos} (he : PE X e td) (hbase : attributeBase e "items" X.env (eval e X.env) = eval e X.env) (hline : (apos.endLine == cpos.line) = true) :
    L2.PI X (.Tuple elts kk tpos) (.Call (.Attribute e "items" apos) [] [] cpos) (fun σ H R => td σ H fun x H1 => ∃ d o L, x = .ref d ∧ DcA H1 d o L ∧ R (Ii d o L) H1) := by
  refine ⟨fun pins s σ H R I h => ?_⟩
  refine wpAny_Call_method (T := "dict") (id := "dict.items") hbase rfl hline F.plainAttrs_dict F.slot_dict_items F.type_dict_items (thn (he.run pins s σ H _ I h) fun u s1 ⟨x, H1, I1, rx, d, o, L, ex, ⟨hs, hd, c⟩, q⟩ => ?_)
  subst ex
  obtain rfl : u = Value.ref d := rx
  obtain ⟨es, ep, h1, h2⟩ := c.dat
  have hg := dx_get I1 hd
  have hr : s1.heap.DictRaw d es ep := ⟨o, hg, c.ex, h1⟩
  refine ⟨hr.typeIs, fun a z => by cases z; exact ⟨o, hg, c.ex.2.1⟩, ?_⟩
  have I2 : Inv X pins σ H1 { s1 with heap := s1.heap.push { cls := .type "dict_items", data := .fields #[.ref d] } } := I1.kept (t' := s1.toks) fun b ob q => Heap.get?_push_of_some _ q
  have fin : wpAny (model X.prog X.w) X.A (pyIter (.ref s1.heap.objs.size)) (PIE X pins σ (.Tuple elts kk tpos) R) X.xe { s1 with heap := s1.heap.push { cls := .type "dict_items", data := .fields #[.ref d] } } :=
    wpAny_pyIter_items_raw ⟨_, Heap.get?_push_size _ rfl, rfl, rfl⟩ (hr.push _) (pi_one (tk := s1.toks) I2 _ (turn_i _ c h1) ⟨.none, .none, Heap.get?_push_size _ rfl⟩ q)
  show wpAny _ _ (callWith cpos (.builtin "dict.items") [.ref d] [] []) _ X.xe s1
  exact method_meetsIn F.slot_dict_items F.entry_dict_items rfl (PySem.evalArgs_none ⟨rfl, hr.typeIs, F.args_dict_items_1 _, _, meets_dict_items_raw d hs, ⟨es, ep, hr⟩, fin⟩)
end
end PD
set_option Elab.async false
set_option linter.all false
set_option maxRecDepth 100000
set_option maxHeartbeats 4000000
/-! PD5: rules over such a dict: a new one, subscripts, membership, length, storing. -/
namespace PD
open PySem PySem.Spec PyProof.Rows L2
section
variable {X : Cx} {o i value e : Expr} {pos pos' : Pos} {td ty tv : TE} {pins : List (Addr × Obj)} {σ : L2.St} {H : Hp} {s : Shared} {d : Addr} {ob : Obj} {L : List En}
theorem dx_type (I : Inv X pins σ H s) (h : H d = some (DX d ob)) (c : Dc ob L) : s.TypeIs (.ref d) "dict" ∧ (∀ b, Value.ref d = .ref b → ∃ ob, s.heap.get? b = some ob ∧ ob.dict = none) := by
  have e := dx_get I h
  refine ⟨⟨ob, e, c.ex.1⟩, fun b q => ?_⟩
  cases q
  exact ⟨ob, e, c.ex.2.1⟩
/-- {} -/
def tXNew : TE := fun _ H Q => ∀ p o, H p = none → (p == sysModules) = false → Dc o [] → Q (.ref p) (upd H p (DX p o))
theorem dc_nil : Dc { cls := .type "dict", data := .dict #[] } [] := ⟨⟨rfl, rfl, rfl⟩, ⟨#[], 0, rfl, .nil⟩, List.nodup_nil, Nat.zero_le _⟩
theorem pe_xnew : PE X (.Dict [] [] pos) tXNew := ⟨fun pins s σ H Q I h =>
  wpAny_Dict_empty ⟨.ref s.heap.objs.size, _, dx_laid (t' := s.toks) I (fun _ _ q => Heap.get?_push_of_some _ q) (Nat.le_refl _) (Heap.get?_push_size _ rfl), rfl,
    h _ _ (I.hok.fresh (Nat.le_refl _)) (beq_eq_false_iff_ne.mpr (Ne.symm (Nat.ne_of_lt I.big))) dc_nil⟩⟩
/-- d[k] -/
def rIxX (K : PySem.W.Frag) : R2 := fun x y H Q => ∃ d o L k v, x = .ref d ∧ DcA H d o L ∧ Ky K H L k y ∧ fnd L k = some v ∧ Q v H
theorem ix_dct (hu : X.A.units + 9 < cLine) : IxR X (rIxX X.K) := by
  intro value slice pins s σ H x y v u Q I rx ry h hs
  obtain ⟨d, o, L, k, z, rfl, ⟨h1, h2, h3⟩, ky, hf, q⟩ := h
  cases rx
  exact tail_any (dx_type I h2 h3).1 PySem.F.slot_dict_getitem.lookup (n_get hu I h2 h3 ky hf ry fun w' s' I' r' => ⟨_, H, I', r', q⟩) hs
/-- k in d -/
theorem op_inX (neg : Bool) (hu : X.A.units + 9 < cLine) : OpR X (compareOp (if neg then .NotIn else .In)) (fun x y H Q => ∃ d o L k, y = .ref d ∧ DcA H d o L ∧ Ky X.K H L k x ∧ Q (.bl (if neg then !has L k else has L k)) H) := by
  intro pins s σ H x y v u Q I rx ry h
  obtain ⟨d, o, L, k, rfl, ⟨h1, h2, h3⟩, ky, q⟩ := h
  cases ry
  cases neg with
  | false => exact n_in hu I h1 h2 h3 ky rx fun s' I' => ⟨.bl _, H, I', rfl, q⟩
  | true => exact n_notIn hu I h1 h2 h3 ky rx fun s' I' => ⟨.bl _, H, I', rfl, q⟩
theorem call_xlen : CallR X (.builtin "len") (fun xs H Q => ∃ d o L, xs = [.ref d] ∧ DcA H d o L ∧ (AllI L ∨ AllT X.K H L) ∧ Q (.int L.length) H) := by
  intro pins s σ H xs us Q I r h
  obtain ⟨d, o, L, rfl, ⟨h1, h2, h3⟩, a, q⟩ := h
  obtain ⟨u, rfl, rx⟩ := vals1 r
  cases rx
  exact n_len I h1 h2 h3 a fun t s' I' => ⟨.int _, H, I', ⟨_, rfl⟩, q⟩
/-- d[k] = v -/
def sXPut (K : PySem.W.Frag) (td ty tv : TE) : TS := fun D σ H => tv σ H fun v H1 => td σ H1 fun x H2 => ty σ H2 fun y H3 => ∃ d o L k, x = .ref d ∧ DcA H3 d o L ∧ Ky K H3 L k y ∧ L.length < sizeLine ∧ ∀ o', Dc o' (put L k y v) → D.nx σ (upd H3 d (DX d o'))
theorem ps_xput (hu : X.A.units + 9 < cLine) (ho : PE X o td) (hi : PE X i ty) (hv : PE X value tv) (hs : swapsWith value (some (.Subscript o i pos')) pos.line X.env = pure false) :
    PS X (.Assign [.Subscript o i pos'] value pos) (sXPut X.K td ty tv) := by
  refine ⟨fun pins s σ H D I h => ?_⟩
  refine wpAny_Assign_Subscript (thn (hv.run pins s σ H _ I h) fun r s1 ⟨v, H1, I1, rv, q1⟩ => thn (ho.run pins s1 σ H1 _ I1 q1) fun u s2 ⟨x, H2, I2, rx, q2⟩ => thn (hi.run pins s2 σ H2 _ I2 q2) fun iv s3 ⟨y, H3, I3, ry, d, o, L, k, ex, ⟨h1, h2, h3⟩, ky, hl, q3⟩ => ?_) hs
  subst ex
  obtain rfl : u = Value.ref d := rx
  exact n_set hu I3 h2 h3 ky hl ry rv fun o' s4 I4 c => ⟨σ, _, I4, q3 o' c⟩
end
end PD
set_option Elab.async false
set_option linter.all false
set_option maxRecDepth 100000
set_option maxHeartbeats 4000000
/-! PI: an interpreter of a part of Python over pure data, and (in the later texts) its soundness over the hand layer. -/
namespace PI
open PySem PySem.Spec PyProof.Rows L2

/-- data -/
inductive D where
  | non | bl (b : Bool) | int (i : Int) | str (s : Str)
  | tup (xs : List D) | lst (xs : List D) | dct (ks vs : List D) | ins (c : Str) (fs : List Str) (vs : List D) | fn (x : Str) | obj (l : Nat) | scr (ns : List Int)

mutual
def D.py : D → PyData
  | .non => .none
  | .bl b => .bool b
  | .int i => .int i
  | .str s => .str s
  | .tup xs => .tuple (pyL xs)
  | .lst xs => .list (pyL xs)
  | .dct _ _ => .none
  | .ins _ _ _ => .none
  | .fn _ => .none
  | .obj _ => .none
  | .scr _ => .none
def pyL : List D → List PyData
  | [] => []
  | x :: r => x.py :: pyL r
end
mutual
/-- no dict, no def, no object within -/
def D.pl : D → Bool
  | .non => true
  | .bl _ => true
  | .int _ => true
  | .str s => PyData.strOk s
  | .tup xs => plL xs
  | .lst xs => plL xs
  | .dct _ _ => false
  | .ins _ _ _ => false
  | .fn _ => false
  | .obj _ => false
  | .scr _ => false
def plL : List D → Bool
  | [] => true
  | x :: r => x.pl && plL r
end
mutual
/-- no object of the store within -/
def D.noObj : D → Bool
  | .non => true
  | .bl _ => true
  | .int _ => true
  | .str _ => true
  | .tup xs => noObjL xs
  | .lst xs => noObjL xs
  | .dct ks vs => noObjL ks && noObjL vs
  | .ins _ _ vs => noObjL vs
  | .fn _ => true
  | .obj _ => false
  | .scr _ => true
def noObjL : List D → Bool
  | [] => true
  | x :: r => x.noObj && noObjL r
end

mutual
/-- a key of a dict: a whole number, a tuple of such -/
def nkD : D → Option NestedKey
  | .non => none
  | .bl _ => none
  | .int i => some (.num i)
  | .str _ => none
  | .tup xs => (nkL xs).map .tup
  | .lst _ => none
  | .dct _ _ => none
  | .ins _ _ _ => none
  | .fn _ => none
  | .obj _ => none
  | .scr _ => none
def nkL : List D → Option (List NestedKey)
  | [] => some []
  | x :: r => match nkD x, nkL r with
    | some k, some ks => some (k :: ks)
    | _, _ => none
end
def isNum : NestedKey → Bool
  | .num _ => true
  | _ => false
/-- keys of one kind: all numbers, or all tuples (not too deep) -/
def kindOk (ks : List NestedKey) : Bool := ks.all isNum || ks.all fun k => !isNum k && decide (k.depth ≤ 8)

/-- the key k among the keys ks, of their kind -/
def keyIn (ks : List D) (k : D) : Option NestedKey := match nkD k, nkL ks with
  | some q, some qs => if kindOk (q :: qs) then some q else none
  | _, _ => none
def idxK (ks : List D) (q : NestedKey) : Option Nat := ks.findIdx? fun y => decide (nkD y = some q)
def hasD (ks : List D) (k : D) : Option Bool := (keyIn ks k).map fun q => (idxK ks q).isSome
def getD (ks vs : List D) (k : D) : Option D := (keyIn ks k).bind fun q => (idxK ks q).bind fun i => vs[i]?
def putD (ks vs : List D) (k v : D) : Option (List D × List D) := (keyIn ks k).bind fun q => if ks.length < 16777216 then some (match idxK ks q with
  | some i => (ks, vs.set i v)
  | none => (ks ++ [k], vs ++ [v])) else none
def popD (ks vs : List D) (k : D) : Option (D × List D × List D) := (keyIn ks k).bind fun q => (idxK ks q).bind fun i => (vs[i]?).map fun v => (v, ks.eraseIdx i, vs.eraseIdx i)

/-- a value's standing: shared, fresh (no one else has it), weak (a name's own list) -/
inductive Kd | sh | fr | wk
  deriving DecidableEq
/-- a slot: unset, shared, owned -/
inductive Sl | un | im (d : D) | ow (d : D)
structure Ex where
  cls : Str
  fs : List (Str × D)
/-- an object of the store: a list that defs share -/
inductive Cell | box (d : D) | tab (P : Addr) (q : Str)
abbrev Cell.lst (xs : List D) : Cell := .box (.lst xs)
abbrev Cell.dct (ks vs : List D) : Cell := .box (.dct ks vs)
abbrev Store := List Cell
inductive R (α : Type) | ok (a : α) (st : Store) | ex (e : Ex) (st : Store) | no
abbrev M (α : Type) := Store → R α
def M.ret {α : Type} (a : α) : M α := fun st => .ok a st
def M.no {α : Type} : M α := fun _ => .no
def M.bnd {α β : Type} (m : M α) (f : α → M β) : M β := fun st => match m st with
  | .ok a st' => f a st'
  | .ex e st' => .ex e st'
  | .no => .no
def M.opt {α : Type} : Option α → M α
  | some a => .ret a
  | none => .no
abbrev DK := D × Kd

/-- a def -/
structure FnI where
  ps : List Str
  N : List Str
  sc : Scope
  cells : List Str
  body : List Stmt
/-- the program: its defs, constants, exception classes (1: value alone; 2: what and limit) and the def that tells refusals (class, word, attributes) -/
structure Pg where
  fns : List (Str × FnI)
  glb : List (Str × D)
  exc : List (Str × Nat)
  ref : Str
  hds : List (Str × Str × Nat)
structure Ct where
  N : List Str
  sc : Scope
  cells : List Str
  blk : Option Scope
  top : Option (Addr × Str) := none
def stB (C : Ct) (x : Str) : Bool := match C.blk with
  | none => true
  | some s => (match s.names.lookup x with
    | some .local => true
    | some .cell => true
    | _ => false)

/-! ### pure operations -/
def lim : Nat := 16777216
def tru : D → Option Bool
  | .non => some false
  | .bl b => some b
  | .int i => some (i != 0)
  | .str s => if s.length ≤ lim then some (((s.length : Nat) : Int) != 0) else none
  | .tup xs => some (!xs.isEmpty)
  | .lst xs => some (!xs.isEmpty)
  | _ => none
def cmpOk (d : D) : Bool := d.pl && decide (d.py.depth ≤ 60)
def eqD (a b : D) : Option Bool := if cmpOk a && cmpOk b then some (PyData.eqv a.py b.py) else none
def inL (x : D) (xs : List D) : Option Bool := if cmpOk x && cmpOk (.lst xs) then some (xs.any fun z => PyData.eqv z.py x.py) else none
def inD (x : D) : D → Option Bool
  | .lst xs => inL x xs
  | .tup xs => inL x xs
  | .dct ks _ => hasD ks x
  | .str j => match x with
    | .str i => some (!(Builtin.Str.occurrences j i 0 j.length 1).isEmpty)
    | _ => none
  | _ => none
def small64 (i : Int) : Bool := decide (-(2 ^ 64) < i ∧ i < 2 ^ 64)
def repS (s : Str) (n : Int) : Str := if n < 1 then Str.empty else if (n == 1 || s.length == 0) = true then s else ⟨(List.replicate n.toNat s.cps).foldl (· ++ ·) #[]⟩
def opD : Operator → D → D → Option DK
  | .Add, .int i, .int j => some (.int (i + j), .sh)
  | .Add, .str a, .str b => if a.length + b.length ≤ lim then some (.str (a ++ b), .sh) else none
  | .Add, .lst a, .lst b => if a.length + b.length ≤ lim then some (.lst (a ++ b), .fr) else none
  | .Add, .tup a, .tup b => if a.length + b.length ≤ lim then some (.tup (a ++ b), .sh) else none
  | .Sub, .int i, .int j => some (.int (i - j), .sh)
  | .Mult, .int i, .int j => if small64 i || small64 j then some (.int (i * j), .sh) else none
  | .Mult, .str a, .int n => if a.length ≤ 1000 ∧ -1000 ≤ n ∧ n ≤ 1000 then some (.str (repS a n), .sh) else none
  | .Mult, .lst a, .int n => if -1000 ≤ n ∧ n ≤ 1000 ∧ a.length ≤ 1000 then some (.lst (List.replicate n.toNat a).flatten, .fr) else none
  | .Mult, .tup a, .int n => if 2 ≤ n ∧ n ≤ 1000 ∧ a.length ≤ 1000 ∧ a.length ≠ 0 then some (.tup (List.replicate n.toNat a).flatten, .sh) else none
  | .FloorDiv, .int i, .int j => if j ≠ 0 ∧ j.natAbs < 1073741824 then some (.int (i.fdiv j), .sh) else none
  | .Mod, .int i, .int j => if j ≠ 0 then some (.int (i.fmod j), .sh) else none
  | .Pow, .int i, .int j => if 0 ≤ j ∧ j ≤ 1000 ∧ i.natAbs < 2 ^ 64 then some (.int (i ^ j.toNat), .sh) else none
  | _, _, _ => none
def D.isNon : D → Bool
  | .non => true
  | _ => false
/-- data of one shape, compared by their order -/
def ltD (a b : D) : Option Bool := if cmpOk a && cmpOk b && PySem.W.alike a.py b.py && !a.isNon then some (PySem.W.dataLt a.py b.py) else none
def cmpD : CmpOp → D → D → Option Bool
  | .Eq, a, b => eqD a b
  | .NotEq, a, b => (eqD a b).map (!·)
  | .In, a, b => inD a b
  | .NotIn, a, b => (inD a b).map (!·)
  | .Is, a, .non => some a.isNon
  | .IsNot, a, .non => some (!a.isNon)
  | .Is, .bl a, .bl b => some (decide (a = b))
  | .IsNot, .bl a, .bl b => some (!decide (a = b))
  | .Lt, .int i, .int j => some (decide (i < j))
  | .Lt, .tup a, .tup b => ltD (.tup a) (.tup b)
  | .LtE, .int i, .int j => some (decide (i ≤ j))
  | .Gt, .int i, .int j => some (decide (j < i))
  | .GtE, .int i, .int j => some (decide (j ≤ i))
  | _, _, _ => none
def isCon (o : CmpOp) : Bool := match o with | .In => true | .NotIn => true | _ => false
def ixD : D → D → Option D
  | .lst xs, .int i => atI xs i
  | .scr ns, .int i => (atI ns i).map .int
  | .tup xs, .int i => atI xs i
  | .dct ks vs, k => getD ks vs k
  | .str s, .int i => if s.length ≤ lim then (atI s.cps.toList i).map fun c => .str ⟨#[c]⟩ else none
  | _, _ => none
def cutL {α : Type} (xs : List α) (lo hi : Option Int) : List α := (xs.drop (HT.sIx xs.length 0 lo)).take (HT.sIx xs.length xs.length hi - HT.sIx xs.length 0 lo)
def slD : D → Option Int → Option Int → Option DK
  | .lst xs, lo, hi => some (.lst (cutL xs lo hi), .fr)
  | .tup xs, lo, hi => some (.tup (cutL xs lo hi), .sh)
  | .str s, lo, hi => if s.length ≤ lim then some (.str (cutS s lo hi), .sh) else none
  | _, _, _ => none
def revD : D → Option DK
  | .lst xs => some (.lst xs.reverse, .fr)
  | .str s => if s.length ≤ lim then some (.str ⟨s.cps.toList.reverse.toArray⟩, .sh) else none
  | _ => none
/-- xs[:i:-1] of a tuple -/
def rdnD : D → Int → Option DK
  | .tup xs, i => if 0 ≤ i ∧ i.toNat < xs.length ∧ xs.length ≤ 1000 then some (.tup (xs.drop (i.toNat + 1)).reverse, .sh) else none
  | _, _ => none
def strOf? : D → Option Str
  | .str s => some s
  | _ => none
def intOf? : D → Option Int
  | .int i => some i
  | _ => none
def mapO {α β : Type} (f : α → Option β) : List α → Option (List β)
  | [] => some []
  | x :: r => match f x, mapO f r with
    | some y, some ys => some (y :: ys)
    | _, _ => none
def lenD : D → Option Nat
  | .str s => if s.length ≤ lim then some s.length else none
  | .lst xs => some xs.length
  | .tup xs => some xs.length
  | .scr ns => some ns.length
  | .dct ks _ => some ks.length
  | _ => none
def blOf? : D → Option Bool
  | .bl b => some b
  | _ => none
/-- all of a list of truth values -/
def allB (xs : List D) : Option Bool := (mapO blOf? xs).map fun bs => bs.all id
def anyB (xs : List D) : Option Bool := (mapO blOf? xs).map fun bs => bs.any id
def tyOf : D → Option String
  | .non => some "NoneType"
  | .bl _ => some "bool"
  | .int _ => some "int"
  | .str _ => some "str"
  | .tup _ => some "tuple"
  | .lst _ => some "list"
  | _ => none
/-- isinstance with one of these types -/
def isiB (d : D) (t : String) : Option Bool := match tyOf d with
  | some k => if ["bool", "int", "str", "tuple", "list", "dict"].contains t then some (k == t || (k == "bool" && t == "int")) else none
  | none => none
def isiAny (d : D) : List String → Option Bool
  | [] => some false
  | t :: r => match isiB d t with
    | some true => some true
    | some false => isiAny d r
    | none => none
/-- data that can be compared two by two -/
def alkB (xs : List D) : Bool := xs.all fun x => x.pl && decide (x.py.depth ≤ 60) && xs.all fun y => PySem.W.alike x.py y.py
def tup1 : PyData → Bool
  | .tuple (_ :: _) => true
  | _ => false
def noTN : PyData → Bool
  | .none => false
  | .tuple _ => false
  | _ => true
def srtB (xs : List D) : Bool := alkB xs && (xs.all (fun x => tup1 x.py) || xs.all fun x => noTN x.py) && decide (xs.length ≤ lim)
def sortD (xs : List D) : List D := xs.mergeSort (PySem.W.dataLe false D.py)
/-- the first least (greatest) of data -/
def bestD (f : D → D → Bool) (x : D) (xs : List D) : D := xs.foldl (fun a y => if f y a then y else a) x
def minL : List D → Option D
  | [] => none
  | x :: xs => if srtB (x :: xs) then some (bestD (fun y a => PySem.W.dataLt y.py a.py) x xs) else none
def maxL : List D → Option D
  | [] => none
  | x :: xs => if srtB (x :: xs) then some (bestD (fun y a => PySem.W.dataLt a.py y.py) x xs) else none
/-- what repr tells of a tuple -/
def repD (d : D) : Option Str := if cmpOk d && d.py.showable && decide (d.py.shown.length ≤ lim) then some d.py.shown else none
def idxD (y : D) (xs : List D) : Option Nat := if cmpOk y && cmpOk (.lst xs) then xs.findIdx? (fun z => PyData.eqv z.py y.py) else none
def cntD (y : D) (xs : List D) : Option Nat := if cmpOk y && cmpOk (.lst xs) then some (xs.countP fun z => PyData.eqv z.py y.py) else none
/-- a method that reads -/
def mthD (m : Str) (x y : D) : Option DK :=
  if m = "index" then (match x with
    | .lst xs => (idxD y xs).map fun j => (.int (j : Nat), .sh)
    | _ => none)
  else if m = "count" then (match x with
    | .lst xs => (cntD y xs).map fun j => (.int (j : Nat), .sh)
    | _ => none)
  else if m = "split" then (match x, y with
    | .str a, .str b => if !(b.length == 0) && decide (a.length + 2 ≤ lim) then some (.lst ((Txt.split a b).map .str), .fr) else none
    | _, _ => none)
  else none
def mthT (m : Str) (x : D) : Bool := match x with
  | .lst _ => m == "index" || m == "count"
  | .str _ => m == "split"
  | _ => false
/-- a built-in called -/
def bltD (x : Str) (as : List D) : Option DK :=
  if x = "len" then (match as with | [a] => (lenD a).map fun n => (.int n, .sh) | _ => none)
  else if x = "int" then (match as with | [.int i] => some (.int i, .sh) | [.bl b] => some (.int (if b then 1 else 0), .sh) | _ => none)
  else if x = "list" then (match as with | [.lst xs] => some (.lst xs, .fr) | [.tup xs] => some (.lst xs, .fr) | _ => none)
  else if x = "tuple" then (match as with | [.lst xs] => some (.tup xs, .sh) | [.tup xs] => some (.tup xs, .sh) | _ => none)
  else if x = "abs" then (match as with | [.int i] => some (.int (if i < 0 then -i else i), .sh) | _ => none)
  else if x = "all" then (match as with | [.lst xs] => (allB xs).map fun b => (.bl b, .sh) | _ => none)
  else if x = "any" then (match as with | [.lst xs] => (anyB xs).map fun b => (.bl b, .sh) | _ => none)
  else if x = "max" then (match as with
    | [.int i, .int j] => some (.int (if j > i then j else i), .sh)
    | [.lst xs] => (maxL xs).map fun d => (d, .sh)
    | [.tup xs] => (maxL xs).map fun d => (d, .sh)
    | _ => none)
  else if x = "min" then (match as with
    | [.int i, .int j] => some (.int (if j < i then j else i), .sh)
    | [.lst xs] => (minL xs).map fun d => (d, .sh)
    | [.tup xs] => (minL xs).map fun d => (d, .sh)
    | _ => none)
  else if x = "sorted" then (match as with
    | [.lst xs] => if srtB xs then some (.lst (sortD xs), .fr) else none
    | [.tup xs] => if srtB xs then some (.lst (sortD xs), .fr) else none
    | _ => none)
  else if x = "sum" then (match as with | [.lst xs] => (mapO intOf? xs).map fun ns => (.int ns.sum, .sh) | _ => none)
  else if x = "repr" then (match as with | [.tup xs] => (repD (.tup xs)).map fun z => (.str z, .sh) | _ => none)
  else none
def bltT (x : Str) : Bool := (["int", "list", "tuple"] : List Str).contains x
def bltB (x : Str) : Bool := (["len", "abs", "all", "any", "max", "min", "sorted", "sum"] : List Str).contains x
/-- repr: in the law's own frame alone -/
def bltR (C : Ct) (x : Str) : Bool := x == "repr" && C.top.isSome
/-- the items of a range -/
def rngD (lo : Int) : Nat → List D
  | 0 => []
  | n + 1 => .int lo :: rngD (lo + 1) n
def enumD (i : Nat) : List D → List D
  | [] => []
  | x :: r => .tup [.int i, x] :: enumD (i + 1) r
def zipD : List D → List D → List D
  | x :: r, y :: s => .tup [x, y] :: zipD r s
  | _, _ => []
def signsD (s : Str) : List D := s.cps.toList.map fun c => .str ⟨#[c]⟩
def in62 (i : Int) : Bool := decide (-(2 ^ 62) ≤ i ∧ i < 2 ^ 62)

/-! ### names -/
def sIdx (N : List Str) (x : Str) : Option Nat := match N with
  | [] => none
  | y :: r => if y = x then some 0 else (sIdx r x).map (· + 1)
def visB (sc : Scope) (x : Str) : Bool := match sc.names.lookup x with
  | some .local => true
  | some .cell => true
  | some .free => true
  | _ => false
def locB (sc : Scope) (x : Str) : Bool := match sc.names.lookup x with
  | some .local => true
  | some .cell => true
  | _ => false
def gloB (sc : Scope) (x : Str) : Bool := match sc.names.lookup x with
  | some .globalImplicit => true
  | _ => false
def okName (x : Str) : Bool := !(x == ("__debug__" : Str)) && !(x == ("__classdict__" : Str)) && !(x == ("__name__" : Str))
/-- a slot read -/
def Sl.get : Sl → Option DK
  | .un => none
  | .im d => some (d, .sh)
  | .ow d => some (d, .wk)
def rdName (C : Ct) (x : Str) (ρ : List Sl) : Option DK := match sIdx C.N x with
  | some i => (ρ[i]?).bind Sl.get
  | none => none
def evName (P : Pg) (C : Ct) (x : Str) (ρ : List Sl) : Option DK :=
  if okName x then
    if visB C.sc x then rdName C x ρ
    else if gloB C.sc x then (match P.glb.lookup x with
      | some d => some (d, .sh)
      | none => (match P.fns.lookup x with
        | some _ => some (.fn x, .sh)
        | none => none))
    else none
  else none
/-- no weak ones -/
def strong : List DK → Option (List D)
  | [] => some []
  | (_, .wk) :: _ => none
  | (d, _) :: r => (strong r).map (d :: ·)
def freeze (N : List Str) (x : Str) (ρ : List Sl) : List Sl := match sIdx N x with
  | some i => (match ρ[i]? with
    | some (.ow d) => ρ.set i (.im d)
    | _ => ρ)
  | none => ρ
def freezes (N : List Str) : List Str → List Sl → List Sl
  | [], ρ => ρ
  | x :: r, ρ => freezes N r (freeze N x ρ)
def slotOf : D → Kd → Option Sl
  | d, .fr => some (.ow d)
  | d, .sh => some (.im d)
  | _, .wk => none
def wipeR (ρ : List Sl) : List Nat → List Sl
  | [] => ρ
  | i :: r => (wipeR ρ r).set i .un
/-- the comprehension's own names -/
def ownOf (N : List Str) (sc : Scope) : List (Str × Nat) := sc.names.filterMap fun y => match y.2 with
  | .local => (sIdx N y.1).map fun i => (y.1, i)
  | .cell => (sIdx N y.1).map fun i => (y.1, i)
  | _ => none
/-- none of the comprehension's names is owned -/
def noOw (ρ : List Sl) (own : List (Str × Nat)) : Bool := own.all fun p => match ρ[p.2]? with
  | some (.ow _) => false
  | _ => true
/-- names and tuples of such -/
def plainT : List Expr → Bool
  | [] => true
  | .Name _ _ :: r => plainT r
  | .Tuple _ _ _ :: r => plainT r
  | _ => false
def lineOk (f : Expr) (pos : Pos) : Bool := match f with
  | .Attribute _ _ p => p.endLine == pos.line
  | _ => true
def notCall : Expr → Bool
  | .Call (.Name _ _) [] [] _ => false
  | _ => true
/-- storing to a target -/
def asT : Nat → Ct → Expr → D → Kd → List Sl → Option (List Sl)
  | 0, _, _, _, _, _ => none
  | n + 1, C, t, d, k, ρ => match t with
    | .Name x _ => if okName x && locB C.sc x && stB C x then (match sIdx C.N x, slotOf d k with
      | some i, some s => some (ρ.set i s)
      | _, _ => none) else none
    | .Tuple ts _ _ => (match d with
      | .tup ds => if plainT ts && decide (ts.length = ds.length) then asL n C ts ds ρ else none
      | .lst ds => if plainT ts && decide (ts.length = ds.length) then asL n C ts ds ρ else none
      | _ => none)
    | _ => none
where
  asL : Nat → Ct → List Expr → List D → List Sl → Option (List Sl)
  | 0, _, _, _, _ => none
  | n + 1, C, t :: ts, d :: ds, ρ => (match asT n C t d .sh ρ with
    | some ρ' => asL n C ts ds ρ'
    | none => none)
  | _ + 1, _, [], [], ρ => some ρ
  | _ + 1, _, _, _, _ => none

/-- several targets, values with their standing -/
def asK (n : Nat) (C : Ct) : List Expr → List DK → List Sl → Option (List Sl)
  | [], [], ρ => some ρ
  | t :: ts, x :: xs, ρ => (match asT n C t x.1 x.2 ρ with
    | some ρ' => asK n C ts xs ρ'
    | none => none)
  | _, _, _ => none

/-! ### names whose list comes to be shared -/
def pureNames : List Str := ["len", "int", "list", "tuple", "abs", "all", "any", "max", "min", "range", "enumerate", "zip", "sorted", "sum", "isinstance", "repr", "str"]
mutual
def alE : Nat → Expr → List Str
  | 0, _ => []
  | n + 1, e => match e with
    | .Name x _ => [x]
    | .IfExp c a b _ => neE n c ++ alE n a ++ alE n b
    | .BoolOp _ vs _ => alL n vs
    | e => neE n e
def neE : Nat → Expr → List Str
  | 0, _ => []
  | n + 1, e => match e with
    | .BoolOp _ vs _ => neL n vs
    | .BinOp a _ b _ => neE n a ++ neE n b
    | .UnaryOp _ a _ => neE n a
    | .Lambda _ b _ _ => neE n b
    | .IfExp c a b _ => neE n c ++ neE n a ++ neE n b
    | .Dict _ vs _ => alL n vs
    | .ListComp e gs _ _ => alE n e ++ neG n gs
    | .Compare a _ cs _ => neE n a ++ neL n cs
    | .Call (.Name f _) as _ _ => if pureNames.contains f then neL n as else alL n as
    | .Call (.Attribute o _ _) as _ _ => neE n o ++ alL n as
    | .Attribute o _ _ => neE n o
    | .Subscript o i _ => neE n o ++ neE n i
    | .Starred e _ => neE n e
    | .List es _ => alL n es
    | .Tuple es _ _ => alL n es
    | .Slice a b c _ => (a.toList ++ b.toList ++ c.toList).flatMap (neE n)
    | _ => []
def alL : Nat → List Expr → List Str
  | 0, _ => []
  | _ + 1, [] => []
  | n + 1, e :: r => alE n e ++ alL n r
def neL : Nat → List Expr → List Str
  | 0, _ => []
  | _ + 1, [] => []
  | n + 1, e :: r => neE n e ++ neL n r
def neG : Nat → List Comprehension → List Str
  | 0, _ => []
  | _ + 1, [] => []
  | n + 1, ⟨_, it, ifs, _⟩ :: r => neE n it ++ neL n ifs ++ neG n r
end
def alI (e : Expr) : List Str := match e with
  | .Call (.Name _ _) as _ _ => alL 1000 as
  | e => alE 1000 e
def fzS : Stmt → List Str
  | .Assign ts v _ => alE 1000 v ++ neL 1000 ts
  | .AugAssign _ _ v _ => neE 1000 v
  | .Expr e _ => neE 1000 e
  | .Return (some e) _ => neE 1000 e
  | .If c _ _ _ => neE 1000 c
  | .While c _ _ _ => neE 1000 c
  | .For _ it _ _ _ => alI it
  | .Raise (some e) _ _ => neE 1000 e
  | _ => []

/-! ### the interpreter -/
def notSlice : Expr → Bool
  | .Slice _ _ _ _ => false
  | _ => true
def notTup : Expr → Bool
  | .Tuple _ _ _ => false
  | _ => true
/-- the attributes of an exception by its class's kind -/
def exFs {α : Type} : Nat → List α → Option (List (Str × α))
  | 1, [v] => some [("value", v)]
  | 2, [v, w] => some [("limit", w), ("what", v), ("value", v)]
  | _, _ => none
def augI : Operator → Int → D → Option D
  | .Add, a, .int b => some (.int (a + b))
  | .Sub, a, .int b => some (.int (a - b))
  | .Mult, a, .int b => if small64 a || small64 b then some (.int (a * b)) else none
  | .FloorDiv, a, .int b => if 0 < b ∧ b < 1073741824 then some (.int (a / b)) else none
  | .Mod, a, .int b => if 0 < b then some (.int (a % b)) else none
  | _, _, _ => none
/-- two plain names of one row are stored from the right -/
def par2 (C : Ct) (x : Str) (px : Pos) (y : Str) (py : Pos) (e1 e2 : Expr) : Bool :=
  decide (C.sc.names.lookup x = some .local) && decide (C.sc.names.lookup y = some .local) && (px.line == py.line) && !(x == y) && !([e1, e2].all (foldedForSure 8)) && !([e1, e2].all (constantsAlone 8)) && C.blk.isNone && (C.sc.kind == .function)
def isWk : Kd → Bool
  | .wk => true
  | _ => false
def pr2 (v w : DK) : M (List DK) := if isWk v.2 || isWk w.2 then .no else .ret [v, w]
def okT (C : Ct) (x : Str) : Bool := okName x && locB C.sc x && stB C x && (sIdx C.N x).isSome
def seq2 (C : Ct) (x y : Str) : Bool := !(x == y) && !(decide (C.sc.names.lookup x = some .local) && decide (C.sc.names.lookup y = some .local))
/-- three plain names of one row -/
def par3 (C : Ct) (x : Str) (px : Pos) (y : Str) (py : Pos) (z : Str) (pz : Pos) (es : List Expr) : Bool :=
  decide (C.sc.names.lookup x = some .local) && decide (C.sc.names.lookup y = some .local) && decide (C.sc.names.lookup z = some .local) && (px.line == py.line) && (px.line == pz.line) && !(x == y) && !(x == z) && !(y == z) && !(es.all (foldedForSure 8)) && !(es.all (constantsAlone 8)) && C.blk.isNone && (C.sc.kind == .function)
def seq3 (C : Ct) (x y z : Str) : Bool := !(x == y) && !(x == z) && !(y == z) && !(decide (C.sc.names.lookup x = some .local) && decide (C.sc.names.lookup y = some .local) && decide (C.sc.names.lookup z = some .local))
inductive Fl | nx | rt (d : D) (k : Kd) | bk | ct
def forL (f : D → List Sl → M (Fl × List Sl)) : List D → List Sl → M (Fl × List Sl)
  | [], ρ => .ret (.nx, ρ)
  | x :: r, ρ => .bnd (f x ρ) fun q => match q.1 with
    | .nx => forL f r q.2
    | .ct => forL f r q.2
    | .bk => .ret (.nx, q.2)
    | .rt d k => .ret (.rt d k, q.2)
def compL (f : D → M (Option D)) : List D → M (List D)
  | [] => .ret []
  | x :: r => .bnd (f x) fun o => .bnd (compL f r) fun ys => .ret (match o with
    | some y => y :: ys
    | none => ys)
/-- d[i] = z -/
def setAt : D → D → D → Option D
  | .lst xs, .int q, z => (ixN xs.length q).map fun m => .lst (xs.set m z)
  | .dct ks vs, k, z => (putD ks vs k z).map fun p => .dct p.1 p.2
  | _, _, _ => none
/-- name = value -/
def setN (C : Ct) (i : Nat) (x : Str) (v : DK) (ρ : List Sl) : M (Fl × List Sl) := match v, C.cells.contains x with
  | (.lst xs, .fr), true => fun st => .ok (.nx, ρ.set i (.im (.obj st.length))) (st ++ [.lst xs])
  | (.dct ks vs, .fr), true => fun st => .ok (.nx, ρ.set i (.im (.obj st.length))) (st ++ [.dct ks vs])
  | (d, k), _ => (match slotOf d k with
    | some s => .ret (.nx, ρ.set i s)
    | none => .no)
/-- only where a list of the store stands -/
def isLst {α : Type} (l : Nat) (m : M α) : M α := fun st => match st[l]? with
  | some (.box (.lst _)) => m st
  | _ => .no
/-- without a frame's own lists -/
def noOwn (ρ : List Sl) : List Sl := ρ.map fun s => match s with
  | .ow _ => .un
  | s => s
/-- no exception goes out of this -/
def M.calm {α : Type} (m : M α) : M α := fun st => match m st with
  | .ex _ _ => .no
  | r => r
def exOk (e : Ex) : Bool := noObjL (e.fs.map (·.2))
/-- a def's run on the store, or on none where no object is handed on -/
def box (as : List D) (m : M DK) : M DK := fun st =>
  if noObjL as then (match m [] with
    | .ok r _ => if r.1.noObj then .ok r st else .no
    | .ex e _ => if exOk e then .ex e st else .no
    | .no => .no)
  else m st
def plainName (P : Pg) (x : Str) : Bool := (P.fns.lookup x).isNone && (P.glb.lookup x).isNone && (P.exc.lookup x).isNone && !(x == P.ref) && okName x
def notStar : Expr → Bool
  | .Starred _ _ => false
  | _ => true
def noStar : List Expr → Bool
  | [] => true
  | e :: r => notStar e && noStar r
def noSet : List Expr → Bool
  | [] => true
  | .Set _ _ _ :: _ => false
  | _ :: r => noSet r
/-- list(range(..)), tuple(range(..)): what the range is made of -/
def rngArg (P : Pg) (C : Ct) (x : Str) : List Expr → Option (List Expr)
  | [.Call (.Name f _) rs [] _] => if f = "range" && gloB C.sc f && plainName P f && noStar rs && (decide (x = "list") || decide (x = "tuple")) then some rs else none
  | _ => none
def rngV (x : Str) (q : Int × Int) : Option DK := if 0 ≤ q.1 ∧ q.1 ≤ 16777216 ∧ 0 ≤ q.2 ∧ q.2 ≤ 16777216 then some (if x = "list" then (.lst (rngD q.1 (q.2 - q.1).toNat), .fr) else (.tup (rngD q.1 (q.2 - q.1).toNat), .sh)) else none
def mthB (m : Str) : Bool := (["index", "count", "split"] : List Str).contains m
/-- the types that isinstance is asked for -/
def tyNames : Expr → Option (List Str)
  | .Name t _ => some [t]
  | .Tuple es _ _ => mapO (fun e => match e with | .Name t _ => some t | _ => none) es
  | _ => none
def tyStr (t : Str) : Option String := if t = "int" then some "int" else if t = "bool" then some "bool" else if t = "str" then some "str" else if t = "tuple" then some "tuple" else if t = "list" then some "list" else if t = "dict" then some "dict" else none
def lamArg : List Expr → Option (Expr × Scope)
  | [.Lambda ⟨[], [], none, [], [], none, []⟩ b lsc _] => some (b, lsc)
  | _ => none
def tyList (C : Ct) (ts : Expr) : Option (List String) := (tyNames ts).bind fun l => if l.all (gloB C.sc) && (!l.isEmpty && decide (l.length ≤ 20)) then mapO tyStr l else none
def pickEx (e : Ex) : List (Str × Str × Nat) → Option D
  | [] => none
  | (c, w, k) :: r => if c = e.cls then (match k with
      | 1 => (e.fs.lookup ("value" : Str)).map fun v => .tup [.str w, v]
      | 2 => (match e.fs.lookup ("what" : Str), e.fs.lookup ("limit" : Str) with
        | some a, some b => some (.tup [.str w, .tup [a, b]])
        | _, _ => none)
      | _ => none) else pickEx e r
def relC (scope sc : Scope) : Scope := relS scope sc
mutual
def evE : Nat → Pg → Nat → Ct → Expr → List Sl → M DK
  | 0, _, _, _, _, _ => .no
  | n + 1, P, d, C, e, ρ => match e with
    | .Name x _ => .opt (evName P C x ρ)
    | .Constant c _ _ => (match c with
      | .none => .ret (.non, .sh)
      | .bool b => .ret (.bl b, .sh)
      | .int i => .ret (.int i, .sh)
      | .str s => .ret (.str s, .sh)
      | _ => .no)
    | .BinOp a op b _ => .bnd (evE n P d C a ρ) fun x => .bnd (evE n P d C b ρ) fun y => .opt (opD op x.1 y.1)
    | .UnaryOp op a _ => (match op with
      | .USub => .bnd (evE n P d C a ρ) fun x => .opt ((intOf? x.1).map fun i => (.int (-i), .sh))
      | .Not => .bnd (evE n P d C a ρ) fun x => .opt ((tru x.1).map fun b => (.bl (!b), .sh))
      | _ => .no)
    | .BoolOp op vs _ => evB n P d C op vs ρ
    | .Compare a ops cs _ => if noSet cs then .bnd (evE n P d C a ρ) fun x => .bnd (evC n P d C x.1 ops cs ρ) fun b => .ret (.bl b, .sh) else .no
    | .IfExp c a b _ => .bnd (evT n P d C c ρ) fun t => if t then evE n P d C a ρ else evE n P d C b ρ
    | .Subscript o (.Slice lo hi none _) _ => .bnd (evE n P d C o ρ) fun x => .bnd (evO n P d C lo ρ) fun l => .bnd (evO n P d C hi ρ) fun h => .opt (slD x.1 l h)
    | .Subscript o (.Slice none none (some (.UnaryOp .USub (.Constant (.int i) _ _) _)) _) _ => if i = 1 then .bnd (evE n P d C o ρ) fun x => .opt (revD x.1) else .no
    | .Subscript _ (.Slice _ _ _ _) _ => .no
    | .Subscript o i _ => .bnd (evE n P d C o ρ) fun x => .bnd (evE n P d C i ρ) fun y => (match x.1, y.1 with
      | .obj l, y => fun st => (match st[l]? with
        | some (.box d) => M.opt ((ixD d y).map fun z => (z, .sh)) st
        | _ => .no)
      | x, y => .opt ((ixD x y).map fun z => (z, .sh)))
    | .List es _ => .bnd (evL n P d C es ρ) fun xs => if xs.length ≤ lim then .ret (.lst xs, .fr) else .no
    | .Tuple es _ _ => .bnd (evL n P d C es ρ) fun xs => if xs.length ≤ lim then .ret (.tup xs, .sh) else .no
    | .Dict [] [] _ => .ret (.dct [] [], .fr)
    | .ListComp elt [⟨tg, it, ifs, 0⟩] scope _ => if blkC C.N C.sc scope (ownOf C.N scope) && noOw ρ (ownOf C.N scope) then
        .bnd (evI n P d C tg it ρ) fun items => M.calm (.bnd (compL (fun x => match asT n ⟨C.N, relC scope C.sc, [], some scope, none⟩ tg x .sh (wipeR ρ ((ownOf C.N scope).map (·.2))) with
          | some ρ' => .bnd (evIfs n P d ⟨C.N, relC scope C.sc, [], some scope, none⟩ ifs ρ') fun b => if b then .bnd (evE n P d ⟨C.N, relC scope C.sc, [], some scope, none⟩ elt ρ') fun y => (match strong [y] with
            | some [z] => .ret (some z)
            | _ => .no) else .ret none
          | none => .no) items.1) fun ys => if ys.length ≤ lim then .ret (.lst ys, .fr) else .no)
      else .no
    | .Call f as [] pos => if lineOk f pos then evCall n P d C f as ρ else .no
    | _ => .no
termination_by structural n => n
/-- an index of a slice -/
def evO : Nat → Pg → Nat → Ct → Option Expr → List Sl → M (Option Int)
  | 0, _, _, _, _, _ => .no
  | _ + 1, _, _, _, none, _ => .ret none
  | n + 1, P, d, C, some e, ρ => .bnd (evE n P d C e ρ) fun x => .opt ((intOf? x.1).map some)
termination_by structural n => n
/-- a display's or a call's items -/
def evL : Nat → Pg → Nat → Ct → List Expr → List Sl → M (List D)
  | 0, _, _, _, _, _ => .no
  | _ + 1, _, _, _, [], _ => .ret []
  | n + 1, P, d, C, e :: es, ρ => (match e with
    | .Starred e' _ => .bnd (evE n P d C e' ρ) fun x => (match x.1 with
      | .lst xs => .bnd (evL n P d C es ρ) fun ys => .ret (xs ++ ys)
      | .tup xs => .bnd (evL n P d C es ρ) fun ys => .ret (xs ++ ys)
      | _ => .no)
    | e => .bnd (evE n P d C e ρ) fun x => .bnd (evL n P d C es ρ) fun ys => (match strong [x] with
      | some [z] => .ret (z :: ys)
      | _ => .no))
termination_by structural n => n
/-- values of a pure call: weak ones may come -/
def evW : Nat → Pg → Nat → Ct → List Expr → List Sl → M (List D)
  | 0, _, _, _, _, _ => .no
  | _ + 1, _, _, _, [], _ => .ret []
  | n + 1, P, d, C, e :: es, ρ => .bnd (evE n P d C e ρ) fun x => .bnd (evW n P d C es ρ) fun ys => .ret (x.1 :: ys)
termination_by structural n => n
/-- several values with their standing, none weak -/
def evK : Nat → Pg → Nat → Ct → List Expr → List Sl → M (List DK)
  | 0, _, _, _, _, _ => .no
  | _ + 1, _, _, _, [], _ => .ret []
  | n + 1, P, d, C, e :: es, ρ => .bnd (evE n P d C e ρ) fun x => .bnd (evK n P d C es ρ) fun ys => if isWk x.2 then .no else .ret (x :: ys)
termination_by structural n => n
/-- and, or as values -/
def evB : Nat → Pg → Nat → Ct → BoolOp → List Expr → List Sl → M DK
  | 0, _, _, _, _, _, _ => .no
  | _ + 1, _, _, _, _, [], _ => .no
  | n + 1, P, d, C, _, [e], ρ => evE n P d C e ρ
  | n + 1, P, d, C, op, e :: e2 :: es, ρ => .bnd (evE n P d C e ρ) fun x => .bnd (.opt (tru x.1)) fun t => (match op, t with
    | .And, false => .ret x
    | .Or, true => .ret x
    | _, _ => evB n P d C op (e2 :: es) ρ)
termination_by structural n => n
/-- a chain of comparisons -/
def evC : Nat → Pg → Nat → Ct → D → List CmpOp → List Expr → List Sl → M Bool
  | 0, _, _, _, _, _, _, _ => .no
  | n + 1, P, d, C, x, [o], [e], ρ => .bnd (evE n P d C e ρ) fun y => .opt (cmpD o x y.1)
  | n + 1, P, d, C, x, o :: o2 :: os, e :: e2 :: es, ρ => .bnd (evE n P d C e ρ) fun y => .bnd (.opt (cmpD o x y.1)) fun b => if b then evC n P d C y.1 (o2 :: os) (e2 :: es) ρ else .ret false
  | _, _, _, _, _, _, _, _ => .no
termination_by structural n => n
/-- a test -/
def evT : Nat → Pg → Nat → Ct → Expr → List Sl → M Bool
  | 0, _, _, _, _, _ => .no
  | n + 1, P, d, C, e, ρ => match e with
    | .UnaryOp .Not a _ => .bnd (evT n P d C a ρ) fun b => .ret (!b)
    | .BoolOp op vs _ => evTs n P d C op vs ρ
    | .IfExp c a b _ => .bnd (evT n P d C c ρ) fun t => if t then evT n P d C a ρ else evT n P d C b ρ
    | .Compare a ops cs _ => if noSet cs then .bnd (evE n P d C a ρ) fun x => evC n P d C x.1 ops cs ρ else .no
    | e => .bnd (evE n P d C e ρ) fun x => .opt (tru x.1)
termination_by structural n => n
def evTs : Nat → Pg → Nat → Ct → BoolOp → List Expr → List Sl → M Bool
  | 0, _, _, _, _, _, _ => .no
  | _ + 1, _, _, _, op, [], _ => .ret (match op with | .And => true | .Or => false)
  | n + 1, P, d, C, op, e :: es, ρ => .bnd (evT n P d C e ρ) fun t => (match op, t with
    | .And, false => .ret false
    | .Or, true => .ret true
    | _, _ => evTs n P d C op es ρ)
termination_by structural n => n
/-- the tests of a comprehension: none or one -/
def evIfs : Nat → Pg → Nat → Ct → List Expr → List Sl → M Bool
  | 0, _, _, _, _, _ => .no
  | _ + 1, _, _, _, [], _ => .ret true
  | n + 1, P, d, C, [e], ρ => evT n P d C e ρ
  | _ + 1, _, _, _, _, _ => .no
termination_by structural n => n
/-- the items of what is walked -/
def evI : Nat → Pg → Nat → Ct → Expr → Expr → List Sl → M (List D × Kd)
  | 0, _, _, _, _, _, _ => .no
  | n + 1, P, d, C, tg, e, ρ => match e with
    | .Call (.Name f p) as [] p2 => if f = "range" && gloB C.sc f && plainName P f then (match as with
        | [a] => if notStar a then .bnd (evE n P d C a ρ) fun x => (match x.1 with
          | .int j => if in62 j then .ret (rngD 0 j.toNat, .sh) else .no
          | _ => .no) else .no
        | [a, b] => if notStar a && notStar b then .bnd (evE n P d C a ρ) fun x => .bnd (evE n P d C b ρ) fun y => (match x.1, y.1 with
          | .int i, .int j => if in62 i && in62 j then .ret (rngD i (j - i).toNat, .sh) else .no
          | _, _ => .no) else .no
        | _ => .no)
      else if f = "enumerate" && gloB C.sc f && plainName P f then (match tg, as with
        | .Tuple _ _ _, [a] => if notStar a then .bnd (evE n P d C a ρ) fun x => (match x.1 with
          | .lst xs => .ret (enumD 0 xs, x.2)
          | .tup xs => .ret (enumD 0 xs, .sh)
          | .str s => .ret (enumD 0 (signsD s), .sh)
          | _ => .no) else .no
        | _, _ => .no)
      else .bnd (evE n P d C (.Call (.Name f p) as [] p2) ρ) fun x => (match x.1 with
        | .lst xs => .ret (xs, x.2)
        | .tup xs => .ret (xs, .sh)
        | .str s => .ret (signsD s, .sh)
        | .dct ks _ => .ret (ks, x.2)
        | _ => .no)
    | e => .bnd (evE n P d C e ρ) fun x => (match x.1 with
      | .lst xs => .ret (xs, x.2)
      | .tup xs => .ret (xs, .sh)
      | .str s => .ret (signsD s, .sh)
      | .dct ks _ => .ret (ks, x.2)
      | _ => .no)
termination_by structural n => n
def evCall : Nat → Pg → Nat → Ct → Expr → List Expr → List Sl → M DK
  | 0, _, _, _, _, _, _ => .no
  | n + 1, P, d, C, f, as, ρ => match f with
    | .Name x _ => if okName x then (
        if visB C.sc x then (match rdName C x ρ with
          | some (.fn g, _) => if noStar as && (!as.isEmpty && (P.fns.lookup g).isSome) then .bnd (evL n P d C as ρ) fun xs => callF n P d g xs else .no
          | _ => .no)
        else if gloB C.sc x then (match P.fns.lookup x with
          | some _ => if noStar as then .bnd (evL n P d C as ρ) fun xs => callF n P d x xs else .no
          | none => if x = P.ref then (match lamArg as with
              | some (b, lsc) => if LamX.lamSB C.sc lsc then evRef n P d ⟨C.N, lsc, [], some lsc, C.top⟩ b ρ else .no
              | none => .no)
            else if x = "isinstance" && plainName P x then (match as with
              | [e, ts] => if notStar e then (match tyList C ts with
                | some tn => .bnd (evE n P d C e ρ) fun v => .opt ((isiAny v.1 tn).map fun b => (.bl b, .sh))
                | none => .no) else .no
              | _ => .no)
            else if (bltT x || bltB x || bltR C x) && plainName P x && noStar as then (match rngArg P C x as with
              | some rs => .bnd (evRg n P d C rs ρ) fun q => .opt (rngV x q)
              | none => .bnd (evW n P d C as ρ) fun xs => .opt (bltD x xs))
            else .no)
        else .no) else .no
    | .Attribute o m _ => if m = "join" && notCall o then (match as with
          | [e] => if notStar e then .bnd (evE n P d C o ρ) fun x => (match x.1 with
            | .str a => .bnd (evE n P d C e ρ) fun y => (match y.1 with
              | .lst ys => (match mapO strOf? ys with
                | some zs => if (zs.map (·.length)).sum + zs.length * a.length ≤ lim then .ret (.str (Txt.join a zs), .sh) else .no
                | none => .no)
              | _ => .no)
            | _ => .no) else .no
          | _ => .no)
        else if mthB m && notCall o then (match as with
          | [e] => if notStar e then .bnd (evE n P d C o ρ) fun x => if mthT m x.1 then .bnd (evE n P d C e ρ) fun y => .opt (mthD m x.1 y.1) else .no else .no
          | _ => .no)
        else .no
    | _ => .no
termination_by structural n => n
/-- the ends of a range -/
def evRg : Nat → Pg → Nat → Ct → List Expr → List Sl → M (Int × Int)
  | 0, _, _, _, _, _ => .no
  | n + 1, P, d, C, rs, ρ => match rs with
    | [a] => .bnd (evE n P d C a ρ) fun x => .opt ((intOf? x.1).map fun j => (0, j))
    | [a, b] => .bnd (evE n P d C a ρ) fun x => .bnd (evE n P d C b ρ) fun y => .opt (match x.1, y.1 with
      | .int i, .int j => some (i, j)
      | _, _ => none)
    | _ => .no
termination_by structural n => n
/-- a def called -/
def callF : Nat → Pg → Nat → Str → List D → M DK
  | 0, _, _, _, _ => .no
  | _ + 1, _, 0, _, _ => .no
  | n + 1, P, d + 1, x, as => match P.fns.lookup x with
    | some F => if as.length = F.ps.length then
        box as (.bnd (exSs n P d ⟨F.N, F.sc, F.cells, none, none⟩ F.body (as.map .im ++ List.replicate (F.N.length - as.length) .un)) fun q => match q.1 with
          | .nx => .ret (.non, .sh)
          | .rt r k => if isWk k then .no else .ret (r, k)
          | _ => .no)
      else .no
    | none => .no
termination_by structural n => n
/-- what a refused call tells -/
def evRef : Nat → Pg → Nat → Ct → Expr → List Sl → M DK
  | 0, _, _, _, _, _ => .no
  | _ + 1, _, 0, _, _, _ => .no
  | _ + 1, _, 1, _, _, _ => .no
  | n + 1, P, d + 2, C, b, ρ => fun (st : Store) => match (st[0]? : Option Cell), C.top with
    | some (Cell.tab A q), some (A', q') => if A = A' ∧ q = q' then (match evE n P d ⟨C.N, C.sc, [], C.blk, none⟩ b (noOwn ρ) st with
      | .ok _ st' => .ok (.tup [.str "", .non], .sh) st'
      | .ex e st' => (match pickEx e P.hds with
        | some v => .ok (v, .sh) st'
        | none => .no)
      | .no => .no) else .no
    | _, _ => .no
termination_by structural n => n
def exS : Nat → Pg → Nat → Ct → Stmt → List Sl → M (Fl × List Sl)
  | 0, _, _, _, _, _ => .no
  | n + 1, P, d, C, s, ρ => exQ n P d C s (freezes C.N (fzS s) ρ)
termination_by structural n => n
def exQ : Nat → Pg → Nat → Ct → Stmt → List Sl → M (Fl × List Sl)
  | 0, _, _, _, _, _ => .no
  | n + 1, P, d, C, s, ρ => match s with
    | .Pass _ => .ret (.nx, ρ)
    | .Break _ => .ret (.bk, ρ)
    | .Continue _ => .ret (.ct, ρ)
    | .Return none _ => .ret (.rt .non .sh, ρ)
    | .Return (some e) _ => .bnd (evE n P d C e ρ) fun x => .ret (.rt x.1 (match x.2 with | .sh => .sh | _ => .fr), ρ)
    | .If c a b _ => .bnd (evT n P d C c ρ) fun t => if t then exSs n P d C a ρ else exSs n P d C b ρ
    | .While c b [] _ => exW n P d C c b ρ
    | .For tg it b [] _ => .bnd (evI n P d C tg it ρ) fun items => (match items.2 with
      | .wk => .no
      | _ => forL (fun x ρ => match asT n C tg x .sh ρ with
        | some ρ' => exSs n P d C b ρ'
        | none => .no) items.1 ρ)
    | .Raise (some (.Call (.Name c _) es [] _)) none _ => if gloB C.sc c && okName c && noStar es then (match d, P.exc.lookup c with
        | _ + 2, some k => .bnd (evL n P d C es ρ) fun vs => (match exFs k vs with
          | some fs => fun st => .ex ⟨c, fs⟩ st
          | none => .no)
        | _, _ => .no) else .no
    | .Expr (.Constant (.str _) _ _) _ => .ret (.nx, ρ)
    | .Expr (.Call (.Attribute (.Name x _) m ap) [e] [] pos) _ => if okName x && visB C.sc x && (decide (m = "extend") && (ap.endLine == pos.line) && notStar e) then (match sIdx C.N x with
        | some j => (match ρ[j]? with
          | some (.ow (.lst xs)) => .bnd (evE n P d C e ρ) fun v => (match v.1 with
            | .lst ys => if xs.length + ys.length ≤ lim then .ret (.nx, ρ.set j (.ow (.lst (xs ++ ys)))) else .no
            | _ => .no)
          | _ => .no)
        | none => .no)
      else if okName x && visB C.sc x && (decide (m = "append") && (ap.endLine == pos.line) && notStar e) then (match sIdx C.N x with
        | some j => (match ρ[j]? with
          | some (.ow (.lst xs)) => .bnd (evE n P d C e ρ) fun v => (match strong [v] with
            | some [z] => if xs.length < lim then .ret (.nx, ρ.set j (.ow (.lst (xs ++ [z])))) else .no
            | _ => .no)
          | some (.im (.obj l)) => isLst l <| .bnd (evE n P d C e ρ) fun v => (match strong [v] with
            | some [z] => fun st => (match st[l]? with
              | some (.box (.lst xs)) => if xs.length < lim then .ok (.nx, ρ) (st.set l (.lst (xs ++ [z]))) else .no
              | _ => .no)
            | _ => .no)
          | _ => .no)
        | none => .no) else .no
    | .Expr (.Call (.Name f p) as [] p2) _ => .bnd (evE n P d C (.Call (.Name f p) as [] p2) ρ) fun _ => .ret (.nx, ρ)
    | .Assign [.Name x _] e _ => if okName x && locB C.sc x && stB C x then (match sIdx C.N x with
        | some i => .bnd (evE n P d C e ρ) fun v => setN C i x v ρ
        | none => .no) else .no
    | .Assign [.Subscript (.Name x _) i _] e _ => if okName x && visB C.sc x && notSlice i && (sIdx C.N x).isSome then .bnd (evE n P d C e ρ) fun v => (match strong [v], sIdx C.N x with
        | some [z], some j => (match ρ[j]? with
          | some (.im (.obj l)) => .bnd (evE n P d C i ρ) fun y => (match strong [y] with
            | some [q] => fun st => (match st[l]? with
              | some (.box b) => (match setAt b q z with
                | some b' => .ok (.nx, ρ) (st.set l (.box b'))
                | none => .no)
              | _ => .no)
            | _ => .no)
          | some (.ow b) => .bnd (evE n P d C i ρ) fun y => (match strong [y] with
            | some [q] => .opt ((setAt b q z).map fun b' => (.nx, ρ.set j (.ow b')))
            | _ => .no)
          | _ => .no)
        | _, _ => .no) else .no
    | .Assign [.Name x _, .Name y _] e _ => if okName x && locB C.sc x && stB C x && (okName y && locB C.sc y && stB C y) then (match sIdx C.N x, sIdx C.N y with
        | some i, some j => .bnd (evE n P d C e ρ) fun v => (match v.2 with
          | .sh => .ret (.nx, (ρ.set i (.im v.1)).set j (.im v.1))
          | _ => .no)
        | _, _ => .no) else .no
    | .Assign [.Tuple [.Name x px, .Name y py] a b] (.Tuple [e1, e2] c d') _ => if notStar e1 && notStar e2 && okT C x && okT C y then (
        if par2 C x px y py e1 e2 then .bnd (.bnd (evE n P d C e1 ρ) fun v => .bnd (evE n P d C e2 ρ) fun w => pr2 v w) fun vs => .opt ((asK n C [.Name x px, .Name y py] vs ρ).map fun ρ' => (.nx, ρ'))
        else if seq2 C x y then .bnd (.bnd (evE n P d C e1 ρ) fun v => .bnd (evE n P d C e2 ρ) fun w => pr2 v w) fun vs => .opt ((asK n C [.Name x px, .Name y py] vs ρ).map fun ρ' => (.nx, ρ'))
        else .no) else .no
    | .Assign [.Tuple [.Name x px, .Name y py, .Name z pz] a b] (.Tuple [e1, e2, e3] c d') _ => if noStar [e1, e2, e3] && (okT C x && okT C y && okT C z) && (par3 C x px y py z pz [e1, e2, e3] || seq3 C x y z) then
        .bnd (evK n P d C [e1, e2, e3] ρ) fun vs => .opt ((asK n C [.Name x px, .Name y py, .Name z pz] vs ρ).map fun ρ' => (.nx, ρ')) else .no
    | .Assign [.Tuple ts a b] e _ => if notTup e then .bnd (evE n P d C e ρ) fun v => (match v.2 with
        | .wk => .no
        | k => .opt ((asT n C (.Tuple ts a b) v.1 k ρ).map fun ρ' => (.nx, ρ'))) else .no
    | .AugAssign (.Name x _) op e _ => if okName x && locB C.sc x && stB C x then (match sIdx C.N x with
        | some i => (match ρ[i]? with
          | some (.im (.int a)) => .bnd (evE n P d C e ρ) fun v => (match augI op a v.1 with
            | some r => .ret (.nx, ρ.set i (.im r))
            | none => .no)
          | some (.im (.str a)) => .bnd (evE n P d C e ρ) fun v => (match op, v.1 with
            | .Add, .str b => if a.length + b.length ≤ lim then .ret (.nx, ρ.set i (.im (.str (a ++ b)))) else .no
            | _, _ => .no)
          | _ => .no)
        | none => .no) else .no
    | _ => .no
termination_by structural n => n
def exSs : Nat → Pg → Nat → Ct → List Stmt → List Sl → M (Fl × List Sl)
  | 0, _, _, _, _, _ => .no
  | _ + 1, _, _, _, [], ρ => .ret (.nx, ρ)
  | n + 1, P, d, C, s :: ss, ρ => .bnd (exS n P d C s ρ) fun q => (match q.1 with
    | .nx => exSs n P d C ss q.2
    | _ => .ret q)
termination_by structural n => n
def exW : Nat → Pg → Nat → Ct → Expr → List Stmt → List Sl → M (Fl × List Sl)
  | 0, _, _, _, _, _, _ => .no
  | n + 1, P, d, C, c, b, ρ => .bnd (evT n P d C c ρ) fun t => if t then .bnd (exSs n P d C b ρ) fun q => (match q.1 with
      | .nx => exW n P d C c b q.2
      | .ct => exW n P d C c b q.2
      | .bk => .ret (.nx, q.2)
      | .rt r k => .ret (.rt r k, q.2)) else .ret (.nx, ρ)
termination_by structural n => n
end
end PI
set_option Elab.async false
set_option linter.all false
set_option maxRecDepth 100000
set_option maxHeartbeats 4000000
/-! PI2: how data stand in the hand layer's heap. -/
namespace PI
open PySem PySem.Spec PyProof.Rows L2 PD

/-- where data stand: the store's addresses, what may still change, the heap -/
structure Wo where
  L : List Addr
  M : Addr → Prop
  H : Hp
section
variable (K : PySem.W.Frag) (mg : Str → Option Value)
mutual
def Rep (W : Wo) : D → V → Prop
  | .non, v => v = .non
  | .bl b, v => v = .bl b
  | .int i, v => v = .int i
  | .str s, v => v = .str s
  | .tup xs, v => ∃ a vs, v = .ref a ∧ SqT K W.H a vs ∧ ¬ W.M a ∧ RepL W xs vs
  | .lst xs, v => ∃ a vs, v = .ref a ∧ W.H a = some (.lst vs) ∧ ¬ W.M a ∧ RepL W xs vs
  | .dct ks vs, v => ∃ a o L, v = .ref a ∧ DcA W.H a o L ∧ ¬ W.M a ∧ nkL ks = some (L.map (·.1)) ∧ kindOk (L.map (·.1)) = true ∧ RepL W ks (L.map (·.2.1)) ∧ RepL W vs (L.map (·.2.2))
  | .ins c ns vs, v => ∃ a C dx fs, v = .ref a ∧ mg c = some (.ref C) ∧ W.H a = some (.ins C dx fs) ∧ ¬ W.M a ∧ fs.map (·.1) = ns ∧ RepL W vs (fs.map (·.2))
  | .fn x, v => ∃ f, v = .ref f ∧ mg x = some (.ref f)
  | .obj l, v => ∃ a, v = .ref a ∧ W.L[l]? = some a
  | .scr ns, v => ∃ a, v = .ref a ∧ SqL K W.H a (ns.map V.int) ∧ ¬ W.M a
def RepL (W : Wo) : List D → List V → Prop
  | [], vs => vs = []
  | x :: r, vs => ∃ v vr, vs = v :: vr ∧ Rep W x v ∧ RepL W r vr
end
/-- a list, a dict, an instance that a slot or the store owns -/
def Own (W : Wo) : D → Addr → Prop
  | .lst xs, a => ∃ vs, W.H a = some (.lst vs) ∧ RepL K mg W xs vs
  | .dct ks vs, a => ∃ o L, DcA W.H a o L ∧ nkL ks = some (L.map (·.1)) ∧ kindOk (L.map (·.1)) = true ∧ RepL K mg W ks (L.map (·.2.1)) ∧ RepL K mg W vs (L.map (·.2.2))
  | .ins c ns vs, a => ∃ C dx fs, mg c = some (.ref C) ∧ W.H a = some (.ins C dx fs) ∧ fs.map (·.1) = ns ∧ RepL K mg W vs (fs.map (·.2))
  | _, _ => False
def CellR (W : Wo) : Cell → Addr → Prop
  | .box d, a => Own K mg W d a
  | .tab A q, a => a = A ∧ ∃ ps : Array Value, W.H a = some (.tbl ps) ∧ TriplesOk ps.toList ∧ ∀ (pos : Pos) (cv : Value), codeAmong pos ps.toList = some cv → ∃ c, cv = .ref c ∧ W.H c = some (LamX.CodeO c q) ∧ ¬ W.M c
end
structure Le (K : PySem.W.Frag) (W W' : Wo) : Prop where
  L : W.L <+: W'.L
  st : ∀ a o, W.H a = some o → ¬ W.M a → W'.H a = some o ∧ ¬ W'.M a
  kn : ∀ a o, K.lookup a = some o → ¬ W.M a → ¬ W'.M a
  tr : ∀ a, W.H a ≠ none → W'.H a ≠ none
section
variable {K : PySem.W.Frag} {mg : Str → Option Value} {W W' W'' : Wo}
theorem Le.refl : Le K W W := ⟨List.prefix_refl _, fun _ _ h n => ⟨h, n⟩, fun _ _ _ n => n, fun _ h => h⟩
theorem Le.trans (a : Le K W W') (b : Le K W' W'') : Le K W W'' :=
  ⟨a.L.trans b.L, fun x o h n => let ⟨h1, n1⟩ := a.st x o h n; b.st x o h1 n1, fun x o h n => b.kn x o h (a.kn x o h n), fun x h => b.tr x (a.tr x h)⟩
theorem Le.rd (l : Le K W W') {a : Addr} {u : HO} (n : ¬ W.M a) (r : Rd W.H a u) : Rd W'.H a u := by
  rcases r with r | ⟨o, r⟩
  · exact .inl (l.st a _ r n).1
  · exact .inr ⟨o, (l.st a _ r n).1⟩
theorem Le.nm (l : Le K W W') {a : Addr} {u : HO} (n : ¬ W.M a) (r : Rd W.H a u) : ¬ W'.M a := by
  rcases r with r | ⟨o, r⟩
  · exact (l.st a _ r n).2
  · exact (l.st a _ r n).2
theorem Le.sqL (l : Le K W W') {a : Addr} {vs : List V} (n : ¬ W.M a) (h : SqL K W.H a vs) : SqL K W'.H a vs ∧ ¬ W'.M a := by
  rcases h with h | ⟨o, its, k, hk, r⟩
  · exact ⟨.inl (l.rd n h), l.nm n h⟩
  · exact ⟨.inr ⟨o, its, k, hk, r⟩, l.kn a o hk n⟩
theorem Le.sqT (l : Le K W W') {a : Addr} {vs : List V} (n : ¬ W.M a) (h : SqT K W.H a vs) : SqT K W'.H a vs ∧ ¬ W'.M a := by
  rcases h with h | ⟨o, its, k, hk, r⟩
  · exact ⟨.inl (l.rd n h), l.nm n h⟩
  · exact ⟨.inr ⟨o, its, k, hk, r⟩, l.kn a o hk n⟩
theorem get_prefix {α : Type} {l l' : List α} (h : l <+: l') {i : Nat} {x : α} (e : l[i]? = some x) : l'[i]? = some x := by
  obtain ⟨t, rfl⟩ := h
  obtain ⟨hi, _⟩ := List.getElem?_eq_some_iff.mp e
  rw [List.getElem?_append_left hi]
  exact e
mutual
theorem Rep.le (l : Le K W W') : ∀ (d : D) (v : V), Rep K mg W d v → Rep K mg W' d v
  | .non, _, h => by unfold Rep at h ⊢; exact h
  | .bl _, _, h => by unfold Rep at h ⊢; exact h
  | .int _, _, h => by unfold Rep at h ⊢; exact h
  | .str _, _, h => by unfold Rep at h ⊢; exact h
  | .tup xs, _, h => by
    unfold Rep at h ⊢
    obtain ⟨a, vs, e, s, n, r⟩ := h
    obtain ⟨s', n'⟩ := l.sqT n s
    exact ⟨a, vs, e, s', n', RepL.le l xs vs r⟩
  | .lst xs, _, h => by
    unfold Rep at h ⊢
    obtain ⟨a, vs, e, s, n, r⟩ := h
    obtain ⟨s', n'⟩ := l.st a _ s n
    exact ⟨a, vs, e, s', n', RepL.le l xs vs r⟩
  | .dct ks vs, _, h => by
    unfold Rep at h ⊢
    obtain ⟨a, o, L, e, ⟨s1, s2, s3⟩, n, k1, k2, r1, r2⟩ := h
    obtain ⟨s', n'⟩ := l.st a _ s2 n
    exact ⟨a, o, L, e, ⟨s1, s', s3⟩, n', k1, k2, RepL.le l ks _ r1, RepL.le l vs _ r2⟩
  | .ins c ns vs, _, h => by
    unfold Rep at h ⊢
    obtain ⟨a, C, dx, fs, e, m, s, n, k, r⟩ := h
    obtain ⟨s', n'⟩ := l.st a _ s n
    exact ⟨a, C, dx, fs, e, m, s', n', k, RepL.le l vs _ r⟩
  | .fn _, _, h => by unfold Rep at h ⊢; exact h
  | .obj _, _, h => by
    unfold Rep at h ⊢
    obtain ⟨a, e, q⟩ := h
    exact ⟨a, e, get_prefix l.L q⟩
  | .scr ns, _, h => by
    unfold Rep at h ⊢
    obtain ⟨a, e, s, n⟩ := h
    obtain ⟨s', n'⟩ := l.sqL n s
    exact ⟨a, e, s', n'⟩
theorem RepL.le (l : Le K W W') : ∀ (ds : List D) (vs : List V), RepL K mg W ds vs → RepL K mg W' ds vs
  | [], _, h => by unfold RepL at h ⊢; exact h
  | x :: r, _, h => by
    unfold RepL at h ⊢
    obtain ⟨v, vr, e, h1, h2⟩ := h
    exact ⟨v, vr, e, Rep.le l x v h1, RepL.le l r vr h2⟩
end
mutual
/-- without objects the store does not matter -/
theorem Rep.box {L' : List Addr} : ∀ (d : D) (v : V), d.noObj = true → Rep K mg ⟨W.L, W.M, W.H⟩ d v → Rep K mg ⟨L', W.M, W.H⟩ d v
  | .non, _, _, h => by unfold Rep at h ⊢; exact h
  | .bl _, _, _, h => by unfold Rep at h ⊢; exact h
  | .int _, _, _, h => by unfold Rep at h ⊢; exact h
  | .str _, _, _, h => by unfold Rep at h ⊢; exact h
  | .tup xs, _, q, h => by
    unfold D.noObj at q
    unfold Rep at h ⊢
    obtain ⟨a, vs, e, s, n, r⟩ := h
    exact ⟨a, vs, e, s, n, RepL.box xs vs q r⟩
  | .lst xs, _, q, h => by
    unfold D.noObj at q
    unfold Rep at h ⊢
    obtain ⟨a, vs, e, s, n, r⟩ := h
    exact ⟨a, vs, e, s, n, RepL.box xs vs q r⟩
  | .dct ks vs, _, q, h => by
    unfold D.noObj at q
    rw [Bool.and_eq_true] at q
    unfold Rep at h ⊢
    obtain ⟨a, o, L, e, s, n, k1, k2, r1, r2⟩ := h
    exact ⟨a, o, L, e, s, n, k1, k2, RepL.box ks _ q.1 r1, RepL.box vs _ q.2 r2⟩
  | .ins c ns vs, _, q, h => by
    unfold D.noObj at q
    unfold Rep at h ⊢
    obtain ⟨a, C, dx, fs, e, m, s, n, k, r⟩ := h
    exact ⟨a, C, dx, fs, e, m, s, n, k, RepL.box vs _ q r⟩
  | .fn _, _, _, h => by unfold Rep at h ⊢; exact h
  | .obj _, _, q, _ => by unfold D.noObj at q; cases q
  | .scr _, _, _, h => by unfold Rep at h ⊢; exact h
theorem RepL.box {L' : List Addr} : ∀ (ds : List D) (vs : List V), noObjL ds = true → RepL K mg ⟨W.L, W.M, W.H⟩ ds vs → RepL K mg ⟨L', W.M, W.H⟩ ds vs
  | [], _, _, h => by unfold RepL at h ⊢; exact h
  | x :: r, _, q, h => by
    unfold noObjL at q
    rw [Bool.and_eq_true] at q
    unfold RepL at h ⊢
    obtain ⟨v, vr, e, h1, h2⟩ := h
    exact ⟨v, vr, e, Rep.box x v q.1 h1, RepL.box r vr q.2 h2⟩
end
theorem Own.box {L' : List Addr} {d : D} {a : Addr} (q : d.noObj = true) (h : Own K mg ⟨W.L, W.M, W.H⟩ d a) : Own K mg ⟨L', W.M, W.H⟩ d a := by
  unfold Own at h ⊢
  split at h
  · unfold D.noObj at q
    obtain ⟨vs, e, r⟩ := h
    exact ⟨vs, e, RepL.box _ _ q r⟩
  · unfold D.noObj at q
    rw [Bool.and_eq_true] at q
    obtain ⟨o, L, s, k1, k2, r1, r2⟩ := h
    exact ⟨o, L, s, k1, k2, RepL.box _ _ q.1 r1, RepL.box _ _ q.2 r2⟩
  · unfold D.noObj at q
    obtain ⟨C, dx, fs, m, s, k, r⟩ := h
    exact ⟨C, dx, fs, m, s, k, RepL.box _ _ q r⟩
  · exact h.elim
mutual
/-- data as the library's data -/
theorem Rep.dp : ∀ (d : D) (v : V), d.pl = true → Rep K mg W d v → Dp K W.H v d.py
  | .non, _, _, h => by unfold Rep at h; subst h; unfold D.py; exact .non
  | .bl b, _, _, h => by unfold Rep at h; subst h; unfold D.py; exact .bl b
  | .int i, _, _, h => by unfold Rep at h; subst h; unfold D.py; exact .int i
  | .str s, _, _, h => by unfold Rep at h; subst h; unfold D.py; exact .str s
  | .tup xs, _, q, h => by
    unfold D.pl at q
    unfold Rep at h
    obtain ⟨a, vs, rfl, s, n, r⟩ := h
    unfold D.py
    exact .tup s (RepL.dp xs vs q r)
  | .lst xs, _, q, h => by
    unfold D.pl at q
    unfold Rep at h
    obtain ⟨a, vs, rfl, s, n, r⟩ := h
    unfold D.py
    exact .lst (.of s) (RepL.dp xs vs q r)
  | .dct _ _, _, q, _ => by unfold D.pl at q; cases q
  | .ins _ _ _, _, q, _ => by unfold D.pl at q; cases q
  | .fn _, _, q, _ => by unfold D.pl at q; cases q
  | .obj _, _, q, _ => by unfold D.pl at q; cases q
  | .scr _, _, q, _ => by unfold D.pl at q; cases q
theorem RepL.dp : ∀ (ds : List D) (vs : List V), plL ds = true → RepL K mg W ds vs → DpAll K W.H vs (pyL ds)
  | [], _, _, h => by unfold RepL at h; subst h; unfold pyL; exact .nil
  | x :: r, _, q, h => by
    unfold plL at q
    rw [Bool.and_eq_true] at q
    unfold RepL at h
    obtain ⟨v, vr, rfl, h1, h2⟩ := h
    unfold pyL
    exact .cons (Rep.dp x v q.1 h1) (RepL.dp r vr q.2 h2)
end
theorem RepL.length : ∀ {ds : List D} {vs : List V}, RepL K mg W ds vs → vs.length = ds.length
  | [], _, h => by unfold RepL at h; subst h; rfl
  | x :: r, _, h => by
    unfold RepL at h
    obtain ⟨v, vr, rfl, _, h2⟩ := h
    simp [RepL.length h2]
theorem RepL.nil : RepL K mg W [] [] := by unfold RepL; rfl
theorem RepL.cons {d : D} {v : V} {ds : List D} {vs : List V} (h : Rep K mg W d v) (r : RepL K mg W ds vs) : RepL K mg W (d :: ds) (v :: vs) := by
  unfold RepL; exact ⟨v, vs, rfl, h, r⟩
theorem RepL.uncons {d : D} {ds : List D} {vs : List V} (h : RepL K mg W (d :: ds) vs) : ∃ v vr, vs = v :: vr ∧ Rep K mg W d v ∧ RepL K mg W ds vr := by
  unfold RepL at h; exact h
theorem RepL.get : ∀ {ds : List D} {vs : List V} {i : Nat} {d : D}, RepL K mg W ds vs → ds[i]? = some d → ∃ v, vs[i]? = some v ∧ Rep K mg W d v
  | [], _, _, _, _, e => by simp at e
  | x :: r, _, 0, d, h, e => by
    obtain ⟨v, vr, rfl, h1, _⟩ := h.uncons
    simp at e
    subst e
    exact ⟨v, rfl, h1⟩
  | x :: r, _, i + 1, d, h, e => by
    obtain ⟨v, vr, rfl, _, h2⟩ := h.uncons
    obtain ⟨u, e1, q⟩ := RepL.get (i := i) h2 (by simpa using e)
    exact ⟨u, by simpa using e1, q⟩
theorem RepL.append : ∀ {ds es : List D} {vs us : List V}, RepL K mg W ds vs → RepL K mg W es us → RepL K mg W (ds ++ es) (vs ++ us)
  | [], _, _, _, h, q => by unfold RepL at h; subst h; exact q
  | x :: r, _, _, _, h, q => by
    obtain ⟨v, vr, rfl, h1, h2⟩ := h.uncons
    exact .cons h1 (h2.append q)
theorem RepL.take : ∀ (n : Nat) {ds : List D} {vs : List V}, RepL K mg W ds vs → RepL K mg W (ds.take n) (vs.take n)
  | 0, _, _, _ => by simpa using RepL.nil
  | n + 1, [], _, h => by unfold RepL at h; subst h; simpa using RepL.nil
  | n + 1, x :: r, _, h => by
    obtain ⟨v, vr, rfl, h1, h2⟩ := h.uncons
    exact .cons h1 (h2.take n)
theorem RepL.drop : ∀ (n : Nat) {ds : List D} {vs : List V}, RepL K mg W ds vs → RepL K mg W (ds.drop n) (vs.drop n)
  | 0, _, _, h => h
  | n + 1, [], _, h => by unfold RepL at h; subst h; simpa using RepL.nil
  | n + 1, x :: r, _, h => by
    obtain ⟨v, vr, rfl, h1, h2⟩ := h.uncons
    exact h2.drop n
theorem RepL.rev : ∀ {ds : List D} {vs : List V}, RepL K mg W ds vs → RepL K mg W ds.reverse vs.reverse
  | [], _, h => by unfold RepL at h; subst h; simpa using RepL.nil
  | x :: r, _, h => by
    obtain ⟨v, vr, rfl, h1, h2⟩ := h.uncons
    rw [List.reverse_cons, List.reverse_cons]
    exact h2.rev.append (.cons h1 .nil)
theorem RepL.set {d : D} {v : V} (q : Rep K mg W d v) : ∀ (i : Nat) {ds : List D} {vs : List V}, RepL K mg W ds vs → RepL K mg W (ds.set i d) (vs.set i v)
  | _, [], _, h => by unfold RepL at h; subst h; simpa using RepL.nil
  | 0, x :: r, _, h => by
    obtain ⟨u, vr, rfl, h1, h2⟩ := h.uncons
    exact .cons q h2
  | i + 1, x :: r, _, h => by
    obtain ⟨u, vr, rfl, h1, h2⟩ := h.uncons
    exact .cons h1 (h2.set q i)
theorem RepL.rep {ds : List D} {vs : List V} (h : RepL K mg W ds vs) : ∀ n : Nat, RepL K mg W (List.replicate n ds).flatten (List.replicate n vs).flatten
  | 0 => by simpa using RepL.nil
  | n + 1 => by
    rw [List.replicate_succ, List.replicate_succ, List.flatten_cons, List.flatten_cons]
    exact h.append (h.rep n)
end

/-! ### a frame -/
def owAt (ρ : List Sl) (σ : L2.St) (i : Nat) (a : Addr) : Prop := ∃ d, ρ[i]? = some (.ow d) ∧ σ[i]? = some (some (.ref a))
def Mt (Mo : Addr → Prop) (L : List Addr) (ρ : List Sl) (σ : L2.St) : Addr → Prop := fun a => Mo a ∨ a ∈ L ∨ ∃ i, owAt ρ σ i a
abbrev wo (Mo : Addr → Prop) (L : List Addr) (H : Hp) (ρ : List Sl) (σ : L2.St) : Wo := ⟨L, Mt Mo L ρ σ, H⟩
def SlR (K : PySem.W.Frag) (mg : Str → Option Value) (W : Wo) (σ : L2.St) (i : Nat) : Sl → Prop
  | .un => True
  | .im d => ∃ v, σ[i]? = some (some v) ∧ Rep K mg W d v
  | .ow d => ∃ a, σ[i]? = some (some (.ref a)) ∧ Own K mg W d a
structure Rl (K : PySem.W.Frag) (mg : Str → Option Value) (Mo : Addr → Prop) (H0 : Hp) (L0 L : List Addr) (H : Hp) (ρ : List Sl) (σ : L2.St) (st : Store) : Prop where
  len : σ.length = ρ.length
  slot : ∀ (i : Nat) (s : Sl), ρ[i]? = some s → SlR K mg (wo Mo L H ρ σ) σ i s
  dis : ∀ i j a, owAt ρ σ i a → owAt ρ σ j a → i = j
  own : ∀ i a, owAt ρ σ i a → ¬ Mo a ∧ a ∉ L ∧ H0 a = none
  pre : L0 <+: L
  lnd : L.Nodup
  lmo : ∀ a ∈ L, ¬ Mo a
  lnew : ∀ a ∈ L, a ∉ L0 → H0 a = none
  sto : st.length = L.length
  cel : ∀ (l : Nat) (c : Cell) (a : Addr), st[l]? = some c → L[l]? = some a → CellR K mg (wo Mo L H ρ σ) c a
  kf : ∀ a o, K.lookup a = some o → H a = none
  mt : ∀ a, Mo a → H a ≠ none
  base : ∀ a o, H0 a = some o → a ∉ L0 → H a = some o
  nt : ∀ A q, st[0]? = some (.tab A q) → ∀ a ps, Mo a → H a ≠ some (.tbl ps)
section
variable {K : PySem.W.Frag} {mg : Str → Option Value} {Mo : Addr → Prop} {H0 H : Hp} {L0 L : List Addr} {ρ : List Sl} {σ : L2.St} {st : Store} {a : Addr}
theorem Own.there {W : Wo} {d : D} {a : Addr} (h : Own K mg W d a) : ∃ o, W.H a = some o ∧ Mut (some o) := by
  unfold Own at h
  split at h
  · obtain ⟨vs, e, _⟩ := h; exact ⟨_, e, True.intro⟩
  · obtain ⟨o, L, ⟨_, e, _⟩, _⟩ := h; exact ⟨_, e, True.intro⟩
  · obtain ⟨C, dx, fs, _, e, _⟩ := h; exact ⟨_, e, True.intro⟩
  · exact h.elim
theorem Rl.lst (r : Rl K mg Mo H0 L0 L H ρ σ st) {a : Addr} (h : a ∈ L) : ∃ o, H a = some o := by
  obtain ⟨l, hl, e⟩ := List.mem_iff_getElem.mp h
  have hs : l < st.length := by rw [r.sto]; exact hl
  have q := r.cel l st[l] a (List.getElem?_eq_getElem hs) (by rw [List.getElem?_eq_getElem hl, e])
  cases hc : st[l] with
  | box d =>
    rw [hc] at q
    obtain ⟨o, e, _⟩ := Own.there (show Own K mg _ d a from q)
    exact ⟨_, e⟩
  | tab A q' =>
    rw [hc] at q
    obtain ⟨_, ps, e, _⟩ := q
    exact ⟨_, e⟩
theorem Rl.owned (r : Rl K mg Mo H0 L0 L H ρ σ st) {i : Nat} {a : Addr} (h : owAt ρ σ i a) : ∃ o, H a = some o ∧ Mut (some o) := by
  obtain ⟨d, e1, e2⟩ := h
  obtain ⟨b, e3, o⟩ := r.slot i _ e1
  rw [e2] at e3
  cases e3
  exact o.there
/-- what may change is tracked -/
theorem Rl.trk (r : Rl K mg Mo H0 L0 L H ρ σ st) {a : Addr} (h : Mt Mo L ρ σ a) : H a ≠ none := by
  rcases h with h | h | ⟨i, h⟩
  · exact r.mt a h
  · obtain ⟨vs, e⟩ := r.lst h
    rw [e]; simp
  · obtain ⟨vs, e, _⟩ := r.owned h
    rw [e]; simp
theorem Rl.free (r : Rl K mg Mo H0 L0 L H ρ σ st) {a : Addr} (h : H a = none) : ¬ Mt Mo L ρ σ a := fun m => r.trk m h
theorem Rl.free0 (r : Rl K mg Mo H0 L0 L H ρ σ st) {a : Addr} (h : H a = none) : H0 a = none := by
  cases e : H0 a with
  | none => rfl
  | some o =>
    by_cases hl : a ∈ L0
    · obtain ⟨vs, q⟩ := r.lst (r.pre.subset hl)
      rw [h] at q; cases q
    · rw [r.base a o e hl] at h; cases h
theorem Rl.known (r : Rl K mg Mo H0 L0 L H ρ σ st) {a : Addr} {o : Obj} (h : K.lookup a = some o) : ¬ Mt Mo L ρ σ a := r.free (r.kf a o h)
theorem Own.le {W W' : Wo} (l : Le K W W') {d : D} {a : Addr} (h : Own K mg W d a) (e : ∀ o, W.H a = some o → W'.H a = some o) : Own K mg W' d a := by
  unfold Own at h ⊢
  split at h
  · obtain ⟨vs, e2, h⟩ := h
    exact ⟨vs, e _ e2, RepL.le l _ _ h⟩
  · obtain ⟨o, L, ⟨s1, s2, s3⟩, k1, k2, r1, r2⟩ := h
    exact ⟨o, L, ⟨s1, e _ s2, s3⟩, k1, k2, RepL.le l _ _ r1, RepL.le l _ _ r2⟩
  · obtain ⟨C, dx, fs, m, s, k, r⟩ := h
    exact ⟨C, dx, fs, m, e _ s, k, RepL.le l _ _ r⟩
  · exact h.elim
theorem CellR.le {W W' : Wo} (l : Le K W W') {c : Cell} {a : Addr} (h : CellR K mg W c a) (e : ∀ o, W.H a = some o → W'.H a = some o) : CellR K mg W' c a := by
  cases c with
  | box d => exact Own.le l (show Own K mg W d a from h) e
  | tab A q =>
    obtain ⟨e1, ps, e2, h1, h2⟩ := h
    refine ⟨e1, ps, e _ e2, h1, fun pos cv hc => ?_⟩
    obtain ⟨c, e3, e4, e5⟩ := h2 pos cv hc
    obtain ⟨e6, e7⟩ := l.st _ _ e4 e5
    exact ⟨c, e3, e6, e7⟩
/-- a new object of the heap, shared -/
theorem Rl.laid (r : Rl K mg Mo H0 L0 L H ρ σ st) {p : Addr} {o : HO} (hp : H p = none) (kf : ∀ a ob, K.lookup a = some ob → upd H p o a = none) :
    Rl K mg Mo H0 L0 L (upd H p o) ρ σ st ∧ Le K (wo Mo L H ρ σ) (wo Mo L (upd H p o) ρ σ) := by
  have l : Le K (wo Mo L H ρ σ) (wo Mo L (upd H p o) ρ σ) := ⟨List.prefix_refl _, fun a u e n => ⟨by show upd H p o a = some u; rw [upd_ne (ne_of_none e hp)]; exact e, n⟩, fun _ _ _ n => n, fun a e => by
    show upd H p o a ≠ none
    by_cases q : a = p
    · rw [q, upd_same]; simp
    · rw [upd_ne q]; exact e⟩
  refine ⟨⟨r.len, fun i s e => ?_, r.dis, r.own, r.pre, r.lnd, r.lmo, r.lnew, r.sto, fun k c a e1 e2 => ?_, kf, fun a m => l.tr a (r.mt a m), fun a u e n => ?_, fun A q e b ps m z => r.nt A q e b ps m (by rw [upd_ne (fun y => r.mt b m (by rw [y]; exact hp))] at z; exact z)⟩, l⟩
  · have q := r.slot i s e
    cases s with
    | un => trivial
    | im d => obtain ⟨v, e1, h⟩ := q; exact ⟨v, e1, Rep.le l d v h⟩
    | ow d =>
      obtain ⟨a, e1, h⟩ := q
      exact ⟨a, e1, h.le l fun u e2 => by show upd H p o a = _; rw [upd_ne (ne_of_none e2 hp)]; exact e2⟩
  · exact (r.cel k c a e1 e2).le l fun u e => by show upd H p o a = _; rw [upd_ne (ne_of_none e hp)]; exact e
  · have q := r.base a u e n
    rw [upd_ne (ne_of_none q hp)]; exact q
theorem nt_upd {u : HO} (mu : Mut (some u)) {st : Store} (nt : ∀ A q, st[0]? = some (.tab A q) → ∀ a ps, Mo a → H a ≠ some (.tbl ps)) (A : Addr) (q : Str) (e : st[0]? = some (.tab A q)) (b : Addr) (ps : Array Value) (m : Mo b) (z : upd H a u b = some (.tbl ps)) : False := by
  by_cases hb : b = a
  · rw [hb, upd_same] at z
    cases z
    exact mu
  · rw [upd_ne hb] at z
    exact nt A q e b ps m z
theorem st_tab {l : Nat} {d : D} {A : Addr} {q : Str} {st : Store} (e : (st.set l (.box d))[0]? = some (.tab A q)) : st[0]? = some (.tab A q) := by
  rw [List.getElem?_set] at e
  split at e
  · split at e
    · cases e
    · cases e
  · exact e
theorem st_tab2 {d : D} {A : Addr} {q : Str} {st : Store} (e : (st ++ [.box d])[0]? = some (.tab A q)) : st[0]? = some (.tab A q) := by
  cases st with
  | nil => cases e
  | cons c st => exact e
theorem owAt_set {i j : Nat} {s : Sl} {o : Option V} {a : Addr} (h : owAt (ρ.set i s) (σ.set i o) j a) : (j ≠ i ∧ owAt ρ σ j a) ∨ (j = i ∧ i < ρ.length ∧ i < σ.length ∧ ∃ d, s = .ow d ∧ o = some (.ref a)) := by
  obtain ⟨d, e1, e2⟩ := h
  by_cases hj : j = i
  · subst hj
    rw [List.getElem?_set] at e1 e2
    simp only [if_true] at e1 e2
    split at e1
    · split at e2
      · exact .inr ⟨rfl, by assumption, by assumption, d, Option.some.inj e1, Option.some.inj e2⟩
      · cases e2
    · cases e1
  · rw [List.getElem?_set_ne (Ne.symm hj)] at e1 e2
    exact .inl ⟨hj, d, e1, e2⟩
theorem owAt_keep {i j : Nat} {s : Sl} {o : Option V} {a : Addr} (hj : j ≠ i) (h : owAt ρ σ j a) : owAt (ρ.set i s) (σ.set i o) j a := by
  obtain ⟨d, e1, e2⟩ := h
  exact ⟨d, by rw [List.getElem?_set_ne (Ne.symm hj)]; exact e1, by rw [List.getElem?_set_ne (Ne.symm hj)]; exact e2⟩
theorem set_len {i : Nat} (hl : σ.length = ρ.length) (s : Sl) (o : Option V) : (σ.set i o).length = (ρ.set i s).length := by simp [hl]
/-- a slot is given something shared (or nothing) -/
theorem Rl.setIm (r : Rl K mg Mo H0 L0 L H ρ σ st) {i : Nat} {s : Sl} {o : Option V} (hs : ∀ d, s ≠ .ow d) (q : ∀ d, s = .im d → ∃ v, o = some v ∧ Rep K mg (wo Mo L H ρ σ) d v) :
    Rl K mg Mo H0 L0 L H (ρ.set i s) (σ.set i o) st ∧ Le K (wo Mo L H ρ σ) (wo Mo L H (ρ.set i s) (σ.set i o)) := by
  have oo : ∀ {j a}, owAt (ρ.set i s) (σ.set i o) j a → j ≠ i ∧ owAt ρ σ j a := fun h => by
    rcases owAt_set h with h | ⟨_, _, _, d, e, _⟩
    · exact h
    · exact absurd e (hs d)
  have mm : ∀ a, Mt Mo L (ρ.set i s) (σ.set i o) a → Mt Mo L ρ σ a := fun a h => by
    rcases h with h | h | ⟨j, h⟩
    · exact .inl h
    · exact .inr (.inl h)
    · exact .inr (.inr ⟨j, (oo h).2⟩)
  have l : Le K (wo Mo L H ρ σ) (wo Mo L H (ρ.set i s) (σ.set i o)) := ⟨List.prefix_refl _, fun a u e n => ⟨e, fun m => n (mm a m)⟩, fun a _ _ n m => n (mm a m), fun a e => e⟩
  refine ⟨⟨set_len r.len s o, fun j t e => ?_, fun j k a h1 h2 => r.dis j k a (oo h1).2 (oo h2).2, fun j a h => r.own j a (oo h).2, r.pre, r.lnd, r.lmo, r.lnew, r.sto, fun k c a e1 e2 => (r.cel k c a e1 e2).le l fun _ e => e, r.kf, r.mt, r.base, r.nt⟩, l⟩
  by_cases hj : j = i
  · subst hj
    have hlt : j < ρ.length := by
      obtain ⟨h, _⟩ := List.getElem?_eq_some_iff.mp e
      simpa using h
    rw [List.getElem?_set_self hlt] at e
    have e' := Option.some.inj e
    cases t with
    | un => trivial
    | im d =>
      obtain ⟨v, e1, h⟩ := q d e'
      exact ⟨v, by rw [List.getElem?_set_self (by rw [r.len]; exact hlt), e1], Rep.le l d v h⟩
    | ow d => exact absurd e' (hs d)
  · rw [List.getElem?_set_ne (Ne.symm hj)] at e
    have q := r.slot j t e
    cases t with
    | un => trivial
    | im d =>
      obtain ⟨v, e1, h⟩ := q
      exact ⟨v, by rw [List.getElem?_set_ne (Ne.symm hj)]; exact e1, Rep.le l d v h⟩
    | ow d =>
      obtain ⟨a, e1, h⟩ := q
      exact ⟨a, by rw [List.getElem?_set_ne (Ne.symm hj)]; exact e1, h.le l fun _ e => e⟩
/-- what may change is forgotten in part -/
theorem Rl.fewer {Mo' : Addr → Prop} (r : Rl K mg Mo H0 L0 L H ρ σ st) (h : ∀ a, Mo' a → Mo a) : Rl K mg Mo' H0 L0 L H ρ σ st ∧ Le K (wo Mo L H ρ σ) (wo Mo' L H ρ σ) := by
  have mm : ∀ a, Mt Mo' L ρ σ a → Mt Mo L ρ σ a := fun a m => by
    rcases m with m | m
    · exact .inl (h a m)
    · exact .inr m
  have l : Le K (wo Mo L H ρ σ) (wo Mo' L H ρ σ) := ⟨List.prefix_refl _, fun a u e n => ⟨e, fun m => n (mm a m)⟩, fun a _ _ n m => n (mm a m), fun a e => e⟩
  refine ⟨⟨r.len, fun j t e => ?_, r.dis, fun i a o => ⟨fun m => (r.own i a o).1 (h a m), (r.own i a o).2⟩, r.pre, r.lnd, fun a hl m => r.lmo a hl (h a m), r.lnew, r.sto, fun k c a e1 e2 => (r.cel k c a e1 e2).le l fun _ e => e, r.kf, fun a m => r.mt a (h a m), r.base, fun A q e a ps m => r.nt A q e a ps (h a m)⟩, l⟩
  have q := r.slot j t e
  cases t with
  | un => trivial
  | im d => obtain ⟨v, e1, h⟩ := q; exact ⟨v, e1, Rep.le l d v h⟩
  | ow d => obtain ⟨a, e1, h⟩ := q; exact ⟨a, e1, h.le l fun _ e => e⟩
def ad (Mo : Addr → Prop) (a : Addr) : Addr → Prop := fun b => Mo b ∨ b = a
theorem Rl.out (r : Rl K mg (ad Mo a) H0 L0 L H ρ σ st) (na : ¬ Mo a) : ¬ Mt Mo L ρ σ a := fun m => by
  rcases m with m | m | ⟨i, m⟩
  · exact na m
  · exact r.lmo a m (.inr rfl)
  · exact (r.own i a m).1 (.inr rfl)
/-- a fresh list is shared from now on -/
theorem Own.rep {W W' : Wo} (l : Le K W W') {d : D} {a : Addr} (h : Own K mg W d a) (e : W'.H = W.H) (n : ¬ W'.M a) : Rep K mg W' d (.ref a) := by
  unfold Own at h
  split at h
  · obtain ⟨vs, e2, h⟩ := h
    unfold Rep
    exact ⟨a, vs, rfl, by rw [e]; exact e2, n, RepL.le l _ _ h⟩
  · obtain ⟨o, L, s, k1, k2, r1, r2⟩ := h
    unfold Rep
    exact ⟨a, o, L, rfl, by rw [e]; exact s, n, k1, k2, RepL.le l _ _ r1, RepL.le l _ _ r2⟩
  · obtain ⟨C, dx, fs, m, s, k, r⟩ := h
    unfold Rep
    exact ⟨a, C, dx, fs, rfl, m, by rw [e]; exact s, n, k, RepL.le l _ _ r⟩
  · exact h.elim
/-- a slot is given a fresh list -/
theorem Rl.setOw (r : Rl K mg (ad Mo a) H0 L0 L H ρ σ st) {i : Nat} {d : D} (h : Own K mg (wo (ad Mo a) L H ρ σ) d a) (na : ¬ Mo a) (n0 : H0 a = none) :
    Rl K mg Mo H0 L0 L H (ρ.set i (.ow d)) (σ.set i (some (.ref a))) st ∧ Le K (wo (ad Mo a) L H ρ σ) (wo Mo L H (ρ.set i (.ow d)) (σ.set i (some (.ref a)))) := by
  have oo : ∀ {j b}, owAt (ρ.set i (.ow d)) (σ.set i (some (.ref a))) j b → (j ≠ i ∧ owAt ρ σ j b) ∨ (j = i ∧ b = a) := fun h => by
    rcases owAt_set h with h | ⟨e, _, _, d', _, e2⟩
    · exact .inl h
    · cases e2; exact .inr ⟨e, rfl⟩
  have mm : ∀ b, Mt Mo L (ρ.set i (.ow d)) (σ.set i (some (.ref a))) b → Mt (ad Mo a) L ρ σ b := fun b h => by
    rcases h with h | h | ⟨j, h⟩
    · exact .inl (.inl h)
    · exact .inr (.inl h)
    · rcases oo h with h | h
      · exact .inr (.inr ⟨j, h.2⟩)
      · exact .inl (.inr h.2)
  have ne : ∀ {j b}, owAt ρ σ j b → b ≠ a := fun h e => (r.own _ _ h).1 (.inr e)
  have l : Le K (wo (ad Mo a) L H ρ σ) (wo Mo L H (ρ.set i (.ow d)) (σ.set i (some (.ref a)))) := ⟨List.prefix_refl _, fun a u e n => ⟨e, fun m => n (mm a m)⟩, fun a _ _ n m => n (mm a m), fun a e => e⟩
  refine ⟨⟨set_len r.len _ _, fun j t e => ?_, fun j k b h1 h2 => ?_, fun j b h => ?_, r.pre, r.lnd, fun b hl m => r.lmo b hl (.inl m), r.lnew, r.sto, fun k c b e1 e2 => (r.cel k c b e1 e2).le l fun _ e => e, r.kf, fun b m => r.mt b (.inl m), r.base, fun A q e b ps m => r.nt A q e b ps (.inl m)⟩, l⟩
  · by_cases hj : j = i
    · subst hj
      have hlt : j < ρ.length := by
        obtain ⟨h, _⟩ := List.getElem?_eq_some_iff.mp e
        simpa using h
      rw [List.getElem?_set_self hlt] at e
      cases e
      exact ⟨a, by rw [List.getElem?_set_self (by rw [r.len]; exact hlt)], h.le l fun _ e => e⟩
    · rw [List.getElem?_set_ne (Ne.symm hj)] at e
      have q := r.slot j t e
      cases t with
      | un => trivial
      | im d =>
        obtain ⟨v, e1, h⟩ := q
        exact ⟨v, by rw [List.getElem?_set_ne (Ne.symm hj)]; exact e1, Rep.le l d v h⟩
      | ow d =>
        obtain ⟨b, e1, h⟩ := q
        exact ⟨b, by rw [List.getElem?_set_ne (Ne.symm hj)]; exact e1, h.le l fun _ e => e⟩
  · rcases oo h1 with h1 | ⟨e1, e1'⟩ <;> rcases oo h2 with h2 | ⟨e2, e2'⟩
    · exact r.dis j k b h1.2 h2.2
    · exact absurd e2' (ne h1.2)
    · exact absurd e1' (ne h2.2)
    · rw [e1, e2]
  · rcases oo h with h | ⟨_, e⟩
    · exact ⟨fun m => (r.own j b h.2).1 (.inl m), (r.own j b h.2).2⟩
    · subst e
      exact ⟨na, fun hl => r.lmo b hl (.inr rfl), n0⟩
/-- an owned list is changed -/
theorem Rl.chgB (r : Rl K mg Mo H0 L0 L H ρ σ st) {i : Nat} {a : Addr} {d0 d1 : D} {u : HO} (mu : Mut (some u)) (e1 : ρ[i]? = some (.ow d0)) (e2 : σ[i]? = some (some (.ref a))) (h : ∀ W', Le K (wo Mo L H ρ σ) W' → W'.H a = some u → Own K mg W' d1 a) :
    Rl K mg Mo H0 L0 L (upd H a u) (ρ.set i (.ow d1)) σ st ∧ Le K (wo Mo L H ρ σ) (wo Mo L (upd H a u) (ρ.set i (.ow d1)) σ) := by
  have ha : owAt ρ σ i a := ⟨_, e1, e2⟩
  have hi : i < ρ.length := (List.getElem?_eq_some_iff.mp e1).1
  have oo : ∀ {j b}, owAt (ρ.set i (.ow d1)) σ j b ↔ owAt ρ σ j b := fun {j b} => by
    by_cases hj : j = i
    · subst hj
      constructor
      · rintro ⟨d, q1, q2⟩
        rw [q2] at e2; cases e2
        exact ha
      · rintro ⟨d, q1, q2⟩
        exact ⟨_, List.getElem?_set_self hi, q2⟩
    · constructor
      · rintro ⟨d, q1, q2⟩
        rw [List.getElem?_set_ne (Ne.symm hj)] at q1
        exact ⟨d, q1, q2⟩
      · rintro ⟨d, q1, q2⟩
        exact ⟨d, by rw [List.getElem?_set_ne (Ne.symm hj)]; exact q1, q2⟩
  have mm : ∀ b, Mt Mo L (ρ.set i (.ow d1)) σ b ↔ Mt Mo L ρ σ b := fun b => by
    unfold Mt
    simp only [oo]
  have ne : ∀ {b o}, H b = some o → ¬ Mt Mo L ρ σ b → b ≠ a := fun {b o} _ n z => n (by rw [z]; exact .inr (.inr ⟨i, ha⟩))
  have l : Le K (wo Mo L H ρ σ) (wo Mo L (upd H a u) (ρ.set i (.ow d1)) σ) := ⟨List.prefix_refl _, fun b w e n => ⟨by show upd H a _ b = _; rw [upd_ne (ne e n)]; exact e, fun m => n ((mm b).mp m)⟩, fun b _ _ n m => n ((mm b).mp m), fun b e => by
    show upd H a _ b ≠ none
    by_cases q : b = a
    · rw [q, upd_same]; simp
    · rw [upd_ne q]; exact e⟩
  refine ⟨⟨by simp [r.len], fun j t e => ?_, fun j k b h1 h2 => r.dis j k b (oo.mp h1) (oo.mp h2), fun j b h => r.own j b (oo.mp h), r.pre, r.lnd, r.lmo, r.lnew, r.sto, fun k c b q1 q2 => ?_, fun b o hk => ?_, fun b m => l.tr b (r.mt b m), fun b w q n => ?_, fun A q e b ps m z => nt_upd mu r.nt A q e b ps m z⟩, l⟩
  · by_cases hj : j = i
    · subst hj
      rw [List.getElem?_set_self hi] at e
      cases e
      exact ⟨a, e2, h _ l upd_same⟩
    · rw [List.getElem?_set_ne (Ne.symm hj)] at e
      have q := r.slot j t e
      cases t with
      | un => trivial
      | im d => obtain ⟨v, e1, h⟩ := q; exact ⟨v, e1, Rep.le l d v h⟩
      | ow d =>
        obtain ⟨b, q1, h⟩ := q
        have nb : b ≠ a := fun z => hj (r.dis j i a ⟨d, e, by rw [q1, z]⟩ ha)
        exact ⟨b, q1, h.le l fun _ e => by show upd H a _ b = _; rw [upd_ne nb]; exact e⟩
  · have nb : b ≠ a := fun z => (r.own i a ha).2.1 (by rw [← z]; exact List.mem_of_getElem? q2)
    exact (r.cel k c b q1 q2).le l fun _ e => by show upd H a _ b = _; rw [upd_ne nb]; exact e
  · have q := r.kf b o hk
    by_cases z : b = a
    · obtain ⟨ws, hw, _⟩ := r.owned ha
      rw [z, hw] at q; cases q
    · rw [upd_ne z]; exact q
  · have nb : b ≠ a := fun z => by rw [z, (r.own i a ha).2.2] at q; cases q
    rw [upd_ne nb]
    exact r.base b w q n
theorem Rl.chg (r : Rl K mg Mo H0 L0 L H ρ σ st) {i : Nat} {a : Addr} {xs ys : List D} {us : List V} (e1 : ρ[i]? = some (.ow (.lst xs))) (e2 : σ[i]? = some (some (.ref a))) (h : RepL K mg (wo Mo L H ρ σ) ys us) :
    Rl K mg Mo H0 L0 L (upd H a (.lst us)) (ρ.set i (.ow (.lst ys))) σ st ∧ Le K (wo Mo L H ρ σ) (wo Mo L (upd H a (.lst us)) (ρ.set i (.ow (.lst ys))) σ) :=
  r.chgB True.intro e1 e2 fun _ l e => ⟨us, e, RepL.le l _ _ h⟩
/-- a list of the store is changed -/
theorem Rl.chgLB (r : Rl K mg Mo H0 L0 L H ρ σ st) {l : Nat} {a : Addr} {d0 d1 : D} {u : HO} (mu : Mut (some u)) (e1 : st[l]? = some (.box d0)) (e2 : L[l]? = some a) (h : ∀ W', Le K (wo Mo L H ρ σ) W' → W'.H a = some u → Own K mg W' d1 a) :
    Rl K mg Mo H0 L0 L (upd H a u) ρ σ (st.set l (.box d1)) ∧ Le K (wo Mo L H ρ σ) (wo Mo L (upd H a u) ρ σ) := by
  have ha : a ∈ L := List.mem_of_getElem? e2
  have hl : l < st.length := (List.getElem?_eq_some_iff.mp e1).1
  have ne : ∀ {b : Addr}, ¬ Mt Mo L ρ σ b → b ≠ a := fun n z => n (by rw [z]; exact .inr (.inl ha))
  have le : Le K (wo Mo L H ρ σ) (wo Mo L (upd H a u) ρ σ) := ⟨List.prefix_refl _, fun b w e n => ⟨by show upd H a _ b = _; rw [upd_ne (ne n)]; exact e, n⟩, fun b _ _ n => n, fun b e => by
    show upd H a _ b ≠ none
    by_cases q : b = a
    · rw [q, upd_same]; simp
    · rw [upd_ne q]; exact e⟩
  obtain ⟨ws, hw⟩ := r.lst ha
  refine ⟨⟨r.len, fun j t e => ?_, r.dis, r.own, r.pre, r.lnd, r.lmo, r.lnew, by simp [r.sto], fun k c b q1 q2 => ?_, fun b o hk => ?_, fun b m => le.tr b (r.mt b m), fun b w q n => ?_, fun A q e b ps m z => nt_upd mu r.nt A q (st_tab e) b ps m z⟩, le⟩
  · have q := r.slot j t e
    cases t with
    | un => trivial
    | im d => obtain ⟨v, e1, h⟩ := q; exact ⟨v, e1, Rep.le le d v h⟩
    | ow d =>
      obtain ⟨b, q1, h⟩ := q
      have nb : b ≠ a := fun z => (r.own j a ⟨d, e, by rw [q1, z]⟩).2.1 ha
      exact ⟨b, q1, h.le le fun _ e => by show upd H a _ b = _; rw [upd_ne nb]; exact e⟩
  · by_cases hk : k = l
    · subst hk
      rw [List.getElem?_set_self hl] at q1
      cases q1
      rw [e2] at q2
      cases q2
      exact h _ le upd_same
    · rw [List.getElem?_set_ne (Ne.symm hk)] at q1
      have nb : b ≠ a := fun z => by
        subst z
        obtain ⟨h1, z1⟩ := List.getElem?_eq_some_iff.mp q2
        obtain ⟨h2, z2⟩ := List.getElem?_eq_some_iff.mp e2
        exact hk ((List.getElem_inj r.lnd).mp (z1.trans z2.symm))
      exact (r.cel k c b q1 q2).le le fun _ e => by show upd H a _ b = _; rw [upd_ne nb]; exact e
  · have q := r.kf b o hk
    by_cases z : b = a
    · rw [z, hw] at q; cases q
    · rw [upd_ne z]; exact q
  · by_cases z : b = a
    · subst z
      by_cases hn : b ∈ L0
      · exact absurd hn n
      · rw [r.lnew b ha hn] at q; cases q
    · rw [upd_ne z]
      exact r.base b w q n
theorem Rl.chgL (r : Rl K mg Mo H0 L0 L H ρ σ st) {l : Nat} {a : Addr} {xs ys : List D} {us : List V} (e1 : st[l]? = some (.lst xs)) (e2 : L[l]? = some a) (h : RepL K mg (wo Mo L H ρ σ) ys us) :
    Rl K mg Mo H0 L0 L (upd H a (.lst us)) ρ σ (st.set l (.lst ys)) ∧ Le K (wo Mo L H ρ σ) (wo Mo L (upd H a (.lst us)) ρ σ) :=
  r.chgLB True.intro e1 e2 fun _ l e => ⟨us, e, RepL.le l _ _ h⟩
/-- a list comes to the store -/
theorem Rl.addL (r : Rl K mg (ad Mo a) H0 L0 L H ρ σ st) {d : D} (h : Own K mg (wo (ad Mo a) L H ρ σ) d a) (na : ¬ Mo a) (n0 : H0 a = none) :
    Rl K mg Mo H0 L0 (L ++ [a]) H ρ σ (st ++ [.box d]) ∧ Le K (wo (ad Mo a) L H ρ σ) (wo Mo (L ++ [a]) H ρ σ) := by
  have mm : ∀ b, Mt Mo (L ++ [a]) ρ σ b → Mt (ad Mo a) L ρ σ b := fun b m => by
    rcases m with m | m | m
    · exact .inl (.inl m)
    · rcases List.mem_append.mp m with m | m
      · exact .inr (.inl m)
      · exact .inl (.inr (by simpa using m))
    · exact .inr (.inr m)
  have l : Le K (wo (ad Mo a) L H ρ σ) (wo Mo (L ++ [a]) H ρ σ) := ⟨List.prefix_append _ _, fun a u e n => ⟨e, fun m => n (mm a m)⟩, fun a _ _ n m => n (mm a m), fun a e => e⟩
  have hn : a ∉ L := fun hl => r.lmo a hl (.inr rfl)
  refine ⟨⟨r.len, fun j t e => ?_, r.dis, fun i b o => ⟨fun m => (r.own i b o).1 (.inl m), fun m => ?_, (r.own i b o).2.2⟩, r.pre.trans (List.prefix_append _ _), ?_, fun b m z => ?_, fun b m z => ?_, by simp [r.sto], fun k c b q1 q2 => ?_, r.kf, fun b m => r.mt b (.inl m), r.base, fun A q e b ps m => r.nt A q (st_tab2 e) b ps (.inl m)⟩, l⟩
  · have q := r.slot j t e
    cases t with
    | un => trivial
    | im d => obtain ⟨v, e1, h⟩ := q; exact ⟨v, e1, Rep.le l d v h⟩
    | ow d => obtain ⟨a, e1, h⟩ := q; exact ⟨a, e1, h.le l fun _ e => e⟩
  · rcases List.mem_append.mp m with m | m
    · exact (r.own i b o).2.1 m
    · exact (r.own i b o).1 (.inr (by simpa using m))
  · rw [List.nodup_append]
    refine ⟨r.lnd, by simp, fun x hx y hy => ?_⟩
    have : y = a := by simpa using hy
    subst this
    exact fun z => hn (z ▸ hx)
  · rcases List.mem_append.mp m with m | m
    · exact r.lmo b m (.inl z)
    · have : b = a := by simpa using m
      subst this
      exact na z
  · rcases List.mem_append.mp m with m | m
    · exact r.lnew b m z
    · have : b = a := by simpa using m
      subst this
      exact n0
  · by_cases hk : k < st.length
    · rw [List.getElem?_append_left hk] at q1
      rw [List.getElem?_append_left (by rw [← r.sto]; exact hk)] at q2
      exact (r.cel k c b q1 q2).le l fun _ e => e
    · have hk' : k = st.length := by
        obtain ⟨h1, _⟩ := List.getElem?_eq_some_iff.mp q1
        simp at h1
        omega
      subst hk'
      rw [List.getElem?_append_right (Nat.le_refl _)] at q1
      rw [List.getElem?_append_right (by rw [r.sto]; exact Nat.le_refl _)] at q2
      simp at q1
      simp [r.sto] at q2
      subst q1
      subst q2
      exact h.le l fun _ e => e
/-- a new list of the heap that no one else has -/
theorem Rl.laidB (r : Rl K mg Mo H0 L0 L H ρ σ st) {p : Addr} {o : HO} (mu : Mut (some o)) (hp : H p = none) (kf : ∀ a ob, K.lookup a = some ob → upd H p o a = none) :
    Rl K mg (ad Mo p) H0 L0 L (upd H p o) ρ σ st ∧ Le K (wo Mo L H ρ σ) (wo (ad Mo p) L (upd H p o) ρ σ) := by
  have nm := r.free hp
  have mm : ∀ b, Mt (ad Mo p) L ρ σ b → Mt Mo L ρ σ b ∨ b = p := fun b m => by
    rcases m with (m | m) | m | m
    · exact .inl (.inl m)
    · exact .inr m
    · exact .inl (.inr (.inl m))
    · exact .inl (.inr (.inr m))
  have l : Le K (wo Mo L H ρ σ) (wo (ad Mo p) L (upd H p o) ρ σ) := ⟨List.prefix_refl _, fun a u e n => ⟨by show upd H p o a = some u; rw [upd_ne (ne_of_none e hp)]; exact e, fun m => by
      rcases mm a m with m | m
      · exact n m
      · rw [m] at e
        exact absurd ((show H p = some u from e).symm.trans hp) (by simp)⟩, fun a ob hk n m => by
      rcases mm a m with m | m
      · exact n m
      · have := kf a ob hk
        rw [m, upd_same] at this
        exact absurd this (by simp), fun a e => by
    show upd H p o a ≠ none
    by_cases q : a = p
    · rw [q, upd_same]; simp
    · rw [upd_ne q]; exact e⟩
  refine ⟨⟨r.len, fun i s e => ?_, r.dis, fun i a q => ⟨fun m => ?_, (r.own i a q).2⟩, r.pre, r.lnd, fun a hl m => ?_, r.lnew, r.sto, fun k c a e1 e2 => ?_, kf, fun a m => ?_, fun a u e n => ?_, fun A q e b ps m z => ?_⟩, l⟩
  · have q := r.slot i s e
    cases s with
    | un => trivial
    | im d => obtain ⟨v, e1, h⟩ := q; exact ⟨v, e1, Rep.le l d v h⟩
    | ow d =>
      obtain ⟨a, e1, h⟩ := q
      exact ⟨a, e1, h.le l fun vs e2 => by show upd H p o a = _; rw [upd_ne (ne_of_none e2 hp)]; exact e2⟩
  · rcases m with m | m
    · exact (r.own i a q).1 m
    · obtain ⟨vs, e, _⟩ := r.owned q
      rw [m, hp] at e; cases e
  · rcases m with m | m
    · exact r.lmo a hl m
    · obtain ⟨vs, e⟩ := r.lst hl
      rw [m, hp] at e; cases e
  · exact (r.cel k c a e1 e2).le l fun vs e3 => by show upd H p o a = _; rw [upd_ne (ne_of_none e3 hp)]; exact e3
  · rcases m with m | m
    · exact l.tr a (r.mt a m)
    · rw [m, upd_same]; simp
  · have q := r.base a u e n
    rw [upd_ne (ne_of_none q hp)]; exact q
  · rcases m with m | m
    · rw [upd_ne (fun y => r.mt b m (by rw [y]; exact hp))] at z
      exact r.nt A q e b ps m z
    · rw [m, upd_same] at z
      cases z
      exact mu
theorem Rl.laidF (r : Rl K mg Mo H0 L0 L H ρ σ st) {p : Addr} {us : List V} (hp : H p = none) (kf : ∀ a ob, K.lookup a = some ob → upd H p (.lst us) a = none) :
    Rl K mg (ad Mo p) H0 L0 L (upd H p (.lst us)) ρ σ st ∧ Le K (wo Mo L H ρ σ) (wo (ad Mo p) L (upd H p (.lst us)) ρ σ) := r.laidB True.intro hp kf
end
end PI
set_option Elab.async false
set_option linter.all false
set_option maxRecDepth 100000
set_option maxHeartbeats 4000000
/-! PI3: the outcome of a run, what is asked behind an expression. -/
namespace PI
open PySem PySem.Spec PyProof.Rows L2 PD

def Out {α : Type} (r : R α) (ok : α → Store → Prop) (ex : Ex → Store → Prop) : Prop := match r with
  | .ok a st => ok a st
  | .ex e st => ex e st
  | .no => False
section
variable {α β : Type} {ok ok' : α → Store → Prop} {ex ex' : Ex → Store → Prop} {st : Store}
theorem Out.imp {r : R α} (h : Out r ok ex) (h1 : ∀ a st, ok a st → ok' a st) (h2 : ∀ e st, ex e st → ex' e st) : Out r ok' ex' := by
  cases r with
  | ok a st => exact h1 a st h
  | ex e st => exact h2 e st h
  | no => exact h
theorem Out.bnd {ok : β → Store → Prop} {m : M α} {f : α → M β} (h : Out (M.bnd m f st) ok ex) : Out (m st) (fun a st' => Out (f a st') ok ex) ex := by
  unfold M.bnd at h
  cases e : m st with
  | ok a st' => rw [e] at h; exact h
  | ex e' st' => rw [e] at h; exact h
  | no => rw [e] at h; exact h
theorem Out.opt {o : Option α} (h : Out (M.opt o st) ok ex) : ∃ a, o = some a ∧ ok a st := by
  cases o with
  | some a => exact ⟨a, rfl, h⟩
  | none => exact h.elim
theorem Out.ret {a : α} (h : Out (M.ret a st) ok ex) : ok a st := h
theorem Out.nope {P : Prop} (h : Out (M.no st : R α) ok ex) : P := h.elim
theorem Out.calm {m : M α} (h : Out (M.calm m st) ok ex) : Out (m st) ok (fun _ _ => False) := by
  unfold M.calm at h
  cases e : m st with
  | ok a st' => rw [e] at h; exact h
  | ex e' st' => rw [e] at h; exact h
  | no => rw [e] at h; exact h
end

def addF (Mo : Addr → Prop) : Kd → V → Addr → Prop
  | .fr, .ref a => ad Mo a
  | _, _ => Mo
section
variable (K : PySem.W.Frag) (mg : Str → Option Value)
def RV (W : Wo) (ρ : List Sl) (σ : L2.St) (d : D) : Kd → V → Prop
  | .sh, v => Rep K mg W d v
  | .fr, v => ∃ a, v = .ref a ∧ Own K mg W d a
  | .wk, v => ∃ (i : Nat) (a : Addr), v = .ref a ∧ ρ[i]? = some (.ow d) ∧ σ[i]? = some (some (.ref a))
/-- what may be read as d, now -/
def RW (W : Wo) : D → V → Prop
  | .lst xs, v => ∃ a vs, v = .ref a ∧ W.H a = some (.lst vs) ∧ a ∉ W.L ∧ RepL K mg W xs vs
  | .dct ks vs, v => ∃ a, v = .ref a ∧ Own K mg W (.dct ks vs) a ∧ a ∉ W.L
  | .ins c ns vs, v => ∃ a, v = .ref a ∧ Own K mg W (.ins c ns vs) a ∧ a ∉ W.L
  | d, v => Rep K mg W d v
def RWL (W : Wo) : List D → List V → Prop
  | [], vs => vs = []
  | x :: r, vs => ∃ v vr, vs = v :: vr ∧ RW K mg W x v ∧ RWL W r vr
def ExR (W : Wo) (e : Ex) (cls : Value) (dd : Option Addr) : Prop :=
  ∃ (c d : Addr) (fs : List (Str × V)), cls = .ref c ∧ dd = some d ∧ mg e.cls = some (.ref c) ∧ W.H d = some (.xd fs) ∧ fs.map (·.1) = e.fs.map (·.1) ∧ RepL K mg W (e.fs.map (·.2)) (fs.map (·.2))
structure Po (Mo : Addr → Prop) (H0 : Hp) (L0 L : List Addr) (H : Hp) (ρ : List Sl) (σ : L2.St) (Mo' : Addr → Prop) (L' : List Addr) (H' : Hp) (st' : Store) : Prop where
  rl : Rl K mg Mo' H0 L0 L' H' ρ σ st'
  le : Le K (wo Mo L H ρ σ) (wo Mo' L' H' ρ σ)
  ex : ∀ b o, H b = some o → b ∉ L → H' b = some o
  nw : ∀ b ∈ L', b ∉ L → H b = none
end
section
variable {K : PySem.W.Frag} {mg : Str → Option Value} {Mo Mo1 Mo2 : Addr → Prop} {H0 H H1 H2 : Hp} {L0 L L1 Lb : List Addr} {ρ : List Sl} {σ : L2.St} {st st1 st2 : Store} {a : Addr}
theorem Po.refl (r : Rl K mg Mo H0 L0 L H ρ σ st) : Po K mg Mo H0 L0 L H ρ σ Mo L H st := ⟨r, Le.refl, fun _ _ h _ => h, fun _ h n => absurd h n⟩
theorem Po.trans (a : Po K mg Mo H0 L0 L H ρ σ Mo1 L1 H1 st1) (b : Po K mg Mo1 H0 L0 L1 H1 ρ σ Mo2 Lb H2 st2) : Po K mg Mo H0 L0 L H ρ σ Mo2 Lb H2 st2 := by
  refine ⟨b.rl, a.le.trans b.le, fun c o h n => b.ex c o (a.ex c o h n) fun m => ?_, fun c m n => ?_⟩
  · have := a.nw c m n
    rw [h] at this; cases this
  · by_cases q : c ∈ L1
    · exact a.nw c q n
    · cases e : H c with
      | none => rfl
      | some o =>
        have := b.nw c m q
        rw [a.ex c o e n] at this; cases this
/-- what was not tracked ahead was not tracked at the entry of the run -/
theorem Po.untr (a : Po K mg Mo H0 L0 L H ρ σ Mo1 L1 H1 st1) {c : Addr} (h : H1 c = none) : H c = none := by
  cases e : H c with
  | none => rfl
  | some o =>
    have q := a.le.tr c (by show H c ≠ none; rw [e]; simp)
    exact absurd h q
/-- a shared dict, a shared instance as an owned one -/
theorem Rep.ownD {W : Wo} {ks vs : List D} {v : V} (h : Rep K mg W (.dct ks vs) v) : ∃ a, v = .ref a ∧ Own K mg W (.dct ks vs) a ∧ ¬ W.M a := by
  unfold Rep at h
  obtain ⟨a, o, L, e, s, n, k1, k2, r1, r2⟩ := h
  exact ⟨a, e, ⟨o, L, s, k1, k2, r1, r2⟩, n⟩
theorem Rep.ownI {W : Wo} {c : Str} {ns : List Str} {vs : List D} {v : V} (h : Rep K mg W (.ins c ns vs) v) : ∃ a, v = .ref a ∧ Own K mg W (.ins c ns vs) a ∧ ¬ W.M a := by
  unfold Rep at h
  obtain ⟨a, C, dx, fs, e, m, s, n, k, r⟩ := h
  exact ⟨a, e, ⟨C, dx, fs, m, s, k, r⟩, n⟩
theorem RW.po (p : Po K mg Mo H0 L0 L H ρ σ Mo1 L1 H1 st1) {d : D} {v : V} (h : RW K mg (wo Mo L H ρ σ) d v) : RW K mg (wo Mo1 L1 H1 ρ σ) d v := by
  unfold RW at h ⊢
  split at h
  · obtain ⟨a, vs, e, s, n, r⟩ := h
    have s : H a = some (.lst vs) := s
    refine ⟨a, vs, e, p.ex a _ s n, fun m => ?_, RepL.le p.le _ _ r⟩
    have hn := p.nw a m n
    rw [hn] at s; cases s
  · obtain ⟨a, e, s, n⟩ := h
    refine ⟨a, e, s.le p.le fun o q => p.ex a o q n, fun m => ?_⟩
    obtain ⟨o, q, _⟩ := s.there
    have hn := p.nw a m n
    cases hn.symm.trans q
  · obtain ⟨a, e, s, n⟩ := h
    refine ⟨a, e, s.le p.le fun o q => p.ex a o q n, fun m => ?_⟩
    obtain ⟨o, q, _⟩ := s.there
    have hn := p.nw a m n
    cases hn.symm.trans q
  · exact Rep.le p.le _ _ h
theorem RWL.po (p : Po K mg Mo H0 L0 L H ρ σ Mo1 L1 H1 st1) : ∀ {ds : List D} {vs : List V}, RWL K mg (wo Mo L H ρ σ) ds vs → RWL K mg (wo Mo1 L1 H1 ρ σ) ds vs
  | [], _, h => by unfold RWL at h ⊢; exact h
  | x :: r, _, h => by
    unfold RWL at h ⊢
    obtain ⟨v, vr, e, h1, h2⟩ := h
    exact ⟨v, vr, e, h1.po p, RWL.po p h2⟩
theorem RW.of_rep {W : Wo} (hl : ∀ a ∈ W.L, W.M a) {d : D} {v : V} (h : Rep K mg W d v) : RW K mg W d v := by
  unfold RW
  split
  · unfold Rep at h
    obtain ⟨a, vs, e, s, n, r⟩ := h
    exact ⟨a, vs, e, s, fun m => n (hl a m), r⟩
  · obtain ⟨a, e, s, n⟩ := h.ownD
    exact ⟨a, e, s, fun m => n (hl a m)⟩
  · obtain ⟨a, e, s, n⟩ := h.ownI
    exact ⟨a, e, s, fun m => n (hl a m)⟩
  · exact h
theorem wo_L {a : Addr} (h : a ∈ (wo Mo L H ρ σ).L) : (wo Mo L H ρ σ).M a := .inr (.inl h)
/-- a fresh value is let go: it is shared; a name's own is read -/
theorem Po.share {d : D} {k : Kd} {v : V} (p : Po K mg Mo H0 L0 L H ρ σ (addF Mo k v) L1 H1 st1) (rv : RV K mg (wo (addF Mo k v) L1 H1 ρ σ) ρ σ d k v) (fr : k = .fr → ∀ a, v = .ref a → H a = none) (r0 : Rl K mg Mo H0 L0 L H ρ σ st) (hk : k ≠ .wk) :
    Po K mg Mo H0 L0 L H ρ σ Mo L1 H1 st1 ∧ Rep K mg (wo Mo L1 H1 ρ σ) d v := by
  cases k with
  | sh => exact ⟨p, rv⟩
  | wk => exact absurd rfl hk
  | fr =>
    obtain ⟨a, rfl, o⟩ := rv
    have na : ¬ Mo a := fun m => r0.mt a m (fr rfl a rfl)
    have p : Po K mg Mo H0 L0 L H ρ σ (ad Mo a) L1 H1 st1 := p
    have o : Own K mg (wo (ad Mo a) L1 H1 ρ σ) d a := o
    obtain ⟨r1, l1⟩ := p.rl.fewer (Mo' := Mo) fun b m => .inl m
    have n1 : ¬ Mt Mo L1 ρ σ a := p.rl.out na
    exact ⟨⟨r1, p.le.trans l1, p.ex, p.nw⟩, o.rep l1 rfl n1⟩
theorem Po.read {d : D} {k : Kd} {v : V} (p : Po K mg Mo H0 L0 L H ρ σ (addF Mo k v) L1 H1 st1) (rv : RV K mg (wo (addF Mo k v) L1 H1 ρ σ) ρ σ d k v) (fr : k = .fr → ∀ a, v = .ref a → H a = none) (r0 : Rl K mg Mo H0 L0 L H ρ σ st) :
    Po K mg Mo H0 L0 L H ρ σ Mo L1 H1 st1 ∧ RW K mg (wo Mo L1 H1 ρ σ) d v := by
  by_cases hk : k = .wk
  · subst hk
    refine ⟨p, ?_⟩
    obtain ⟨i, a, rfl, e1, e2⟩ := rv
    have p : Po K mg Mo H0 L0 L H ρ σ Mo L1 H1 st1 := p
    obtain ⟨b, e3, o⟩ := p.rl.slot i _ e1
    rw [e2] at e3
    cases e3
    have nl : a ∉ L1 := (p.rl.own i a ⟨d, e1, e2⟩).2.1
    cases d with
    | lst xs =>
      obtain ⟨vs, e4, r⟩ := o
      exact ⟨a, vs, rfl, e4, nl, r⟩
    | dct ks vs => exact ⟨a, rfl, o, nl⟩
    | ins c ns vs => exact ⟨a, rfl, o, nl⟩
    | _ => exact o.elim
  · obtain ⟨p', r'⟩ := p.share rv fr r0 hk
    exact ⟨p', RW.of_rep (fun a m => wo_L m) r'⟩
/-- reading -/
theorem RW.int {W : Wo} {i : Int} {v : V} (h : RW K mg W (.int i) v) : v = .int i := by unfold RW Rep at h; exact h
theorem RW.bl {W : Wo} {i : Bool} {v : V} (h : RW K mg W (.bl i) v) : v = .bl i := by unfold RW Rep at h; exact h
theorem RW.str {W : Wo} {i : Str} {v : V} (h : RW K mg W (.str i) v) : v = .str i := by unfold RW Rep at h; exact h
theorem RW.non {W : Wo} {v : V} (h : RW K mg W .non v) : v = .non := by unfold RW Rep at h; exact h
theorem RW.lst {W : Wo} {xs : List D} {v : V} (h : RW K mg W (.lst xs) v) : ∃ a vs, v = .ref a ∧ W.H a = some (.lst vs) ∧ RepL K mg W xs vs := by
  unfold RW at h
  obtain ⟨a, vs, e, s, _, r⟩ := h
  exact ⟨a, vs, e, s, r⟩
theorem RW.scr {W : Wo} {ns : List Int} {v : V} (h : RW K mg W (.scr ns) v) : ∃ a, v = .ref a ∧ SqL K W.H a (ns.map V.int) := by
  unfold RW Rep at h
  obtain ⟨a, e, s, _⟩ := h
  exact ⟨a, e, s⟩
theorem RW.tup {W : Wo} {xs : List D} {v : V} (h : RW K mg W (.tup xs) v) : ∃ a vs, v = .ref a ∧ SqT K W.H a vs ∧ ¬ W.M a ∧ RepL K mg W xs vs := by
  unfold RW Rep at h
  exact h
theorem RW.dct {W : Wo} {ks vs : List D} {v : V} (h : RW K mg W (.dct ks vs) v) : ∃ a, v = .ref a ∧ Own K mg W (.dct ks vs) a ∧ a ∉ W.L := by unfold RW at h; exact h
theorem RW.ins {W : Wo} {c : Str} {ns : List Str} {vs : List D} {v : V} (h : RW K mg W (.ins c ns vs) v) : ∃ a, v = .ref a ∧ Own K mg W (.ins c ns vs) a ∧ a ∉ W.L := by unfold RW at h; exact h
theorem RW.dp {W : Wo} {d : D} {v : V} (q : d.pl = true) (h : RW K mg W d v) : Dp K W.H v d.py := by
  unfold RW at h
  split at h
  · obtain ⟨a, vs, rfl, s, _, r⟩ := h
    unfold D.pl at q
    unfold D.py
    exact .lst (.of s) (RepL.dp _ vs q r)
  · unfold D.pl at q; cases q
  · unfold D.pl at q; cases q
  · exact Rep.dp _ v q h
theorem RepL.rwl {W : Wo} (hl : ∀ a ∈ W.L, W.M a) : ∀ {ds : List D} {vs : List V}, RepL K mg W ds vs → RWL K mg W ds vs
  | [], _, h => by unfold RepL at h; unfold RWL; exact h
  | x :: r, _, h => by
    obtain ⟨v, vr, e, h1, h2⟩ := h.uncons
    unfold RWL
    exact ⟨v, vr, e, RW.of_rep hl h1, RepL.rwl hl h2⟩
end

/-! ### what is asked of an expression -/
def ExQ (K : PySem.W.Frag) (mg : Str → Option Value) (Mo : Addr → Prop) (H0 : Hp) (L0 L : List Addr) (H : Hp) (ρ : List Sl) (σ : L2.St) (Wx : WX) (e : Ex) (st' : Store) : Prop :=
  ∀ cls dd L' H', Po K mg Mo H0 L0 L H ρ σ Mo L' H' st' → ExR K mg (wo Mo L' H' ρ σ) e cls dd → Wx cls dd σ H'
def OkV (K : PySem.W.Frag) (mg : Str → Option Value) (Mo : Addr → Prop) (H0 : Hp) (L0 L : List Addr) (H : Hp) (ρ : List Sl) (σ : L2.St) (Q : VK) (x : DK) (st' : Store) : Prop :=
  ∀ v L' H', Po K mg Mo H0 L0 L H ρ σ (addF Mo x.2 v) L' H' st' → RV K mg (wo (addF Mo x.2 v) L' H' ρ σ) ρ σ x.1 x.2 v → (x.2 = .fr → ∀ a, v = .ref a → H a = none) → Q v H'
def tM (K : PySem.W.Frag) (mg : Str → Option Value) (Wx : WX) (m : List Sl → M DK) : TE := fun σ H Q => ∃ Mo H0 L0 L ρ st, Rl K mg Mo H0 L0 L H ρ σ st ∧ Out (m ρ st) (OkV K mg Mo H0 L0 L H ρ σ Q) (ExQ K mg Mo H0 L0 L H ρ σ Wx)
def tMB (K : PySem.W.Frag) (mg : Str → Option Value) (Wx : WX) (m : List Sl → M Bool) : TT := fun σ H Q => ∃ Mo H0 L0 L ρ st, Rl K mg Mo H0 L0 L H ρ σ st ∧
  Out (m ρ st) (fun b st' => ∀ L' H', Po K mg Mo H0 L0 L H ρ σ Mo L' H' st' → Q b H') (ExQ K mg Mo H0 L0 L H ρ σ Wx)
def tML (K : PySem.W.Frag) (mg : Str → Option Value) (Wx : WX) (m : List Sl → M (List D)) : TA := fun σ H Q => ∃ Mo H0 L0 L ρ st, Rl K mg Mo H0 L0 L H ρ σ st ∧
  Out (m ρ st) (fun xs st' => ∀ vs L' H', Po K mg Mo H0 L0 L H ρ σ Mo L' H' st' → RepL K mg (wo Mo L' H' ρ σ) xs vs → Q vs H') (ExQ K mg Mo H0 L0 L H ρ σ Wx)
def tMW (K : PySem.W.Frag) (mg : Str → Option Value) (Wx : WX) (m : List Sl → M (List D)) : TA := fun σ H Q => ∃ Mo H0 L0 L ρ st, Rl K mg Mo H0 L0 L H ρ σ st ∧
  Out (m ρ st) (fun xs st' => ∀ vs L' H', Po K mg Mo H0 L0 L H ρ σ Mo L' H' st' → RWL K mg (wo Mo L' H' ρ σ) xs vs → Q vs H') (ExQ K mg Mo H0 L0 L H ρ σ Wx)
section
variable {K : PySem.W.Frag} {mg : Str → Option Value} {Mo Mo1 : Addr → Prop} {H0 H H1 : Hp} {L0 L L1 : List Addr} {ρ : List Sl} {σ : L2.St} {st st1 : Store} {Wx : WX} {Q : VK}
theorem ExQ.from (p : Po K mg Mo H0 L0 L H ρ σ Mo L1 H1 st1) {e : Ex} {st' : Store} (h : ExQ K mg Mo H0 L0 L H ρ σ Wx e st') : ExQ K mg Mo H0 L0 L1 H1 ρ σ Wx e st' :=
  fun cls dd L' H' q x => h cls dd L' H' (p.trans q) x
theorem OkV.from (p : Po K mg Mo H0 L0 L H ρ σ Mo L1 H1 st1) {x : DK} {st' : Store} (h : OkV K mg Mo H0 L0 L H ρ σ Q x st') : OkV K mg Mo H0 L0 L1 H1 ρ σ Q x st' :=
  fun v L' H' q rv fr => h v L' H' (p.trans q) rv fun k a e => p.untr (fr k a e)
/-- an expression that is read -/
theorem tM_rd {m : List Sl → M DK} (r : Rl K mg Mo H0 L0 L H ρ σ st) (h : Out (m ρ st) (fun x st' => ∀ v L' H', Po K mg Mo H0 L0 L H ρ σ Mo L' H' st' → RW K mg (wo Mo L' H' ρ σ) x.1 v → Q v H') (ExQ K mg Mo H0 L0 L H ρ σ Wx)) : tM K mg Wx m σ H Q :=
  ⟨Mo, H0, L0, L, ρ, st, r, h.imp (fun x st' q v L' H' p rv fr => let ⟨p', w⟩ := p.read rv fr r; q v L' H' p' w) fun _ _ q => q⟩
/-- an expression that is handed on -/
theorem tM_sh {m : List Sl → M DK} (r : Rl K mg Mo H0 L0 L H ρ σ st) (h : Out (m ρ st) (fun x st' => x.2 ≠ .wk ∧ ∀ v L' H', Po K mg Mo H0 L0 L H ρ σ Mo L' H' st' → Rep K mg (wo Mo L' H' ρ σ) x.1 v → Q v H') (ExQ K mg Mo H0 L0 L H ρ σ Wx)) : tM K mg Wx m σ H Q :=
  ⟨Mo, H0, L0, L, ρ, st, r, h.imp (fun x st' q v L' H' p rv fr => let ⟨p', w⟩ := p.share rv fr r q.1; q.2 v L' H' p' w) fun _ _ q => q⟩
/-- the answers of a run -/
theorem OkV.sh {x : D} {st' : Store} (h : OkV K mg Mo H0 L0 L H ρ σ Q (x, .sh) st') {v : V} (p : Po K mg Mo H0 L0 L H ρ σ Mo L1 H1 st') (rv : Rep K mg (wo Mo L1 H1 ρ σ) x v) : Q v H1 := h v L1 H1 p rv fun z => by cases z
theorem OkV.int {i : Int} (h : OkV K mg Mo H0 L0 L H ρ σ Q (.int i, .sh) st) (r : Rl K mg Mo H0 L0 L H ρ σ st) : Q (.int i) H := h.sh (Po.refl r) (by unfold Rep; rfl)
theorem OkV.bl {i : Bool} (h : OkV K mg Mo H0 L0 L H ρ σ Q (.bl i, .sh) st) (r : Rl K mg Mo H0 L0 L H ρ σ st) : Q (.bl i) H := h.sh (Po.refl r) (by unfold Rep; rfl)
theorem OkV.str {i : Str} (h : OkV K mg Mo H0 L0 L H ρ σ Q (.str i, .sh) st) (r : Rl K mg Mo H0 L0 L H ρ σ st) : Q (.str i) H := h.sh (Po.refl r) (by unfold Rep; rfl)
theorem OkV.non (h : OkV K mg Mo H0 L0 L H ρ σ Q (.non, .sh) st) (r : Rl K mg Mo H0 L0 L H ρ σ st) : Q .non H := h.sh (Po.refl r) (by unfold Rep; rfl)
theorem Po.laid (r : Rl K mg Mo H0 L0 L H ρ σ st) {p : Addr} {o : HO} (hp : H p = none) (kf : ∀ a ob, K.lookup a = some ob → upd H p o a = none) : Po K mg Mo H0 L0 L H ρ σ Mo L (upd H p o) st := by
  obtain ⟨r', l⟩ := r.laid hp kf
  exact ⟨r', l, fun b u e _ => by rw [upd_ne (ne_of_none e hp)]; exact e, fun b m n => absurd m n⟩
/-- a new tuple -/
theorem OkV.tup {xs : List D} {vs : List V} {p : Addr} (h : OkV K mg Mo H0 L0 L H ρ σ Q (.tup xs, .sh) st) (r : Rl K mg Mo H0 L0 L H ρ σ st) (rl : RepL K mg (wo Mo L H ρ σ) xs vs) (hp : H p = none) (kf : ∀ a ob, K.lookup a = some ob → upd H p (.tup vs) a = none) : Q (.ref p) (upd H p (.tup vs)) := by
  have q := Po.laid r hp kf
  refine h.sh q ?_
  unfold Rep
  exact ⟨p, vs, rfl, .inl (.inl upd_same), r.free hp, RepL.le q.le _ _ rl⟩
/-- a new list -/
theorem OkV.lst {xs : List D} {vs : List V} {p : Addr} (h : OkV K mg Mo H0 L0 L H ρ σ Q (.lst xs, .fr) st) (r : Rl K mg Mo H0 L0 L H ρ σ st) (rl : RepL K mg (wo Mo L H ρ σ) xs vs) (hp : H p = none) (kf : ∀ a ob, K.lookup a = some ob → upd H p (.lst vs) a = none) : Q (.ref p) (upd H p (.lst vs)) := by
  obtain ⟨r', l⟩ := r.laidF hp kf
  exact h (.ref p) L _ ⟨r', l, fun b u e _ => by rw [upd_ne (ne_of_none e hp)]; exact e, fun b m n => absurd m n⟩ ⟨p, rfl, vs, upd_same, RepL.le l _ _ rl⟩ fun _ a e => by cases e; exact hp
end
end PI
set_option Elab.async false
set_option linter.all false
set_option maxRecDepth 100000
set_option maxHeartbeats 4000000
/-! PIK: dicts as data and as the heap has them. -/
namespace PI
open PySem PySem.Spec PyProof.Rows L2 PD
/-! ### keys -/
theorem nkL_cons {x : D} {r : List D} {qs : List NestedKey} (h : nkL (x :: r) = some qs) : ∃ q qr, qs = q :: qr ∧ nkD x = some q ∧ nkL r = some qr := by
  unfold nkL at h
  cases h1 : nkD x with
  | none => rw [h1] at h; cases h
  | some q =>
    cases h2 : nkL r with
    | none => rw [h1, h2] at h; cases h
    | some qr =>
      rw [h1, h2] at h
      cases h
      exact ⟨q, qr, rfl, rfl, rfl⟩
theorem nkL_at : ∀ {ks : List D} {qs : List NestedKey}, nkL ks = some qs → ks.length = qs.length ∧ ∀ i : Nat, (ks[i]?).bind nkD = qs[i]?
  | [], qs, h => by
    unfold nkL at h
    cases h
    exact ⟨rfl, fun i => by simp⟩
  | x :: r, qs, h => by
    obtain ⟨q, qr, rfl, h1, h2⟩ := nkL_cons h
    obtain ⟨l, e⟩ := nkL_at h2
    refine ⟨by simp [l], fun i => ?_⟩
    cases i with
    | zero => simpa using h1
    | succ i => simpa using e i
theorem nkL_app {ks : List D} {qs : List NestedKey} (h : nkL ks = some qs) {k : D} {q : NestedKey} (e : nkD k = some q) : nkL (ks ++ [k]) = some (qs ++ [q]) := by
  induction ks generalizing qs with
  | nil =>
    unfold nkL at h
    cases h
    show (match nkD k, nkL [] with | some k, some ks => some (k :: ks) | _, _ => none) = _
    rw [e]
    unfold nkL
    rfl
  | cons x r ih =>
    obtain ⟨q', qr, rfl, h1, h2⟩ := nkL_cons h
    show nkL (x :: (r ++ [k])) = _
    unfold nkL
    rw [h1, ih h2]
    rfl
theorem nkL_erase {ks : List D} {qs : List NestedKey} (h : nkL ks = some qs) (i : Nat) : nkL (ks.eraseIdx i) = some (qs.eraseIdx i) := by
  induction ks generalizing qs i with
  | nil =>
    unfold nkL at h
    cases h
    rfl
  | cons x r ih =>
    obtain ⟨q', qr, rfl, h1, h2⟩ := nkL_cons h
    cases i with
    | zero => exact h2
    | succ i =>
      show nkL (x :: r.eraseIdx i) = _
      unfold nkL
      rw [h1, ih h2 i]
      rfl
theorem idxK_eq {ks : List D} {qs : List NestedKey} (h : nkL ks = some qs) (q : NestedKey) : idxK ks q = qs.findIdx? fun y => decide (y = q) := by
  unfold idxK
  induction ks generalizing qs with
  | nil =>
    unfold nkL at h
    cases h
    rfl
  | cons x r ih =>
    obtain ⟨q', qr, rfl, h1, h2⟩ := nkL_cons h
    rw [List.findIdx?_cons, List.findIdx?_cons, ih h2, h1]
    have : decide (some q' = some q) = decide (q' = q) := by
      by_cases e : q' = q
      · simp [e]
      · simp [e]
    rw [this]
section
variable {K : PySem.W.Frag} {mg : Str → Option Value} {W W' : Wo}
mutual
theorem Rep.nk : ∀ (d : D) {v : V} {q : NestedKey}, Rep K mg W d v → nkD d = some q → NK K W.H q v
  | .int i, v, q, h, e => by
    unfold Rep at h
    unfold nkD at e
    cases e
    subst h
    exact .num i
  | .tup xs, v, q, h, e => by
    unfold Rep at h
    unfold nkD at e
    obtain ⟨a, vs, rfl, s, n, r⟩ := h
    cases h1 : nkL xs with
    | none => rw [h1] at e; cases e
    | some qs =>
      rw [h1] at e
      cases e
      obtain ⟨l, hh⟩ := RepL.nk xs r h1
      exact .tup s l hh
  | .non, _, _, _, e => by unfold nkD at e; cases e
  | .bl _, _, _, _, e => by unfold nkD at e; cases e
  | .str _, _, _, _, e => by unfold nkD at e; cases e
  | .lst _, _, _, _, e => by unfold nkD at e; cases e
  | .dct _ _, _, _, _, e => by unfold nkD at e; cases e
  | .ins _ _ _, _, _, _, e => by unfold nkD at e; cases e
  | .fn _, _, _, _, e => by unfold nkD at e; cases e
  | .obj _, _, _, _, e => by unfold nkD at e; cases e
  | .scr _, _, _, _, e => by unfold nkD at e; cases e
theorem RepL.nk : ∀ (ds : List D) {vs : List V} {qs : List NestedKey}, RepL K mg W ds vs → nkL ds = some qs → qs.length = vs.length ∧ ∀ (i : Nat) (k : NestedKey) (v : V), qs[i]? = some k → vs[i]? = some v → NK K W.H k v
  | [], vs, qs, h, e => by
    unfold RepL at h
    unfold nkL at e
    cases e
    subst h
    exact ⟨rfl, fun i k v h => by simp at h⟩
  | x :: r, vs, qs, h, e => by
    obtain ⟨v, vr, rfl, h1, h2⟩ := h.uncons
    obtain ⟨q, qr, rfl, e1, e2⟩ := nkL_cons e
    obtain ⟨l, hh⟩ := RepL.nk r h2 e2
    refine ⟨by simp [l], fun i k u a b => ?_⟩
    cases i with
    | zero =>
      simp only [List.getElem?_cons_zero, Option.some.injEq] at a b
      subst a b
      exact Rep.nk x h1 e1
    | succ i => exact hh i k u (by simpa using a) (by simpa using b)
end
end
/-! ### entries by their place -/
def ix (L : List En) (q : NestedKey) : Option Nat := L.findIdx? fun x => decide (x.1 = q)
theorem ix_keys (L : List En) (q : NestedKey) : ((L.map (·.1)).findIdx? fun y => decide (y = q)) = ix L q := by
  unfold ix
  rw [List.findIdx?_map]
  rfl
theorem fnd_ix (L : List En) (q : NestedKey) : fnd L q = (ix L q).bind fun i => (L[i]?).map (·.2.2) := by
  unfold fnd ix
  induction L with
  | nil => rfl
  | cons x r ih =>
    rw [List.find?_cons, List.findIdx?_cons]
    by_cases e : x.1 = q
    · simp [e]
    · simp only [e, decide_false]
      rw [ih]
      cases List.findIdx? (fun x : En => decide (x.1 = q)) r <;> rfl
theorem has_ix (L : List En) (q : NestedKey) : has L q = (ix L q).isSome := by
  rw [has_fnd, fnd_ix]
  cases h : ix L q with
  | none => rfl
  | some i =>
    have := (List.findIdx?_eq_some_iff_findIdx_eq.mp h).1
    simp [List.getElem?_eq_getElem this]
theorem ix_lt {L : List En} {q : NestedKey} {i : Nat} (h : ix L q = some i) : i < L.length ∧ ∀ x, L[i]? = some x → x.1 = q := by
  unfold ix at h
  obtain ⟨h1, h2, _⟩ := List.findIdx?_eq_some_iff_getElem.mp h
  refine ⟨h1, fun x hx => ?_⟩
  rw [List.getElem?_eq_getElem h1] at hx
  cases hx
  exact of_decide_eq_true h2
theorem uniq {L : List En} (nd : (L.map (·.1)).Nodup) {i j : Nat} {x y : En} (hi : L[i]? = some x) (hj : L[j]? = some y) (e : x.1 = y.1) : i = j := by
  have hi' : (L.map (·.1))[i]? = some x.1 := by rw [List.getElem?_map, hi]; rfl
  have hj' : (L.map (·.1))[j]? = some x.1 := by rw [List.getElem?_map, hj, e]; rfl
  exact (List.getElem?_inj (List.getElem?_eq_some_iff.mp hi').1 nd).mp (hi'.trans hj'.symm)
theorem put_some {L : List En} (nd : (L.map (·.1)).Nodup) {q : NestedKey} {i : Nat} (h : ix L q = some i) (kv v : V) :
    (put L q kv v).map (·.1) = L.map (·.1) ∧ (put L q kv v).map (·.2.1) = L.map (·.2.1) ∧ (put L q kv v).map (·.2.2) = (L.map (·.2.2)).set i v := by
  have hp : put L q kv v = L.map fun x => if x.1 = q then (x.1, x.2.1, v) else x := by
    unfold put
    rw [has_ix, h]
    rfl
  rw [hp, List.map_map, List.map_map, List.map_map]
  refine ⟨?_, ?_, ?_⟩
  · apply List.map_congr_left
    intro x _
    dsimp only [Function.comp]
    split <;> rfl
  · apply List.map_congr_left
    intro x _
    dsimp only [Function.comp]
    split <;> rfl
  · apply List.ext_getElem?
    intro j
    obtain ⟨hi, he⟩ := ix_lt h
    rw [List.getElem?_map]
    by_cases e : j = i
    · subst e
      rw [List.getElem?_set_self (by simpa using hi), List.getElem?_eq_getElem hi]
      have := he _ (List.getElem?_eq_getElem hi)
      simp [this]
    · rw [List.getElem?_set_ne (Ne.symm e), List.getElem?_map]
      cases hj : L[j]? with
      | none => rfl
      | some x =>
        have : x.1 ≠ q := fun z => e (uniq nd hj (List.getElem?_eq_getElem hi) (z.trans (he _ (List.getElem?_eq_getElem hi)).symm))
        simp [this]
theorem put_none {L : List En} {q : NestedKey} (h : ix L q = none) (kv v : V) : put L q kv v = L ++ [(q, kv, v)] := by
  unfold put
  rw [has_ix, h]
  rfl
theorem del_ix {L : List En} (nd : (L.map (·.1)).Nodup) {q : NestedKey} {i : Nat} (h : ix L q = some i) : PD.del L q = L.eraseIdx i := by
  unfold PD.del ix at *
  induction L generalizing i with
  | nil => cases h
  | cons x r ih =>
    rw [List.map_cons, List.nodup_cons] at nd
    rw [List.findIdx?_cons] at h
    by_cases e : x.1 = q
    · simp only [e, decide_true, if_true] at h
      cases h
      rw [List.filter_cons]
      simp only [e, ne_eq, not_true_eq_false, decide_false, Bool.false_eq_true, if_false, List.eraseIdx_cons_zero]
      rw [List.filter_eq_self]
      intro y hy
      apply decide_eq_true
      intro z
      exact nd.1 (List.mem_map.mpr ⟨y, hy, z.trans e.symm⟩)
    · simp only [e, decide_false, Bool.false_eq_true, if_false] at h
      obtain ⟨j, hj, rfl⟩ := Option.map_eq_some_iff.mp h
      rw [List.filter_cons]
      simp only [e, ne_eq, not_false_eq_true, decide_true, if_true, List.eraseIdx_cons_succ]
      rw [ih nd.2 hj]
/-! ### kinds -/
theorem kind_cons {q : NestedKey} {qs : List NestedKey} (h : kindOk (q :: qs) = true) : kindOk qs = true := by
  unfold kindOk at *
  simp only [List.all_cons, Bool.or_eq_true, Bool.and_eq_true] at *
  rcases h with h | h
  · exact .inl h.2
  · exact .inr h.2
theorem kind_app {q : NestedKey} {qs : List NestedKey} (h : kindOk (q :: qs) = true) : kindOk (qs ++ [q]) = true := by
  unfold kindOk at *
  simp only [List.all_cons, List.all_append, List.all_nil, Bool.or_eq_true, Bool.and_eq_true, Bool.and_true] at *
  rcases h with h | h
  · exact .inl ⟨h.2, h.1⟩
  · exact .inr ⟨h.2, h.1⟩
theorem kind_erase {qs : List NestedKey} (h : kindOk qs = true) (i : Nat) : kindOk (qs.eraseIdx i) = true := by
  unfold kindOk at *
  rw [Bool.or_eq_true, List.all_eq_true, List.all_eq_true] at *
  rcases h with h | h
  · exact .inl fun x hx => h x (List.mem_of_mem_eraseIdx hx)
  · exact .inr fun x hx => h x (List.mem_of_mem_eraseIdx hx)
theorem kinds {K : PySem.W.Frag} {H : Hp} {L : List En} (nk : ∀ x ∈ L, NK K H x.1 x.2.1) (k : kindOk (L.map (·.1)) = true) : AllI L ∨ AllT K H L := by
  unfold kindOk at k
  rw [Bool.or_eq_true, List.all_eq_true, List.all_eq_true] at k
  rcases k with k | k
  · refine .inl fun x hx => ?_
    have h1 := k x.1 (List.mem_map.mpr ⟨x, hx, rfl⟩)
    have h2 := nk x hx
    obtain ⟨q, kv, v⟩ := x
    dsimp only at h1 h2 ⊢
    cases h2 with
    | num i => exact ⟨i, rfl, rfl⟩
    | tup => cases h1
  · refine .inr fun x hx => ?_
    have h1 := k x.1 (List.mem_map.mpr ⟨x, hx, rfl⟩)
    have h2 := nk x hx
    rw [Bool.and_eq_true] at h1
    refine ⟨?_, h2, of_decide_eq_true h1.2⟩
    obtain ⟨q, kv, v⟩ := x
    dsimp only at h1 h2 ⊢
    cases h2 with
    | num i => exact absurd h1.1 (by simp [isNum])
    | tup => exact ⟨_, rfl⟩
theorem ky_of {K : PySem.W.Frag} {H : Hp} {L : List En} {q : NestedKey} {kv : V} (nk : ∀ x ∈ L, NK K H x.1 x.2.1) (hq : NK K H q kv) (k : kindOk (q :: L.map (·.1)) = true) : Ky K H L q kv := by
  have := kinds (L := (q, kv, kv) :: L) (fun x hx => by
    rcases List.mem_cons.mp hx with rfl | hx
    · exact hq
    · exact nk x hx) k
  rcases this with a | a
  · obtain ⟨i, e1, e2⟩ := a (q, kv, kv) (by simp)
    exact .inl ⟨i, e1, e2, fun x hx => a x (by simp [hx])⟩
  · obtain ⟨⟨ks, e1⟩, e2, e3⟩ := a (q, kv, kv) (by simp)
    dsimp only at e1 e2 e3
    subst e1
    cases e2 with
    | tup s l h => exact .inr ⟨ks, _, rfl, rfl, .tup s l h, e3, fun x hx => a x (by simp [hx])⟩
/-! ### an owned dict -/
section
variable {K : PySem.W.Frag} {mg : Str → Option Value} {W W' : Wo} {ks vs ks' vs' : List D} {a : Addr} {k v : D} {kv vv : V}
/-- a dict's entries in the heap -/
structure DctR (K : PySem.W.Frag) (mg : Str → Option Value) (W : Wo) (ks vs : List D) (a : Addr) (o : Obj) (L : List En) : Prop where
  at' : DcA W.H a o L
  nk : nkL ks = some (L.map (·.1))
  kd : kindOk (L.map (·.1)) = true
  rk : RepL K mg W ks (L.map (·.2.1))
  rv : RepL K mg W vs (L.map (·.2.2))
theorem Own.dct (h : Own K mg W (.dct ks vs) a) : ∃ o L, DctR K mg W ks vs a o L := by
  obtain ⟨o, L, h1, h2, h3, h4, h5⟩ := h
  exact ⟨o, L, h1, h2, h3, h4, h5⟩
theorem DctR.own {o : Obj} {L : List En} (h : DctR K mg W ks vs a o L) : Own K mg W (.dct ks vs) a := ⟨o, L, h.at', h.nk, h.kd, h.rk, h.rv⟩
theorem DctR.keys {o : Obj} {L : List En} (h : DctR K mg W ks vs a o L) : ∀ x ∈ L, NK K W.H x.1 x.2.1 := fun x hx => by
  obtain ⟨i, hi, e⟩ := List.mem_iff_getElem.mp hx
  obtain ⟨_, hh⟩ := RepL.nk ks h.rk h.nk
  refine hh i x.1 x.2.1 ?_ ?_
  · rw [List.getElem?_map, List.getElem?_eq_getElem hi, e]; rfl
  · rw [List.getElem?_map, List.getElem?_eq_getElem hi, e]; rfl
theorem DctR.both {o : Obj} {L : List En} (h : DctR K mg W ks vs a o L) : AllI L ∨ AllT K W.H L := kinds h.keys h.kd
theorem DctR.len {o : Obj} {L : List En} (h : DctR K mg W ks vs a o L) : ks.length = L.length ∧ vs.length = L.length := by
  have h1 := h.rk.length
  have h2 := h.rv.length
  rw [List.length_map] at h1 h2
  exact ⟨h1.symm, h2.symm⟩
theorem DctR.le {o : Obj} {L : List En} (l : Le K W W') (h : DctR K mg W ks vs a o L) (e : ∀ o, W.H a = some o → W'.H a = some o) : DctR K mg W' ks vs a o L :=
  ⟨⟨h.at'.1, e _ h.at'.2.1, h.at'.2.2⟩, h.nk, h.kd, RepL.le l _ _ h.rk, RepL.le l _ _ h.rv⟩
theorem keyIn_ok {q : NestedKey} (h : keyIn ks k = some q) : nkD k = some q ∧ ∃ qs, nkL ks = some qs ∧ kindOk (q :: qs) = true := by
  unfold keyIn at h
  cases h1 : nkD k with
  | none => rw [h1] at h; cases h
  | some q' =>
    cases h2 : nkL ks with
    | none => rw [h1, h2] at h; cases h
    | some qs =>
      rw [h1, h2] at h
      dsimp only at h
      split at h
      · rename_i hk
        cases h
        exact ⟨rfl, qs, rfl, hk⟩
      · cases h
theorem DctR.ky {o : Obj} {L : List En} (h : DctR K mg W ks vs a o L) {q : NestedKey} (hq : keyIn ks k = some q) (rk : Rep K mg W k kv) : Ky K W.H L q kv ∧ idxK ks q = ix L q := by
  obtain ⟨h1, qs, h2, h3⟩ := keyIn_ok hq
  rw [h.nk] at h2
  cases h2
  exact ⟨ky_of h.keys (Rep.nk k rk h1) h3, by rw [idxK_eq h.nk, ix_keys]⟩
theorem DctR.get {o : Obj} {L : List En} (h : DctR K mg W ks vs a o L) (rk : Rep K mg W k kv) (e : getD ks vs k = some v) : ∃ q vv, Ky K W.H L q kv ∧ fnd L q = some vv ∧ Rep K mg W v vv := by
  unfold getD at e
  cases hq : keyIn ks k with
  | none => rw [hq] at e; cases e
  | some q =>
    rw [hq] at e
    obtain ⟨ky, hi⟩ := h.ky hq rk
    rw [Option.bind_some, hi] at e
    cases hx : ix L q with
    | none => rw [hx] at e; cases e
    | some i =>
      rw [hx, Option.bind_some] at e
      obtain ⟨vv, e1, e2⟩ := h.rv.get e
      refine ⟨q, vv, ky, ?_, e2⟩
      rw [fnd_ix, hx, Option.bind_some]
      rw [List.getElem?_map] at e1
      exact e1
theorem DctR.has {o : Obj} {L : List En} (h : DctR K mg W ks vs a o L) (rk : Rep K mg W k kv) {b : Bool} (e : hasD ks k = some b) : ∃ q, Ky K W.H L q kv ∧ b = PD.has L q := by
  unfold hasD at e
  cases hq : keyIn ks k with
  | none => rw [hq] at e; cases e
  | some q =>
    rw [hq] at e
    obtain ⟨ky, hi⟩ := h.ky hq rk
    rw [Option.map_some, hi] at e
    cases e
    exact ⟨q, ky, by rw [has_ix]⟩
theorem DctR.put {o : Obj} {L : List En} (h : DctR K mg W ks vs a o L) (rk : Rep K mg W k kv) (rv : Rep K mg W v vv) {p : List D × List D} (e : putD ks vs k v = some p) :
    ∃ q, Ky K W.H L q kv ∧ L.length < sizeLine ∧ ∀ W' o', Le K W W' → W'.H a = some (DX a o') → Dc o' (PD.put L q kv vv) → DctR K mg W' p.1 p.2 a o' (PD.put L q kv vv) := by
  unfold putD at e
  cases hq : keyIn ks k with
  | none => rw [hq] at e; cases e
  | some q =>
    rw [hq] at e
    obtain ⟨ky, hi⟩ := h.ky hq rk
    obtain ⟨h1, qs, h2, h3⟩ := keyIn_ok hq
    have hqs : qs = L.map (·.1) := by rw [h.nk] at h2; cases h2; rfl
    subst hqs
    rw [Option.bind_some, hi] at e
    have hsz := h.at'.2.2.sz
    have hlen := h.len.1
    split at e
    · rename_i hlt
      have hlt' : L.length < sizeLine := by rw [sizeLine_eq]; omega
      cases hx : ix L q with
      | some i =>
        rw [hx] at e
        cases e
        obtain ⟨p1, p2, p3⟩ := put_some h.at'.2.2.nd hx kv vv
        refine ⟨q, ky, hlt', fun W' o' l e c => ⟨⟨h.at'.1, e, c⟩, by rw [p1]; exact h.nk, by rw [p1]; exact h.kd, by rw [p2]; exact RepL.le l _ _ h.rk, ?_⟩⟩
        rw [p3]
        exact RepL.set (Rep.le l _ _ rv) i (RepL.le l _ _ h.rv)
      | none =>
        rw [hx] at e
        cases e
        have p := put_none hx kv vv
        refine ⟨q, ky, hlt', fun W' o' l e c => ⟨⟨h.at'.1, e, c⟩, ?_, ?_, ?_, ?_⟩⟩
        · rw [p, List.map_append]; exact nkL_app h.nk h1
        · rw [p, List.map_append]; exact kind_app h3
        · rw [p, List.map_append]; exact (RepL.le l _ _ h.rk).append (.cons (Rep.le l _ _ rk) .nil)
        · rw [p, List.map_append]; exact (RepL.le l _ _ h.rv).append (.cons (Rep.le l _ _ rv) .nil)
    · cases e
theorem nk_of_in {q : NestedKey} (h : keyIn ks k = some q) : nkD k = some q := (keyIn_ok h).1
/-- a key is shared -/
theorem RW.key {k : D} {v : V} {q : NestedKey} (w : RW K mg W k v) (h : nkD k = some q) : Rep K mg W k v := by
  cases k <;> first | (unfold nkD at h; cases h; done) | (unfold RW at w; exact w)
theorem has_nk {b : Bool} (h : hasD ks k = some b) : ∃ q, nkD k = some q := by
  unfold hasD at h
  cases hq : keyIn ks k with
  | none => rw [hq] at h; cases h
  | some q => exact ⟨q, nk_of_in hq⟩
theorem get_nk (h : getD ks vs k = some v) : ∃ q, nkD k = some q := by
  unfold getD at h
  cases hq : keyIn ks k with
  | none => rw [hq] at h; cases h
  | some q => exact ⟨q, nk_of_in hq⟩
theorem put_nk {p : List D × List D} (h : putD ks vs k v = some p) : ∃ q, nkD k = some q := by
  unfold putD at h
  cases hq : keyIn ks k with
  | none => rw [hq] at h; cases h
  | some q => exact ⟨q, nk_of_in hq⟩
theorem pop_nk {p : D × List D × List D} (h : popD ks vs k = some p) : ∃ q, nkD k = some q := by
  unfold popD at h
  cases hq : keyIn ks k with
  | none => rw [hq] at h; cases h
  | some q => exact ⟨q, nk_of_in hq⟩
theorem RepL.erase {ds : List D} {us : List V} (h : RepL K mg W ds us) (i : Nat) : RepL K mg W (ds.eraseIdx i) (us.eraseIdx i) := by
  rw [List.eraseIdx_eq_take_drop_succ, List.eraseIdx_eq_take_drop_succ]
  exact (h.take i).append (h.drop (i + 1))
theorem DctR.pop {o : Obj} {L : List En} (h : DctR K mg W ks vs a o L) (rk : Rep K mg W k kv) (e : popD ks vs k = some (v, ks', vs')) :
    ∃ q vv, Ky K W.H L q kv ∧ fnd L q = some vv ∧ Rep K mg W v vv ∧ ∀ W' o', Le K W W' → W'.H a = some (DX a o') → Dc o' (PD.del L q) → DctR K mg W' ks' vs' a o' (PD.del L q) := by
  unfold popD at e
  cases hq : keyIn ks k with
  | none => rw [hq] at e; cases e
  | some q =>
    rw [hq] at e
    obtain ⟨ky, hi⟩ := h.ky hq rk
    rw [Option.bind_some, hi] at e
    cases hx : ix L q with
    | none => rw [hx] at e; cases e
    | some i =>
      rw [hx, Option.bind_some] at e
      obtain ⟨v', e1, e2⟩ := Option.map_eq_some_iff.mp e
      cases e2
      obtain ⟨vv, e3, e4⟩ := h.rv.get e1
      refine ⟨q, vv, ky, ?_, e4, fun W' o' l e c => ?_⟩
      · rw [fnd_ix, hx, Option.bind_some]
        rw [List.getElem?_map] at e3
        exact e3
      · have hd := del_ix h.at'.2.2.nd hx
        have em : ∀ {β : Type} (f : En → β), (L.eraseIdx i).map f = (L.map f).eraseIdx i := fun f => by
          rw [List.eraseIdx_eq_take_drop_succ, List.eraseIdx_eq_take_drop_succ, List.map_append, List.map_take, List.map_drop]
        refine ⟨⟨h.at'.1, e, c⟩, ?_, ?_, ?_, ?_⟩
        · rw [hd, em]; exact nkL_erase h.nk i
        · rw [hd, em]; exact kind_erase h.kd i
        · rw [hd, em]; exact RepL.erase (RepL.le l _ _ h.rk) i
        · rw [hd, em]; exact RepL.erase (RepL.le l _ _ h.rv) i
end
end PI
set_option Elab.async false
set_option linter.all false
set_option maxRecDepth 100000
set_option maxHeartbeats 4000000
/-! PI4: operators, comparisons, subscripts over data. -/
namespace PI
open PySem PySem.Spec PyProof.Rows L2
section
variable {X : Cx} {pins : List (Addr × Obj)} {σ : L2.St} {H : Hp} {s : Shared}
def KF (K : PySem.W.Frag) (H : Hp) : Prop := ∀ a o, K.lookup a = some o → H a = none
theorem kfI (I : Inv X pins σ H s) : KF X.K H := fun a o e => (I.bs a o (I.ok.mod.kin a o e)).2
theorem _root_.L2.PE.imp {e : Expr} {t t' : TE} (h : PE X e t) (i : ∀ σ H Q, t' σ H Q → t σ H Q) : PE X e t' := ⟨fun pins s σ H Q I q => h.run pins s σ H Q I (i σ H Q q)⟩
theorem _root_.L2.PT.imp {e : Expr} {t t' : TT} (h : PT X e t) (i : ∀ σ H Q, t' σ H Q → t σ H Q) : PT X e t' := ⟨fun pins s σ H Q I q => h.run pins s σ H Q I (i σ H Q q)⟩
theorem _root_.L2.PA.imp {e : List Expr} {t t' : TA} (h : PA X e t) (i : ∀ σ H Q, t' σ H Q → t σ H Q) : PA X e t' := ⟨fun pos pins s σ H Q I q => h.run pos pins s σ H Q I (i σ H Q q)⟩
theorem _root_.L2.PS.imp {st : Stmt} {t t' : TS} (h : PS X st t) (i : ∀ D σ H, t' D σ H → t D σ H) : PS X st t' := ⟨fun pins s σ H D I q => h.run pins s σ H D I (i D σ H q)⟩
theorem _root_.L2.PSs.imp {st : List Stmt} {t t' : TS} (h : PSs X st t) (i : ∀ D σ H, t' D σ H → t D σ H) : PSs X st t' := ⟨fun pins s σ H D I q => h.run pins s σ H D I (i D σ H q)⟩
theorem _root_.L2.PE.kf {e : Expr} {t : TE} (h : PE X e t) : PE X e (fun σ H Q => t σ H fun v H' => KF X.K H' → Q v H') :=
  ⟨fun pins s σ H Q I q => thn (h.run pins s σ H _ I q) fun u s' ⟨v, H', I', r, q'⟩ => ⟨v, H', I', r, q' (kfI I')⟩⟩
theorem opKf {f : Value → Value → Sem Value} {r : R2} (h : OpR X f r) : OpR X f (fun x y H Q => r x y H fun v H' => KF X.K H' → Q v H') :=
  fun pins s σ H x y v u Q I rx ry q => thn (h pins s σ H x y v u _ I rx ry q) fun u s' ⟨v, H', I', r, q'⟩ => ⟨v, H', I', r, q' (kfI I')⟩
theorem callKf {f : Value} {r : List V → Hp → VK → Prop} (h : CallR X f r) : CallR X f (fun xs H Q => r xs H fun v H' => KF X.K H' → Q v H') :=
  fun pins s σ H xs us Q I rx q => thn (h pins s σ H xs us _ I rx q) fun u s' ⟨v, H', I', r, q'⟩ => ⟨v, H', I', r, q' (kfI I')⟩
theorem lim_eq : lim = sizeLine := by rw [sizeLine_eq]; rfl
end

/-- a step of two values by f -/
def rB (K : PySem.W.Frag) (mg : Str → Option Value) (f : D → D → Option DK) : R2 := fun x y H Q => ∃ Mo H0 L0 L ρ σ st a b z,
  Rl K mg Mo H0 L0 L H ρ σ st ∧ RW K mg (wo Mo L H ρ σ) a x ∧ RW K mg (wo Mo L H ρ σ) b y ∧ f a b = some z ∧ OkV K mg Mo H0 L0 L H ρ σ Q z st
section
variable {X : Cx}
theorem foldl_cat (x : Array Nat) : ∀ (n : Nat) (acc : Array Nat), ((List.replicate n x).foldl (· ++ ·) acc).size = acc.size + n * x.size
  | 0, acc => by simp
  | n + 1, acc => by
    rw [List.replicate_succ, List.foldl_cons, foldl_cat x n, Array.size_append, Nat.succ_mul]
    omega
theorem op_B (op : Operator) (hu : X.A.units + 64 < cLine) : OpR X (binaryOp op) (rB X.K X.mg (opD op)) := by
  intro pins s σ H x y v u Q I rx ry h
  obtain ⟨Mo, H0, L0, L, ρ, σ', st, a, b, z, r, wa, wb, e, q⟩ := h
  unfold opD at e
  split at e
  · -- int + int
    cases e
    exact op_add pins s σ H x y v u Q I rx ry ⟨_, _, wa.int, wb.int, q.int r⟩
  · -- str + str
    split at e
    · rename_i hl
      cases e
      exact op_add_str pins s σ H x y v u Q I rx ry ⟨_, _, wa.str, wb.str, by rw [← lim_eq]; exact hl, q.str r⟩
    · cases e
  · -- list + list
    split at e
    · rename_i hl
      cases e
      obtain ⟨p, vs, rfl, hp, rp⟩ := wa.lst
      obtain ⟨p', vs', rfl, hp', rp'⟩ := wb.lst
      exact opKf op_cat pins s σ H _ _ v u Q I rx ry ⟨p, p', vs, vs', rfl, rfl, hp, hp', by rw [rp.length, rp'.length, ← lim_eq]; exact hl, fun d hd kf => q.lst r (rp.append rp') hd kf⟩
    · cases e
  · -- tuple + tuple
    split at e
    · rename_i hl
      cases e
      obtain ⟨p, vs, rfl, hp, np, rp⟩ := wa.tup
      obtain ⟨p', vs', rfl, hp', np', rp'⟩ := wb.tup
      refine opKf op_catA pins s σ H _ _ v u Q I rx ry ⟨p, p', vs, vs', rfl, rfl, hp, hp', by rw [rp.length, rp'.length, ← lim_eq]; exact hl, fun e _ => ?_, fun _ e _ => ?_, fun _ _ d hd kf => q.tup r (rp.append rp') hd kf⟩
      · refine q.sh (Po.refl r) ?_
        have h2 := rp.append rp'
        subst e
        unfold Rep
        exact ⟨p', vs', rfl, hp', np', h2⟩
      · refine q.sh (Po.refl r) ?_
        have h2 := rp.append rp'
        subst e
        rw [List.append_nil] at h2
        unfold Rep
        exact ⟨p, vs, rfl, hp, np, h2⟩
    · cases e
  · -- int - int
    cases e
    exact op_sub pins s σ H x y v u Q I rx ry ⟨_, _, wa.int, wb.int, q.int r⟩
  · -- int * int
    split at e
    · rename_i i j hl
      cases e
      refine op_mul pins s σ H x y v u Q I rx ry ⟨_, _, wa.int, wb.int, ?_, q.int r⟩
      rw [Bool.or_eq_true] at hl
      exact hl.imp (fun h => of_decide_eq_true h) fun h => of_decide_eq_true h
    · cases e
  · -- str * int
    split at e
    · rename_i i j hl
      cases e
      rw [wa.str] at rx
      rw [wb.int] at ry
      obtain ⟨t, rfl⟩ := rx
      obtain ⟨t', rfl⟩ := ry
      obtain ⟨h1, h2, h3⟩ := hl
      have q' := q.str r
      refine PySem.P.mul_str (by simp only [Bool.or_eq_false_iff, decide_eq_false_iff_not]; omega) (fun k1 _ => ?_) (fun k1 k2 => ?_) ?_
      · intro k3
        have e1 : (2 ^ 63 - 1 : Int) / j ≥ (2 ^ 63 - 1 : Int) / 1000 := by
          have : (2 ^ 63 - 1 : Int) / 1000 * j ≤ 2 ^ 63 - 1 := by
            have : (2 ^ 63 - 1 : Int) / 1000 * j ≤ (2 ^ 63 - 1 : Int) / 1000 * 1000 := Int.mul_le_mul_of_nonneg_left h3 (by decide)
            exact Int.le_trans this (by decide)
          exact (Int.le_ediv_iff_mul_le (by omega)).mpr this
        have e2 : (1000 : Int) ≤ (2 ^ 63 - 1 : Int) / 1000 := by decide
        omega
      · unfold Builtin.Str.tooLong
        refine decide_eq_false ?_
        have h4 : i.length * j.toNat ≤ 1000 * 1000 := Nat.mul_le_mul h1 (by omega)
        have h5 : (1000 * 1000 : Nat) ≤ sizeLine := by rw [sizeLine_eq]; decide
        omega
      · unfold repS at q'
        by_cases k1 : j < 1
        · rw [if_pos k1] at q' ⊢
          exact ⟨by decide, .str _, H, I.tok _, ⟨_, rfl⟩, q'⟩
        · rw [if_neg k1] at q' ⊢
          by_cases k2 : (j == 1 || i.length == 0) = true
          · rw [if_pos k2] at q' ⊢
            exact ⟨.str _, H, I, ⟨_, rfl⟩, q'⟩
          · rw [if_neg k2] at q' ⊢
            refine ⟨?_, .str _, H, I.tok _, ⟨_, rfl⟩, q'⟩
            show ((List.replicate j.toNat i.cps).foldl (· ++ ·) #[]).size ≤ sizeLine
            rw [foldl_cat]
            have h4 : j.toNat * i.cps.size ≤ 1000 * 1000 := Nat.mul_le_mul (by omega) h1
            have h5 : (1000 * 1000 : Nat) ≤ sizeLine := by rw [sizeLine_eq]; decide
            simp only [Array.size_empty]
            omega
    · cases e
  · -- list * int
    split at e
    · rename_i xs n hl
      cases e
      obtain ⟨p, vs, rfl, hp, rp⟩ := wa.lst
      refine opKf op_rep pins s σ H _ _ v u Q I rx ry ⟨p, n, vs, rfl, wb.int, hp, by omega, by omega, ?_, fun d hd kf => q.lst r (rp.rep _) hd kf⟩
      rw [rp.length, sizeLine_eq]
      have h4 : xs.length * n.toNat ≤ 1000 * 1000 := Nat.mul_le_mul hl.2.2 (by omega)
      omega
    · cases e
  · -- tuple * int
    split at e
    · rename_i xs n hl
      cases e
      obtain ⟨p, vs, rfl, hp, np, rp⟩ := wa.tup
      refine opKf op_repT pins s σ H _ _ v u Q I rx ry ⟨p, n, vs, rfl, wb.int, hp, fun z => ?_, hl.1, hl.2.1, by rw [rp.length]; exact hl.2.2.1, fun d hd kf => q.tup r (rp.rep _) hd kf⟩
      have := rp.length
      rw [z] at this
      exact hl.2.2.2 this.symm
    · cases e
  · -- int // int
    split at e
    · rename_i i j hl
      cases e
      exact op_fdivN pins s σ H x y v u Q I rx ry ⟨_, _, wa.int, wb.int, hl, q.int r⟩
    · cases e
  · -- int % int
    split at e
    · rename_i i j hl
      cases e
      exact op_modN pins s σ H x y v u Q I rx ry ⟨_, _, wa.int, wb.int, hl, q.int r⟩
    · cases e
  · -- int ** int
    split at e
    · rename_i i j hl
      cases e
      exact op_pow pins s σ H x y v u Q I rx ry ⟨_, _, wa.int, wb.int, ⟨hl.1, by omega, hl.2.2⟩, q.int r⟩
    · cases e
  · cases e
/-- a comparison -/
def rC (K : PySem.W.Frag) (mg : Str → Option Value) (op : CmpOp) : R2 := fun x y H Q => ∃ Mo H0 L0 L ρ σ st a b z,
  Rl K mg Mo H0 L0 L H ρ σ st ∧ RW K mg (wo Mo L H ρ σ) a x ∧ RW K mg (wo Mo L H ρ σ) b y ∧ cmpD op a b = some z ∧ Q (.bl z) H
theorem plL_of {xs : List D} (h : (D.lst xs).pl = true) : plL xs = true := by unfold D.pl at h; exact h
mutual
theorem D.lay : ∀ d : D, d.pl = true → d.py.canLay0 = true
| .non, _ => by unfold D.py; unfold PyData.canLay0; rfl
| .bl _, _ => by unfold D.py; unfold PyData.canLay0; rfl
| .int _, _ => by unfold D.py; unfold PyData.canLay0; rfl
| .str _, h => by unfold D.pl at h; unfold D.py; unfold PyData.canLay0; exact h
| .tup xs, h => by unfold D.pl at h; unfold D.py; unfold PyData.canLay0; exact D.layL xs h
| .lst xs, h => by unfold D.pl at h; unfold D.py; unfold PyData.canLay0; exact D.layL xs h
| .dct _ _, h => by unfold D.pl at h; cases h
| .fn _, h => by unfold D.pl at h; cases h
| .obj _, h => by unfold D.pl at h; cases h
| .scr _, h => by unfold D.pl at h; cases h
theorem D.layL : ∀ ds : List D, plL ds = true → PyData.canLayAll0 (pyL ds) = true
| [], _ => by unfold pyL; unfold PyData.canLayAll0; rfl
| x :: r, h => by
  unfold plL at h
  rw [Bool.and_eq_true] at h
  unfold pyL
  unfold PyData.canLayAll0
  rw [Bool.and_eq_true]
  exact ⟨D.lay x h.1, D.layL r h.2⟩
end
theorem cmpOk_sh {d : D} (h : cmpOk d = true) : d.pl = true ∧ SeqAt.shaped d.py = true := by
  unfold cmpOk at h
  rw [Bool.and_eq_true] at h
  have h2 := of_decide_eq_true h.2
  refine ⟨h.1, ?_⟩
  unfold SeqAt.shaped
  rw [Bool.and_eq_true]
  exact ⟨D.lay d h.1, decide_eq_true (by omega)⟩
theorem cmpOk_dp {d : D} (h : cmpOk d = true) : d.py.depth ≤ 60 := by
  unfold cmpOk at h
  rw [Bool.and_eq_true] at h
  exact of_decide_eq_true h.2
theorem any_py (x : D) : ∀ xs : List D, (pyL xs).any (fun z => PyData.eqv z x.py) = xs.any fun z => PyData.eqv z.py x.py
  | [] => by unfold pyL; rfl
  | y :: r => by unfold pyL; rw [List.any_cons, List.any_cons, any_py x r]
theorem rC_is {a : D} {v : V} {W : Wo} (h : RW X.K X.mg W a v) : decide (v = .non) = a.isNon := by
  cases a with
  | non => rw [h.non]; rfl
  | bl b => rw [h.bl]; rfl
  | int i => rw [h.int]; rfl
  | str s => rw [h.str]; rfl
  | lst xs => obtain ⟨p, vs, rfl, _⟩ := h.lst; rfl
  | tup xs => obtain ⟨p, vs, rfl, _⟩ := h.tup; rfl
  | dct _ _ => obtain ⟨p, rfl, _⟩ := h.dct; rfl
  | ins _ _ _ => obtain ⟨p, rfl, _⟩ := h.ins; rfl
  | fn x => unfold RW Rep at h; obtain ⟨f, rfl, _⟩ := h; rfl
  | obj l => unfold RW Rep at h; obtain ⟨f, rfl, _⟩ := h; rfl
  | scr ns => obtain ⟨p, rfl, _⟩ := h.scr; rfl
theorem in_D {neg : Bool} (hu : X.A.units + 65 < cLine) : OpR X (compareOp (if neg then .NotIn else .In)) (fun x y H Q => ∃ Mo H0 L0 L ρ σ st a b z,
    Rl X.K X.mg Mo H0 L0 L H ρ σ st ∧ RW X.K X.mg (wo Mo L H ρ σ) a x ∧ RW X.K X.mg (wo Mo L H ρ σ) b y ∧ inD a b = some z ∧ Q (.bl (if neg then !z else z)) H) := by
  intro pins s σ H x y v u Q I rx ry h
  obtain ⟨Mo, H0, L0, L, ρ, σ', st, a, b, z, r, wa, wb, e, q⟩ := h
  unfold inD at e
  split at e
  · rename_i xs
    unfold inL at e
    split at e
    · rename_i hh
      rw [Bool.and_eq_true] at hh
      obtain ⟨p1, s1⟩ := cmpOk_sh hh.1
      obtain ⟨p2, s2⟩ := cmpOk_sh hh.2
      have d1 := wa.dp p1
      have d2 := wb.dp p2
      cases e
      rw [← any_py] at q
      unfold D.py at d2 s2
      cases neg with
      | false => exact op_inD hu pins s σ H x y v u Q I rx ry ⟨a.py, pyL xs, d1, d2, s1, s2, q⟩
      | true => exact op_notInD hu pins s σ H x y v u Q I rx ry ⟨a.py, pyL xs, d1, d2, s1, s2, q⟩
    · cases e
  · rename_i xs
    unfold inL at e
    split at e
    · rename_i hh
      rw [Bool.and_eq_true] at hh
      obtain ⟨p1, s1⟩ := cmpOk_sh hh.1
      have hp2 : plL xs = true := by
        have := (cmpOk_sh hh.2).1
        unfold D.pl at this
        exact this
      have d1 := wa.dp p1
      have d2 := wb.dp (d := .tup xs) (by unfold D.pl; exact hp2)
      have hc : PyData.canLayAll0 (pyL xs) = true := D.layL xs hp2
      cases e
      rw [← any_py] at q
      unfold D.py at d2
      obtain ⟨as, r1⟩ := Dp.reads I _ x v d1 rx
      obtain ⟨bs, r2⟩ := Dp.reads I (.tuple (pyL xs)) y u d2 ry
      cases neg with
      | false => exact SeqAt.in_tuple_reads r2 r1 hc (SeqAt.canLay_of_shaped s1) (room_in_shaped s1 hu) ⟨.bl _, H, I, rfl, q⟩
      | true => exact SeqAt.notIn_tuple_reads r2 r1 hc (SeqAt.canLay_of_shaped s1) (room_in_shaped s1 hu) ⟨.bl _, H, I, rfl, q⟩
    · cases e
  · rename_i ks vs
    obtain ⟨dd, rfl, ow, _⟩ := wb.dct
    obtain ⟨oo, LL, R⟩ := ow.dct
    obtain ⟨k, ky, rfl⟩ := R.has (let ⟨_, hk⟩ := has_nk e; wa.key hk) e
    exact PD.op_inX neg (by omega) pins s σ H x _ v u Q I rx ry ⟨dd, oo, LL, k, rfl, R.at', ky, q⟩
  · split at e
    · cases e
      cases neg with
      | false => exact op_in_str pins s σ H x y v u Q I rx ry ⟨_, _, wa.str, wb.str, q⟩
      | true => exact op_notin_str pins s σ H x y v u Q I rx ry ⟨_, _, wa.str, wb.str, q⟩
    · cases e
  · cases e
theorem op_C (op : CmpOp) (hu : X.A.units + 65 < cLine) : OpR X (compareOp op) (rC X.K X.mg op) := by
  intro pins s σ H x y v u Q I rx ry h
  obtain ⟨Mo, H0, L0, L, ρ, σ', st, a, b, z, r, wa, wb, e, q⟩ := h
  have hu' : X.A.units + 64 < cLine := by omega
  have eqq : ∀ {w : Bool}, eqD a b = some w → Dp X.K H x a.py ∧ Dp X.K H y b.py ∧ SeqAt.shaped a.py = true ∧ SeqAt.shaped b.py = true ∧ w = PyData.eqv a.py b.py := fun {w} e => by
    unfold eqD at e
    split at e
    · rename_i hh
      rw [Bool.and_eq_true] at hh
      obtain ⟨p1, s1⟩ := cmpOk_sh hh.1
      obtain ⟨p2, s2⟩ := cmpOk_sh hh.2
      cases e
      exact ⟨wa.dp p1, wb.dp p2, s1, s2, rfl⟩
    · cases e
  unfold cmpD at e
  split at e
  · obtain ⟨h1, h2, h3, h4, rfl⟩ := eqq e
    exact op_eqD hu' pins s σ H x y v u Q I rx ry ⟨_, _, h1, h2, h3, h4, q⟩
  · cases e' : eqD a b with
    | none => rw [e'] at e; cases e
    | some w =>
      rw [e'] at e
      cases e
      obtain ⟨h1, h2, h3, h4, rfl⟩ := eqq e'
      exact op_neD hu' pins s σ H x y v u Q I rx ry ⟨_, _, h1, h2, h3, h4, q⟩
  · exact in_D (neg := false) hu pins s σ H x y v u Q I rx ry ⟨Mo, H0, L0, L, ρ, σ', st, a, b, z, r, wa, wb, e, q⟩
  · cases e' : inD a b with
    | none => rw [e'] at e; cases e
    | some w =>
      rw [e'] at e
      cases e
      exact in_D (neg := true) hu pins s σ H x y v u Q I rx ry ⟨Mo, H0, L0, L, ρ, σ', st, a, b, w, r, wa, wb, e', q⟩
  · cases e
    exact op_isN pins s σ H x y v u Q I rx ry ⟨wb.non, by rw [rC_is wa]; exact q⟩
  · cases e
    exact op_notN pins s σ H x y v u Q I rx ry ⟨wb.non, by rw [rC_is wa]; exact q⟩
  · cases e
    exact op_isBl pins s σ H x y v u Q I rx ry ⟨_, _, wa.bl, wb.bl, q⟩
  · cases e
    exact op_notBl pins s σ H x y v u Q I rx ry ⟨_, _, wa.bl, wb.bl, q⟩
  · cases e
    exact op_lt pins s σ H x y v u Q I rx ry ⟨_, _, wa.int, wb.int, q⟩
  · unfold ltD at e
    split at e
    · rename_i hh
      rw [Bool.and_eq_true, Bool.and_eq_true, Bool.and_eq_true] at hh
      obtain ⟨⟨⟨h1, h2⟩, h3⟩, h4⟩ := hh
      obtain ⟨p1, s1⟩ := cmpOk_sh h1
      obtain ⟨p2, s2⟩ := cmpOk_sh h2
      cases e
      obtain ⟨as, r1⟩ := Dp.reads I _ x v (wa.dp p1) rx
      obtain ⟨bs, r2⟩ := Dp.reads I _ y u (wb.dp p2) ry
      refine PySem.W.lt_data r1 r2 h3 (by unfold D.py; simp) ?_ ⟨.bl _, H, I, rfl, q⟩
      have hd := cmpOk_dp h1
      exact Nat.lt_of_le_of_lt (Nat.add_le_add_left (Nat.min_le_left _ _) _) (by omega)
    · cases e
  · cases e
    exact op_le pins s σ H x y v u Q I rx ry ⟨_, _, wa.int, wb.int, q⟩
  · cases e
    exact op_gt pins s σ H x y v u Q I rx ry ⟨_, _, wa.int, wb.int, q⟩
  · cases e
    exact op_ge pins s σ H x y v u Q I rx ry ⟨_, _, wa.int, wb.int, q⟩
  · cases e
/-- truth -/
theorem tru_V {a : D} {b : Bool} {v : V} {W : Wo} {Hx : Hp} (hW : W.H = Hx) (h : RW X.K X.mg W a v) (e : tru a = some b) : TruV X.K v Hx b := by
  subst hW
  unfold tru at e
  split at e
  · cases e; rw [h.non]; rfl
  · cases e; rw [h.bl]; rfl
  · cases e; rw [h.int]; rfl
  · split at e
    · rename_i hl
      cases e; rw [h.str]; exact ⟨by rw [← lim_eq]; exact hl, rfl⟩
    · cases e
  · cases e
    obtain ⟨p, vs, rfl, hp, _, rp⟩ := h.tup
    refine .inr (.inl ⟨vs, hp, ?_⟩)
    have := rp.length
    cases vs <;> cases ‹List D› <;> simp_all
  · cases e
    obtain ⟨p, vs, rfl, hp, rp⟩ := h.lst
    refine .inl ⟨vs, .of hp, ?_⟩
    have := rp.length
    cases vs <;> cases ‹List D› <;> simp_all
  · cases e
end
end PI
set_option Elab.async false
set_option linter.all false
set_option maxRecDepth 100000
set_option maxHeartbeats 4000000
/-! PI5: the expressions' rules. -/
namespace PI
open PySem PySem.Spec PyProof.Rows L2

/-- the built-in names that the interpreter knows -/
def bltNames : List Str := ["len", "int", "list", "tuple", "abs", "all", "any", "max", "min", "range", "enumerate", "zip", "isinstance", "bool", "str", "dict", "sorted", "sum", "repr"]
/-- what the written part must say of the program -/
structure Wf (P : Pg) (K : PySem.W.Frag) (mg : Str → Option Value) : Prop where
  blt : ∀ x ∈ bltNames, mg x = none
  glb : ∀ x d, P.glb.lookup x = some d → ∃ v u, mg x = some u ∧ RelV v u ∧ ∀ W : Wo, (∀ a o, K.lookup a = some o → ¬ W.M a) → Rep K mg W d v
  fns : ∀ x F, P.fns.lookup x = some F → ∃ f, mg x = some (.ref f) ∧ PySem.W.keepIn K (.ref f) = true
/-- a def's promise: what the interpreter gives -/
def spI (P : Pg) (K : PySem.W.Frag) (mg : Str → Option Value) (n d : Nat) (x : Str) (k : Nat) : Sp := fun vs H Q E => vs.length = k ∧ ∃ Mo L st ds, Rl K mg Mo H L L H [] [] st ∧ RepL K mg (wo Mo L H [] []) ds vs ∧
  Out (callF n P d x ds st) (OkV K mg Mo H L L H [] [] Q) (ExQ K mg Mo H L L H [] [] fun cls dd _ H' => E cls dd H')
def FO (P : Pg) (pr : Program) (w : World) (K : PySem.W.Frag) (mg : Str → Option Value) (base : Heap) (n : Nat) : Prop := ∀ d x F f, P.fns.lookup x = some F → mg x = some (.ref f) →
  ∃ fd, FnOk pr w K mg base (L2.CX pr w) d f fd F.ps (spI P K mg n d x F.ps.length) ∧ Binds K fd F.ps []
structure Cxt (P : Pg) (X : Cx) (d : Nat) (C : Ct) (Wx : WX) : Prop where
  N : X.N = C.N
  sc : X.env.scope = C.sc
  nd : C.N.Nodup
  calm : X.calm = true
  room : Room d X.A
  tk : Takes X Wx
  po : PassesOwn (model X.prog X.w) X.A X.env X.xe
  fn : ∀ x, stB C x = true → Loc X.env.scope x → X.fn x = true ∨ X.env.scope.names.lookup x = some .local
  wf : Wf P X.K X.mg
  tp : ∀ A q, C.top = some (A, q) → ∃ c, X.env.code = .ref c ∧ LamX.TabB X.base X.mg c A ∧ q = X.env.qual ++ "<lambda>"
  ind : ∀ cls dd σ σ' H, Wx cls dd σ H → Wx cls dd σ' H
  gd : C.top.isSome = true → X.A.guards = some []

section
variable {P : Pg} {X : Cx} {n d : Nat} {C : Ct} {Wx : WX} {a b e : Expr} {pos : Pos}
theorem Cxt.units (c : Cxt P X d C Wx) : X.A.units + 65 < cLine := by have := c.room.un; omega

/-! ### names -/
theorem sIdx_get : ∀ {N : List Str} {x : Str} {i : Nat}, sIdx N x = some i → N[i]? = some x
  | [], _, _, h => by simp [sIdx] at h
  | y :: r, x, i, h => by
    unfold sIdx at h
    split at h
    · rename_i e
      cases h
      rw [e]; rfl
    · cases e : sIdx r x with
      | none => rw [e] at h; cases h
      | some j =>
        rw [e] at h
        cases h
        exact sIdx_get (N := r) e
theorem okName_3 {x : Str} (h : okName x = true) : (x == ("__debug__" : Str)) = false ∧ (x == ("__classdict__" : Str)) = false ∧ x ≠ "__name__" := by
  unfold okName at h
  rw [Bool.and_eq_true, Bool.and_eq_true] at h
  obtain ⟨⟨h1, h2⟩, h3⟩ := h
  refine ⟨by simpa using h1, by simpa using h2, fun e => ?_⟩
  rw [e] at h3
  simp at h3
theorem visB_ok {sc : Scope} {x : Str} (h : visB sc x = true) : Vis sc x := by
  unfold visB at h
  split at h
  · exact .inl (by assumption)
  · exact .inr (.inl (by assumption))
  · exact .inr (.inr (by assumption))
  · cases h
theorem locB_ok {sc : Scope} {x : Str} (h : locB sc x = true) : Loc sc x := by
  unfold locB at h
  split at h
  · exact .inl (by assumption)
  · exact .inr (by assumption)
  · cases h
theorem gloB_ok {sc : Scope} {x : Str} (h : gloB sc x = true) : sc.names.lookup x = some .globalImplicit := by
  unfold gloB at h
  split at h
  · assumption
  · cases h
theorem Cxt.glo (c : Cxt P X d C Wx) {x : Str} (h : gloB C.sc x = true) : Gl X x := by
  show X.env.scope.names.lookup x = some .globalImplicit
  rw [c.sc]; exact gloB_ok h
/-- a slot read -/
theorem rd_slot {K : PySem.W.Frag} {mg : Str → Option Value} {Mo : Addr → Prop} {H0 H : Hp} {L0 L : List Addr} {ρ : List Sl} {σ : L2.St} {st : Store} (r : Rl K mg Mo H0 L0 L H ρ σ st) {i : Nat} {x : DK} (h : (ρ[i]?).bind Sl.get = some x) :
    ∃ v, σ[i]? = some (some v) ∧ RV K mg (wo Mo L H ρ σ) ρ σ x.1 x.2 v ∧ x.2 ≠ .fr := by
  cases e : ρ[i]? with
  | none => rw [e] at h; cases h
  | some s =>
    rw [e] at h
    have q := r.slot i s e
    cases s with
    | un => cases h
    | im d' =>
      cases h
      obtain ⟨v, e1, rv⟩ := q
      exact ⟨v, e1, rv, by simp⟩
    | ow d' =>
      cases h
      obtain ⟨a, e1, o⟩ := q
      exact ⟨.ref a, e1, ⟨i, a, rfl, e, e1⟩, by simp⟩
theorem addF_nf {Mo : Addr → Prop} {k : Kd} {v : V} (h : k ≠ .fr) : addF Mo k v = Mo := by
  cases k with
  | fr => exact absurd rfl h
  | sh => rfl
  | wk => rfl
theorem e_name (c : Cxt P X d C Wx) {x : Str} : PE X (.Name x pos) (tM X.K X.mg Wx (evE (n + 1) P d C (.Name x pos))) := by
  refine ⟨fun pins s σ H Q I h => ?_⟩
  obtain ⟨Mo, H0, L0, L, ρ, st, r, h⟩ := h
  have h : Out (M.opt (evName P C x ρ) st) _ _ := h
  obtain ⟨y, e, q⟩ := h.opt
  unfold evName at e
  split at e
  · rename_i hk
    obtain ⟨n1, n2, n3⟩ := okName_3 hk
    split at e
    · rename_i hv
      unfold rdName at e
      split at e
      · rename_i i hi
        obtain ⟨v, e1, rv, nf⟩ := rd_slot r e
        refine (pe_var (X := X) (i := i) (x := x) (by rw [c.N]; exact sIdx_get hi) (by rw [c.sc]; exact visB_ok hv) n1 n2).run pins s σ H Q I ⟨v, e1, ?_⟩
        have h1 := q v L H
        rw [addF_nf nf] at h1
        exact h1 (Po.refl r) rv fun z => absurd z nf
      · cases e
    · split at e
      · rename_i hg
        split at e
        · rename_i d' hd
          cases e
          obtain ⟨v, u, hm, rv, rep⟩ := c.wf.glb x _ hd
          exact (pe_glob (X := X) (c.glo hg) hm rv n1).run pins s σ H Q I (q.sh (Po.refl r) (rep _ fun a o hk => r.known hk))
        · split at e
          · rename_i F hF
            cases e
            obtain ⟨f, hm, _⟩ := c.wf.fns x F hF
            exact (pe_glob (X := X) (v := .ref f) (c.glo hg) hm rfl n1).run pins s σ H Q I (q.sh (Po.refl r) (by unfold Rep; exact ⟨f, rfl, hm⟩))
          · cases e
      · cases e
  · cases e
theorem e_const {k : Const} {j : Nat} : PE X (.Constant k j pos) (tM X.K X.mg Wx (evE (n + 1) P d C (.Constant k j pos))) := by
  cases k with
  | none => exact pe_non.imp fun σ H Q ⟨Mo, H0, L0, L, ρ, st, r, h⟩ => OkV.non h r
  | bool b => exact pe_bl.imp fun σ H Q ⟨Mo, H0, L0, L, ρ, st, r, h⟩ => OkV.bl h r
  | int i => exact pe_int.imp fun σ H Q ⟨Mo, H0, L0, L, ρ, st, r, h⟩ => OkV.int h r
  | str s => exact pe_str.imp fun σ H Q ⟨Mo, H0, L0, L, ρ, st, r, h⟩ => OkV.str h r
  | float _ => exact ⟨fun _ _ _ _ _ _ ⟨Mo, H0, L0, L, ρ, st, r, h⟩ => h.elim⟩
  | complex _ _ => exact ⟨fun _ _ _ _ _ _ ⟨Mo, H0, L0, L, ρ, st, r, h⟩ => h.elim⟩
  | bytes _ => exact ⟨fun _ _ _ _ _ _ ⟨Mo, H0, L0, L, ρ, st, r, h⟩ => h.elim⟩
  | ellipsis => exact ⟨fun _ _ _ _ _ _ ⟨Mo, H0, L0, L, ρ, st, r, h⟩ => h.elim⟩

/-! ### operators -/
/-- from one value on -/
theorem tM_then {m : List Sl → M DK} {σ : L2.St} {H : Hp} {Q : VK} {Mo : Addr → Prop} {H0 : Hp} {L0 L : List Addr} {ρ : List Sl} {st : Store} {f : DK → Store → Prop} (r : Rl X.K X.mg Mo H0 L0 L H ρ σ st)
    (h : Out (m ρ st) f (ExQ X.K X.mg Mo H0 L0 L H ρ σ Wx)) (g : ∀ x st' v L' H', f x st' → Po X.K X.mg Mo H0 L0 L H ρ σ Mo L' H' st' → RW X.K X.mg (wo Mo L' H' ρ σ) x.1 v → Q v H') : tM X.K X.mg Wx m σ H Q :=
  tM_rd r (h.imp (fun x st' q v L' H' p w => g x st' v L' H' q p w) fun _ _ q => q)
theorem e_bin (c : Cxt P X d C Wx) {op : Operator} (ha : PE X a (tM X.K X.mg Wx (evE n P d C a))) (hb : PE X b (tM X.K X.mg Wx (evE n P d C b))) :
    PE X (.BinOp a op b pos) (tM X.K X.mg Wx (evE (n + 1) P d C (.BinOp a op b pos))) := by
  refine (pe_op (op_B op c.room.units) ha hb).imp fun σ H Q ⟨Mo, H0, L0, L, ρ, st, r, h⟩ => ?_
  refine tM_then r (Out.bnd h) fun x st1 v1 L1 H1 h1 p1 w1 => ?_
  refine tM_then p1.rl ((Out.bnd h1).imp (fun _ _ q => q) fun _ _ q => q.from p1) fun y st2 v2 L2' H2 h2 p2 w2 => ?_
  obtain ⟨z, e, q⟩ := h2.opt
  exact ⟨Mo, H0, L0, L2', ρ, σ, st2, x.1, y.1, z, p2.rl, w1.po p2, w2, e, q.from (p1.trans p2)⟩
theorem _root_.L2.PE.or {e : Expr} {t t' : TE} (h : PE X e t) (h' : PE X e t') : PE X e (fun σ H Q => t σ H Q ∨ t' σ H Q) := ⟨fun pins s σ H Q I q => by
  rcases q with q | q
  · exact h.run pins s σ H Q I q
  · exact h'.run pins s σ H Q I q⟩
theorem _root_.L2.PE.nope {e : Expr} {t : TE} (h : ∀ σ H Q, ¬ t σ H Q) : PE X e t := ⟨fun pins s σ H Q I q => absurd q (h σ H Q)⟩
theorem e_neg (ha : PE X a (tM X.K X.mg Wx (evE n P d C a))) : PE X (.UnaryOp .USub a pos) (tM X.K X.mg Wx (evE (n + 1) P d C (.UnaryOp .USub a pos))) := by
  refine (pe_un un_neg ha).imp fun σ H Q ⟨Mo, H0, L0, L, ρ, st, r, h⟩ => ?_
  refine tM_then r (Out.bnd h) fun x st1 v1 L1 H1 h1 p1 w1 => ?_
  obtain ⟨z, e, q⟩ := Out.opt h1
  obtain ⟨x, k⟩ := x
  cases x with
  | int i =>
    cases e
    exact ⟨i, w1.int, (q.from p1).int p1.rl⟩
  | _ => cases e
theorem e_not (ha : PE X a (tM X.K X.mg Wx (evE n P d C a))) : PE X (.UnaryOp .Not a pos) (tM X.K X.mg Wx (evE (n + 1) P d C (.UnaryOp .Not a pos))) := by
  refine (pe_notT ha).imp fun σ H Q ⟨Mo, H0, L0, L, ρ, st, r, h⟩ => ?_
  refine tM_then r (Out.bnd h) fun x st1 v1 L1 H1 h1 p1 w1 => ?_
  obtain ⟨z, e, q⟩ := Out.opt h1
  cases e' : tru x.1 with
  | none => rw [e'] at e; cases e
  | some k =>
    rw [e'] at e
    cases e
    exact ⟨k, tru_V rfl w1 e', (q.from p1).bl p1.rl⟩
theorem e_ifexp {t : Expr} (ht : PT X t (tMB X.K X.mg Wx (evT n P d C t))) (ha : PE X a (tM X.K X.mg Wx (evE n P d C a))) (hb : PE X b (tM X.K X.mg Wx (evE n P d C b))) :
    PE X (.IfExp t a b pos) (tM X.K X.mg Wx (evE (n + 1) P d C (.IfExp t a b pos))) := by
  refine (pe_ifExp ht ha hb).imp fun σ H Q ⟨Mo, H0, L0, L, ρ, st, r, h⟩ => ?_
  refine ⟨Mo, H0, L0, L, ρ, st, r, (Out.bnd h).imp (fun k st1 h1 L1 H1 p1 => ?_) fun _ _ q => q⟩
  cases k with
  | true => exact ⟨Mo, H0, L0, L1, ρ, st1, p1.rl, Out.imp h1 (fun _ _ q => q.from p1) fun _ _ q => q.from p1⟩
  | false => exact ⟨Mo, H0, L0, L1, ρ, st1, p1.rl, Out.imp h1 (fun _ _ q => q.from p1) fun _ _ q => q.from p1⟩
/-- and, or as values -/
theorem b_nil {op : BoolOp} : PE X (.BoolOp op [] pos) (tM X.K X.mg Wx (evB n P d C op [])) := .nope fun σ H Q ⟨Mo, H0, L0, L, ρ, st, r, h⟩ => by
  cases n <;> exact h.elim
theorem b_one {op : BoolOp} (ha : PE X a (tM X.K X.mg Wx (evE n P d C a))) : PE X (.BoolOp op [a] pos) (tM X.K X.mg Wx (evB (n + 1) P d C op [a])) := pe_one ha
theorem b_more {op : BoolOp} {vs : List Expr} (ha : PE X a (tM X.K X.mg Wx (evE n P d C a))) (hb : PE X (.BoolOp op (b :: vs) pos) (tM X.K X.mg Wx (evB n P d C op (b :: vs)))) :
    PE X (.BoolOp op (a :: b :: vs) pos) (tM X.K X.mg Wx (evB (n + 1) P d C op (a :: b :: vs))) := by
  have go : ∀ {σ H Q Mo H0 L0 L ρ st} {x : DK} {st1 : Store} {v1 L1 H1}, Rl X.K X.mg Mo H0 L0 L H ρ σ st → Po X.K X.mg Mo H0 L0 L H ρ σ (addF Mo x.2 v1) L1 H1 st1 → RV X.K X.mg (wo (addF Mo x.2 v1) L1 H1 ρ σ) ρ σ x.1 x.2 v1 → (x.2 = .fr → ∀ a, v1 = .ref a → H a = none) →
      Out ((M.opt (tru x.1)).bnd (fun t => match op, t with
        | .And, false => M.ret x
        | .Or, true => M.ret x
        | _, _ => evB n P d C op (b :: vs) ρ) st1) (OkV X.K X.mg Mo H0 L0 L H ρ σ Q) (ExQ X.K X.mg Mo H0 L0 L H ρ σ Wx) →
      ∃ k, TruV X.K v1 H1 k ∧ (match op, k with
        | .And, false => Q v1 H1
        | .Or, true => Q v1 H1
        | _, _ => tM X.K X.mg Wx (evB n P d C op (b :: vs)) σ H1 Q) := by
    intro σ H Q Mo H0 L0 L ρ st x st1 v1 L1 H1 r p rv fr h
    obtain ⟨p1, w1⟩ := p.read rv fr r
    obtain ⟨k, e, h⟩ := Out.opt (Out.bnd h)
    refine ⟨k, tru_V rfl w1 e, ?_⟩
    cases op <;> cases k
    · exact h v1 L1 H1 p rv fr
    · exact ⟨Mo, H0, L0, L1, ρ, st1, p1.rl, Out.imp h (fun _ _ q => q.from p1) fun _ _ q => q.from p1⟩
    · exact ⟨Mo, H0, L0, L1, ρ, st1, p1.rl, Out.imp h (fun _ _ q => q.from p1) fun _ _ q => q.from p1⟩
    · exact h v1 L1 H1 p rv fr
  cases op with
  | And =>
    refine (pe_andT ha hb).imp fun σ H Q ⟨Mo, H0, L0, L, ρ, st, r, h⟩ => ?_
    refine ⟨Mo, H0, L0, L, ρ, st, r, (Out.bnd h).imp (fun x st1 h1 v1 L1 H1 p rv fr => ?_) fun _ _ q => q⟩
    obtain ⟨k, t, q⟩ := go r p rv fr h1
    refine ⟨k, t, ?_⟩
    cases k <;> exact q
  | Or =>
    refine (pe_orT ha hb).imp fun σ H Q ⟨Mo, H0, L0, L, ρ, st, r, h⟩ => ?_
    refine ⟨Mo, H0, L0, L, ρ, st, r, (Out.bnd h).imp (fun x st1 h1 v1 L1 H1 p rv fr => ?_) fun _ _ q => q⟩
    obtain ⟨k, t, q⟩ := go r p rv fr h1
    refine ⟨k, t, ?_⟩
    cases k <;> exact q

/-! ### comparisons in a chain -/
def tCh (K : PySem.W.Frag) (mg : Str → Option Value) (Wx : WX) (m : D → List Sl → M Bool) : V → TT := fun x σ H Q => ∃ Mo H0 L0 L ρ st y, Rl K mg Mo H0 L0 L H ρ σ st ∧ RW K mg (wo Mo L H ρ σ) y x ∧
  Out (m y ρ st) (fun b st' => ∀ L' H', Po K mg Mo H0 L0 L H ρ σ Mo L' H' st' → Q b H') (ExQ K mg Mo H0 L0 L H ρ σ Wx)
structure PCh (X : Cx) (ops : List CmpOp) (cs : List Expr) (t : V → TT) : Prop where
  val : ∀ (pos : Pos) (pins : List (Addr × Obj)) (s : Shared) (σ : L2.St) (H : Hp) (x : V) (v : Value) (Q : Bool → Hp → Prop), Inv X pins σ H s → RelV x v → t x σ H Q →
    wpAny (model X.prog X.w) X.A (compareChain pos v ops (evalEach cs X.env)) (EP X pins σ fun z H' => ∃ b, z = .bl b ∧ Q b H') X.xe s
  tst : ∀ (pos : Pos) (pins : List (Addr × Obj)) (s : Shared) (σ : L2.St) (H : Hp) (x : V) (v : Value) (Q : Bool → Hp → Prop), Inv X pins σ H s → RelV x v → t x σ H Q →
    wpAny (model X.prog X.w) X.A (testChain pos v ops (evalEach cs X.env)) (TP X pins σ Q) X.xe s
theorem rC_from {op : CmpOp} {Q : VK} {σ : L2.St} {H1 H2 : Hp} {Mo : Addr → Prop} {H0 : Hp} {L0 L1 L2' : List Addr} {ρ : List Sl} {st2 : Store} {x y : D} {vx vy : V} {z : Bool} (p : Po X.K X.mg Mo H0 L0 L1 H1 ρ σ Mo L2' H2 st2)
    (wx : RW X.K X.mg (wo Mo L1 H1 ρ σ) x vx) (wy : RW X.K X.mg (wo Mo L2' H2 ρ σ) y vy) (e : cmpD op x y = some z) (q : Q (.bl z) H2) : rC X.K X.mg op vx vy H2 Q :=
  ⟨Mo, H0, L0, L2', ρ, σ, st2, x, y, z, p.rl, wx.po p, wy, e, q⟩
theorem ch_one (c : Cxt P X d C Wx) {o : CmpOp} (he : PE X e (tM X.K X.mg Wx (evE n P d C e))) : PCh X [o] [e] (tCh X.K X.mg Wx fun y => evC (n + 1) P d C y [o] [e]) := by
  have go : ∀ {pins : List (Addr × Obj)} {s : Shared} {σ : L2.St} {H : Hp} {x : V} {v : Value} {Q : Bool → Hp → Prop}, Inv X pins σ H s → RelV x v → tCh X.K X.mg Wx (fun y => evC (n + 1) P d C y [o] [e]) x σ H Q →
      wpAny (model X.prog X.w) X.A (eval e X.env) (fun u s1 => wpAny (model X.prog X.w) X.A (compareOp o v u) (EP X pins σ fun z H' => ∃ b, z = .bl b ∧ Q b H') X.xe s1) X.xe s := by
    intro pins s σ H x v Q I rx ⟨Mo, H0, L0, L, ρ, st, y, r, w, h⟩
    refine thn (he.run pins s σ H (fun u H2 => rC X.K X.mg o x u H2 fun z H3 => ∃ b, z = .bl b ∧ Q b H3) I (tM_then r (Out.bnd h) fun z st1 v1 L1 H1 h1 p1 w1 => ?_)) fun u s1 ⟨x1, H1, I1, r1, q1⟩ => op_C o c.units pins s1 σ H1 x x1 v u _ I1 rx r1 q1
    obtain ⟨b, e1, q⟩ := Out.opt h1
    exact rC_from p1 w w1 e1 ⟨b, rfl, q L1 H1 p1⟩
  refine ⟨fun pos pins s σ H x v Q I rx h => chain_last (go I rx h), fun pos pins s σ H x v Q I rx h => test_last (thn (go I rx h) fun u s1 h1 => thn h1 fun z s2 ⟨z', H2, I2, r2, b, e2, q⟩ => ?_)⟩
  subst e2
  cases r2
  exact wpAny_truthy_bool ⟨H2, I2, q⟩
theorem ch_more (c : Cxt P X d C Wx) {o o' : CmpOp} {os : List CmpOp} {e' : Expr} {es : List Expr} (he : PE X e (tM X.K X.mg Wx (evE n P d C e))) (ih : PCh X (o' :: os) (e' :: es) (tCh X.K X.mg Wx fun y => evC n P d C y (o' :: os) (e' :: es))) :
    PCh X (o :: o' :: os) (e :: e' :: es) (tCh X.K X.mg Wx fun y => evC (n + 1) P d C y (o :: o' :: os) (e :: e' :: es)) := by
  have go : ∀ {pins : List (Addr × Obj)} {s : Shared} {σ : L2.St} {H : Hp} {x : V} {v : Value} {Q : Bool → Hp → Prop}, Inv X pins σ H s → RelV x v → tCh X.K X.mg Wx (fun y => evC (n + 1) P d C y (o :: o' :: os) (e :: e' :: es)) x σ H Q →
      wpAny (model X.prog X.w) X.A (eval e X.env) (fun u s1 => wpAny (model X.prog X.w) X.A (compareOp o v u) (fun c' s2 => ∃ b x1 H2, c' = .bool b ∧ Inv X pins σ H2 s2 ∧ RelV x1 u ∧ if b = true then tCh X.K X.mg Wx (fun y => evC n P d C y (o' :: os) (e' :: es)) x1 σ H2 Q else Q false H2) X.xe s1) X.xe s := by
    intro pins s σ H x v Q I rx ⟨Mo, H0, L0, L, ρ, st, y, r, w, h⟩
    refine thn (he.run pins s σ H (fun u H2 => rC X.K X.mg o x u H2 fun z H3 => ∃ b, z = .bl b ∧ if b = true then tCh X.K X.mg Wx (fun y => evC n P d C y (o' :: os) (e' :: es)) u σ H3 Q else Q false H3) I (tM_then r (Out.bnd h) fun z st1 v1 L1 H1 h1 p1 w1 => ?_))
      fun u s1 ⟨x1, H1, I1, r1, q1⟩ => thn (op_C o c.units pins s1 σ H1 x x1 v u _ I1 rx r1 q1) fun z s2 ⟨z', H2, I2, r2, b, e2, q⟩ => ?_
    · obtain ⟨b, e1, q⟩ := Out.opt (Out.bnd h1)
      refine rC_from p1 w w1 e1 ⟨b, rfl, ?_⟩
      cases b with
      | true => exact ⟨Mo, H0, L0, L1, ρ, st1, z.1, p1.rl, w1, Out.imp q (fun _ _ q L' H' p => q L' H' (p1.trans p)) fun _ _ q => q.from p1⟩
      | false => exact q L1 H1 p1
    · subst e2
      cases r2
      exact ⟨b, x1, H2, rfl, I2, r1, q⟩
  refine ⟨fun pos pins s σ H x v Q I rx h => chain_link (thn (go I rx h) fun u s1 h1 => thn h1 fun z s2 ⟨b, x1, H2, ez, I2, r2, q⟩ => ?_), fun pos pins s σ H x v Q I rx h => test_link (thn (go I rx h) fun u s1 h1 => thn h1 fun z s2 ⟨b, x1, H2, ez, I2, r2, q⟩ => ?_)⟩
  · subst ez
    refine wpAny_truthy_bool ?_
    cases b with
    | true => exact ih.val pos pins s2 σ H2 x1 u Q I2 r2 q
    | false => exact ⟨.bl false, H2, I2, rfl, false, rfl, q⟩
  · subst ez
    refine wpAny_truthy_bool ?_
    cases b with
    | true => exact ih.tst pos pins s2 σ H2 x1 u Q I2 r2 q
    | false => exact ⟨H2, I2, q⟩
theorem noSet_marks : ∀ (ops : List CmpOp) (cs : List Expr), noSet cs = true → lastMarks ops cs = false
  | [], _, _ => by unfold lastMarks; rfl
  | [o], [], _ => by simp [lastMarks]
  | [o], [e], h => by
    cases e <;> first | rfl | (unfold noSet at h; cases h)
  | [o], e :: e2 :: es, _ => by simp [lastMarks]
  | o :: o2 :: os, [], _ => by simp [lastMarks]
  | o :: o2 :: os, e :: es, h => by
    have h2 : noSet es = true := by
      cases e <;> first | exact h | (unfold noSet at h; cases h)
    have := noSet_marks (o2 :: os) es h2
    simpa [lastMarks] using this
theorem noSet_mark {o : CmpOp} {e : Expr} (h : noSet [e] = true) : behindInMarks o e = false := by
  cases e <;> first | rfl | (unfold noSet at h; cases h)
theorem ch_all (c : Cxt P X d C Wx) (he : ∀ e, PE X e (tM X.K X.mg Wx (evE n P d C e))) (ih : ∀ ops cs, PCh X ops cs (tCh X.K X.mg Wx fun y => evC n P d C y ops cs)) (ops : List CmpOp) (cs : List Expr) : PCh X ops cs (tCh X.K X.mg Wx fun y => evC (n + 1) P d C y ops cs) := by
  have bad : (∀ y ρ st, evC (n + 1) P d C y ops cs ρ st = .no) → PCh X ops cs (tCh X.K X.mg Wx fun y => evC (n + 1) P d C y ops cs) := fun z => by
    refine ⟨fun _ _ _ _ _ _ _ _ _ _ ⟨Mo, H0, L0, L, ρ, st, y, r, w, h⟩ => ?_, fun _ _ _ _ _ _ _ _ _ _ ⟨Mo, H0, L0, L, ρ, st, y, r, w, h⟩ => ?_⟩
    · have h : Out (evC (n + 1) P d C y ops cs ρ st) _ _ := h
      rw [z] at h; exact h.elim
    · have h : Out (evC (n + 1) P d C y ops cs ρ st) _ _ := h
      rw [z] at h; exact h.elim
  match ops, cs, bad with
  | [], _, bad => exact bad fun _ _ _ => rfl
  | [_], [], bad => exact bad fun _ _ _ => rfl
  | _ :: _ :: _, [], bad => exact bad fun _ _ _ => rfl
  | [o], [e], _ => exact ch_one c (he e)
  | [_], _ :: _ :: _, bad => exact bad fun _ _ _ => rfl
  | _ :: _ :: _, [_], bad => exact bad fun _ _ _ => rfl
  | o :: o' :: os, e :: e' :: es, _ => exact ch_more c (he e) (ih _ _)
theorem cmp_go (c : Cxt P X d C Wx) {ops : List CmpOp} {cs : List Expr} {Q : Bool → Hp → Prop} {Ex' : Ex → Store → Prop} {pins : List (Addr × Obj)} {s : Shared} {σ : L2.St} {H : Hp} {Mo : Addr → Prop} {H0 : Hp} {L0 L : List Addr} {ρ : List Sl} {st : Store}
    (ha : PE X a (tM X.K X.mg Wx (evE n P d C a))) (I : Inv X pins σ H s) (r : Rl X.K X.mg Mo H0 L0 L H ρ σ st)
    (h : Out (M.bnd (evE n P d C a ρ) (fun x => evC n P d C x.1 ops cs ρ) st) (fun b st' => ∀ L' H', Po X.K X.mg Mo H0 L0 L H ρ σ Mo L' H' st' → Q b H') (ExQ X.K X.mg Mo H0 L0 L H ρ σ Wx)) :
    wpAny (model X.prog X.w) X.A (eval a X.env) (fun v s1 => ∃ x H1, Inv X pins σ H1 s1 ∧ RelV x v ∧ tCh X.K X.mg Wx (fun y => evC n P d C y ops cs) x σ H1 Q) X.xe s := by
  refine thn (ha.run pins s σ H (fun x H1 => tCh X.K X.mg Wx (fun y => evC n P d C y ops cs) x σ H1 Q) I (tM_then r (Out.bnd h) fun x st1 v1 L1 H1 h1 p1 w1 => ?_)) fun v s1 ⟨x, H1, I1, r1, q⟩ => ⟨x, H1, I1, r1, q⟩
  exact ⟨Mo, H0, L0, L1, ρ, st1, x.1, p1.rl, w1, Out.imp h1 (fun _ _ q L' H' p => q L' H' (p1.trans p)) fun _ _ q => q.from p1⟩
theorem e_cmp (c : Cxt P X d C Wx) {ops : List CmpOp} {cs : List Expr} (ha : PE X a (tM X.K X.mg Wx (evE n P d C a))) (ih : PCh X ops cs (tCh X.K X.mg Wx fun y => evC n P d C y ops cs)) :
    PE X (.Compare a ops cs pos) (tM X.K X.mg Wx (evE (n + 1) P d C (.Compare a ops cs pos))) := by
  refine ⟨fun pins s σ H Q I ⟨Mo, H0, L0, L, ρ, st, r, h⟩ => ?_⟩
  have h : Out ((if noSet cs = true then M.bnd (evE n P d C a ρ) (fun x => M.bnd (evC n P d C x.1 ops cs ρ) fun b => M.ret ((D.bl b, Kd.sh) : DK)) else M.no : M DK) st) _ _ := h
  by_cases hn : noSet cs = true
  · rw [if_pos hn] at h
    have h2 := Out.bnd h
    have h3 : Out (M.bnd (evE n P d C a ρ) (fun x => evC n P d C x.1 ops cs ρ) st) (fun b st' => ∀ L' H', Po X.K X.mg Mo H0 L0 L H ρ σ Mo L' H' st' → Q (.bl b) H') (ExQ X.K X.mg Mo H0 L0 L H ρ σ Wx) := by
      unfold M.bnd
      cases e : evE n P d C a ρ st with
      | ok x st1 =>
        rw [e] at h2
        exact (Out.bnd h2).imp (fun b st' q L' H' p => OkV.sh q p (by unfold Rep; rfl)) fun _ _ q => q
      | ex x st1 => rw [e] at h2; exact h2
      | no => rw [e] at h2; exact h2
    have g := cmp_go c (Ex' := fun _ _ => True) ha I r h3
    show wpAny _ _ (do compareChain pos (← eval a X.env) ops (markedEach ops cs (evalEach cs X.env))) _ _ s
    rw [markedEach_of_false _ _ _ (noSet_marks _ _ hn)]
    refine wpAny_bind (thn g fun v s1 ⟨x, H1, I1, r1, q⟩ => ?_)
    exact thn (ih.val pos pins s1 σ H1 x v _ I1 r1 q) fun u s2 ⟨z, H2, I2, r2, b, e, q⟩ => ⟨z, H2, I2, r2, by rw [e]; exact q⟩
  · rw [if_neg hn] at h
    exact h.elim

/-! ### tests -/
theorem _root_.L2.PT.nope {e : Expr} {t : TT} (h : ∀ σ H Q, ¬ t σ H Q) : PT X e t := ⟨fun pins s σ H Q I q => absurd q (h σ H Q)⟩
theorem t_cmp (c : Cxt P X d C Wx) {ops : List CmpOp} {cs : List Expr} (ha : PE X a (tM X.K X.mg Wx (evE n P d C a))) (ih : PCh X ops cs (tCh X.K X.mg Wx fun y => evC n P d C y ops cs)) :
    PT X (.Compare a ops cs pos) (tMB X.K X.mg Wx (evT (n + 1) P d C (.Compare a ops cs pos))) := by
  refine ⟨fun pins s σ H Q I ⟨Mo, H0, L0, L, ρ, st, r, h⟩ => ?_⟩
  have h : Out ((if noSet cs = true then M.bnd (evE n P d C a ρ) (fun x => evC n P d C x.1 ops cs ρ) else M.no : M Bool) st) _ _ := h
  by_cases hn : noSet cs = true
  · rw [if_pos hn] at h
    have g := cmp_go c (Ex' := fun _ _ => True) ha I r h
    show wpAny _ _ (do testChain pos (← eval a X.env) ops (markedEach ops cs (evalEach cs X.env))) _ _ s
    rw [markedEach_of_false _ _ _ (noSet_marks _ _ hn)]
    refine wpAny_bind (thn g fun v s1 ⟨x, H1, I1, r1, q⟩ => ?_)
    exact ih.tst pos pins s1 σ H1 x v _ I1 r1 q
  · rw [if_neg hn] at h
    exact h.elim
theorem t_not (ha : PT X a (tMB X.K X.mg Wx (evT n P d C a))) : PT X (.UnaryOp .Not a pos) (tMB X.K X.mg Wx (evT (n + 1) P d C (.UnaryOp .Not a pos))) := by
  refine (pt_not ha).imp fun σ H Q ⟨Mo, H0, L0, L, ρ, st, r, h⟩ => ?_
  exact ⟨Mo, H0, L0, L, ρ, st, r, (Out.bnd h).imp (fun b st1 q => q) fun _ _ q => q⟩
theorem t_if {t : Expr} (ht : PT X t (tMB X.K X.mg Wx (evT n P d C t))) (ha : PT X a (tMB X.K X.mg Wx (evT n P d C a))) (hb : PT X b (tMB X.K X.mg Wx (evT n P d C b))) :
    PT X (.IfExp t a b pos) (tMB X.K X.mg Wx (evT (n + 1) P d C (.IfExp t a b pos))) := by
  refine ⟨fun pins s σ H Q I ⟨Mo, H0, L0, L, ρ, st, r, h⟩ => ?_⟩
  refine isTrue_IfExp (thn (ht.run pins s σ H (fun k H1 => if k = true then tMB X.K X.mg Wx (evT n P d C a) σ H1 Q else tMB X.K X.mg Wx (evT n P d C b) σ H1 Q) I ⟨Mo, H0, L0, L, ρ, st, r, (Out.bnd h).imp (fun k st1 h1 L1 H1 p1 => ?_) fun _ _ q => q⟩) fun k s1 ⟨H1, I1, q⟩ => ?_)
  · cases k with
    | true => exact ⟨Mo, H0, L0, L1, ρ, st1, p1.rl, Out.imp h1 (fun _ _ q L' H' p => q L' H' (p1.trans p)) fun _ _ q => q.from p1⟩
    | false => exact ⟨Mo, H0, L0, L1, ρ, st1, p1.rl, Out.imp h1 (fun _ _ q L' H' p => q L' H' (p1.trans p)) fun _ _ q => q.from p1⟩
  · cases k with
    | true => exact ha.run pins s1 σ H1 Q I1 q
    | false => exact hb.run pins s1 σ H1 Q I1 q
theorem ts_all {op : BoolOp} (ht : ∀ e, PT X e (tMB X.K X.mg Wx (evT n P d C e))) (ih : ∀ es, PW X (.BoolOp op es pos) (tMB X.K X.mg Wx (evTs n P d C op es))) (es : List Expr) : PW X (.BoolOp op es pos) (tMB X.K X.mg Wx (evTs (n + 1) P d C op es)) := by
  cases es with
  | nil =>
    refine ⟨fun wh pins s σ H Q I ⟨Mo, H0, L0, L, ρ, st, r, h⟩ => ?_⟩
    cases op with
    | And => exact isTrue_and_nil ⟨H, I, h L H (Po.refl r)⟩
    | Or => exact isTrue_or_nil ⟨H, I, h L H (Po.refl r)⟩
  | cons e es =>
    refine ⟨fun wh pins s σ H Q I ⟨Mo, H0, L0, L, ρ, st, r, h⟩ => ?_⟩
    have h1 := Out.bnd h
    cases op with
    | And =>
      refine isTrue_and (thn ((ht e).run pins s σ H (fun k H1 => if k = true then tMB X.K X.mg Wx (evTs n P d C .And es) σ H1 Q else Q false H1) I ⟨Mo, H0, L0, L, ρ, st, r, h1.imp (fun k st1 h1 L1 H1 p1 => ?_) fun _ _ q => q⟩) fun k s1 ⟨H1, I1, q⟩ => ?_)
      · cases k with
        | true => exact ⟨Mo, H0, L0, L1, ρ, st1, p1.rl, Out.imp h1 (fun _ _ q L' H' p => q L' H' (p1.trans p)) fun _ _ q => q.from p1⟩
        | false => exact h1 L1 H1 p1
      · cases k with
        | true => exact (ih es).run wh pins s1 σ H1 Q I1 q
        | false => exact ⟨H1, I1, q⟩
    | Or =>
      refine isTrue_or (thn ((ht e).run pins s σ H (fun k H1 => if k = true then Q true H1 else tMB X.K X.mg Wx (evTs n P d C .Or es) σ H1 Q) I ⟨Mo, H0, L0, L, ρ, st, r, h1.imp (fun k st1 h1 L1 H1 p1 => ?_) fun _ _ q => q⟩) fun k s1 ⟨H1, I1, q⟩ => ?_)
      · cases k with
        | false => exact ⟨Mo, H0, L0, L1, ρ, st1, p1.rl, Out.imp h1 (fun _ _ q L' H' p => q L' H' (p1.trans p)) fun _ _ q => q.from p1⟩
        | true => exact h1 L1 H1 p1
      · cases k with
        | false => exact (ih es).run wh pins s1 σ H1 Q I1 q
        | true => exact ⟨H1, I1, q⟩
theorem t_val (ha : PE X a (tM X.K X.mg Wx (evE n P d C a))) (hp : ∀ whole, isTrue a X.env whole = (do let v ← whole; standAt a.pos; holding [v] (truthy v))) (he : ∀ ρ, evT (n + 1) P d C a ρ = .bnd (evE n P d C a ρ) fun x => .opt (tru x.1)) :
    PT X a (tMB X.K X.mg Wx (evT (n + 1) P d C a)) := by
  refine (pt_truth ha hp).imp fun σ H Q ⟨Mo, H0, L0, L, ρ, st, r, h⟩ => ?_
  rw [he] at h
  refine tM_then r (Out.bnd h) fun x st1 v1 L1 H1 h1 p1 w1 => ?_
  obtain ⟨z, e, q⟩ := Out.opt h1
  exact ⟨z, tru_V rfl w1 e, q L1 H1 p1⟩
theorem t_all (c : Cxt P X d C Wx) (hE : ∀ e, PE X e (tM X.K X.mg Wx (evE n P d C e))) (hT : ∀ e, PT X e (tMB X.K X.mg Wx (evT n P d C e))) (hTs : ∀ op es pos, PW X (.BoolOp op es pos) (tMB X.K X.mg Wx (evTs n P d C op es)))
    (hC : ∀ ops cs, PCh X ops cs (tCh X.K X.mg Wx fun y => evC n P d C y ops cs)) (e : Expr) : PT X e (tMB X.K X.mg Wx (evT (n + 1) P d C e)) := by
  cases e with
  | UnaryOp op a pos =>
    cases op with
    | Not => exact t_not (hT a)
    | _ => exact t_val (hE _) (fun _ => rfl) fun _ => rfl
  | BoolOp op es pos => exact (hTs op es pos).pt
  | IfExp t a b pos => exact t_if (hT t) (hT a) (hT b)
  | Compare a ops cs pos => exact t_cmp c (hE a) (hC ops cs)
  | _ => exact t_val (hE _) (fun _ => rfl) fun _ => rfl
end
end PI
set_option Elab.async false
set_option linter.all false
set_option maxRecDepth 100000
set_option maxHeartbeats 4000000
/-! PIS: sorted of data. -/
namespace PI
open PySem PySem.Spec PyProof.Rows L2
mutual
theorem reads_there {h : Heap} : ∀ {v : Value} {d : PyData} {as : List Addr}, Reads h v d as → ∀ b ∈ as, ∃ o, h.get? b = some o
  | _, _, _, .none => fun b m => by cases m
  | _, _, _, .bool _ => fun b m => by cases m
  | _, _, _, .int _ _ => fun b m => by cases m
  | _, _, _, .str _ _ => fun b m => by cases m
  | _, _, _, .list h1 _ _ h4 => fun b m => by
    rcases List.mem_cons.mp m with rfl | m
    · exact ⟨_, h1⟩
    · exact readsAll_there h4 b m
  | _, _, _, .tuple _ _ _ h4 => fun b m => readsAll_there h4 b m
  | _, _, _, .dict h1 _ _ h4 h5 => fun b m => by
    rcases List.mem_append.mp m with m | m
    · rcases List.mem_cons.mp m with rfl | m
      · exact ⟨_, h1⟩
      · exact readsAll_there h4 b m
    · exact readsAll_there h5 b m
theorem readsAll_there {h : Heap} : ∀ {vs : List Value} {ds : List PyData} {as : List Addr}, ReadsAll h vs ds as → ∀ b ∈ as, ∃ o, h.get? b = some o
  | _, _, _, .nil => fun b m => by cases m
  | _, _, _, .cons h1 h2 => fun b m => by
    rcases List.mem_append.mp m with m | m
    · exact reads_there h1 b m
    · exact readsAll_there h2 b m
end
/-- what is tracked stands in the heap -/
theorem obj_there {P : Program} {w : World} {H : Hp} {h : Heap} {a : Addr} {o : HO} (x : ObjOk P w H h a o) : ∃ u, h.get? a = some u := by
  cases o with
  | lst xs => exact ⟨_, x.2.choose_spec.choose_spec.2⟩
  | tup xs => obtain ⟨_, _, _, ob, e, _⟩ := x; exact ⟨_, e⟩
  | dK kvs => obtain ⟨_, _, _, _, o, _, _, e, _⟩ := x; exact ⟨_, e⟩
  | dT kvs => obtain ⟨_, _, _, _, o, _, _, e, _⟩ := x; exact ⟨_, e⟩
  | set S n => obtain ⟨o, _, _, _, e, _⟩ := x; exact ⟨_, e⟩
  | ins C dx fs => obtain ⟨_, _, _, e, _⟩ := x; exact ⟨_, e⟩
  | own y => exact x
  | xd fs => obtain ⟨_, ⟨_, _, _, e, _⟩, _⟩ := x; exact ⟨_, e⟩
  | rng lo hi => obtain ⟨_, _, _, e⟩ := x; exact ⟨_, e⟩
  | frz ob u => exact ⟨_, x.1⟩
  | tbl ps => exact ⟨_, (show h.get? a = some _ from x)⟩
  | met f y => exact ⟨_, (show h.get? a = some _ from x)⟩
  | ext φ => exact x.2.1
theorem hok_none {P : Program} {w : World} {H : Hp} {h : Heap} {a : Addr} (x : HOk P w H h) (e : h.get? a = none) : H a = none := by
  cases q : H a with
  | none => rfl
  | some u =>
    obtain ⟨o, ho⟩ := obj_there (x a u q)
    rw [e] at ho
    cases ho
section
variable {prog : Program} {w : World} {A : Around} {E : Value → Shared → Prop} {s : Shared}
/-- sorted of a list's or a tuple's data: a new list -/
theorem sorted_of {β : Type} {R : Value → β → Prop} {enc : β → PyData} {bs : List β} {l : Addr} {T : String} {o : Obj} {items : Array Value} {n : Nat} {Q : Value → Shared → Prop} (hT : T = "list" ∨ T = "tuple") (ho : s.heap.get? l = some o) (hc : o.cls = .type T) (hd : o.data = .seq items n)
    (e : PySem.W.EachIs R items.toList bs) (er : PySem.W.EachIs (fun v b => ∃ as, Reads s.heap v (enc b) as) items.toList bs) (hal : PySem.W.AllAlike (bs.map enc)) (hk : PySem.W.Sortable (bs.map enc)) (hL : bs.length ≤ sizeLine)
    (hu : ∀ b, b ∈ bs → A.units + 2 + (enc b).depth < cLine)
    (h : ∀ h' p out, (∀ b o', s.heap.get? b = some o' → h'.get? b = some o') → s.heap.get? p = none → PySem.W.EachIs R out (bs.mergeSort (PySem.W.dataLe false enc)) → (∃ m, h'.get? p = some (seqObj "list" out.toArray m)) → Q (.ref p) { s with heap := h' }) :
    wpAny (model prog w) A (call (.builtin "sorted") [.ref l]) Q E s := by
  have hz : items.toList.length ≤ sizeLine := by rw [e.length]; exact hL
  have hz2 : items.size ≤ sizeLine := by simpa using hz
  refine Calls.call_function_entry kind_sorted plain_sorted entry_sorted (args_sorted1 _) ?_
  unfold Builtin.«sorted»
  refine wpAny_bind (m := checkCount "sorted" 1 1 _) (wpAny_pure ?_)
  refine wpAny_bind (wpAny_collect_seq l hT ho hc hd (fun h' hk' => ?_) hz2)
  refine wpAny_bind (wpAny_newList ?_ hz)
  have old : ∀ b o', s.heap.get? b = some o' → (h'.push (seqObj "list" items.toList.toArray 0)).get? b = some o' := fun b o' hb => Heap.get?_push_of_some _ (hk' b o' hb)
  have at_ : (h'.push (seqObj "list" items.toList.toArray 0)).get? h'.objs.size = some (seqObj "list" items.toList.toArray 0) := Heap.get?_push_size _ rfl
  have hle : s.heap.get? h'.objs.size = none := by
    cases q : s.heap.get? h'.objs.size with
    | none => rfl
    | some o' => exact absurd (Heap.lt_size (hk' _ _ q)) (Nat.lt_irrefl _)
  have er2 : PySem.W.EachIs (fun v b => ∃ as, Reads (h'.push (seqObj "list" items.toList.toArray 0)) v (enc b) as ∧ h'.objs.size ∉ as) items.toList bs := er.mono fun v b ⟨as, r⟩ => ⟨as, PyProof.Rows.Reads.keeps old r, fun m => by
    obtain ⟨o', ho'⟩ := reads_there r _ m
    rw [hle] at ho'
    cases ho'⟩
  refine wpAny_bind (wpAny_holding (PySem.W.list_sort_data (s := { s with heap := h'.push (seqObj "list" items.toList.toArray 0) }) (a := h'.objs.size) (n := 0) at_ e er2 hal hk hL ?_ ?_))
  · intro b hb
    have := hu b hb
    show A.units + 1 + 1 + (enc b).depth < cLine
    omega
  · intro out hlen hout
    obtain ⟨m, hm⟩ := sortedHeap_at (out := out.toArray) at_
    refine wpAny_pure ⟨_, rfl, h _ _ out (fun b o' hb => ?_) hle hout ⟨m, hm⟩⟩
    have hb' := old b o' hb
    have hne : b ≠ h'.objs.size := fun z => by
      rw [z, hle] at hb
      cases hb
    rw [sortedHeap_old hne (Heap.lt_size hb')]
    exact hb'
end
/-! ### the rule -/
section
variable {X : Cx}
theorem each_rep {K : PySem.W.Frag} {mg : Str → Option Value} {W : Wo} : ∀ {ds : List D} {vs : List V} {us : List Value}, RepL K mg W ds vs → Vals vs us → PySem.W.EachIs (fun u d => ∃ v, RelV v u ∧ Rep K mg W d v) us ds
  | [], vs, us, r, h => by
    unfold RepL at r
    subst r
    cases h
    exact .nil
  | d :: ds, vs, us, r, h => by
    obtain ⟨v, vr, rfl, r1, r2⟩ := r.uncons
    cases h with
    | cons h1 h2 => exact .cons ⟨v, h1, r1⟩ (each_rep r2 h2)
theorem rep_each {K : PySem.W.Frag} {mg : Str → Option Value} {W : Wo} : ∀ {ds : List D} {us : List Value}, PySem.W.EachIs (fun u d => ∃ v, RelV v u ∧ Rep K mg W d v) us ds → ∃ vs, Vals vs us ∧ RepL K mg W ds vs
  | [], _, .nil => ⟨[], .nil, by unfold RepL; rfl⟩
  | d :: ds, _, .cons ⟨v, h1, r1⟩ h2 => by
    obtain ⟨vs, h3, r2⟩ := rep_each h2
    exact ⟨v :: vs, .cons h1 h3, .cons r1 r2⟩
theorem each_reads {pins : List (Addr × Obj)} {σ : L2.St} {H : Hp} {s : Shared} (I : Inv X pins σ H s) {mg : Str → Option Value} {W : Wo} (hW : W.H = H) : ∀ {ds : List D} {us : List Value}, (∀ d ∈ ds, d.pl = true) → PySem.W.EachIs (fun u d => ∃ v, RelV v u ∧ Rep X.K mg W d v) us ds → PySem.W.EachIs (fun u d => ∃ as, Reads s.heap u d.py as) us ds
  | [], _, _, .nil => .nil
  | d :: ds, _, hp, .cons ⟨v, h1, r1⟩ h2 => .cons (by
      have := Rep.dp d v (hp d (by simp)) r1
      rw [hW] at this
      exact Dp.reads I d.py v _ this h1) (each_reads I hW (fun d' hd' => hp d' (by simp [hd'])) h2)
def rSortD (K : PySem.W.Frag) (mg : Str → Option Value) : List V → Hp → VK → Prop := fun vs H Q => ∃ (a : Addr) (ws : List V) (ds : List D) (W : Wo), W.H = H ∧ vs = [.ref a] ∧ (SqL K H a ws ∨ SqT K H a ws) ∧ RepL K mg W ds ws ∧ srtB ds = true ∧
  ∀ ws' p, RepL K mg W (sortD ds) ws' → H p = none → Q (.ref p) (upd H p (.lst ws'))
theorem cr_sortD (hu : X.A.units + 65 < cLine) : CallR X (.builtin "sorted") (rSortD X.K X.mg) := by
  intro pins s σ H vs us Q I r h
  obtain ⟨a, ws, ds, W, hW, rfl, hs, hr, hb, q⟩ := h
  obtain ⟨u, rfl, ru⟩ := vals1 r
  obtain rfl : u = Value.ref a := ru
  unfold srtB at hb
  rw [Bool.and_eq_true, Bool.and_eq_true, decide_eq_true_eq] at hb
  obtain ⟨⟨hal, hso⟩, hlen⟩ := hb
  have each : ∀ d ∈ ds, d.pl = true ∧ d.py.depth ≤ 60 ∧ ∀ d' ∈ ds, PySem.W.alike d.py d'.py = true := fun d hd => by
    have := List.all_eq_true.mp hal d hd
    rw [Bool.and_eq_true, Bool.and_eq_true, decide_eq_true_eq] at this
    exact ⟨this.1.1, this.1.2, fun d' hd' => List.all_eq_true.mp this.2 d' hd'⟩
  have hA : PySem.W.AllAlike (ds.map D.py) := fun x hx y hy => by
    obtain ⟨d, hd, rfl⟩ := List.mem_map.mp hx
    obtain ⟨d', hd', rfl⟩ := List.mem_map.mp hy
    exact (each d hd).2.2 d' hd'
  have hS : PySem.W.Sortable (ds.map D.py) := by
    rw [Bool.or_eq_true] at hso
    rcases hso with h | h
    · refine .inl fun x hx => ?_
      obtain ⟨d, hd, rfl⟩ := List.mem_map.mp hx
      have := List.all_eq_true.mp h d hd
      revert this
      cases d.py with
      | tuple xs => cases xs with
        | nil => intro z; cases z
        | cons y r => exact fun _ => ⟨y, r, rfl⟩
      | _ => intro z; cases z
    · refine .inr fun x hx => ?_
      obtain ⟨d, hd, rfl⟩ := List.mem_map.mp hx
      have := List.all_eq_true.mp h d hd
      revert this
      cases d.py <;> intro z <;> first | cases z; done | exact ⟨fun e => (by cases e), fun xs e => (by cases e)⟩
  have hz : ds.length ≤ sizeLine := by rw [← lim_eq]; exact hlen
  have go : ∀ {T : String} {its : List Value} {o : Obj} {n : Nat}, (T = "list" ∨ T = "tuple") → Vals ws its → s.heap.get? a = some o → o.cls = .type T → o.data = .seq its.toArray n → wpAny (model X.prog X.w) X.A (call (.builtin "sorted") [.ref a]) (EP X pins σ Q) X.xe s := fun {T its o n} hT rv ho hc hd => by
    have e := each_rep (W := W) hr rv
    refine sorted_of (R := fun u d => ∃ v, RelV v u ∧ Rep X.K X.mg W d v) (enc := D.py) (bs := ds) hT ho hc hd (by simpa using e) (by simpa using each_reads I hW (fun d hd => (each d hd).1) e) hA hS hz (fun d hd => by
      have := (each d hd).2.1
      omega) fun h' p out hk hp hout ⟨m, hm⟩ => ?_
    obtain ⟨ws', rv', hr'⟩ := rep_each hout
    have hn : H p = none := hok_none I.hok hp
    refine ⟨.ref p, upd H p (.lst ws'), I.laidN (t' := s.toks) hk hp hn ⟨?_, out, m, rv', hm⟩, rfl, q ws' p hr' hn⟩
    rw [hr'.length, List.length_mergeSort]
    exact hz
  rcases hs with hs | hs
  · obtain ⟨its, rv, ⟨o, n, ho, hc, hdn, hdt⟩, _⟩ := I.list hs
    exact go (.inl rfl) rv ho hc hdt
  · obtain ⟨its, rv, ht, _⟩ := I.tuple hs
    obtain ⟨o, ho, hc, n, hd⟩ := ht
    exact go (.inr rfl) rv ho hc hd

theorem pyL_map : ∀ xs : List D, pyL xs = xs.map D.py
  | [] => by unfold pyL; rfl
  | x :: r => by unfold pyL; rw [pyL_map r]; rfl
mutual
theorem D.pyInj : ∀ a b : D, a.pl = true → b.pl = true → a.py = b.py → a = b
  | .non, b, _, hb, h => by cases b <;> first | rfl | (unfold D.pl at hb; cases hb; done) | (unfold D.py at h; cases h; done)
  | .bl x, b, _, hb, h => by cases b <;> first | (unfold D.py at h; cases h; rfl) | (unfold D.pl at hb; cases hb; done) | (unfold D.py at h; cases h; done)
  | .int x, b, _, hb, h => by cases b <;> first | (unfold D.py at h; cases h; rfl) | (unfold D.pl at hb; cases hb; done) | (unfold D.py at h; cases h; done)
  | .str x, b, _, hb, h => by cases b <;> first | (unfold D.py at h; cases h; rfl) | (unfold D.pl at hb; cases hb; done) | (unfold D.py at h; cases h; done)
  | .tup xs, b, ha, hb, h => by
    cases b with
    | tup ys =>
      unfold D.py at h
      unfold D.pl at ha hb
      rw [D.pyInjL xs ys ha hb (by injection h)]
    | _ => first | (unfold D.pl at hb; cases hb; done) | (unfold D.py at h; cases h; done)
  | .lst xs, b, ha, hb, h => by
    cases b with
    | lst ys =>
      unfold D.py at h
      unfold D.pl at ha hb
      rw [D.pyInjL xs ys ha hb (by injection h)]
    | _ => first | (unfold D.pl at hb; cases hb; done) | (unfold D.py at h; cases h; done)
  | .dct _ _, _, ha, _, _ => by unfold D.pl at ha; cases ha
  | .fn _, _, ha, _, _ => by unfold D.pl at ha; cases ha
  | .obj _, _, ha, _, _ => by unfold D.pl at ha; cases ha
  | .scr _, _, ha, _, _ => by unfold D.pl at ha; cases ha
theorem D.pyInjL : ∀ a b : List D, plL a = true → plL b = true → pyL a = pyL b → a = b
  | [], [], _, _, _ => rfl
  | [], y :: r, _, _, h => by unfold pyL at h; cases h
  | x :: r, [], _, _, h => by unfold pyL at h; cases h
  | x :: r, y :: t, ha, hb, h => by
    unfold plL at ha hb
    rw [Bool.and_eq_true] at ha hb
    unfold pyL at h
    injection h with h1 h2
    rw [D.pyInj x y ha.1 hb.1 h1, D.pyInjL r t ha.2 hb.2 h2]
end
mutual
theorem D.noDict : ∀ d : D, d.pl = true → d.py.hasDict = false
  | .non, _ => by unfold D.py; unfold PyData.hasDict; rfl
  | .bl _, _ => by unfold D.py; unfold PyData.hasDict; rfl
  | .int _, _ => by unfold D.py; unfold PyData.hasDict; rfl
  | .str _, _ => by unfold D.py; unfold PyData.hasDict; rfl
  | .tup xs, h => by unfold D.pl at h; unfold D.py; unfold PyData.hasDict; exact D.noDictL xs h
  | .lst xs, h => by unfold D.pl at h; unfold D.py; unfold PyData.hasDict; exact D.noDictL xs h
  | .dct _ _, h => by unfold D.pl at h; cases h
  | .fn _, h => by unfold D.pl at h; cases h
  | .obj _, h => by unfold D.pl at h; cases h
  | .scr _, h => by unfold D.pl at h; cases h
theorem D.noDictL : ∀ ds : List D, plL ds = true → PyData.hasDictAll (pyL ds) = false
  | [], _ => by unfold pyL; unfold PyData.hasDictAll; rfl
  | x :: r, h => by
    unfold plL at h
    rw [Bool.and_eq_true] at h
    unfold pyL
    unfold PyData.hasDictAll
    rw [Bool.or_eq_false_iff]
    exact ⟨D.noDict x h.1, D.noDictL r h.2⟩
end
/-- what srtB says -/
theorem srtB_ok {ds : List D} (hb : srtB ds = true) : (∀ d ∈ ds, d.pl = true ∧ d.py.depth ≤ 60 ∧ ∀ d' ∈ ds, PySem.W.alike d.py d'.py = true) ∧ (∀ d ∈ ds, d.py ≠ .none) ∧ ds.length ≤ lim := by
  unfold srtB at hb
  rw [Bool.and_eq_true, Bool.and_eq_true, decide_eq_true_eq] at hb
  obtain ⟨⟨hal, hso⟩, hlen⟩ := hb
  refine ⟨fun d hd => ?_, fun d hd e => ?_, hlen⟩
  · have := List.all_eq_true.mp hal d hd
    rw [Bool.and_eq_true, Bool.and_eq_true, decide_eq_true_eq] at this
    exact ⟨this.1.1, this.1.2, fun d' hd' => List.all_eq_true.mp this.2 d' hd'⟩
  · rw [Bool.or_eq_true] at hso
    rcases hso with h | h
    · have := List.all_eq_true.mp h d hd
      rw [e] at this
      cases this
    · have := List.all_eq_true.mp h d hd
      rw [e] at this
      cases this
theorem bestD_mem (f : D → D → Bool) : ∀ (xs : List D) (x : D), bestD f x xs ∈ x :: xs
  | [], x => by unfold bestD; simp
  | y :: r, x => by
    have h := bestD_mem f r (if f y x then y else x)
    unfold bestD at h ⊢
    rw [List.foldl_cons]
    by_cases q : f y x = true
    · rw [if_pos q] at h ⊢
      exact List.mem_cons_of_mem _ h
    · rw [if_neg q] at h ⊢
      rcases List.mem_cons.mp h with h | h
      · rw [h]; simp
      · exact List.mem_cons_of_mem _ (List.mem_cons_of_mem _ h)
theorem bestD_min : ∀ (xs : List D) (x : D), (bestD (fun y a => PySem.W.dataLt y.py a.py) x xs).py = PySem.W.minD x.py (xs.map D.py)
  | [], x => rfl
  | y :: r, x => by
    have h := bestD_min r (if PySem.W.dataLt y.py x.py then y else x)
    unfold bestD PySem.W.minD at h ⊢
    rw [List.foldl_cons, List.map_cons, List.foldl_cons]
    refine h.trans ?_
    congr 1
    split <;> rfl
theorem bestD_max : ∀ (xs : List D) (x : D), (bestD (fun y a => PySem.W.dataLt a.py y.py) x xs).py = PySem.W.maxD x.py (xs.map D.py)
  | [], x => rfl
  | y :: r, x => by
    have h := bestD_max r (if PySem.W.dataLt x.py y.py then y else x)
    unfold bestD PySem.W.maxD at h ⊢
    rw [List.foldl_cons, List.map_cons, List.foldl_cons]
    refine h.trans ?_
    congr 1
    split <;> rfl
/-- the item that is read as the best one -/
theorem best_rep {pins : List (Addr × Obj)} {σ : L2.St} {H : Hp} {s : Shared} (I : Inv X pins σ H s) {W : Wo} (hW : W.H = H) {mg : Str → Option Value} {ds : List D} {ws : List V} {its : List Value} (hr : RepL X.K mg W ds ws) (rv : Vals ws its) (hb : srtB ds = true) {b : D} (hm : b ∈ ds)
    {i : Nat} {v : Value} {h' : Heap} {bs : List Addr} (hi : its[i]? = some v) (hk : ∀ a o, s.heap.get? a = some o → h'.get? a = some o) (r : Reads h' v b.py bs) : ∃ w, RelV w v ∧ Rep X.K mg W b w := by
  have hv : ∃ w, ws[i]? = some w ∧ RelV w v := by
    have hl : i < ws.length := by rw [rv.length]; exact (List.getElem?_eq_some_iff.mp hi).1
    refine ⟨ws[i], by simp [hl], ?_⟩
    obtain ⟨u, hu, ru⟩ := rv.get (show ws[i]? = some ws[i] by simp [hl])
    rw [hi] at hu
    cases hu
    exact ru
  obtain ⟨w, hw, rw'⟩ := hv
  have hd : ∃ d, ds[i]? = some d := by
    have hl : i < ds.length := by rw [← hr.length]; exact (List.getElem?_eq_some_iff.mp hw).1
    exact ⟨_, List.getElem?_eq_getElem hl⟩
  obtain ⟨d, hd⟩ := hd
  obtain ⟨w', hw', rd⟩ := hr.get hd
  rw [hw] at hw'
  cases hw'
  have hmd := List.mem_of_getElem? hd
  obtain ⟨h1, _, _⟩ := srtB_ok hb
  have dp := Rep.dp d w (h1 d hmd).1 rd
  rw [hW] at dp
  obtain ⟨as, r2⟩ := Dp.reads I d.py w v dp rw'
  have e := PySem.W.alike_unique d.py b.py v as bs ((h1 d hmd).2.2 b hm) (Reads.keeps hk r2) r
  have e2 := D.pyInj d b (h1 d hmd).1 (h1 b hm).1 e
  rw [← e2]
  exact ⟨w, rw', rd⟩
theorem plL_all : ∀ {ds : List D}, (∀ d ∈ ds, d.pl = true) → plL ds = true
  | [], _ => by unfold plL; rfl
  | d :: r, h => by
    unfold plL
    rw [Bool.and_eq_true]
    exact ⟨h d (by simp), plL_all fun d' hd' => h d' (by simp [hd'])⟩
theorem depthAll_le {n : Nat} : ∀ ds : List D, (∀ d ∈ ds, d.py.depth ≤ n) → PyData.depthAll (ds.map D.py) ≤ n
  | [], _ => by simp [PyData.depthAll]
  | d :: r, h => by
    rw [List.map_cons]
    unfold PyData.depthAll
    exact Nat.max_le.mpr ⟨h d (by simp), depthAll_le r fun d' hd' => h d' (by simp [hd'])⟩
def rBestD (K : PySem.W.Frag) (mg : Str → Option Value) (f : D → D → Bool) : List V → Hp → VK → Prop := fun vs H Q => ∃ (a : Addr) (ws : List V) (x : D) (xs : List D) (W : Wo), W.H = H ∧ vs = [.ref a] ∧ (SqL K H a ws ∨ SqT K H a ws) ∧ RepL K mg W (x :: xs) ws ∧ srtB (x :: xs) = true ∧
  ∀ w, Rep K mg W (bestD f x xs) w → Q w H
theorem cr_minD (hu : X.A.units + 65 < cLine) (hc : X.calm = true) : CallR X (.builtin "min") (rBestD X.K X.mg fun y a => PySem.W.dataLt y.py a.py) := by
  intro pins s σ H vs us Q I r h
  obtain ⟨a, ws, x, xs, W, hW, rfl, hs, hr, hb, q⟩ := h
  obtain ⟨u, rfl, ru⟩ := vals1 r
  obtain rfl : u = Value.ref a := ru
  obtain ⟨h1, h2, h3⟩ := srtB_ok hb
  have hA : PySem.W.AlikeAll (x.py :: xs.map D.py) := by
    rw [← List.map_cons]
    exact ⟨fun y hy z hz => by
      obtain ⟨d, hd, rfl⟩ := List.mem_map.mp hy
      obtain ⟨d', hd', rfl⟩ := List.mem_map.mp hz
      exact (h1 d hd).2.2 d' hd', fun y hy => by
      obtain ⟨d, hd, rfl⟩ := List.mem_map.mp hy
      exact h2 d hd⟩
  have hdp : X.A.units + 1 + PyData.depthAll (x.py :: xs.map D.py) < cLine := by
    rw [← List.map_cons]
    have := depthAll_le (n := 60) (x :: xs) fun d hd => (h1 d hd).2.1
    omega
  have rds : ∀ {its : List Value}, Vals ws its → ∃ as, ReadsAll s.heap its (x.py :: xs.map D.py) as := fun {its} rv => by
    have hp : plL (x :: xs) = true := plL_all fun d hd => (h1 d hd).1
    have := RepL.dp (x :: xs) ws hp hr
    rw [hW, pyL_map] at this
    exact Dp.readsAll I _ ws its this rv
  have fin : ∀ {its : List Value}, Vals ws its → ∀ (i : Nat) v h' tk bs, its.toArray[i]? = some v → Reads h' v (PySem.W.minD x.py (xs.map D.py)) bs → (∀ b o, s.heap.get? b = some o → h'.get? b = some o) → EP X pins σ Q v { s with heap := h', toks := tk } := fun {its} rv i v h' tk bs hi hv hk => by
    rw [← bestD_min] at hv
    obtain ⟨w, rw', rp⟩ := best_rep I hW hr rv hb (bestD_mem _ xs x) (by simpa using hi) hk hv
    exact ⟨w, H, I.kept hk, rw', q w rp⟩
  rcases hs with hs | hs
  · obtain ⟨its, rv, pl, hz⟩ := I.list hs
    obtain ⟨as, ra⟩ := rds rv
    exact PySem.W.min_list_data (I.ok.hd hc) pl.isList ra hA hdp (fin rv)
  · obtain ⟨its, rv, pl, hz⟩ := I.tuple hs
    obtain ⟨as, ra⟩ := rds rv
    exact PySem.W.min_tuple_data (I.ok.hd hc) pl ra hA hdp (fin rv)
theorem cr_maxD (hu : X.A.units + 65 < cLine) (hc : X.calm = true) : CallR X (.builtin "max") (rBestD X.K X.mg fun y a => PySem.W.dataLt a.py y.py) := by
  intro pins s σ H vs us Q I r h
  obtain ⟨a, ws, x, xs, W, hW, rfl, hs, hr, hb, q⟩ := h
  obtain ⟨u, rfl, ru⟩ := vals1 r
  obtain rfl : u = Value.ref a := ru
  obtain ⟨h1, h2, h3⟩ := srtB_ok hb
  have hA : PySem.W.AlikeAll (x.py :: xs.map D.py) := by
    rw [← List.map_cons]
    exact ⟨fun y hy z hz => by
      obtain ⟨d, hd, rfl⟩ := List.mem_map.mp hy
      obtain ⟨d', hd', rfl⟩ := List.mem_map.mp hz
      exact (h1 d hd).2.2 d' hd', fun y hy => by
      obtain ⟨d, hd, rfl⟩ := List.mem_map.mp hy
      exact h2 d hd⟩
  have hdp : X.A.units + 1 + PyData.depthAll (x.py :: xs.map D.py) < cLine := by
    rw [← List.map_cons]
    have := depthAll_le (n := 60) (x :: xs) fun d hd => (h1 d hd).2.1
    omega
  have rds : ∀ {its : List Value}, Vals ws its → ∃ as, ReadsAll s.heap its (x.py :: xs.map D.py) as := fun {its} rv => by
    have hp : plL (x :: xs) = true := plL_all fun d hd => (h1 d hd).1
    have := RepL.dp (x :: xs) ws hp hr
    rw [hW, pyL_map] at this
    exact Dp.readsAll I _ ws its this rv
  have fin : ∀ {its : List Value}, Vals ws its → ∀ (i : Nat) v h' tk bs, its.toArray[i]? = some v → Reads h' v (PySem.W.maxD x.py (xs.map D.py)) bs → (∀ b o, s.heap.get? b = some o → h'.get? b = some o) → EP X pins σ Q v { s with heap := h', toks := tk } := fun {its} rv i v h' tk bs hi hv hk => by
    rw [← bestD_max] at hv
    obtain ⟨w, rw', rp⟩ := best_rep I hW hr rv hb (bestD_mem _ xs x) (by simpa using hi) hk hv
    exact ⟨w, H, I.kept hk, rw', q w rp⟩
  rcases hs with hs | hs
  · obtain ⟨its, rv, pl, hz⟩ := I.list hs
    obtain ⟨as, ra⟩ := rds rv
    exact PySem.W.max_list_data (I.ok.hd hc) pl.isList ra hA hdp (fin rv)
  · obtain ⟨its, rv, pl, hz⟩ := I.tuple hs
    obtain ⟨as, ra⟩ := rds rv
    exact PySem.W.max_tuple_data (I.ok.hd hc) pl ra hA hdp (fin rv)
/-- repr -/
def rRepr (K : PySem.W.Frag) : List V → Hp → VK → Prop := fun vs H Q => ∃ (a : Addr) (d : PyData), vs = [.ref a] ∧ Dp K H (.ref a) d ∧ d.showable = true ∧ d.hasDict = false ∧ d.shown.length ≤ sizeLine ∧ d.depth ≤ 60 ∧ Q (.str d.shown) H
theorem cr_repr (hu : X.A.units + 65 < cLine) (hg : X.A.guards = some []) : CallR X (.builtin "repr") (rRepr X.K) := by
  intro pins s σ H vs us Q I r h
  obtain ⟨a, d, rfl, hd, hs, hh, hz, hp, q⟩ := h
  obtain ⟨u, rfl, ru⟩ := vals1 r
  have hu' := ru
  obtain rfl : u = Value.ref a := ru
  obtain ⟨as, r1⟩ := Dp.reads I d (.ref a) _ hd hu'
  exact PySem.repr_of_reads' r1 hs (fun z => by rw [hh] at z; cases z) hg (by omega) (fun _ _ e => e) (fun h' u tk hk => ⟨.str _, H, I.kept hk, ⟨u, rfl⟩, q⟩) hz
end
end PI
set_option Elab.async false
set_option linter.all false
set_option maxRecDepth 100000
set_option maxHeartbeats 4000000
/-! PIM: index, count over data. -/
namespace PI
open PySem PySem.Spec PyProof.Rows L2
mutual
theorem D.plainOk : ∀ d : D, d.pl = true → d.py.plain = true
  | .non, _ => by unfold D.py; unfold PyData.plain; rfl
  | .bl _, _ => by unfold D.py; unfold PyData.plain; rfl
  | .int _, _ => by unfold D.py; unfold PyData.plain; rfl
  | .str _, _ => by unfold D.py; unfold PyData.plain; rfl
  | .tup xs, h => by unfold D.pl at h; unfold D.py; unfold PyData.plain; exact D.plainOkL xs h
  | .lst xs, h => by unfold D.pl at h; unfold D.py; unfold PyData.plain; exact D.plainOkL xs h
  | .dct _ _, h => by unfold D.pl at h; cases h
  | .fn _, h => by unfold D.pl at h; cases h
  | .obj _, h => by unfold D.pl at h; cases h
  | .scr _, h => by unfold D.pl at h; cases h
theorem D.plainOkL : ∀ ds : List D, plL ds = true → PyData.plainAll (pyL ds) = true
  | [], _ => by unfold pyL; unfold PyData.plainAll; rfl
  | x :: r, h => by
    unfold plL at h
    rw [Bool.and_eq_true] at h
    unfold pyL
    unfold PyData.plainAll
    rw [Bool.and_eq_true]
    exact ⟨D.plainOk x h.1, D.plainOkL r h.2⟩
end
section
variable {X : Cx}
/-- xs.count(y) -/
def rCntD (K : PySem.W.Frag) : V → List V → Hp → VK → Prop := fun x ys H Q => ∃ (a : Addr) (y : V) (d : PyData) (ds : List PyData), x = V.ref a ∧ ys = [y] ∧ Dp K H (V.ref a) (.list ds) ∧ Dp K H y d ∧
  PyData.plainAll ds = true ∧ d.plain = true ∧ d.depth ≤ 60 ∧ Q (.int ((ds.countP fun z => PyData.eqv z d : Nat) : Int)) H
theorem mt_cntL (hu : X.A.units + 65 < cLine) : MtR X "list.count" (rCntD X.K) := by
  intro pins s σ H x xs v us Q I rx rxs h
  obtain ⟨a, y, d, ds, rfl, rfl, ht, hy, p1, p2, dep, q⟩ := h
  obtain rfl : v = Value.ref a := rx
  obtain ⟨uy, rfl, ry⟩ := vals1 rxs
  obtain ⟨bs, rd⟩ := Dp.reads I d y uy hy ry
  cases ht with
  | lst hs ha =>
    obtain ⟨its, rv, pl, _⟩ := I.list hs
    obtain ⟨as, rs⟩ := Dp.readsAll I ds _ its ha rv
    exact SeqAt.count_list_data (vs := its.toArray) pl.isList rs rd p1 p2 (Nat.lt_of_le_of_lt (Nat.add_le_add_left (Nat.min_le_right _ _) _) (by omega)) ⟨.int _, H, I.tok _, ⟨_, rfl⟩, q⟩
end
end PI
set_option Elab.async false
set_option linter.all false
set_option maxRecDepth 100000
set_option maxHeartbeats 4000000
/-! PI6: argument lists, displays, subscripts, slices. -/
namespace PI
open PySem PySem.Spec PyProof.Rows L2 PD
section
variable {P : Pg} {X : Cx} {n d : Nat} {C : Ct} {Wx : WX} {a b e : Expr} {es : List Expr} {pos : Pos}
theorem star_cons (h : notStar e = true) (env : Env) : starEach (e :: es) env = (false, eval e env) :: starEach es env := by
  cases e <;> first | rfl | (unfold notStar at h; cases h)
theorem noStar_plain : ∀ (es : List Expr) (env : Env) (pos : Pos), noStar es = true → (backTo pos (starEach es env)).any (·.1) = false
  | [], _, _, _ => rfl
  | e :: es, env, pos, h => by
    unfold noStar at h
    rw [Bool.and_eq_true] at h
    rw [star_cons h.1]
    have := noStar_plain es env pos h.2
    simp only [backTo, List.map_cons, List.any_cons] at this ⊢
    first | exact this | simpa using this
theorem _root_.L2.PA.nope {es : List Expr} {t : TA} (h : ∀ σ H Q, ¬ t σ H Q) : PA X es t := ⟨fun pos pins s σ H Q I q => absurd q (h σ H Q)⟩
theorem l_nil : PA X [] (tML X.K X.mg Wx (evL (n + 1) P d C [])) := pa_nil.imp fun σ H Q ⟨Mo, H0, L0, L, ρ, st, r, h⟩ => h [] L H (Po.refl r) .nil
/-- one item handed on, the rest -/
theorem l_item {σ : L2.St} {H : Hp} {Q : List V → Hp → Prop} {Mo : Addr → Prop} {H0 : Hp} {L0 L : List Addr} {ρ : List Sl} {st : Store} (r : Rl X.K X.mg Mo H0 L0 L H ρ σ st)
    (h : Out (M.bnd (evE n P d C e ρ) (fun x => M.bnd (evL n P d C es ρ) fun ys => (match strong [x] with
      | some [z] => M.ret (z :: ys)
      | _ => M.no)) st) (fun xs st' => ∀ vs L' H', Po X.K X.mg Mo H0 L0 L H ρ σ Mo L' H' st' → RepL X.K X.mg (wo Mo L' H' ρ σ) xs vs → Q vs H') (ExQ X.K X.mg Mo H0 L0 L H ρ σ Wx)) :
    tCons (tM X.K X.mg Wx (evE n P d C e)) (tML X.K X.mg Wx (evL n P d C es)) σ H Q := by
  refine ⟨Mo, H0, L0, L, ρ, st, r, (Out.bnd h).imp (fun x st1 h1 v1 L1 H1 p rv fr => ?_) fun _ _ q => q⟩
  obtain ⟨p1, w1⟩ := p.read rv fr r
  refine ⟨Mo, H0, L0, L1, ρ, st1, p1.rl, (Out.bnd h1).imp (fun ys st2 h2 vs L2' H2 p2 rl2 => ?_) fun _ _ q => q.from p1⟩
  obtain ⟨x, k⟩ := x
  cases k with
  | wk => exact h2.elim
  | sh =>
    have h2 : Out (M.ret (x :: ys) st2) _ _ := h2
    exact Out.ret h2 (v1 :: vs) L2' H2 (p1.trans p2) (.cons (Rep.le p2.le _ _ (p.share rv fr r (by simp)).2) rl2)
  | fr =>
    have h2 : Out (M.ret (x :: ys) st2) _ _ := h2
    exact Out.ret h2 (v1 :: vs) L2' H2 (p1.trans p2) (.cons (Rep.le p2.le _ _ (p.share rv fr r (by simp)).2) rl2)
theorem l_cons (hE : ∀ e, PE X e (tM X.K X.mg Wx (evE n P d C e))) (ih : PA X es (tML X.K X.mg Wx (evL n P d C es))) : PA X (e :: es) (tML X.K X.mg Wx (evL (n + 1) P d C (e :: es))) := by
  by_cases hs : notStar e = true
  · refine (pa_cons (hE e) ih (star_cons hs _)).imp fun σ H Q ⟨Mo, H0, L0, L, ρ, st, r, h⟩ => l_item r ?_
    cases e <;> first | exact h | (unfold notStar at hs; cases hs)
  · cases e with
    | Starred e' p' =>
      refine (StX.pa_star (hE e') ih).imp fun σ H Q ⟨Mo, H0, L0, L, ρ, st, r, h⟩ => ?_
      refine tM_then r (Out.bnd h) fun x st1 v1 L1 H1 h1 p1 w1 => ?_
      have fin : ∀ (xs : List D) (us : List V) (p : Addr), v1 = .ref p → (SqT X.K H1 p us ∨ SqL X.K H1 p us) → RepL X.K X.mg (wo Mo L1 H1 ρ σ) xs us →
          Out (M.bnd (evL n P d C es ρ) (fun ys => M.ret (xs ++ ys)) st1) (fun xs st' => ∀ vs L' H', Po X.K X.mg Mo H0 L0 L H ρ σ Mo L' H' st' → RepL X.K X.mg (wo Mo L' H' ρ σ) xs vs → Q vs H') (ExQ X.K X.mg Mo H0 L0 L H ρ σ Wx) →
          ∃ p xs, v1 = V.ref p ∧ (SqT X.K H1 p xs ∨ SqL X.K H1 p xs) ∧ tML X.K X.mg Wx (evL n P d C es) σ H1 fun ys H2 => Q (xs ++ ys) H2 := fun xs us p e1 e2 e3 h1 => by
        refine ⟨p, us, e1, e2, Mo, H0, L0, L1, ρ, st1, p1.rl, (Out.bnd h1).imp (fun ys st2 h2 vs L2' H2 p2 rl2 => ?_) fun _ _ q => q.from p1⟩
        exact Out.ret h2 (us ++ vs) L2' H2 (p1.trans p2) ((RepL.le p2.le _ _ e3).append rl2)
      obtain ⟨x, k⟩ := x
      cases x with
      | lst xs =>
        obtain ⟨p, us, e1, e2, e3⟩ := w1.lst
        exact fin xs us p e1 (.inr (.of e2)) e3 h1
      | tup xs =>
        obtain ⟨p, us, e1, e2, _, e3⟩ := w1.tup
        exact fin xs us p e1 (.inl e2) e3 h1
      | _ => exact h1.elim
    | _ => exact absurd rfl hs

/-! ### values of a pure call -/
theorem w_nil : PA X [] (tMW X.K X.mg Wx (evW (n + 1) P d C [])) := pa_nil.imp fun σ H Q ⟨Mo, H0, L0, L, ρ, st, r, h⟩ => h [] L H (Po.refl r) (by unfold RWL; rfl)
theorem w_cons (hs : notStar e = true) (hE : ∀ e, PE X e (tM X.K X.mg Wx (evE n P d C e))) (ih : PA X es (tMW X.K X.mg Wx (evW n P d C es))) : PA X (e :: es) (tMW X.K X.mg Wx (evW (n + 1) P d C (e :: es))) := by
  refine (pa_cons (hE e) ih (star_cons hs _)).imp fun σ H Q ⟨Mo, H0, L0, L, ρ, st, r, h⟩ => ?_
  refine tM_then r (Out.bnd h) fun x st1 v1 L1 H1 h1 p1 w1 => ?_
  refine ⟨Mo, H0, L0, L1, ρ, st1, p1.rl, (Out.bnd h1).imp (fun ys st2 h2 vs L2' H2 p2 rl2 => ?_) fun _ _ q => q.from p1⟩
  exact Out.ret h2 (v1 :: vs) L2' H2 (p1.trans p2) (by unfold RWL; exact ⟨v1, vs, rfl, w1.po p2, rl2⟩)

/-! ### displays -/
theorem e_list (ih : PA X es (tML X.K X.mg Wx (evL n P d C es))) : PE X (.List es pos) (tM X.K X.mg Wx (evE (n + 1) P d C (.List es pos))) := by
  refine ((pe_lst ih).kf).imp fun σ H Q ⟨Mo, H0, L0, L, ρ, st, r, h⟩ => ?_
  refine ⟨Mo, H0, L0, L, ρ, st, r, (Out.bnd h).imp (fun xs st1 h1 vs L1 H1 p1 rl1 => ?_) fun _ _ q => q⟩
  split at h1
  · rename_i hl
    exact ⟨by rw [rl1.length, ← lim_eq]; exact hl, fun p hp kf => (OkV.from p1 (Out.ret h1)).lst p1.rl rl1 hp kf⟩
  · exact h1.elim
theorem e_tuple {k : Nat} (ih : PA X es (tML X.K X.mg Wx (evL n P d C es))) : PE X (.Tuple es k pos) (tM X.K X.mg Wx (evE (n + 1) P d C (.Tuple es k pos))) := by
  refine ((pe_tup ih).kf).imp fun σ H Q ⟨Mo, H0, L0, L, ρ, st, r, h⟩ => ?_
  refine ⟨Mo, H0, L0, L, ρ, st, r, (Out.bnd h).imp (fun xs st1 h1 vs L1 H1 p1 rl1 => ?_) fun _ _ q => q⟩
  split at h1
  · rename_i hl
    exact ⟨by rw [rl1.length, ← lim_eq]; exact hl, fun p hp kf => (OkV.from p1 (Out.ret h1)).tup p1.rl rl1 hp kf⟩
  · exact h1.elim

/-! ### subscripts -/
theorem atI_rep {K : PySem.W.Frag} {mg : Str → Option Value} {W : Wo} {xs : List D} {vs : List V} {i : Int} {z : D} (r : RepL K mg W xs vs) (h : atI xs i = some z) : ∃ v, atI vs i = some v ∧ Rep K mg W z v := by
  unfold atI at h ⊢
  rw [r.length]
  cases e : ixN xs.length i with
  | none => rw [e] at h; cases h
  | some j =>
    rw [e] at h
    exact r.get h
theorem atI_scr {ns : List Int} {i z : Int} (h : atI ns i = some z) : atI (ns.map V.int) i = some (.int z) := by
  unfold atI at h ⊢
  rw [List.length_map]
  cases e : ixN ns.length i with
  | none => rw [e] at h; cases h
  | some j =>
    rw [e] at h
    show (ns.map V.int)[j]? = _
    rw [List.getElem?_map, show ns[j]? = some z from h]
    rfl
theorem ix_gen {K : PySem.W.Frag} {mg : Str → Option Value} {Mo : Addr → Prop} {H0 H2 : Hp} {L0 L2' : List Addr} {ρ : List Sl} {σ : L2.St} {st2 : Store} {x y z : D} {v1 v2 : V} {Q : VK} (r : Rl K mg Mo H0 L0 L2' H2 ρ σ st2) (w1 : RW K mg (wo Mo L2' H2 ρ σ) x v1 ∨ ∃ a, v1 = .ref a ∧ Own K mg (wo Mo L2' H2 ρ σ) x a) (w2 : RW K mg (wo Mo L2' H2 ρ σ) y v2)
    (e' : ixD x y = some z) (q : ∀ v, Rep K mg (wo Mo L2' H2 ρ σ) z v → Q v H2) : rIx K v1 v2 H2 Q ∨ rIxX K v1 v2 H2 Q := by
  cases x with
  | lst xs =>
    cases y with
    | int i =>
      obtain ⟨p', vs, e1, e2, e3⟩ : ∃ a vs, v1 = .ref a ∧ H2 a = some (.lst vs) ∧ RepL K mg (wo Mo L2' H2 ρ σ) xs vs := by
        rcases w1 with w1 | ⟨a, rfl, vs, h1, h2⟩
        · exact w1.lst
        · exact ⟨a, vs, rfl, h1, h2⟩
      obtain ⟨v, e4, e5⟩ := atI_rep e3 e'
      exact .inl (.inl ⟨p', vs, _, v, e1, w2.int, .of e2, e4, q _ e5⟩)
    | _ => cases e'
  | scr ns =>
    cases y with
    | int i =>
      rcases w1 with w1 | ⟨a, _, o⟩
      · obtain ⟨p', e1, e2⟩ := w1.scr
        cases e3 : atI ns i with
        | none =>
          replace e' : (atI ns i).map D.int = some z := e'
          rw [e3] at e'; cases e'
        | some z' =>
          replace e' : (atI ns i).map D.int = some z := e'
          rw [e3] at e'
          cases e'
          exact .inl (.inl ⟨p', _, _, _, e1, w2.int, e2, atI_scr e3, q _ (by unfold Rep; rfl)⟩)
      · exact o.elim
    | _ => cases e'
  | tup xs =>
    cases y with
    | int i =>
      rcases w1 with w1 | ⟨a, _, o⟩
      · obtain ⟨p', vs, e1, e2, _, e3⟩ := w1.tup
        obtain ⟨v, e4, e5⟩ := atI_rep e3 e'
        exact .inl (.inr (.inl ⟨p', vs, _, v, e1, w2.int, e2, e4, q _ e5⟩))
      · exact o.elim
    | _ => cases e'
  | dct ks vs =>
    replace e' : getD ks vs y = some z := by
      cases y <;> exact e'
    obtain ⟨a, e1, o⟩ : ∃ a, v1 = .ref a ∧ Own K mg (wo Mo L2' H2 ρ σ) (.dct ks vs) a := by
      rcases w1 with w1 | ⟨a, rfl, o⟩
      · obtain ⟨a, e1, o, _⟩ := w1.dct
        exact ⟨a, e1, o⟩
      · exact ⟨a, rfl, o⟩
    obtain ⟨oo, LL, R⟩ := o.dct
    obtain ⟨k, vv, ky, hf, rv⟩ := R.get (let ⟨_, hk⟩ := get_nk e'; w2.key hk) e'
    exact .inr ⟨a, oo, LL, k, vv, e1, R.at', ky, hf, q _ rv⟩
  | str s =>
    cases y with
    | int i =>
      rcases w1 with w1 | ⟨a, _, o⟩
      · replace e' : (if s.length ≤ lim then (atI s.cps.toList i).map fun c => D.str ⟨#[c]⟩ else none) = some z := e'
        split at e'
        · rename_i hl
          cases e3 : atI s.cps.toList i with
          | none => rw [e3] at e'; cases e'
          | some z =>
            rw [e3] at e'
            cases e'
            exact .inl (.inr (.inr ⟨s, i, z, w1.str, w2.int, by rw [← lim_eq]; exact hl, e3, q _ (by unfold Rep; rfl)⟩))
        · cases e'
      · exact o.elim
    | _ => cases e'
  | _ => cases y <;> cases e'
theorem e_index (hu : X.A.units + 9 < cLine) (hi : ∀ l u s p, b ≠ .Slice l u s p) (ha : PE X a (tM X.K X.mg Wx (evE n P d C a))) (hb : PE X b (tM X.K X.mg Wx (evE n P d C b))) : PE X (.Subscript a b pos) (tM X.K X.mg Wx (evE (n + 1) P d C (.Subscript a b pos))) := by
  have hpl : PlainIx b := by
    intro o i
    cases b <;> first | rfl | exact absurd rfl (hi _ _ _ _)
  refine (pe_ix (ix_seq.or (PD.ix_dct hu)) ha hb hpl).imp fun σ H Q ⟨Mo, H0, L0, L, ρ, st, r, h⟩ => ?_
  replace h : Out (M.bnd (evE n P d C a ρ) (fun x => M.bnd (evE n P d C b ρ) fun y => (match x.1, y.1 with
      | .obj l, y => fun st => (match st[l]? with
        | some (.box d) => M.opt ((ixD d y).map fun z => ((z, Kd.sh) : DK)) st
        | _ => .no)
      | x, y => M.opt ((ixD x y).map fun z => ((z, Kd.sh) : DK)))) st) (OkV X.K X.mg Mo H0 L0 L H ρ σ Q) (ExQ X.K X.mg Mo H0 L0 L H ρ σ Wx) := by
    cases b <;> first | exact h | exact absurd rfl (hi _ _ _ _)
  refine tM_then r (Out.bnd h) fun x st1 v1 L1 H1 h1 p1 w1 => ?_
  refine tM_then p1.rl ((Out.bnd h1).imp (fun _ _ q => q) fun _ _ q => q.from p1) fun y st2 v2 L2' H2 h2 p2 w2 => ?_
  replace w1 := w1.po p2
  have p := p1.trans p2
  obtain ⟨x, k⟩ := x
  obtain ⟨y, k2⟩ := y
  clear h1
  dsimp only at w1 w2 h2
  have gen : ∀ {x : D}, RW X.K X.mg (wo Mo L2' H2 ρ σ) x v1 → Out (M.opt ((ixD x y).map fun z => ((z, Kd.sh) : DK)) st2) (OkV X.K X.mg Mo H0 L0 L H ρ σ Q) (ExQ X.K X.mg Mo H0 L0 L H ρ σ Wx) → rIx X.K v1 v2 H2 Q ∨ rIxX X.K v1 v2 H2 Q := fun {x} w1 h2 => by
    obtain ⟨z, e, q⟩ := Out.opt h2
    obtain ⟨z', e'⟩ : ∃ z', ixD x y = some z' := by
      cases e' : ixD x y with
      | none => rw [e'] at e; cases e
      | some z' => exact ⟨z', rfl⟩
    rw [e'] at e
    cases e
    exact ix_gen p.rl (.inl w1) w2 e' fun v rv => q.sh p rv
  cases x with
  | obj l =>
    replace h2 : Out ((match st2[l]? with
      | some (.box d) => M.opt ((ixD d y).map fun z => ((z, Kd.sh) : DK)) st2
      | _ => .no) : R DK) (OkV X.K X.mg Mo H0 L0 L H ρ σ Q) (ExQ X.K X.mg Mo H0 L0 L H ρ σ Wx) := h2
    cases e : st2[l]? with
    | none => rw [e] at h2; exact h2.elim
    | some c =>
      cases c with
      | tab A q => rw [e] at h2; exact h2.elim
      | box dd =>
        rw [e] at h2
        obtain ⟨z, e1, q⟩ := Out.opt h2
        unfold RW Rep at w1
        obtain ⟨p', e2, e3⟩ := w1
        have ow := p2.rl.cel l _ p' e e3
        cases e6 : ixD dd y with
        | none => rw [e6] at e1; cases e1
        | some z' =>
          rw [e6] at e1
          cases e1
          exact ix_gen p.rl (.inr ⟨p', e2, ow⟩) w2 e6 fun v rv => q.sh p rv
  | _ => exact gen w1 h2
theorem e_dict0 : PE X (.Dict [] [] pos) (tM X.K X.mg Wx (evE (n + 1) P d C (.Dict [] [] pos))) := by
  refine PD.pe_xnew.kf.imp fun σ H Q ⟨Mo, H0, L0, L, ρ, st, r, h⟩ p o hp hs hc kf => ?_
  obtain ⟨r1, l1⟩ := r.laidB (o := DX p o) True.intro hp kf
  exact (Out.ret h : OkV X.K X.mg Mo H0 L0 L H ρ σ Q (.dct [] [], .fr) st) (.ref p) L _ ⟨r1, l1, fun b u e n => by rw [upd_ne (ne_of_none e hp)]; exact e, fun a h n => absurd h n⟩ ⟨p, rfl, o, [], ⟨hs, upd_same, hc⟩, (by unfold nkL; rfl), rfl, .nil, .nil⟩ fun _ a e => by cases e; exact hp
theorem o_all (hE : ∀ e, PE X e (tM X.K X.mg Wx (evE n P d C e))) (o : Option Expr) : PO X o (fun σ H Q => ∃ Mo H0 L0 L ρ st, Rl X.K X.mg Mo H0 L0 L H ρ σ st ∧ Out (evO (n + 1) P d C o ρ st) (fun i st' => ∀ L' H', Po X.K X.mg Mo H0 L0 L H ρ σ Mo L' H' st' → Q i H') (ExQ X.K X.mg Mo H0 L0 L H ρ σ Wx)) := by
  cases o with
  | none => exact ⟨fun pins s σ H Q I ⟨Mo, H0, L0, L, ρ, st, r, h⟩ => po_none.run pins s σ H Q I (h L H (Po.refl r))⟩
  | some e =>
    refine ⟨fun pins s σ H Q I ⟨Mo, H0, L0, L, ρ, st, r, h⟩ => (po_some (hE e)).run pins s σ H Q I ?_⟩
    refine tM_then r (Out.bnd h) fun x st1 v1 L1 H1 h1 p1 w1 => ?_
    obtain ⟨z, e1, q⟩ := Out.opt h1
    obtain ⟨x, k⟩ := x
    cases x with
    | int i => cases e1; exact ⟨i, w1.int, q L1 H1 p1⟩
    | _ => cases e1
end
end PI
set_option Elab.async false
set_option linter.all false
set_option maxRecDepth 100000
set_option maxHeartbeats 4000000
/-! PI7: slices, built-ins, isinstance, join. -/
namespace PI
open PySem PySem.Spec PyProof.Rows L2
section
variable {P : Pg} {X : Cx} {n d : Nat} {C : Ct} {Wx : WX} {a b e : Expr} {es : List Expr} {pos p1 p2 p3 : Pos} {te : TE}
theorem rev_pick (z : Str) : (Builtin.Str.strSliceIndices none none (-1) z.length).filterMap (z.cps[·]?) = z.cps.toList.reverse := by
  rw [picked_rev, filterMap_get, List.map_map]
  · obtain ⟨⟨l⟩⟩ := z
    apply List.ext_getElem
    · simp [Str.length]
    · intro i h1 h2
      have h3 : i < l.length := by simpa [Str.length] using h1
      have h4 : l.length - 1 - i < l.length := by omega
      simp [Str.length, Array.getD, h4]
  · intro i hi
    obtain ⟨k, hk, rfl⟩ := List.mem_map.mp hi
    have hk' : k < z.length := List.mem_range.mp hk
    show z.length - 1 - k < z.length
    omega
theorem pe_revS {k : Nat} (he : PE X e te) : PE X (.Subscript e (.Slice none none (some (.UnaryOp .USub (.Constant (.int 1) k p1) p2)) p3) pos) (fun σ H Q => te σ H fun x H1 => ∃ z, x = .str z ∧ z.length ≤ sizeLine ∧ Q (.str ⟨z.cps.toList.reverse.toArray⟩) H1) := by
  refine ⟨fun pins s σ H Q I h => ?_⟩
  refine Subscript_ (thn (he.run pins s σ H _ I h) fun v s1 ⟨x, H1, I1, r1, q1⟩ => ?_)
  obtain ⟨z, ex, hz, q⟩ := q1
  subst ex
  obtain ⟨t, rfl⟩ := r1
  have hst : PO X (some (.UnaryOp .USub (.Constant (.int 1) k p1) p2)) (tPart (tUn (rU fun i => .int (-i)) (tC (.int 1)))) := po_some (pe_un un_neg pe_int)
  refine wpAny_Slice (thn (po_none.run pins s1 σ H1 (fun o H2 => o = none ∧ H2 = H1) I1 ⟨rfl, rfl⟩) fun vl s2 ⟨l, H2, I2, pl, el, e2⟩ => ?_)
  subst el e2
  refine thn (po_none.run pins s2 σ H2 (fun o H3 => o = none ∧ H3 = H2) I2 ⟨rfl, rfl⟩) fun vu s3 ⟨u, H3, I3, pu, eu, e3⟩ => ?_
  subst eu e3
  refine thn (hst.run pins s3 σ H3 (fun o H4 => o = some (-1) ∧ H4 = H3) I3 ⟨1, rfl, -1, rfl, rfl, rfl⟩) fun vs s4 ⟨o, H4, I4, ps, eo, e4⟩ => ?_
  subst eo e4
  have I5 : Inv X pins σ H4 { s4 with heap := s4.heap.push { cls := .type "slice", data := .fields #[vl, vu, vs] } } := I4.kept (t' := s4.toks) fun b ob q => Heap.get?_push_of_some _ q
  show wpAny (model X.prog X.w) X.A (subscriptTail e (.Slice none none (some (.UnaryOp .USub (.Constant (.int 1) k p1) p2)) p3) (.str z t) (.ref s4.heap.objs.size)) (EP X pins σ Q) X.xe { s4 with heap := s4.heap.push { cls := .type "slice", data := .fields #[vl, vu, vs] } }
  have hsl := Heap.IsSliceOf.new s4.heap vl vu vs
  obtain ⟨os, hos, hcs, hds⟩ := hsl
  obtain ⟨l', rfl, e5⟩ := IsPart.raw pl
  obtain ⟨u', rfl, e6⟩ := IsPart.raw pu
  obtain ⟨w', rfl, e7⟩ := IsPart.raw ps
  refine tail_any (ops := [.str z t, .ref s4.heap.objs.size]) (typeIs_str _ z t) F.slot_str_getitem.lookup ?_ (by with_unfolding_all rfl)
  refine wpAny_getItem_str_slice (l := l') (u := u') (st := w') ⟨os, hos, hcs, hds⟩ (by rw [e7]; rfl) ?_
  unfold sliceMade slicePicked
  rw [e5, e6, e7]
  show Made.post (if ((-1 : Int) == 1 && (Builtin.Str.strSliceIndices none none (-1) z.length).length == z.length) = true then Made.val (.str z t)
    else Made.str ⟨((Builtin.Str.strSliceIndices none none (-1) z.length).filterMap (z.cps[·]?)).toArray⟩) (EP X pins σ Q) _
  rw [if_neg (by simp), rev_pick]
  refine ⟨?_, .str _, H4, I5.tok _, ⟨_, rfl⟩, q⟩
  show z.cps.toList.reverse.toArray.size ≤ sizeLine
  simpa [Str.length] using hz
theorem e_slice (ho : ∀ o, PO X o (fun σ H Q => ∃ Mo H0 L0 L ρ st, Rl X.K X.mg Mo H0 L0 L H ρ σ st ∧ Out (evO n P d C o ρ st) (fun i st' => ∀ L' H', Po X.K X.mg Mo H0 L0 L H ρ σ Mo L' H' st' → Q i H') (ExQ X.K X.mg Mo H0 L0 L H ρ σ Wx)))
    (ha : PE X a (tM X.K X.mg Wx (evE n P d C a))) {lo hi : Option Expr} : PE X (.Subscript a (.Slice lo hi none p2) pos) (tM X.K X.mg Wx (evE (n + 1) P d C (.Subscript a (.Slice lo hi none p2) pos))) := by
  refine (pe_slice (sl_list.or (sl_tupA.or sl_str)) ha (ho lo) (ho hi)).kf.imp fun σ H Q ⟨Mo, H0, L0, L, ρ, st, r, h⟩ => ?_
  refine tM_then r (Out.bnd h) fun x st1 v1 L1 H1 h1 p1 w1 => ?_
  refine ⟨Mo, H0, L0, L1, ρ, st1, p1.rl, (Out.bnd h1).imp (fun l st2 h2 L2' H2 p2 => ?_) fun _ _ q => q.from p1⟩
  refine ⟨Mo, H0, L0, L2', ρ, st2, p2.rl, (Out.bnd h2).imp (fun u st3 h3 L3 H3 p3 => ?_) fun _ _ q => q.from (p1.trans p2)⟩
  obtain ⟨z, e1, q⟩ := Out.opt h3
  replace w1 := (w1.po p2).po p3
  have p := (p1.trans p2).trans p3
  replace q := OkV.from p q
  obtain ⟨x, k⟩ := x
  dsimp only at w1 e1
  unfold slD at e1
  cases x with
  | lst xs =>
    cases e1
    obtain ⟨c, vs, rfl, h4, h5⟩ := w1.lst
    exact .inl ⟨c, vs, rfl, .of h4, fun t ht kf => q.lst p.rl (by unfold L2.cutV cutL; rw [h5.length]; exact (h5.drop _).take _) ht kf⟩
  | tup xs =>
    cases e1
    obtain ⟨c, vs, rfl, h4, h6, h5⟩ := w1.tup
    refine .inr (.inl ⟨c, vs, rfl, h4, fun ⟨z1, z2⟩ kf => ?_, fun _ t ht kf => ?_⟩)
    · refine q.sh (Po.refl p.rl) ?_
      have e : cutL xs l u = xs := by
        unfold cutL
        rw [← h5.length, z1, z2, h5.length]
        simp
      unfold Rep
      rw [e]
      exact ⟨c, vs, rfl, h4, h6, h5⟩
    · exact q.tup p.rl (by unfold L2.cutV cutL; rw [h5.length]; exact (h5.drop _).take _) ht kf
  | str s =>
    dsimp only at e1
    split at e1
    · rename_i hl
      cases e1
      exact .inr (.inr ⟨s, w1.str, by rw [← lim_eq]; exact hl, fun kf => q.str p.rl⟩)
    · cases e1
  | _ => cases e1
theorem e_rev {k : Nat} {i : Int} (ha : PE X a (tM X.K X.mg Wx (evE n P d C a))) : PE X (.Subscript a (.Slice none none (some (.UnaryOp .USub (.Constant (.int i) k p1) p2)) p3) pos) (tM X.K X.mg Wx (evE (n + 1) P d C (.Subscript a (.Slice none none (some (.UnaryOp .USub (.Constant (.int i) k p1) p2)) p3) pos))) := by
  by_cases hi : i = 1
  · subst hi
    refine (((pe_revL ha).kf).or (pe_revS ha)).imp fun σ H Q ⟨Mo, H0, L0, L, ρ, st, r, h⟩ => ?_
    replace h : Out ((if (1 : Int) = 1 then .bnd (evE n P d C a ρ) fun x => .opt (revD x.1) else .no : M DK) st) _ _ := h
    rw [if_pos rfl] at h
    have h1 := Out.bnd h
    have fin : ∀ (y : DK), (∀ x st', evE n P d C a ρ st = .ok x st' → x = y) → (tRevL X.K (tM X.K X.mg Wx (evE n P d C a)) σ H fun v H' => KF X.K H' → Q v H') ∨ tM X.K X.mg Wx (evE n P d C a) σ H fun x H1 => ∃ z, x = .str z ∧ z.length ≤ sizeLine ∧ Q (.str ⟨z.cps.toList.reverse.toArray⟩) H1 := fun y hy => by
      obtain ⟨y, k⟩ := y
      cases y with
      | str s =>
        refine .inr (tM_rd r ?_)
        cases e : evE n P d C a ρ st with
        | ok x st1 =>
          rw [e] at h1
          replace h1 : Out (M.opt (revD x.1) st1) (OkV X.K X.mg Mo H0 L0 L H ρ σ Q) (ExQ X.K X.mg Mo H0 L0 L H ρ σ Wx) := h1
          cases hy x st1 e
          intro v L1 H1 p1 w1
          obtain ⟨z, e1, q⟩ := Out.opt h1
          unfold revD at e1
          dsimp only at e1
          split at e1
          · rename_i hl
            cases e1
            exact ⟨s, w1.str, by rw [← lim_eq]; exact hl, (OkV.from p1 q).str p1.rl⟩
          · cases e1
        | ex x st1 => rw [e] at h1; exact h1
        | no => rw [e] at h1; exact h1
      | _ =>
        refine .inl (tM_rd r ?_)
        cases e : evE n P d C a ρ st with
        | ok x st1 =>
          rw [e] at h1
          replace h1 : Out (M.opt (revD x.1) st1) (OkV X.K X.mg Mo H0 L0 L H ρ σ Q) (ExQ X.K X.mg Mo H0 L0 L H ρ σ Wx) := h1
          cases hy x st1 e
          intro v L1 H1 p1 w1
          obtain ⟨z, e1, q⟩ := Out.opt h1
          unfold revD at e1
          first
          | cases e1; done
          | (cases e1
             obtain ⟨c, vs, rfl, h4, h5⟩ := w1.lst
             exact ⟨c, vs, rfl, .of h4, fun t ht kf => (OkV.from p1 q).lst p1.rl h5.rev ht kf⟩)
        | ex x st1 => rw [e] at h1; exact h1
        | no => rw [e] at h1; exact h1
    cases e : evE n P d C a ρ st with
    | ok x st1 => exact fin x fun x' st' e' => by rw [e] at e'; cases e'; rfl
    | ex x st1 => exact fin (.non, .sh) fun x' st' e' => by rw [e] at e'; cases e'
    | no => exact fin (.non, .sh) fun x' st' e' => by rw [e] at e'; cases e'
  · refine .nope fun σ H Q ⟨Mo, H0, L0, L, ρ, st, r, h⟩ => ?_
    have h : Out ((if i = 1 then .bnd (evE n P d C a ρ) fun x => .opt (revD x.1) else .no : M DK) st) _ _ := h
    rw [if_neg hi] at h
    exact h
end
end PI
set_option Elab.async false
set_option linter.all false
set_option maxRecDepth 100000
set_option maxHeartbeats 4000000
/-! PI8: built-ins called, isinstance, join. -/
namespace PI
open PySem PySem.Spec PyProof.Rows L2
section
variable {K : PySem.W.Frag} {mg : Str → Option Value} {W : Wo}
theorem RWL.nil {vs : List V} (h : RWL K mg W [] vs) : vs = [] := by unfold RWL at h; exact h
theorem RWL.uncons {x : D} {r : List D} {vs : List V} (h : RWL K mg W (x :: r) vs) : ∃ v vr, vs = v :: vr ∧ RW K mg W x v ∧ RWL K mg W r vr := by unfold RWL at h; exact h
theorem RWL.one {x : D} {vs : List V} (h : RWL K mg W [x] vs) : ∃ v, vs = [v] ∧ RW K mg W x v := by
  obtain ⟨v, vr, e, h1, h2⟩ := h.uncons
  rw [h2.nil] at e
  exact ⟨v, e, h1⟩
theorem RWL.two {x y : D} {vs : List V} (h : RWL K mg W [x, y] vs) : ∃ v u, vs = [v, u] ∧ RW K mg W x v ∧ RW K mg W y u := by
  obtain ⟨v, vr, e, h1, h2⟩ := h.uncons
  obtain ⟨u, e2, h3⟩ := h2.one
  rw [e2] at e
  exact ⟨v, u, e, h1, h3⟩
theorem bls_of : ∀ {xs : List D} {bs : List Bool} {vs : List V}, mapO blOf? xs = some bs → RepL K mg W xs vs → vs = bs.map V.bl
  | [], bs, vs, h, r => by
    unfold mapO at h
    cases h
    unfold RepL at r
    exact r
  | x :: xs, bs, vs, h, r => by
    unfold mapO at h
    split at h
    · rename_i b bs' h1 h2
      cases h
      obtain ⟨v, vr, e, r1, r2⟩ := r.uncons
      cases x <;> first | (cases h1; done) | skip
      cases h1
      unfold Rep at r1
      rw [e, r1, bls_of h2 r2]
      rfl
    · cases h
theorem strs_of : ∀ {xs : List D} {bs : List Str} {vs : List V}, mapO strOf? xs = some bs → RepL K mg W xs vs → vs = bs.map V.str
  | [], bs, vs, h, r => by
    unfold mapO at h
    cases h
    unfold RepL at r
    exact r
  | x :: xs, bs, vs, h, r => by
    unfold mapO at h
    split at h
    · rename_i b bs' h1 h2
      cases h
      obtain ⟨v, vr, e, r1, r2⟩ := r.uncons
      cases x <;> first | (cases h1; done) | skip
      cases h1
      unfold Rep at r1
      rw [e, r1, strs_of h2 r2]
      rfl
    · cases h
end
def rBlt (K : PySem.W.Frag) (mg : Str → Option Value) (x : Str) : List V → Hp → VK → Prop := fun vs H Q => ∃ Mo H0 L0 L ρ σ st xs z, Rl K mg Mo H0 L0 L H ρ σ st ∧ RWL K mg (wo Mo L H ρ σ) xs vs ∧ bltD x xs = some z ∧ OkV K mg Mo H0 L0 L H ρ σ Q z st
section
variable {P : Pg} {X : Cx} {n d : Nat} {C : Ct} {Wx : WX} {a b e : Expr} {es : List Expr} {pos p1 p2 p3 : Pos} {te : TE}
theorem callNil {f : Value} {r : List V → Hp → VK → Prop} (h : ∀ vs H Q, ¬ r vs H Q) : CallR X f r := fun pins s σ H xs us Q I rr q => absurd q (h _ _ _)
theorem blt_len : CallR X (.builtin "len") (rBlt X.K X.mg "len") := by
  intro pins s σ H vs us Q I rr ⟨Mo, H0, L0, L, ρ, σ', st, xs, z, r, w, e, q⟩
  unfold bltD at e
  rw [if_pos rfl] at e
  split at e
  · rename_i a
    obtain ⟨v, rfl, w1⟩ := w.one
    by_cases hd : ∃ ks vs, a = .dct ks vs
    · obtain ⟨ks, vs, rfl⟩ := hd
      cases e
      obtain ⟨dd, rfl, ow, _⟩ := w1.dct
      obtain ⟨oo, LL, R⟩ := ow.dct
      exact PD.call_xlen pins s σ H _ us Q I rr ⟨dd, oo, LL, rfl, R.at', R.both, by rw [← R.len.1]; exact q.int r⟩
    cases e1 : lenD a with
    | none => rw [e1] at e; cases e
    | some k =>
      rw [e1] at e
      cases e
      refine call_len pins s σ H _ us Q I rr ⟨v, k, rfl, ?_, q.int r⟩
      unfold lenD at e1
      split at e1
      · rename_i s'
        split at e1
        · rename_i hl
          cases e1
          rw [w1.str]
          exact ⟨by rw [← lim_eq]; exact hl, rfl⟩
        · cases e1
      · cases e1
        obtain ⟨c, vs, rfl, h1, h2⟩ := w1.lst
        exact .inl ⟨vs, .of h1, h2.length.symm⟩
      · cases e1
        obtain ⟨c, vs, rfl, h1, _, h2⟩ := w1.tup
        exact .inr ⟨vs, h1, h2.length.symm⟩
      · cases e1
        obtain ⟨c, rfl, h1⟩ := w1.scr
        exact .inl ⟨_, h1, by simp⟩
      · exact absurd ⟨_, _, rfl⟩ hd
      · cases e1
  · cases e
theorem blt_int : CallR X (.type "int") (rBlt X.K X.mg "int") := by
  intro pins s σ H vs us Q I rr ⟨Mo, H0, L0, L, ρ, σ', st, xs, z, r, w, e, q⟩
  unfold bltD at e
  rw [if_neg (by decide), if_pos rfl] at e
  split at e
  · obtain ⟨v, rfl, w1⟩ := w.one
    cases e
    rw [w1.int] at rr
    exact call_int1 pins s σ H _ us Q I rr (.inl ⟨_, rfl, q.int r⟩)
  · obtain ⟨v, rfl, w1⟩ := w.one
    cases e
    rw [w1.bl] at rr
    exact call_int1 pins s σ H _ us Q I rr (.inr ⟨_, rfl, q.int r⟩)
  · cases e
theorem blt_list : CallR X (.type "list") (rBlt X.K X.mg "list") := by
  intro pins s σ H vs us Q I rr ⟨Mo, H0, L0, L, ρ, σ', st, xs, z, r, w, e, q⟩
  unfold bltD at e
  rw [if_neg (by decide), if_neg (by decide), if_pos rfl] at e
  split at e
  · obtain ⟨v, rfl, w1⟩ := w.one
    cases e
    obtain ⟨c, vs, rfl, h1, h2⟩ := w1.lst
    exact callKf call_list_of pins s σ H _ us Q I rr ⟨c, vs, rfl, .inl (.of h1), fun l hl kf => q.lst r h2 hl kf⟩
  · obtain ⟨v, rfl, w1⟩ := w.one
    cases e
    obtain ⟨c, vs, rfl, h1, _, h2⟩ := w1.tup
    exact callKf call_list_of pins s σ H _ us Q I rr ⟨c, vs, rfl, .inr h1, fun l hl kf => q.lst r h2 hl kf⟩
  · cases e
theorem blt_tuple : CallR X (.type "tuple") (rBlt X.K X.mg "tuple") := by
  intro pins s σ H vs us Q I rr ⟨Mo, H0, L0, L, ρ, σ', st, xs, z, r, w, e, q⟩
  unfold bltD at e
  rw [if_neg (by decide), if_neg (by decide), if_neg (by decide), if_pos rfl] at e
  split at e
  · obtain ⟨v, rfl, w1⟩ := w.one
    cases e
    obtain ⟨c, vs, rfl, h1, h2⟩ := w1.lst
    exact callKf call_tuple_of pins s σ H _ us Q I rr ⟨c, vs, rfl, .inl ⟨.of h1, fun l hl kf => q.tup r h2 hl kf⟩⟩
  · obtain ⟨v, rfl, w1⟩ := w.one
    cases e
    have w1' := w1
    obtain ⟨c, vs, rfl, h1, h3, h2⟩ := w1.tup
    refine callKf call_tuple_of pins s σ H _ us Q I rr ⟨c, vs, rfl, .inr ⟨h1, fun kf => q.sh (Po.refl r) ?_⟩⟩
    unfold Rep
    exact ⟨c, vs, rfl, h1, h3, h2⟩
  · cases e
theorem blt_abs : CallR X (.builtin "abs") (rBlt X.K X.mg "abs") := by
  intro pins s σ H vs us Q I rr ⟨Mo, H0, L0, L, ρ, σ', st, xs, z, r, w, e, q⟩
  unfold bltD at e
  rw [if_neg (by decide), if_neg (by decide), if_neg (by decide), if_neg (by decide), if_pos rfl] at e
  split at e
  · obtain ⟨v, rfl, w1⟩ := w.one
    cases e
    rw [w1.int] at rr
    exact call_abs pins s σ H _ us Q I rr ⟨_, rfl, q.int r⟩
  · cases e
theorem blt_all (hc : X.calm = true) : CallR X (.builtin "all") (rBlt X.K X.mg "all") := by
  intro pins s σ H vs us Q I rr ⟨Mo, H0, L0, L, ρ, σ', st, xs, z, r, w, e, q⟩
  unfold bltD at e
  rw [if_neg (by decide), if_neg (by decide), if_neg (by decide), if_neg (by decide), if_neg (by decide), if_pos rfl] at e
  split at e
  · rename_i ys
    obtain ⟨v, rfl, w1⟩ := w.one
    unfold allB at e
    cases e1 : mapO blOf? ys with
    | none => rw [e1] at e; cases e
    | some bs =>
      rw [e1] at e
      cases e
      obtain ⟨c, vs, rfl, h1, h2⟩ := w1.lst
      refine cr_all hc pins s σ H _ us Q I rr ⟨c, bs, rfl, ?_, q.bl r⟩
      rw [← bls_of e1 h2]
      exact .of h1
  · cases e
theorem blt_any (hc : X.calm = true) : CallR X (.builtin "any") (rBlt X.K X.mg "any") := by
  intro pins s σ H vs us Q I rr ⟨Mo, H0, L0, L, ρ, σ', st, xs, z, r, w, e, q⟩
  unfold bltD at e
  rw [if_neg (by decide), if_neg (by decide), if_neg (by decide), if_neg (by decide), if_neg (by decide), if_neg (by decide), if_pos rfl] at e
  split at e
  · rename_i ys
    obtain ⟨v, rfl, w1⟩ := w.one
    unfold anyB at e
    cases e1 : mapO blOf? ys with
    | none => rw [e1] at e; cases e
    | some bs =>
      rw [e1] at e
      cases e
      obtain ⟨c, vs, rfl, h1, h2⟩ := w1.lst
      refine cr_any hc pins s σ H _ us Q I rr ⟨c, bs, rfl, ?_, q.bl r⟩
      rw [← bls_of e1 h2]
      exact .of h1
  · cases e
theorem best_go {f : D → D → Bool} {xs : List D} {Mo : Addr → Prop} {H0 H : Hp} {L0 L : List Addr} {ρ : List Sl} {σ' : L2.St} {st : Store} {Q : VK} {b : D} (r : Rl X.K X.mg Mo H0 L0 L H ρ σ' st) {v : V} (w : RW X.K X.mg (wo Mo L H ρ σ') (.lst xs) v ∨ RW X.K X.mg (wo Mo L H ρ σ') (.tup xs) v)
    (e : ∃ x r, xs = x :: r ∧ srtB xs = true ∧ b = bestD f x r) (q : OkV X.K X.mg Mo H0 L0 L H ρ σ' Q (b, .sh) st) : rBestD X.K X.mg f [v] H Q := by
  obtain ⟨x, xr, rfl, hb, rfl⟩ := e
  rcases w with w | w
  · obtain ⟨c, vs, rfl, h1, h2⟩ := w.lst
    exact ⟨c, vs, x, xr, _, rfl, rfl, .inl (.of h1), h2, hb, fun w' rp => q.sh (Po.refl r) rp⟩
  · obtain ⟨c, vs, rfl, h1, _, h2⟩ := w.tup
    exact ⟨c, vs, x, xr, _, rfl, rfl, .inr h1, h2, hb, fun w' rp => q.sh (Po.refl r) rp⟩
theorem maxL_ok {xs : List D} {b : D} (h : maxL xs = some b) : ∃ x r, xs = x :: r ∧ srtB xs = true ∧ b = bestD (fun y a => PySem.W.dataLt a.py y.py) x r := by
  unfold maxL at h
  cases xs with
  | nil => cases h
  | cons x r =>
    dsimp only at h
    split at h
    · rename_i hb
      cases h
      exact ⟨x, r, rfl, hb, rfl⟩
    · cases h
theorem minL_ok {xs : List D} {b : D} (h : minL xs = some b) : ∃ x r, xs = x :: r ∧ srtB xs = true ∧ b = bestD (fun y a => PySem.W.dataLt y.py a.py) x r := by
  unfold minL at h
  cases xs with
  | nil => cases h
  | cons x r =>
    dsimp only at h
    split at h
    · rename_i hb
      cases h
      exact ⟨x, r, rfl, hb, rfl⟩
    · cases h
theorem map_dk {o : Option D} {z : DK} (h : (o.map fun d => ((d, .sh) : DK)) = some z) : ∃ d, o = some d ∧ z = (d, .sh) := by
  cases o with
  | none => cases h
  | some d => cases h; exact ⟨d, rfl, rfl⟩
theorem blt_max (hu : X.A.units + 65 < cLine) (hc : X.calm = true) : CallR X (.builtin "max") (rBlt X.K X.mg "max") := by
  intro pins s σ H vs us Q I rr ⟨Mo, H0, L0, L, ρ, σ', st, xs, z, r, w, e, q⟩
  unfold bltD at e
  rw [if_neg (by decide), if_neg (by decide), if_neg (by decide), if_neg (by decide), if_neg (by decide), if_neg (by decide), if_neg (by decide), if_pos rfl] at e
  split at e
  · obtain ⟨v, u, rfl, w1, w2⟩ := w.two
    cases e
    rw [w1.int, w2.int] at rr
    exact call_max2 hc pins s σ H _ us Q I rr ⟨_, _, rfl, q.int r⟩
  · obtain ⟨v, rfl, w1⟩ := w.one
    obtain ⟨b, e1, rfl⟩ := map_dk e
    exact cr_maxD hu hc pins s σ H _ us Q I rr (best_go r (.inl w1) (maxL_ok e1) q)
  · obtain ⟨v, rfl, w1⟩ := w.one
    obtain ⟨b, e1, rfl⟩ := map_dk e
    exact cr_maxD hu hc pins s σ H _ us Q I rr (best_go r (.inr w1) (maxL_ok e1) q)
  · cases e
theorem blt_min (hu : X.A.units + 65 < cLine) (hc : X.calm = true) : CallR X (.builtin "min") (rBlt X.K X.mg "min") := by
  intro pins s σ H vs us Q I rr ⟨Mo, H0, L0, L, ρ, σ', st, xs, z, r, w, e, q⟩
  unfold bltD at e
  rw [if_neg (by decide), if_neg (by decide), if_neg (by decide), if_neg (by decide), if_neg (by decide), if_neg (by decide), if_neg (by decide), if_neg (by decide), if_pos rfl] at e
  split at e
  · obtain ⟨v, u, rfl, w1, w2⟩ := w.two
    cases e
    rw [w1.int, w2.int] at rr
    exact call_min2 hc pins s σ H _ us Q I rr ⟨_, _, rfl, q.int r⟩
  · obtain ⟨v, rfl, w1⟩ := w.one
    obtain ⟨b, e1, rfl⟩ := map_dk e
    exact cr_minD hu hc pins s σ H _ us Q I rr (best_go r (.inl w1) (minL_ok e1) q)
  · obtain ⟨v, rfl, w1⟩ := w.one
    obtain ⟨b, e1, rfl⟩ := map_dk e
    exact cr_minD hu hc pins s σ H _ us Q I rr (best_go r (.inr w1) (minL_ok e1) q)
  · cases e
theorem blt_sorted (hu : X.A.units + 65 < cLine) : CallR X (.builtin "sorted") (rBlt X.K X.mg "sorted") := by
  intro pins s σ H vs us Q I rr ⟨Mo, H0, L0, L, ρ, σ', st, xs, z, r, w, e, q⟩
  unfold bltD at e
  rw [if_neg (by decide), if_neg (by decide), if_neg (by decide), if_neg (by decide), if_neg (by decide), if_neg (by decide), if_neg (by decide), if_neg (by decide), if_neg (by decide), if_pos rfl] at e
  split at e
  · obtain ⟨v, rfl, w1⟩ := w.one
    split at e
    · rename_i hb
      cases e
      obtain ⟨c, vs, rfl, h1, h2⟩ := w1.lst
      exact callKf (cr_sortD hu) pins s σ H _ us Q I rr ⟨c, vs, _, _, rfl, rfl, .inl (.of h1), h2, hb, fun ws' p rp hp kf => q.lst r rp hp kf⟩
    · cases e
  · obtain ⟨v, rfl, w1⟩ := w.one
    split at e
    · rename_i hb
      cases e
      obtain ⟨c, vs, rfl, h1, _, h2⟩ := w1.tup
      exact callKf (cr_sortD hu) pins s σ H _ us Q I rr ⟨c, vs, _, _, rfl, rfl, .inr h1, h2, hb, fun ws' p rp hp kf => q.lst r rp hp kf⟩
    · cases e
  · cases e
theorem ints_of {Mo : Addr → Prop} {H : Hp} {L : List Addr} {ρ : List Sl} {σ : L2.St} : ∀ {xs : List D} {ns : List Int} {vs : List V}, mapO intOf? xs = some ns → RepL X.K X.mg (wo Mo L H ρ σ) xs vs → vs = ns.map V.int
  | [], ns, vs, h, r => by
    unfold mapO at h
    cases h
    unfold RepL at r
    exact r
  | x :: xs, ns, vs, h, r => by
    unfold mapO at h
    split at h
    · rename_i b bs' h1 h2
      cases h
      obtain ⟨v, vr, e, r1, r2⟩ := r.uncons
      cases x <;> first | (cases h1; done) | skip
      cases h1
      unfold Rep at r1
      rw [e, r1, ints_of h2 r2]
      rfl
    · cases h
theorem blt_sum (hc : X.calm = true) : CallR X (.builtin "sum") (rBlt X.K X.mg "sum") := by
  intro pins s σ H vs us Q I rr ⟨Mo, H0, L0, L, ρ, σ', st, xs, z, r, w, e, q⟩
  unfold bltD at e
  rw [if_neg (by decide), if_neg (by decide), if_neg (by decide), if_neg (by decide), if_neg (by decide), if_neg (by decide), if_neg (by decide), if_neg (by decide), if_neg (by decide), if_neg (by decide), if_pos rfl] at e
  split at e
  · rename_i ys
    obtain ⟨v, rfl, w1⟩ := w.one
    cases e1 : mapO intOf? ys with
    | none => rw [e1] at e; cases e
    | some ns =>
      rw [e1] at e
      cases e
      obtain ⟨c, vs, rfl, h1, h2⟩ := w1.lst
      refine cr_sum hc pins s σ H _ us Q I rr ⟨c, ns, rfl, ?_, q.int r⟩
      rw [← ints_of e1 h2]
      exact .of h1
  · cases e
theorem blt_repr (hu : X.A.units + 65 < cLine) (hg : X.A.guards = some []) : CallR X (.builtin "repr") (rBlt X.K X.mg "repr") := by
  intro pins s σ H vs us Q I rr ⟨Mo, H0, L0, L, ρ, σ', st, xs, z, r, w, e, q⟩
  unfold bltD at e
  rw [if_neg (by decide), if_neg (by decide), if_neg (by decide), if_neg (by decide), if_neg (by decide), if_neg (by decide), if_neg (by decide), if_neg (by decide), if_neg (by decide), if_neg (by decide), if_neg (by decide), if_pos rfl] at e
  split at e
  · rename_i ys
    obtain ⟨v, rfl, w1⟩ := w.one
    cases e1 : repD (.tup ys) with
    | none => rw [e1] at e; cases e
    | some t =>
      rw [e1] at e
      cases e
      unfold repD at e1
      split at e1
      · rename_i hh
        rw [Bool.and_eq_true, Bool.and_eq_true] at hh
        obtain ⟨⟨h1, h2⟩, h3⟩ := hh
        cases e1
        obtain ⟨p1, s1⟩ := cmpOk_sh h1
        have dp := w1.dp p1
        obtain ⟨c, us', rfl, h4, _, h5⟩ := w1.tup
        exact cr_repr hu hg pins s σ H _ us Q I rr ⟨c, _, rfl, dp, h2, D.noDict _ p1, by rw [← lim_eq]; exact of_decide_eq_true h3, cmpOk_dp h1, q.str r⟩
      · cases e1
  · cases e
theorem blt_any_name (c : Cxt P X d C Wx) {x : Str} (h : (bltT x || bltB x || bltR C x) = true) : (∃ T, bootBuiltins x = some (.type T) ∧ CallR X (.type T) (rBlt X.K X.mg x) ∧ x ∈ bltNames) ∨ ∃ id, bootBuiltins x = some (.builtin id) ∧ CallR X (.builtin id) (rBlt X.K X.mg x) ∧ x ∈ bltNames := by
  rw [Bool.or_eq_true, Bool.or_eq_true] at h
  rcases h with (h | h) | h
  · have := List.contains_iff_mem.mp h
    simp only [List.mem_cons, List.not_mem_nil, or_false] at this
    rcases this with h | h | h <;> subst h
    · exact .inl ⟨"int", by decide +kernel, blt_int, by decide⟩
    · exact .inl ⟨"list", by decide +kernel, blt_list, by decide⟩
    · exact .inl ⟨"tuple", by decide +kernel, blt_tuple, by decide⟩
  · have := List.contains_iff_mem.mp h
    simp only [List.mem_cons, List.not_mem_nil, or_false] at this
    rcases this with h | h | h | h | h | h | h | h <;> subst h
    · exact .inr ⟨"len", by decide +kernel, blt_len, by decide⟩
    · exact .inr ⟨"abs", by decide +kernel, blt_abs, by decide⟩
    · exact .inr ⟨"all", by decide +kernel, blt_all c.calm, by decide⟩
    · exact .inr ⟨"any", by decide +kernel, blt_any c.calm, by decide⟩
    · exact .inr ⟨"max", by decide +kernel, blt_max c.units c.calm, by decide⟩
    · exact .inr ⟨"min", by decide +kernel, blt_min c.units c.calm, by decide⟩
    · exact .inr ⟨"sorted", by decide +kernel, blt_sorted c.units, by decide⟩
    · exact .inr ⟨"sum", by decide +kernel, blt_sum c.calm, by decide⟩
  · unfold bltR at h
    rw [Bool.and_eq_true] at h
    have hx : x = "repr" := eq_of_beq h.1
    subst hx
    exact .inr ⟨"repr", by decide +kernel, blt_repr c.units (c.gd h.2), by decide⟩
theorem bltNames_ok : ∀ x ∈ bltNames, x ≠ "__name__" ∧ (x == ("__debug__" : Str)) = false := by decide
theorem c_blt (c : Cxt P X d C Wx) {x : Str} (h : (bltT x || bltB x || bltR C x) = true) (hg : gloB C.sc x = true) (hs : noStar es = true) (ha : PA X es (tMW X.K X.mg Wx (evW n P d C es))) :
    PE X (.Call (.Name x p1) es [] pos) (tM X.K X.mg Wx fun ρ => .bnd (evW n P d C es ρ) fun xs => .opt (bltD x xs)) := by
  cases es with
  | nil =>
    refine .nope fun σ H Q ⟨Mo, H0, L0, L, ρ, st, r, h⟩ => ?_
    cases n with
    | zero => exact h.elim
    | succ n =>
      have h1 : Out (M.opt (bltD x []) st) _ _ := Out.ret (Out.bnd h)
      obtain ⟨z, e, _⟩ := Out.opt h1
      have e0 : bltD x [] = none := by
        unfold bltD
        dsimp only
        simp only [ite_self]
      rw [e0] at e
      cases e
  | cons e es =>
    have hs' : notStar e = true ∧ noStar es = true := by
      unfold noStar at hs
      rwa [Bool.and_eq_true] at hs
    have go : ∀ σ H Q, tM X.K X.mg Wx (fun ρ => .bnd (evW n P d C (e :: es) ρ) fun xs => .opt (bltD x xs)) σ H Q → tCB (rBlt X.K X.mg x) (tMW X.K X.mg Wx (evW n P d C (e :: es))) σ H Q := fun σ H Q ⟨Mo, H0, L0, L, ρ, st, r, h⟩ => by
      refine ⟨Mo, H0, L0, L, ρ, st, r, (Out.bnd h).imp (fun xs st1 h1 vs L1 H1 p1' w1 => ?_) fun _ _ q => q⟩
      obtain ⟨z, e1, q⟩ := Out.opt h1
      exact ⟨Mo, H0, L0, L1, ρ, σ, st1, xs, z, p1'.rl, w1, e1, OkV.from p1' q⟩
    rcases blt_any_name c h with ⟨T, h1, h2, h3⟩ | ⟨T, h1, h2, h3⟩
    · exact (pe_callTy h2 (c.glo hg) (c.wf.blt x h3) h1 ha (bltNames_ok x h3).1 (bltNames_ok x h3).2 (star_cons hs'.1 _) (noStar_plain _ _ _ hs'.2)).imp go
    · exact (pe_callB h2 (c.glo hg) (c.wf.blt x h3) h1 ha (bltNames_ok x h3).1 (bltNames_ok x h3).2 (star_cons hs'.1 _) (noStar_plain _ _ _ hs'.2)).imp go

/-! ### isinstance -/
theorem ty_of {a : D} {t : String} {v : V} {K : PySem.W.Frag} {mg : Str → Option Value} {W : Wo} {Hx : Hp} (hW : W.H = Hx) (h : RW K mg W a v) (e : tyOf a = some t) : TyX K Hx v (.type t) := by
  subst hW
  unfold tyOf at e
  split at e
  · cases e; rw [h.non]; exact .base .non
  · cases e; rw [h.bl]; exact .base (.bl _)
  · cases e; rw [h.int]; exact .base (.int _)
  · cases e; rw [h.str]; exact .base (.str _)
  · cases e
    obtain ⟨c, vs, rfl, h1, _, _⟩ := h.tup
    rcases h1 with (h1 | ⟨o, h1⟩) | ⟨o, its, k, hk, hc, _⟩
    · exact .base (.tup h1)
    · exact .fTuple h1
    · exact .kTuple hk hc
  · cases e
    obtain ⟨c, vs, rfl, h1, _⟩ := h.lst
    exact .base (.lst h1)
  · cases e
theorem kit_all : ∀ k ∈ (["NoneType", "bool", "int", "str", "tuple", "list"] : List String), ∀ t ∈ (["bool", "int", "str", "tuple", "list", "dict"] : List String), kitB k t = some (k == t || (k == "bool" && t == "int")) := by decide +kernel
theorem tyOf_mem {a : D} {t : String} (e : tyOf a = some t) : t ∈ (["NoneType", "bool", "int", "str", "tuple", "list"] : List String) := by
  unfold tyOf at e
  split at e <;> cases e <;> decide
theorem isiB_kit {a : D} {t : String} {b : Bool} (h : isiB a t = some b) : ∃ k, tyOf a = some k ∧ kitB k t = some b := by
  unfold isiB at h
  split at h
  · rename_i k hk
    split at h
    · rename_i hc
      refine ⟨k, hk, ?_⟩
      rw [kit_all k (tyOf_mem hk) t (List.contains_iff_mem.mp hc)]
      exact h
    · cases h
  · cases h
theorem isiAny_kit {K : PySem.W.Frag} {a : D} {k : String} (hk : tyOf a = some k) : ∀ {ts : List String} {b : Bool}, isiAny a ts = some b → PySem.W.kitAny K (.type k) (ts.map Value.type) = some b
  | [], b, h => by
    unfold isiAny at h
    cases h
    exact kitAny_nil
  | t :: ts, b, h => by
    unfold isiAny at h
    cases e : isiB a t with
    | none => rw [e] at h; cases h
    | some b' =>
      obtain ⟨k', h1, h2⟩ := isiB_kit e
      rw [hk] at h1
      cases h1
      rw [e] at h
      cases b' with
      | true =>
        cases h
        exact kitAny_cons (kit_ty h2) (fun z => by cases z) fun _ => rfl
      | false => exact kitAny_cons (kit_ty h2) (fun _ => isiAny_kit hk h) fun z => by cases z
theorem tyStr_boot {x : Str} {t : String} (h : tyStr x = some t) : bootBuiltins x = some (.type t) ∧ x ∈ bltNames := by
  unfold tyStr at h
  repeat' split at h
  all_goals first
    | (rename_i hx; cases h; subst hx; exact ⟨by decide +kernel, by decide⟩)
    | (cases h; done)
    | skip
theorem pe_tyName (c : Cxt P X d C Wx) {x : Str} {t : String} (h : tyStr x = some t) (hg : gloB C.sc x = true) : PE X (.Name x pos) (tC (.ty t)) :=
  pe_bltn (c.glo hg) (c.wf.blt x (tyStr_boot h).2) (tyStr_boot h).1 rfl (bltNames_ok x (tyStr_boot h).2).1 (bltNames_ok x (tyStr_boot h).2).2
theorem mapO_len {α β : Type} {f : α → Option β} : ∀ {xs : List α} {ys : List β}, mapO f xs = some ys → ys.length = xs.length
  | [], _, h => by unfold mapO at h; cases h; rfl
  | x :: r, _, h => by
    unfold mapO at h
    split at h
    · rename_i y ys h1 h2
      cases h
      simp [mapO_len h2]
    · cases h
def nameOf : Expr → Option Str
  | .Name t _ => some t
  | _ => none
theorem pa_tyNames (c : Cxt P X d C Wx) : ∀ {es : List Expr} {xs : List Str} {ts : List String}, mapO nameOf es = some xs → xs.all (gloB C.sc) = true → mapO tyStr xs = some ts → PA X es (fun σ H Q => Q (ts.map V.ty) H)
  | [], xs, ts, h1, h2, h3 => by
    unfold mapO at h1
    cases h1
    unfold mapO at h3
    cases h3
    exact pa_nil
  | e :: es, xs, ts, h1, h2, h3 => by
    unfold mapO at h1
    split at h1
    · rename_i x xs' e1 e2
      cases h1
      unfold mapO at h3
      split at h3
      · rename_i t ts' e3 e4
        cases h3
        rw [List.all_cons, Bool.and_eq_true] at h2
        cases e with
        | Name y p =>
          cases e1
          exact (pa_cons (pe_tyName c e3 h2.1) (pa_tyNames c e2 h2.2 e4)).imp fun σ H Q h => h
        | _ => cases e1
      · cases h3
    · cases h1
theorem tys_pair : ∀ ts : List String, Paired ClsV (ts.map V.ty) (ts.map Value.type)
  | [] => .nil
  | t :: ts => .cons (.ty t) (tys_pair ts)
theorem tyNames_tup {es : List Expr} {k : Nat} : tyNames (.Tuple es k pos) = mapO nameOf es := by
  unfold tyNames
  congr 1
theorem c_isi (c : Cxt P X d C Wx) {ts : Expr} {tn : List String} (hn : notStar e = true) (ht : tyList C ts = some tn) (hg : gloB C.sc "isinstance" = true) (he : PE X e (tM X.K X.mg Wx (evE n P d C e))) :
    PE X (.Call (.Name "isinstance" p1) [e, ts] [] pos) (tM X.K X.mg Wx fun ρ => .bnd (evE n P d C e ρ) fun v => .opt ((isiAny v.1 tn).map fun b => (.bl b, .sh))) := by
  unfold tyList at ht
  cases hx : tyNames ts with
  | none => rw [hx] at ht; cases ht
  | some xs =>
    rw [hx] at ht
    replace ht : (if (xs.all (gloB C.sc) && (!xs.isEmpty && decide (xs.length ≤ 20))) = true then mapO tyStr xs else none) = some tn := ht
    split at ht
    · rename_i ha
      rw [Bool.and_eq_true, Bool.and_eq_true] at ha
      obtain ⟨ha, hb1, hb2⟩ := ha
      have hm : X.mg "isinstance" = none := c.wf.blt _ (by decide)
      cases ts with
      | Name y p =>
        cases hx
        have h1 : mapO tyStr [y] = some tn := ht
        unfold mapO at h1
        split at h1
        · rename_i t ts' e1 e2
          unfold mapO at e2
          cases e2
          cases h1
          rw [List.all_cons, Bool.and_eq_true] at ha
          refine (pe_callB call_isi (c.glo hg) hm (by decide +kernel) (pa_cons he (pa_cons (pe_tyName c e1 ha.1) pa_nil) (star_cons hn _)) (by decide) (by decide) (star_cons hn _)).imp fun σ H Q ⟨Mo, H0, L0, L, ρ, st, r, h⟩ => ?_
          refine tM_then r (Out.bnd h) fun x st1 v1 L1 H1 h1 p1 w1 => ?_
          obtain ⟨z, e3, q⟩ := Out.opt h1
          cases e4 : isiAny x.1 [t] with
          | none => rw [e4] at e3; cases e3
          | some b =>
            rw [e4] at e3
            cases e3
            have e5 : ∃ k, tyOf x.1 = some k ∧ kitB k t = some b := by
              unfold isiAny at e4
              cases e6 : isiB x.1 t with
              | none => rw [e6] at e4; cases e4
              | some b' =>
                rw [e6] at e4
                cases b' with
                | true => cases e4; exact isiB_kit e6
                | false =>
                  unfold isiAny at e4
                  cases e4; exact isiB_kit e6
            obtain ⟨k, e6, e7⟩ := e5
            exact ⟨v1, .ty t, .type k, .type t, b, rfl, .ty t, ty_of rfl w1 e6, kit_ty e7, (OkV.from p1 q).bl p1.rl⟩
        · cases h1
      | Tuple es k p =>
        rw [tyNames_tup] at hx
        refine (pe_callB (callKf call_isiT) (c.glo hg) hm (by decide +kernel) (pa_cons he (pa_cons (pe_tup (x1 := k) (pos := p) (pa_tyNames c hx ha ht)).kf pa_nil) (star_cons hn _)) (by decide) (by decide) (star_cons hn _)).imp fun σ H Q ⟨Mo, H0, L0, L, ρ, st, r, h⟩ => ?_
        refine tM_then r (Out.bnd h) fun x st1 v1 L1 H1 h1 p1 w1 => ?_
        obtain ⟨z, e3, q⟩ := Out.opt h1
        cases e4 : isiAny x.1 tn with
        | none => rw [e4] at e3; cases e3
        | some b =>
          rw [e4] at e3
          cases e3
          have hlen : tn.length ≤ sizeLine ∧ ∃ k, tyOf x.1 = some k := by
            have h5 := mapO_len ht
            refine ⟨by rw [h5, sizeLine_eq]; have := of_decide_eq_true hb2; omega, ?_⟩
            cases tn with
            | nil =>
              have : xs = [] := List.length_eq_zero_iff.mp h5.symm
              rw [this] at hb1
              cases hb1
            | cons t ts =>
              unfold isiAny at e4
              cases e6 : isiB x.1 t with
              | none => rw [e6] at e4; cases e4
              | some b' =>
                obtain ⟨k', h6, _⟩ := isiB_kit e6
                exact ⟨k', h6⟩
          refine ⟨by rw [List.length_map]; exact hlen.1, fun p hp kf => ?_⟩
          have p2 := Po.laid p1.rl hp kf
          obtain ⟨k', e6⟩ := hlen.2
          exact ⟨v1, p, _, .type k', _, b, rfl, upd_same, tys_pair tn, ty_of rfl (w1.po p2) e6, isiAny_kit e6 e4, fun _ => (OkV.from (p1.trans p2) q).bl p2.rl⟩
      | _ => cases hx
    · cases ht
end
end PI
set_option Elab.async false
set_option linter.all false
set_option maxRecDepth 100000
set_option maxHeartbeats 4000000
/-! PIE: enumerate over a tuple. -/
namespace PI
open PySem PySem.Spec PyProof.Rows L2
open AutoSeq1 (wpAny_loadPart')
theorem enum_newT (l : Addr) (items : Array Value) (ob : Obj) (hob : ob.cls = .type "tuple") (n : Nat) (hd : ob.data = .seq items n) :
    Meets (Builtin.«enumerate.__new__» ⟨[.type "enumerate", .ref l], []⟩) (fun _ R s => s.heap.get? l = some ob ∧
      R (.ok (.ret (.ref (s.heap.push { cls := .type "tuple_iterator", data := .fields #[.ref l, .int 0 0] }).objs.size)))
        { s with heap := (s.heap.push { cls := .type "tuple_iterator", data := .fields #[.ref l, .int 0 0] }).push { cls := .type "enumerate", data := .fields #[.none, .bool false, .ref s.heap.objs.size, rawInt 0, .none, .none] } }) :=
  .of_wp fun prog w A R s h => by
    obtain ⟨hp, g, d, tk, os⟩ := s
    obtain ⟨hl, h⟩ := h
    have hsub := sub_enumerate
    have hT : Heap.IsTuple (Shared.heap ⟨hp, g, d, tk, os⟩) l items := ⟨ob, hl, hob, n, hd⟩
    wp_walk using wpAny_loadPart' hl
    refine wpAny_stack_any fun st => wpAny_pure ?_
    split
    · rename_i c _ _ _ _ _
      cases (c == Value.type "enumerate")
      · wp_walk using wpAny_loadPart' hl, wpAny_pyIter_tuple hT
        exact ⟨_, rfl, h⟩
      · wp_walk using wpAny_loadPart' hl, wpAny_pyIter_tuple hT
        exact ⟨_, rfl, h⟩
    · wp_walk using wpAny_loadPart' hl, wpAny_pyIter_tuple hT
      exact ⟨_, rfl, h⟩
section
variable {prog : Program} {w : World} {A : Around} {E : Value → Shared → Prop} {s : Shared}
theorem call_enumT {l : Addr} {items : Array Value} {Q : Value → Shared → Prop} (hL : s.heap.IsTuple l items)
    (h : ∀ h', IsEnum h' (s.heap.objs.size + 1) s.heap.objs.size 0 .none → h'.IsTupleIter s.heap.objs.size l 0 → h'.objs.size = s.heap.objs.size + 2 →
      (∀ b o, s.heap.get? b = some o → h'.get? b = some o) → Q (.ref (s.heap.objs.size + 1)) { s with heap := h' }) :
    wpAny (model prog w) A (call (.type "enumerate") [.ref l]) Q E s := by
  obtain ⟨ob, hl, hc, n, hd⟩ := hL
  refine callType_new F.called_enumerate (by decide) (F.typeCall_enumerate_1 _) (F.newCall_enumerate_1 _) (fun obj => F.args_object_init_2 obj _) F.entry_enumerate_new
    (enum_newT l items ob hc n hd) ⟨hl, ?_⟩
  have hz : (s.heap.push { cls := .type "tuple_iterator", data := .fields #[.ref l, .int 0 0] }).objs.size = s.heap.objs.size + 1 := Heap.size_push ..
  show _ ∧ _
  rw [hz]
  have he : IsEnum ((s.heap.push { cls := .type "tuple_iterator", data := .fields #[.ref l, .int 0 0] }).push
      { cls := .type "enumerate", data := .fields #[.none, .bool false, .ref s.heap.objs.size, rawInt 0, .none, .none] }) (s.heap.objs.size + 1) s.heap.objs.size 0 .none := by
    have := Heap.get?_push_size (s.heap.push { cls := .type "tuple_iterator", data := .fields #[.ref l, .int 0 0] })
      (o := { cls := .type "enumerate", data := .fields #[.none, .bool false, .ref s.heap.objs.size, rawInt 0, .none, .none] }) rfl
    rw [hz] at this; exact this
  exact ⟨⟨_, he, rfl⟩, h _ he ⟨_, Heap.get?_push_of_some _ (Heap.get?_push_size _ rfl), rfl, rfl⟩ (by rw [Heap.size_push, hz]) fun b o x => Heap.get?_push_of_some _ (Heap.get?_push_of_some _ x)⟩
end
/-- the tuple at a, each item in a new pair -/
def IteT (K : PySem.W.Frag) (a : Addr) : It :=
  ⟨fun i H => ∃ (xs : List V) (x : V), SqT K H a xs ∧ xs[i]? = some x, fun i H v H' => ∃ T x, v = .ref T ∧ H T = none ∧ H' = upd H T (.tup [.int (i : Nat), x]) ∧ ∀ xs, SqT K H a xs → xs[i]? = some x, fun i H => ∃ xs : List V, SqT K H a xs ∧ xs.length = i⟩
theorem turn_enumT {P : Program} {w : World} {K : PySem.W.Frag} {elts : List Expr} {kk : Nat} {tpos : Pos} (a e it : Addr) :
    Turn P w K (.Tuple elts kk tpos) (IteT K a) [e, it] e (fun i h => (∃ old, IsEnum h e it ((i : Nat) : Int) old) ∧ h.IsTupleIter it a i ∧ e ≠ it ∧ a ≠ it ∧ e ≠ a) where
  mem := by simp
  obj := fun i h st b hb => by
    obtain ⟨⟨old, he⟩, ⟨o, ho, hc, hd⟩, _⟩ := st
    have e' : b = e ∨ b = it := by simpa using hb
    rcases e' with z | z
    · rw [z]; exact ⟨_, he, fun v q => nomatch q⟩
    · rw [z]; exact ⟨o, ho, fun v q => by rw [hd] at q; cases q⟩
  keep := fun i h h' st k => let ⟨⟨old, he⟩, hi, hne⟩ := st; ⟨⟨old, k e (by simp) _ he⟩, hi.at fun o q => k it (by simp) o q, hne⟩
  item := by
    intro X hP hw hK hc i pins s σ H E I hf st hg
    subst hP hw hK
    obtain ⟨⟨old, he⟩, hit, hne, hai, hea⟩ := st
    obtain ⟨xs, x, hq, hx⟩ := hg
    obtain ⟨its, rv, p, hz⟩ := I.tuple hq
    obtain ⟨u, hu, ru⟩ := rv.get hx
    have hel : e < s.heap.objs.size := Heap.lt_size he
    have hil : it < s.heap.objs.size := by obtain ⟨_, q, _⟩ := hit; exact Heap.lt_size q
    have hlt : i < its.toArray.size := by
      rw [List.size_toArray]
      exact (List.getElem?_eq_some_iff.mp hu).1
    have hd1 : X.A.in1.handled = none := I.ok.hd hc
    refine wpAny_pyNext_enum_itemD (Draws.tuple hd1 it a hai its.toArray) he ⟨hit, p⟩ hlt hne (by simp [hne, hea]) fun x2 h' tk hx2 ho hst2 hT hsz hk => ?_
    have ex : x2 = u := by
      have h1 : its.toArray[i]? = some x2 := hx2
      have h2 : its.toArray[i]? = some u := by simpa using hu
      rw [h1] at h2
      exact Option.some.inj h2
    subst ex
    refine ⟨_, rfl, wpAny_letOwnedTupleGo_enum (s := { s with heap := h', toks := tk + 1 }) ho fun h'' he' sb => ?_⟩
    have hT2 : h''.get? s.heap.objs.size = some { cls := .type "tuple", data := .seq #[.int i tk, x2] } := (sb.2 _ (Nat.ne_of_gt hel)).trans hT
    have new : ObjOk X.prog X.w (upd H s.heap.objs.size (.tup [.int (i : Nat), x])) h'' s.heap.objs.size (.tup [.int (i : Nat), x]) :=
      ⟨by show 2 ≤ sizeLine; decide, [.int i tk, x2], .cons ⟨_, rfl⟩ (.cons ru .nil), ⟨_, hT2, rfl, _, rfl⟩⟩
    have I1 : Inv X pins σ (upd H s.heap.objs.size (.tup [.int (i : Nat), x])) { s with heap := h'', toks := tk + 1 } :=
      I.turnedNew (ch := [e, it]) (fun b ob hb q => (sb.2 b (fun z => hb (by simp [z]))).trans (hk b ob (fun z => hb (by simp [z])) (fun z => hb (by simp [z])) q)) hf (Nat.le_refl _) new
    refine ⟨.ref s.heap.objs.size, _, I1, rfl, ⟨_, x, rfl, I.hok.fresh (Nat.le_refl _), rfl, fun ys hy => by rw [I.tuple_inj hy hq]; exact hx⟩, ⟨⟨x2, ?_⟩, hst2.1.at fun o q => (sb.2 it (Ne.symm hne)).trans q, hne, hai, hea⟩, fun b hb => ?_⟩
    · have e1 : ((i + 1 : Nat) : Int) = (i : Int) + 1 := by omega
      rw [e1]; exact he'
    · have hb' : b < s.heap.objs.size := by
        have e' : b = e ∨ b = it := by simpa using hb
        rcases e' with z | z
        · rw [z]; exact hel
        · rw [z]; exact hil
      rw [upd_ne (Nat.ne_of_lt hb')]
      exact (hf b hb).1
  done := by
    intro X hP hw hK hc i pins s σ H E I hf st hg
    subst hP hw hK
    obtain ⟨⟨old, he⟩, hit, hne, hai, hea⟩ := st
    obtain ⟨xs, hq, hx⟩ := hg
    obtain ⟨its, rv, p, hz⟩ := I.tuple hq
    obtain ⟨f0, f1, f2, f3, f4, f5⟩ := hf it (by simp)
    have hi : its.toArray.size = i := by rw [List.size_toArray, ← rv.length]; exact hx
    have hd1 : X.A.in1.handled = none := I.ok.hd hc
    exact wpAny_pyNext_enum_endD (Draws.tuple hd1 it a hai its.toArray) he ⟨by rw [hi]; exact hit, p⟩ fun h' eb => ⟨rfl, I.turned (t' := s.toks) (fun b o hb q => eb b o hb q) f0 f1 f3 f4 f5⟩
  self := fun A i s Q E st h => let ⟨⟨_, he⟩, _⟩ := st; wpAny_pyIter_enum he h
def iEnumT (K : PySem.W.Frag) (ta : TA) : TI := fun σ H R => ta σ H fun vs H1 => ∃ a xs, vs = [.ref a] ∧ SqT K H1 a xs ∧ R (IteT K a) H1
theorem pi_enumT {X : Cx} {e : Expr} {ta : TA} {p pos tpos : Pos} {elts : List Expr} {kk : Nat} (hg : Gl X "enumerate") (hm : X.mg "enumerate" = none) (ha : PA X [e] ta) (hs : starEach [e] X.env = [(false, eval e X.env)]) :
    L2.PI X (.Tuple elts kk tpos) (.Call (.Name "enumerate" p) [e] [] pos) (iEnumT X.K ta) := by
  refine ⟨fun pins s σ H R I h => ?_⟩
  refine Call_ (ld_blt I hg hm boot_enumerate (PyProof.Rows.callWith_type1 (thn (ha.run pos pins s σ H _ I h) fun us s1 ⟨vs, H1, I1, r1, q1⟩ => ?_) hs rfl))
  obtain ⟨a, xs, ex, hq, q⟩ := q1
  subst ex
  cases r1 with
  | cons r rr =>
    cases rr
    cases r
    obtain ⟨its, rv, p', hz⟩ := I1.tuple hq
    have hal : a < s1.heap.objs.size := by
      obtain ⟨ob, ho, _⟩ := id p'
      exact Heap.lt_size ho
    refine call_enumT (show s1.heap.IsTuple a its.toArray from p') fun h' he hit hsz hk => wpAny_pyIter_enum he ?_
    have I2 : Inv X pins σ H1 { s1 with heap := h' } := I1.kept (t' := s1.toks) hk
    refine ⟨s1.heap.objs.size + 1, [s1.heap.objs.size + 1, s1.heap.objs.size], _, _, H1, rfl, I2, turn_enumT a (s1.heap.objs.size + 1) s1.heap.objs.size, ⟨⟨.none, he⟩, hit, Nat.succ_ne_self _, Nat.ne_of_lt hal, Nat.ne_of_gt (Nat.lt_succ_of_lt hal)⟩, fun b hb => ?_, q⟩
    have e' : b = s1.heap.objs.size + 1 ∨ b = s1.heap.objs.size := by simpa using hb
    have hle : s1.heap.objs.size ≤ b := by
      rcases e' with z | z
      · rw [z]; exact Nat.le_add_right _ _
      · rw [z]; exact Nat.le_refl _
    exact I1.fpOk hle (I1.hok.fresh hle)
/-! ### enumerate over a text -/
def IteS (z : Str) : It :=
  ⟨fun i _ => i < z.cps.size, fun i H v H' => ∃ T c, v = .ref T ∧ H T = none ∧ H' = upd H T (.tup [.int (i : Nat), .str ⟨#[c]⟩]) ∧ z.cps[i]? = some c, fun i _ => z.cps.size = i⟩
theorem turn_enumS {P : Program} {w : World} {K : PySem.W.Frag} {elts : List Expr} {kk : Nat} {tpos : Pos} (z : Str) (t : Tok) (e it : Addr) :
    Turn P w K (.Tuple elts kk tpos) (IteS z) [e, it] e (fun i h => (∃ old, IsEnum h e it ((i : Nat) : Int) old) ∧ h.IsStrIter it (strIterType z) z t i ∧ e ≠ it) where
  mem := by simp
  obj := fun i h st b hb => by
    obtain ⟨⟨old, he⟩, ⟨o, ho, hc, hd⟩, _⟩ := st
    have e' : b = e ∨ b = it := by simpa using hb
    rcases e' with z | z
    · rw [z]; exact ⟨_, he, fun v q => nomatch q⟩
    · rw [z]; exact ⟨o, ho, fun v q => by rw [hd] at q; cases q⟩
  keep := fun i h h' st k => let ⟨⟨old, he⟩, ⟨o, ho, r⟩, hne⟩ := st; ⟨⟨old, k e (by simp) _ he⟩, ⟨o, k it (by simp) o ho, r⟩, hne⟩
  item := by
    intro X hP hw hK hc i pins s σ H E I hf st hg
    subst hP hw hK
    obtain ⟨⟨old, he⟩, hit, hne⟩ := st
    have hel : e < s.heap.objs.size := Heap.lt_size he
    have hil : it < s.heap.objs.size := by obtain ⟨_, q, _⟩ := hit; exact Heap.lt_size q
    have hd1 : X.A.in1.handled = none := I.ok.hd hc
    refine wpAny_pyNext_enum_itemD (Draws.text hd1 it z t) he hit hg hne (by simp [hne]) fun x2 h' tk hx2 ho hst2 hT hsz hk => ?_
    obtain ⟨c, u, hcx, rfl⟩ := hx2
    refine ⟨_, rfl, wpAny_letOwnedTupleGo_enum (s := { s with heap := h', toks := tk + 1 }) ho fun h'' he' sb => ?_⟩
    have hT2 : h''.get? s.heap.objs.size = some { cls := .type "tuple", data := .seq #[.int i tk, .str ⟨#[c]⟩ u] } := (sb.2 _ (Nat.ne_of_gt hel)).trans hT
    have new : ObjOk X.prog X.w (upd H s.heap.objs.size (.tup [.int (i : Nat), .str ⟨#[c]⟩])) h'' s.heap.objs.size (.tup [.int (i : Nat), .str ⟨#[c]⟩]) :=
      ⟨by show 2 ≤ sizeLine; decide, [.int i tk, .str ⟨#[c]⟩ u], .cons ⟨_, rfl⟩ (.cons ⟨u, rfl⟩ .nil), ⟨_, hT2, rfl, _, rfl⟩⟩
    have I1 : Inv X pins σ (upd H s.heap.objs.size (.tup [.int (i : Nat), .str ⟨#[c]⟩])) { s with heap := h'', toks := tk + 1 } :=
      I.turnedNew (ch := [e, it]) (fun b ob hb q => (sb.2 b (fun z => hb (by simp [z]))).trans (hk b ob (fun z => hb (by simp [z])) (fun z => hb (by simp [z])) q)) hf (Nat.le_refl _) new
    refine ⟨.ref s.heap.objs.size, _, I1, rfl, ⟨_, c, rfl, I.hok.fresh (Nat.le_refl _), rfl, hcx⟩, ⟨⟨.str ⟨#[c]⟩ u, ?_⟩, ?_, hne⟩, fun b hb => ?_⟩
    · have e1 : ((i + 1 : Nat) : Int) = (i : Int) + 1 := by omega
      rw [e1]; exact he'
    · obtain ⟨o, q1, q2⟩ := hst2
      exact ⟨o, (sb.2 it (Ne.symm hne)).trans q1, q2⟩
    · have hb' : b < s.heap.objs.size := by
        have e' : b = e ∨ b = it := by simpa using hb
        rcases e' with z | z
        · rw [z]; exact hel
        · rw [z]; exact hil
      rw [upd_ne (Nat.ne_of_lt hb')]
      exact (hf b hb).1
  done := by
    intro X hP hw hK hc i pins s σ H E I hf st hg
    subst hP hw hK
    obtain ⟨⟨old, he⟩, hit, hne⟩ := st
    obtain ⟨f0, f1, f2, f3, f4, f5⟩ := hf it (by simp)
    have hi : z.cps.size = i := hg
    have hd1 : X.A.in1.handled = none := I.ok.hd hc
    exact wpAny_pyNext_enum_endD (Draws.text hd1 it z t) he (by rw [hi]; exact hit) fun h' eb => ⟨rfl, I.turned (t' := s.toks) (fun b o hb q => eb b o hb q) f0 f1 f3 f4 f5⟩
  self := fun A i s Q E st h => let ⟨⟨_, he⟩, _⟩ := st; wpAny_pyIter_enum he h
def iEnumS (ta : TA) : TI := fun σ H R => ta σ H fun vs H1 => ∃ z, vs = [.str z] ∧ R (IteS z) H1
theorem pi_enumS {X : Cx} {e : Expr} {ta : TA} {p pos tpos : Pos} {elts : List Expr} {kk : Nat} (hg : Gl X "enumerate") (hm : X.mg "enumerate" = none) (ha : PA X [e] ta) (hs : starEach [e] X.env = [(false, eval e X.env)]) :
    L2.PI X (.Tuple elts kk tpos) (.Call (.Name "enumerate" p) [e] [] pos) (iEnumS ta) := by
  refine ⟨fun pins s σ H R I h => ?_⟩
  refine Call_ (ld_blt I hg hm boot_enumerate (PyProof.Rows.callWith_type1 (thn (ha.run pos pins s σ H _ I h) fun us s1 ⟨vs, H1, I1, r1, q1⟩ => ?_) hs rfl))
  obtain ⟨z, ex, q⟩ := q1
  subst ex
  cases r1 with
  | cons r rr =>
    cases rr
    obtain ⟨t, rfl⟩ := r
    refine call_enumerate_str fun h' he hit hsz hk => wpAny_pyIter_enum he ?_
    have I2 : Inv X pins σ H1 { s1 with heap := h' } := I1.kept (t' := s1.toks) hk
    refine ⟨s1.heap.objs.size + 1, [s1.heap.objs.size + 1, s1.heap.objs.size], _, _, H1, rfl, I2, turn_enumS z t (s1.heap.objs.size + 1) s1.heap.objs.size, ⟨⟨.none, he⟩, hit, Nat.succ_ne_self _⟩, fun b hb => ?_, q⟩
    have e' : b = s1.heap.objs.size + 1 ∨ b = s1.heap.objs.size := by simpa using hb
    have hle : s1.heap.objs.size ≤ b := by
      rcases e' with z | z
      · rw [z]; exact Nat.le_add_right _ _
      · rw [z]; exact Nat.le_refl _
    exact I1.fpOk hle (I1.hok.fresh hle)
end PI
set_option Elab.async false
set_option linter.all false
set_option maxRecDepth 100000
set_option maxHeartbeats 4000000
/-! PI9: targets, what is walked. -/
namespace PI
open PySem PySem.Spec PyProof.Rows L2 PD
/-! ### slots that are stored -/
def SetIn {α : Type} (C : Ct) (σ σ' : List α) : Prop := σ'.length = σ.length ∧ ∀ i, (∀ x, stB C x = true → sIdx C.N x ≠ some i) → σ'[i]? = σ[i]?
theorem SetIn.refl {α : Type} {C : Ct} {σ : List α} : SetIn C σ σ := ⟨rfl, fun _ _ => rfl⟩
theorem SetIn.trans {α : Type} {C : Ct} {σ σ' σ'' : List α} (a : SetIn C σ σ') (b : SetIn C σ' σ'') : SetIn C σ σ'' := ⟨b.1.trans a.1, fun i h => (b.2 i h).trans (a.2 i h)⟩
theorem SetIn.one {α : Type} {C : Ct} {σ : List α} {i : Nat} {x : Str} {o : α} (h : stB C x = true) (e : sIdx C.N x = some i) : SetIn C σ (σ.set i o) :=
  ⟨by simp, fun j hj => by
    have : i ≠ j := fun z => hj x h (by rw [e, z])
    rw [List.getElem?_set_ne this]⟩
theorem wipe_get {σ : L2.St} : ∀ {vs : List Nat} {i : Nat}, (L2.wipe σ vs)[i]? = if i ∈ vs then (if i < σ.length then some none else none) else σ[i]?
  | [], i => by simp [L2.wipe]
  | v :: vs, i => by
    unfold L2.wipe
    rw [List.getElem?_set, wipe_get (vs := vs), L2.wipe_length]
    by_cases hv : v = i
    · subst hv; simp
    · rw [if_neg hv]
      have : i ∈ v :: vs ↔ i ∈ vs := by simp [Ne.symm hv]
      simp only [this]
theorem wipeR_length (ρ : List Sl) : ∀ vs : List Nat, (wipeR ρ vs).length = ρ.length
  | [] => rfl
  | v :: vs => by unfold wipeR; rw [List.length_set, wipeR_length ρ vs]
theorem wipeR_get {ρ : List Sl} : ∀ {vs : List Nat} {i : Nat}, (wipeR ρ vs)[i]? = if i ∈ vs then (if i < ρ.length then some .un else none) else ρ[i]?
  | [], i => by simp [wipeR]
  | v :: vs, i => by
    unfold wipeR
    rw [List.getElem?_set, wipeR_get (vs := vs), wipeR_length]
    by_cases hv : v = i
    · subst hv; simp
    · rw [if_neg hv]
      have : i ∈ v :: vs ↔ i ∈ vs := by simp [Ne.symm hv]
      simp only [this]
theorem SetIn.wipe {C : Ct} {σ σ' : L2.St} {vs : List Nat} (h : SetIn C σ σ') (hv : ∀ x i, stB C x = true → sIdx C.N x = some i → i ∈ vs) : L2.wipe σ' vs = L2.wipe σ vs := by
  apply List.ext_getElem?
  intro i
  rw [wipe_get, wipe_get, h.1]
  by_cases hi : i ∈ vs
  · rw [if_pos hi, if_pos hi]
  · rw [if_neg hi, if_neg hi]
    exact h.2 i fun x h1 h2 => hi (hv x i h1 h2)
theorem set_pair : ∀ n : Nat, (∀ C t d ρ ρ', asT n C t d .sh ρ = some ρ' → SetIn C ρ ρ') ∧ (∀ C ts ds ρ ρ', asT.asL n C ts ds ρ = some ρ' → SetIn C ρ ρ')
  | 0 => ⟨fun C t d ρ ρ' h => (by unfold asT at h; cases h), fun C ts ds ρ ρ' h => (by unfold asT.asL at h; cases h)⟩
  | n + 1 => by
    obtain ⟨ih1, ih2⟩ := set_pair n
    refine ⟨fun C t d ρ ρ' h => ?_, fun C ts ds ρ ρ' h => ?_⟩
    · unfold asT at h
      split at h
      · split at h
        · rename_i x p hc
          rw [Bool.and_eq_true, Bool.and_eq_true] at hc
          split at h
          · rename_i i s e1 e2
            cases h
            exact .one hc.2 e1
          · cases h
        · cases h
      · split at h
        · split at h
          · exact ih2 _ _ _ _ _ h
          · cases h
        · split at h
          · exact ih2 _ _ _ _ _ h
          · cases h
        · cases h
      · cases h
    · match ts, ds, h with
      | [], [], h =>
        unfold asT.asL at h
        cases h
        exact .refl
      | t :: ts, x :: ds, h =>
        unfold asT.asL at h
        split at h
        · rename_i ρ1 e
          exact (ih1 _ _ _ _ _ e).trans (ih2 _ _ _ _ _ h)
        · cases h
      | [], _ :: _, h => unfold asT.asL at h; cases h
      | _ :: _, [], h => unfold asT.asL at h; cases h

def tG (K : PySem.W.Frag) (mg : Str → Option Value) (C : Ct) (k : Kd) (m : D → List Sl → Option (List Sl)) : TG := fun v σ H Q => ∃ Mo H0 L0 L ρ st d ρ',
  Rl K mg (addF Mo k v) H0 L0 L H ρ σ st ∧ RV K mg (wo (addF Mo k v) L H ρ σ) ρ σ d k v ∧ k ≠ .wk ∧ (k = .fr → ∀ a, v = .ref a → ¬ Mo a ∧ H0 a = none) ∧ m d ρ = some ρ' ∧
  ∀ σ', Rl K mg Mo H0 L0 L H ρ' σ' st → Le K (wo (addF Mo k v) L H ρ σ) (wo Mo L H ρ' σ') → SetIn C σ σ' → Q σ' H
def tGs (K : PySem.W.Frag) (mg : Str → Option Value) (C : Ct) (m : List D → List Sl → Option (List Sl)) : TGs := fun vs σ H Q => ∃ Mo H0 L0 L ρ st ds ρ',
  Rl K mg Mo H0 L0 L H ρ σ st ∧ RepL K mg (wo Mo L H ρ σ) ds vs ∧ m ds ρ = some ρ' ∧
  ∀ σ', Rl K mg Mo H0 L0 L H ρ' σ' st → Le K (wo Mo L H ρ σ) (wo Mo L H ρ' σ') → SetIn C σ σ' → Q σ' H
section
variable {P : Pg} {X : Cx} {n d : Nat} {C : Ct} {Wx : WX} {a b e tg : Expr} {es : List Expr} {pos p1 p2 p3 : Pos} {te : TE}
theorem _root_.L2.PG.nope {t : TG} (h : ∀ v σ H Q, ¬ t v σ H Q) : PG X e t := ⟨fun pins s σ H v u Q I r q => absurd q (h _ _ _ _)⟩
theorem _root_.L2.PG.imp {t t' : TG} (h : PG X e t) (i : ∀ v σ H Q, t' v σ H Q → t v σ H Q) : PG X e t' := ⟨fun pins s σ H v u Q I r q => h.run pins s σ H v u Q I r (i _ _ _ _ q)⟩
theorem _root_.L2.PGs.imp {t t' : TGs} (h : PGs X es t) (i : ∀ v σ H Q, t' v σ H Q → t v σ H Q) : PGs X es t' := ⟨fun pins s σ H v u Q I r q => h.run pins s σ H v u Q I r (i _ _ _ _ q)⟩
theorem _root_.L2.PGs.nope {t : TGs} (h : ∀ v σ H Q, ¬ t v σ H Q) : PGs X es t := ⟨fun pins s σ H v u Q I r q => absurd q (h _ _ _ _)⟩
theorem _root_.L2.PG.or {t t' : TG} (h : PG X e t) (h' : PG X e t') : PG X e (fun v σ H Q => t v σ H Q ∨ t' v σ H Q) := ⟨fun pins s σ H v u Q I r q => by
  rcases q with q | q
  · exact h.run pins s σ H v u Q I r q
  · exact h'.run pins s σ H v u Q I r q⟩
theorem _root_.L2.PG.kfIn {t : TG} (h : PG X tg t) : PG X tg (fun v σ H Q => KF X.K H → t v σ H Q) := ⟨fun pins s σ H v u Q I r q => h.run pins s σ H v u Q I r (q (kfI I))⟩
theorem plainT_len : ∀ {es : List Expr} {env : Env}, plainT es = true → (assignEach es env).length = es.length ∧ (assignEach es env).findIdx? (·.1) = none
  | [], _, _ => ⟨rfl, rfl⟩
  | e :: es, env, h => by
    cases e with
    | Name x p =>
      have h : plainT es = true := h
      obtain ⟨h1, h2⟩ := plainT_len (env := env) h
      refine ⟨by show (_ :: assignEach es env).length = _; simp [h1], ?_⟩
      show ((false, assign (.Name x p) env) :: assignEach es env).findIdx? (·.1) = none
      rw [List.findIdx?_cons]
      simp [h2]
    | Tuple xs k p =>
      have h : plainT es = true := h
      obtain ⟨h1, h2⟩ := plainT_len (env := env) h
      refine ⟨by show (_ :: assignEach es env).length = _; simp [h1], ?_⟩
      show ((false, assign (.Tuple xs k p) env) :: assignEach es env).findIdx? (·.1) = none
      rw [List.findIdx?_cons]
      simp [h2]
    | _ => cases h
theorem g_name (hN : X.N = C.N) (hnd : C.N.Nodup) (hsc : X.env.scope = C.sc) (hfn : ∀ x, stB C x = true → Loc X.env.scope x → X.fn x = true ∨ X.env.scope.names.lookup x = some .local) {x : Str} {k : Kd} :
    PG X (.Name x pos) (tG X.K X.mg C k fun d ρ => asT (n + 1) C (.Name x pos) d k ρ) := by
  by_cases hc : (okName x && locB C.sc x && stB C x) = true
  · have hc' := hc
    rw [Bool.and_eq_true, Bool.and_eq_true] at hc'
    obtain ⟨⟨h1, h2⟩, h3⟩ := hc'
    cases hi : sIdx C.N x with
    | none =>
      refine .nope fun v σ H Q ⟨Mo, H0, L0, L, ρ, st, dd, ρ', r, rv, nk, fr, e, q⟩ => ?_
      dsimp only at e
      unfold asT at e
      dsimp only at e
      rw [if_pos hc, hi] at e
      cases e
    | some i =>
      refine (pg_name (i := i) (x := x) (by rw [hN]; exact hnd) (by rw [hN]; exact sIdx_get hi) (by rw [hsc]; exact locB_ok h2) (hfn x h3 (by rw [hsc]; exact locB_ok h2))).imp fun v σ H Q ⟨Mo, H0, L0, L, ρ, st, dd, ρ', r, rv, nk, fr, e, q⟩ => ?_
      dsimp only at e
      unfold asT at e
      dsimp only at e
      rw [if_pos hc, hi] at e
      cases k with
      | wk => exact absurd rfl nk
      | sh =>
        cases e
        obtain ⟨r', l⟩ := Rl.setIm (i := i) (s := .im dd) (o := some v) r (by intro d' z; cases z) (by intro d' z; cases z; exact ⟨v, rfl, rv⟩)
        exact q _ r' l (.one h3 hi)
      | fr =>
        cases e
        obtain ⟨c, rfl, o⟩ := rv
        obtain ⟨n1, n2⟩ := fr rfl c rfl
        obtain ⟨r', l⟩ := Rl.setOw (i := i) r o n1 n2
        exact q _ r' l (.one h3 hi)
  · refine .nope fun v σ H Q ⟨Mo, H0, L0, L, ρ, st, dd, ρ', r, rv, nk, fr, e, q⟩ => ?_
    dsimp only at e
    unfold asT at e
    dsimp only at e
    rw [if_neg hc] at e
    cases e
theorem g_all (hcm : X.calm = true) (hN : X.N = C.N) (hnd : C.N.Nodup) (hsc : X.env.scope = C.sc) (hfn : ∀ x, stB C x = true → Loc X.env.scope x → X.fn x = true ∨ X.env.scope.names.lookup x = some .local) :
    ∀ n, (∀ t k, PG X t (tG X.K X.mg C k fun d ρ => asT n C t d k ρ)) ∧ ∀ ts, plainT ts = true → PGs X ts (tGs X.K X.mg C fun ds ρ => asT.asL n C ts ds ρ)
  | 0 => ⟨fun t k => .nope fun v σ H Q ⟨Mo, H0, L0, L, ρ, st, dd, ρ', r, rv, nk, fr, e, q⟩ => (by dsimp only at e; unfold asT at e; cases e),
      fun ts _ => .nope fun vs σ H Q ⟨Mo, H0, L0, L, ρ, st, dd, ρ', r, rl, e, q⟩ => (by dsimp only at e; unfold asT.asL at e; cases e)⟩
  | n + 1 => by
    obtain ⟨ih1, ih2⟩ := g_all hcm hN hnd hsc hfn n
    refine ⟨fun t k => ?_, fun ts hp => ?_⟩
    · cases t with
      | Name x p => exact g_name hN hnd hsc hfn
      | Tuple ts k' p =>
        by_cases hp : plainT ts = true
        · obtain ⟨l1, l2⟩ := plainT_len (env := X.env) hp
          refine ((pg_tup hcm (ih2 ts hp) l1 l2).or (pg_lst hcm (ih2 ts hp) l1 l2)).imp fun v σ H Q ⟨Mo, H0, L0, L, ρ, st, dd, ρ', r, rv, nk, fr, e, q⟩ => ?_
          dsimp only at e
          unfold asT at e
          dsimp only at e
          split at e
          · rename_i ds
            split at e
            · rename_i hl
              rw [Bool.and_eq_true] at hl
              have hl2 := of_decide_eq_true hl.2
              cases k with
              | wk => exact absurd rfl nk
              | fr =>
                obtain ⟨c, _, o⟩ := rv
                exact o.elim
              | sh =>
                unfold RV at rv
                unfold Rep at rv
                obtain ⟨c, vs, rfl, h1, h2, h3⟩ := rv
                exact .inl ⟨c, vs, rfl, h1, by rw [h3.length]; exact hl2.symm, Mo, H0, L0, L, ρ, st, ds, ρ', r, h3, e, q⟩
            · cases e
          · rename_i ds
            split at e
            · rename_i hl
              rw [Bool.and_eq_true] at hl
              have hl2 := of_decide_eq_true hl.2
              cases k with
              | wk => exact absurd rfl nk
              | fr =>
                obtain ⟨c, rfl, vs, h1, h3⟩ := rv
                obtain ⟨r', l'⟩ := Rl.fewer (Mo' := Mo) r (fun b m => .inl m)
                exact .inr ⟨c, vs, rfl, .of h1, by rw [h3.length]; exact hl2.symm, Mo, H0, L0, L, ρ, st, ds, ρ', r', RepL.le l' _ _ h3, e, fun σ' r2 l2 s2 => q σ' r2 (Le.trans l' l2) s2⟩
              | sh =>
                unfold RV at rv
                unfold Rep at rv
                obtain ⟨c, vs, rfl, h1, h2, h3⟩ := rv
                exact .inr ⟨c, vs, rfl, .of h1, by rw [h3.length]; exact hl2.symm, Mo, H0, L0, L, ρ, st, ds, ρ', r, h3, e, q⟩
            · cases e
          · cases e
        · refine .nope fun v σ H Q ⟨Mo, H0, L0, L, ρ, st, dd, ρ', r, rv, nk, fr, e, q⟩ => ?_
          dsimp only at e
          unfold asT at e
          dsimp only at e
          split at e
          · split at e
            · rename_i hl
              rw [Bool.and_eq_true] at hl
              exact hp hl.1
            · cases e
          · split at e
            · rename_i hl
              rw [Bool.and_eq_true] at hl
              exact hp hl.1
            · cases e
          · cases e
      | _ =>
        refine .nope fun v σ H Q ⟨Mo, H0, L0, L, ρ, st, dd, ρ', r, rv, nk, fr, e, q⟩ => ?_
        dsimp only at e
        unfold asT at e
        cases e
    · cases ts with
      | nil =>
        refine pgs_nil.imp fun vs σ H Q ⟨Mo, H0, L0, L, ρ, st, ds, ρ', r, rl, e, q⟩ => ?_
        dsimp only at e
        cases ds with
        | nil =>
          unfold asT.asL at e
          cases e
          unfold RepL at rl
          exact ⟨rl, q σ r Le.refl .refl⟩
        | cons x ds =>
          unfold asT.asL at e
          cases e
      | cons t ts =>
        have hp2 : plainT ts = true := by
          cases t <;> first | exact hp | cases hp
        have hs : (assignEach (t :: ts) X.env).map (·.2) = assign t X.env :: (assignEach ts X.env).map (·.2) := by
          cases t <;> first | rfl | cases hp
        refine (pgs_cons (ih1 t .sh) (ih2 ts hp2) hs).imp fun vs σ H Q ⟨Mo, H0, L0, L, ρ, st, ds, ρ', r, rl, e, q⟩ => ?_
        dsimp only at e
        cases ds with
        | nil => unfold asT.asL at e; cases e
        | cons x ds =>
          unfold asT.asL at e
          split at e
          · rename_i ρ1 e1
            obtain ⟨v, vr, ev, h1, h2⟩ := rl.uncons
            refine ⟨v, vr, ev, Mo, H0, L0, L, ρ, st, x, ρ1, r, h1, by simp, (fun z => by cases z), e1, fun σ1 r1 l1 s1 => ?_⟩
            exact ⟨Mo, H0, L0, L, ρ1, st, ds, ρ', r1, RepL.le l1 _ _ h2, e, fun σ2 r2 l2 s2 => q σ2 r2 (Le.trans l1 l2) (s1.trans s2)⟩
          · cases e
end

/-! ### what is walked -/
def IW (K : PySem.W.Frag) (mg : Str → Option Value) (s : Prop) (J : It) (xs : List D) (W : Wo) : Prop :=
  (∃ a vs, J = Itl K a ∧ W.H a = some (.lst vs) ∧ a ∉ W.L ∧ (s → ¬ W.M a) ∧ RepL K mg W xs vs) ∨
  (∃ a vs, J = Itt K a ∧ SqT K W.H a vs ∧ ¬ W.M a ∧ RepL K mg W xs vs) ∨
  (∃ z, J = Its z ∧ xs = signsD z) ∨ (∃ lo k, J = Itr lo k ∧ xs = rngD lo k) ∨
  (∃ a vs ys, J = Ite K a ∧ W.H a = some (.lst vs) ∧ a ∉ W.L ∧ (s → ¬ W.M a) ∧ RepL K mg W ys vs ∧ xs = enumD 0 ys) ∨
  (∃ a vs ys, J = IteT K a ∧ SqT K W.H a vs ∧ ¬ W.M a ∧ RepL K mg W ys vs ∧ xs = enumD 0 ys) ∨
  (∃ z, J = IteS z ∧ xs = enumD 0 (signsD z)) ∨
  (∃ a o Lh, J = Ik a o Lh ∧ DcA W.H a o Lh ∧ a ∉ W.L ∧ (s → ¬ W.M a) ∧ RepL K mg W xs (Lh.map (·.2.1)))
theorem rngD_get : ∀ (n : Nat) (lo : Int) (i : Nat), (rngD lo n)[i]? = if i < n then some (.int (lo + i)) else none
  | 0, lo, i => by simp [rngD]
  | n + 1, lo, 0 => by simp [rngD]
  | n + 1, lo, i + 1 => by
    unfold rngD
    rw [List.getElem?_cons_succ, rngD_get n (lo + 1) i]
    have e : lo + 1 + (i : Int) = lo + ((i + 1 : Nat) : Int) := by omega
    rw [e]
    simp
theorem rngD_len : ∀ (n : Nat) (lo : Int), (rngD lo n).length = n
  | 0, _ => rfl
  | n + 1, lo => by simp [rngD, rngD_len n]
theorem enumD_get : ∀ (ys : List D) (k i : Nat), (enumD k ys)[i]? = (ys[i]?).map fun y => .tup [.int ((k + i : Nat) : Int), y]
  | [], k, i => by simp [enumD]
  | y :: ys, k, 0 => by simp [enumD]
  | y :: ys, k, i + 1 => by
    unfold enumD
    rw [List.getElem?_cons_succ, List.getElem?_cons_succ, enumD_get ys (k + 1) i]
    have e : k + 1 + i = k + (i + 1) := by omega
    rw [e]
theorem enumD_len : ∀ (ys : List D) (k : Nat), (enumD k ys).length = ys.length
  | [], k => rfl
  | y :: ys, k => by simp [enumD, enumD_len ys]
section
variable {K : PySem.W.Frag} {mg : Str → Option Value} {s : Prop} {J : It} {xs : List D} {W W' : Wo} {Mo Mo1 : Addr → Prop} {H0 H H1 : Hp} {L0 L L1 : List Addr} {ρ : List Sl} {σ : L2.St} {st st1 : Store}
theorem SqT.ext {H H' : Hp} {a : Addr} {vs : List V} (k : ∀ b o, H b = some o → H' b = some o) (h : SqT K H a vs) : SqT K H' a vs := by
  rcases h with (h | ⟨o, h⟩) | h
  · exact .inl (.inl (k _ _ h))
  · exact .inl (.inr ⟨o, k _ _ h⟩)
  · exact .inr h
theorem IW.raw (h : IW K mg s J xs W) {H' : Hp} (k : ∀ b o, W.H b = some o → H' b = some o) : ∀ i, (xs.length = i → J.stop i H') ∧ (i < xs.length → J.go i H') := by
  intro i
  rcases h with ⟨a, vs, rfl, h1, _, _, r⟩ | ⟨a, vs, rfl, h1, _, r⟩ | ⟨z, rfl, rfl⟩ | ⟨lo, m, rfl, rfl⟩ | ⟨a, vs, ys, rfl, h1, _, _, r, rfl⟩ | ⟨a, vs, ys, rfl, h1, _, r, rfl⟩ | ⟨z, rfl, rfl⟩ | ⟨a, o, Lh, rfl, h1, h2, h3, rl⟩
  · rw [← r.length]
    exact ⟨fun hi => ⟨vs, .of (k _ _ h1), Nat.le_of_eq hi⟩, fun hi => ⟨vs, vs[i], .of (k _ _ h1), by simp [hi]⟩⟩
  · rw [← r.length]
    exact ⟨fun hi => ⟨vs, SqT.ext k h1, Nat.le_of_eq hi⟩, fun hi => ⟨vs, vs[i], SqT.ext k h1, by simp [hi]⟩⟩
  · have e : (signsD z).length = z.cps.size := by simp [signsD]
    rw [e]
    exact ⟨fun hi => Nat.le_of_eq hi, fun hi => hi⟩
  · rw [rngD_len]
    exact ⟨fun hi => Nat.le_of_eq hi, fun hi => hi⟩
  · rw [enumD_len, ← r.length]
    exact ⟨fun hi => ⟨vs, .of (k _ _ h1), Nat.le_of_eq hi⟩, fun hi => ⟨vs, vs[i], .of (k _ _ h1), by simp [hi]⟩⟩
  · rw [enumD_len, ← r.length]
    exact ⟨fun hi => ⟨vs, SqT.ext k h1, hi⟩, fun hi => ⟨vs, vs[i], SqT.ext k h1, by simp [hi]⟩⟩
  · rw [enumD_len]
    have e : (signsD z).length = z.cps.size := by simp [signsD]
    rw [e]
    exact ⟨fun hi => hi, fun hi => hi⟩
  · have e := rl.length
    rw [List.length_map] at e
    rw [← e]
    exact ⟨fun hi => ⟨k _ _ h1.2.1, Nat.le_of_eq hi⟩, fun hi => ⟨k _ _ h1.2.1, hi⟩⟩
theorem IW.step (h : IW K mg s J xs (wo Mo L H ρ σ)) (r : Rl K mg Mo H0 L0 L H ρ σ st) {i : Nat} {d : D} (e : xs[i]? = some d) {x : V} {H' : Hp} (y : J.yld i H x H') (kf : KF K H') :
    Po K mg Mo H0 L0 L H ρ σ Mo L H' st ∧ Rep K mg (wo Mo L H' ρ σ) d x := by
  rcases h with ⟨a, vs, rfl, h1, _, _, rl⟩ | ⟨a, vs, rfl, h1, _, rl⟩ | ⟨z, rfl, rfl⟩ | ⟨lo, m, rfl, rfl⟩ | ⟨a, vs, ys, rfl, h1, _, _, rl, rfl⟩ | ⟨a, vs, ys, rfl, h1, _, rl, rfl⟩ | ⟨z, rfl, rfl⟩ | ⟨a, o, Lh, rfl, h1, h2, h3, rl⟩
  · obtain ⟨rfl, y⟩ := y
    obtain ⟨v, e1, h2⟩ := rl.get e
    rw [y vs (.of h1)] at e1
    cases e1
    exact ⟨Po.refl r, h2⟩
  · obtain ⟨rfl, y⟩ := y
    obtain ⟨v, e1, h2⟩ := rl.get e
    rw [y vs h1] at e1
    cases e1
    exact ⟨Po.refl r, h2⟩
  · obtain ⟨rfl, c, y1, rfl⟩ := y
    refine ⟨Po.refl r, ?_⟩
    unfold signsD at e
    rw [List.getElem?_map, Array.getElem?_toList, y1] at e
    cases e
    unfold Rep
    rfl
  · obtain ⟨rfl, rfl⟩ := y
    refine ⟨Po.refl r, ?_⟩
    rw [rngD_get] at e
    split at e
    · cases e
      unfold Rep
      rfl
    · cases e
  · obtain ⟨T, u, rfl, hT, rfl, y⟩ := y
    rw [enumD_get] at e
    cases e1 : ys[i]? with
    | none => rw [e1] at e; cases e
    | some d' =>
      rw [e1] at e
      cases e
      obtain ⟨v, e2, h2⟩ := rl.get e1
      rw [y vs (.of h1)] at e2
      cases e2
      have p := Po.laid r hT kf
      refine ⟨p, ?_⟩
      unfold Rep
      refine ⟨T, _, rfl, .inl (.inl upd_same), r.free hT, RepL.cons ?_ (RepL.cons (Rep.le p.le _ _ h2) .nil)⟩
      unfold Rep
      simp
  · obtain ⟨T, u, rfl, hT, rfl, y⟩ := y
    rw [enumD_get] at e
    cases e1 : ys[i]? with
    | none => rw [e1] at e; cases e
    | some d' =>
      rw [e1] at e
      cases e
      obtain ⟨v, e2, h2⟩ := rl.get e1
      rw [y vs h1] at e2
      cases e2
      have p := Po.laid r hT kf
      refine ⟨p, ?_⟩
      unfold Rep
      refine ⟨T, _, rfl, .inl (.inl upd_same), r.free hT, RepL.cons ?_ (RepL.cons (Rep.le p.le _ _ h2) .nil)⟩
      unfold Rep
      simp
  · obtain ⟨T, u, rfl, hT, rfl, y⟩ := y
    rw [enumD_get] at e
    cases e1 : (signsD z)[i]? with
    | none => rw [e1] at e; cases e
    | some d' =>
      rw [e1] at e
      cases e
      unfold signsD at e1
      rw [List.getElem?_map, Array.getElem?_toList, y] at e1
      cases e1
      have p := Po.laid r hT kf
      refine ⟨p, ?_⟩
      unfold Rep
      refine ⟨T, _, rfl, .inl (.inl upd_same), r.free hT, RepL.cons ?_ (RepL.cons ?_ .nil)⟩
      · unfold Rep
        simp
      · unfold Rep
        rfl
  · obtain ⟨rfl, yy, e1, rfl⟩ := y
    obtain ⟨v, e2, h4⟩ := rl.get e
    rw [List.getElem?_map, e1] at e2
    cases e2
    exact ⟨Po.refl r, h4⟩
theorem IW.po (p : Po K mg Mo H0 L0 L H ρ σ Mo1 L1 H1 st1) (h : IW K mg s J xs (wo Mo L H ρ σ)) : IW K mg s J xs (wo Mo1 L1 H1 ρ σ) := by
  have gen : ∀ {a : Addr} {u : HO}, H a = some u → a ∉ L → (s → ¬ Mt Mo L ρ σ a) → H1 a = some u ∧ a ∉ L1 ∧ (s → ¬ Mt Mo1 L1 ρ σ a) := fun {a u} h1 h2 h3 => by
    refine ⟨p.ex _ _ h1 h2, fun m => ?_, fun hs => (p.le.st _ _ h1 (h3 hs)).2⟩
    have := p.nw a m h2
    rw [h1] at this; cases this
  rcases h with ⟨a, vs, rfl, h1, h2, h3, rl⟩ | ⟨a, vs, rfl, h1, h2, rl⟩ | ⟨z, rfl, rfl⟩ | ⟨lo, m, rfl, rfl⟩ | ⟨a, vs, ys, rfl, h1, h2, h3, rl, rfl⟩ | ⟨a, vs, ys, rfl, h1, h2, rl, rfl⟩ | ⟨z, rfl, rfl⟩ | ⟨a, o, Lh, rfl, h1, h2, h3, rl⟩
  · obtain ⟨g1, g2, g3⟩ := gen h1 h2 h3
    exact .inl ⟨a, vs, rfl, g1, g2, g3, RepL.le p.le _ _ rl⟩
  · obtain ⟨g1, g2⟩ := p.le.sqT h2 h1
    exact .inr (.inl ⟨a, vs, rfl, g1, g2, RepL.le p.le _ _ rl⟩)
  · exact .inr (.inr (.inl ⟨z, rfl, rfl⟩))
  · exact .inr (.inr (.inr (.inl ⟨lo, m, rfl, rfl⟩)))
  · obtain ⟨g1, g2, g3⟩ := gen h1 h2 h3
    exact .inr (.inr (.inr (.inr (.inl ⟨a, vs, ys, rfl, g1, g2, g3, RepL.le p.le _ _ rl, rfl⟩))))
  · obtain ⟨g1, g2⟩ := p.le.sqT h2 h1
    exact .inr (.inr (.inr (.inr (.inr (.inl ⟨a, vs, ys, rfl, g1, g2, RepL.le p.le _ _ rl, rfl⟩)))))
  · exact .inr (.inr (.inr (.inr (.inr (.inr (.inl ⟨z, rfl, rfl⟩))))))
  · obtain ⟨g1, g2, g3⟩ := gen h1.2.1 h2 h3
    exact .inr (.inr (.inr (.inr (.inr (.inr (.inr ⟨a, o, Lh, rfl, ⟨h1.1, g1, h1.2.2⟩, g2, g3, RepL.le p.le _ _ rl⟩))))))
theorem IW.le (hL : ∀ a ∈ W'.L, W'.M a) (l : Le K W W') (hs : s) (h : IW K mg s J xs W) : IW K mg s J xs W' := by
  have gen : ∀ {a : Addr} {u : HO}, W.H a = some u → (s → ¬ W.M a) → W'.H a = some u ∧ a ∉ W'.L ∧ (s → ¬ W'.M a) := fun {a u} h1 h3 => by
    obtain ⟨g1, g2⟩ := l.st _ _ h1 (h3 hs)
    exact ⟨g1, fun m => g2 (hL a m), fun _ => g2⟩
  rcases h with ⟨a, vs, rfl, h1, h2, h3, rl⟩ | ⟨a, vs, rfl, h1, h2, rl⟩ | ⟨z, rfl, rfl⟩ | ⟨lo, m, rfl, rfl⟩ | ⟨a, vs, ys, rfl, h1, h2, h3, rl, rfl⟩ | ⟨a, vs, ys, rfl, h1, h2, rl, rfl⟩ | ⟨z, rfl, rfl⟩ | ⟨a, o, Lh, rfl, h1, h2, h3, rl⟩
  · obtain ⟨g1, g2, g3⟩ := gen h1 h3
    exact .inl ⟨a, vs, rfl, g1, g2, g3, RepL.le l _ _ rl⟩
  · obtain ⟨g1, g2⟩ := l.sqT h2 h1
    exact .inr (.inl ⟨a, vs, rfl, g1, g2, RepL.le l _ _ rl⟩)
  · exact .inr (.inr (.inl ⟨z, rfl, rfl⟩))
  · exact .inr (.inr (.inr (.inl ⟨lo, m, rfl, rfl⟩)))
  · obtain ⟨g1, g2, g3⟩ := gen h1 h3
    exact .inr (.inr (.inr (.inr (.inl ⟨a, vs, ys, rfl, g1, g2, g3, RepL.le l _ _ rl, rfl⟩))))
  · obtain ⟨g1, g2⟩ := l.sqT h2 h1
    exact .inr (.inr (.inr (.inr (.inr (.inl ⟨a, vs, ys, rfl, g1, g2, RepL.le l _ _ rl, rfl⟩)))))
  · exact .inr (.inr (.inr (.inr (.inr (.inr (.inl ⟨z, rfl, rfl⟩))))))
  · obtain ⟨g1, g2, g3⟩ := gen h1.2.1 h3
    exact .inr (.inr (.inr (.inr (.inr (.inr (.inr ⟨a, o, Lh, rfl, ⟨h1.1, g1, h1.2.2⟩, g2, g3, RepL.le l _ _ rl⟩))))))
end
def tMI (K : PySem.W.Frag) (mg : Str → Option Value) (Wx : WX) (m : List Sl → M (List D × Kd)) : TI := fun σ H R => ∃ Mo H0 L0 L ρ st, Rl K mg Mo H0 L0 L H ρ σ st ∧
  Out (m ρ st) (fun q st' => ∀ J L' H', Po K mg Mo H0 L0 L H ρ σ Mo L' H' st' → IW K mg (q.2 ≠ .wk) J q.1 (wo Mo L' H' ρ σ) → R J H') (ExQ K mg Mo H0 L0 L H ρ σ Wx)
section
variable {P : Pg} {X : Cx} {n d : Nat} {C : Ct} {Wx : WX} {a b e tg : Expr} {es : List Expr} {pos p1 p2 p3 : Pos} {te : TE}
theorem _root_.L2.PI.imp {t t' : TI} (h : L2.PI X tg e t) (i : ∀ σ H Q, t' σ H Q → t σ H Q) : L2.PI X tg e t' := ⟨fun pins s σ H Q I q => h.run pins s σ H Q I (i _ _ _ q)⟩
theorem _root_.L2.PI.nope {t : TI} (h : ∀ σ H Q, ¬ t σ H Q) : L2.PI X tg e t := ⟨fun pins s σ H Q I q => absurd q (h _ _ _)⟩
theorem _root_.L2.PI.or {t t' : TI} (h : L2.PI X tg e t) (h' : L2.PI X tg e t') : L2.PI X tg e (fun σ H R => t σ H R ∨ t' σ H R) := ⟨fun pins s σ H Q I q => q.elim (h.run pins s σ H Q I) (h'.run pins s σ H Q I)⟩
theorem pi_seq (he : PE X e te) : L2.PI X tg e (fun σ H R => te σ H fun x H1 => (∃ a, x = .ref a ∧ (∃ xs, SqL X.K H1 a xs) ∧ R (Itl X.K a) H1) ∨ (∃ a, x = .ref a ∧ (∃ xs, SqT X.K H1 a xs) ∧ R (Itt X.K a) H1) ∨ ∃ z, x = .str z ∧ R (Its z) H1) := by
  refine ⟨fun pins s σ H R I h => ?_⟩
  refine thn (he.run pins s σ H _ I h) fun v s1 ⟨x, H1, I1, r1, q1⟩ => ?_
  rcases q1 with ⟨a, e, ⟨xs, hq⟩, q⟩ | ⟨a, e, ⟨xs, hq⟩, q⟩ | ⟨z, e, q⟩
  · subst e
    cases r1
    obtain ⟨its, rv, p, hz⟩ := I1.list hq
    exact wpAny_pyIter_list p.isList (pi_one (tk := s1.toks) I1 _ (turn_list a _) ⟨_, Heap.get?_push_size _ rfl, rfl, rfl⟩ q)
  · subst e
    cases r1
    obtain ⟨its, rv, p, hz⟩ := I1.tuple hq
    exact wpAny_pyIter_tuple (show s1.heap.IsTuple a its.toArray from p) (pi_one (tk := s1.toks) I1 _ (turn_tuple a _) ⟨_, Heap.get?_push_size _ rfl, rfl, rfl⟩ q)
  · subst e
    obtain ⟨t, rfl⟩ := r1
    cases ha : z.cps.all (· < 128)
    · exact wpAny_pyIter_wide ha (pi_one (tk := s1.toks) I1 _ (turn_str _ z t "str_iterator" (.inr rfl)) ⟨_, Heap.get?_push_size _ rfl, rfl, rfl⟩ q)
    · exact wpAny_pyIter_ascii ha (pi_one (tk := s1.toks) I1 _ (turn_str _ z t "str_ascii_iterator" (.inl rfl)) ⟨_, Heap.get?_push_size _ rfl, rfl, rfl⟩ q)
theorem i_seq (he : PE X e (tM X.K X.mg Wx (evE n P d C e))) : L2.PI X tg e (tMI X.K X.mg Wx fun ρ => .bnd (evE n P d C e ρ) fun x => (match x.1 with
      | .lst xs => .ret (xs, x.2)
      | .tup xs => .ret (xs, .sh)
      | .str s => .ret (signsD s, .sh)
      | .dct ks _ => .ret (ks, x.2)
      | _ => .no)) := by
  refine ((pi_seq he).or (PD.pi_k he)).imp fun σ H R ⟨Mo, H0, L0, L, ρ, st, r, h⟩ => ?_
  by_cases hd : ∃ ks vs k st1, evE n P d C e ρ st = .ok (.dct ks vs, k) st1
  · obtain ⟨ks, vs, k, st0, e0⟩ := hd
    refine .inr ⟨Mo, H0, L0, L, ρ, st, r, ?_⟩
    replace h := Out.bnd h
    rw [e0] at h ⊢
    replace h : Out (M.ret (ks, k) st0) (fun q st' => ∀ J L' H', Po X.K X.mg Mo H0 L0 L H ρ σ Mo L' H' st' → IW X.K X.mg (q.2 ≠ .wk) J q.1 (wo Mo L' H' ρ σ) → R J H') (ExQ X.K X.mg Mo H0 L0 L H ρ σ Wx) := h
    have q := Out.ret h
    intro v1 L1 H1 p rv fr
    obtain ⟨p1, w1⟩ := p.read rv fr r
    by_cases hk : k = .wk
    · obtain ⟨a, rfl, ow, e2⟩ := w1.dct
      obtain ⟨oo, LL, Rr⟩ := ow.dct
      exact ⟨a, oo, LL, rfl, Rr.at', q _ L1 H1 p1 (.inr (.inr (.inr (.inr (.inr (.inr (.inr ⟨a, oo, LL, rfl, Rr.at', e2, fun z => absurd hk z, Rr.rk⟩)))))))⟩
    · obtain ⟨p2, w2⟩ := p.share rv fr r hk
      obtain ⟨a, rfl, ow, e2⟩ := Rep.ownD w2
      obtain ⟨oo, LL, Rr⟩ := ow.dct
      exact ⟨a, oo, LL, rfl, Rr.at', q _ L1 H1 p1 (.inr (.inr (.inr (.inr (.inr (.inr (.inr ⟨a, oo, LL, rfl, Rr.at', fun m => e2 (.inr (.inl m)), fun _ => e2, Rr.rk⟩)))))))⟩
  refine .inl ⟨Mo, H0, L0, L, ρ, st, r, ?_⟩
  have h0 := Out.bnd h
  cases e0 : evE n P d C e ρ st with
  | no => rw [e0] at h0; exact h0.elim
  | ex x st1 => rw [e0] at h0; exact h0
  | ok x st1 =>
  rw [e0] at h0
  intro v1 L1 H1 p rv fr
  have h1 : Out (((match x.1 with
          | D.lst xs => M.ret (xs, x.2)
          | D.tup xs => M.ret (xs, Kd.sh)
          | D.str s => M.ret (signsD s, Kd.sh)
          | D.dct ks vs => M.ret (ks, x.2)
          | _ => M.no) : M (List D × Kd)) st1) (fun q st' => ∀ J L' H', Po X.K X.mg Mo H0 L0 L H ρ σ Mo L' H' st' → IW X.K X.mg (q.2 ≠ .wk) J q.1 (wo Mo L' H' ρ σ) → R J H') (ExQ X.K X.mg Mo H0 L0 L H ρ σ Wx) := h0
  obtain ⟨p1, w1⟩ := p.read rv fr r
  obtain ⟨x, k⟩ := x
  cases x with
  | dct ks vs => exact absurd ⟨ks, vs, k, st1, e0⟩ hd
  | lst xs =>
    have h1 : Out (M.ret (xs, k) st1) _ _ := h1
    have q := Out.ret h1
    by_cases hk : k = .wk
    · have w1' := w1
      unfold RW at w1'
      dsimp only at w1'
      obtain ⟨c, vs, rfl, e1, e2, e3⟩ := w1'
      exact .inl ⟨c, rfl, ⟨vs, .of e1⟩, q _ L1 H1 p1 (.inl ⟨c, vs, rfl, e1, e2, fun z => absurd hk z, e3⟩)⟩
    · obtain ⟨p2, w2⟩ := p.share rv fr r hk
      unfold Rep at w2
      obtain ⟨c, vs, rfl, e1, e2, e3⟩ := w2
      exact .inl ⟨c, rfl, ⟨vs, .of e1⟩, q _ L1 H1 p1 (.inl ⟨c, vs, rfl, e1, fun m => e2 (.inr (.inl m)), fun z => e2, e3⟩)⟩
  | tup xs =>
    have h1 : Out (M.ret (xs, Kd.sh) st1) _ _ := h1
    have q := Out.ret h1
    obtain ⟨c, vs, rfl, e1, e2, e3⟩ := w1.tup
    exact .inr (.inl ⟨c, rfl, ⟨vs, e1⟩, q _ L1 H1 p1 (.inr (.inl ⟨c, vs, rfl, e1, e2, e3⟩))⟩)
  | str z =>
    have h1 : Out (M.ret (signsD z, Kd.sh) st1) _ _ := h1
    have q := Out.ret h1
    exact .inr (.inr ⟨z, w1.str, q _ L1 H1 p1 (.inr (.inr (.inl ⟨z, rfl, rfl⟩)))⟩)
  | _ => exact h1.elim
theorem in62_ok {i : Int} (h : in62 i = true) : -(2 ^ 62) ≤ i ∧ i < 2 ^ 62 := of_decide_eq_true h
theorem i_rng1 (c : Cxt P X d C Wx) (hs : notStar a = true) (hg : gloB C.sc "range" = true) (ha : PE X a (tM X.K X.mg Wx (evE n P d C a))) : L2.PI X tg (.Call (.Name "range" p1) [a] [] pos) (tMI X.K X.mg Wx fun ρ => .bnd (evE n P d C a ρ) fun x => (match x.1 with
          | .int j => if in62 j then .ret (rngD 0 j.toNat, .sh) else .no
          | _ => .no)) := by
  refine (pi_range1 (c.glo hg) (c.wf.blt _ (by decide)) (pa_cons ha pa_nil (star_cons hs _)) (star_cons hs _)).imp fun σ H R ⟨Mo, H0, L0, L, ρ, st, r, h⟩ => ?_
  refine tM_then r (Out.bnd h) fun x st1 v1 L1 H1 h1 p1 w1 => ?_
  obtain ⟨x, k⟩ := x
  cases x with
  | int j =>
    have h1 : Out ((if in62 j = true then M.ret (rngD 0 j.toNat, Kd.sh) else M.no : M (List D × Kd)) st1) _ _ := h1
    split at h1
    · rename_i hj
      exact ⟨j, by rw [w1.int], (in62_ok hj).1, (in62_ok hj).2, (Out.ret h1) _ L1 H1 p1 (.inr (.inr (.inr (.inl ⟨0, j.toNat, rfl, rfl⟩))))⟩
    · exact h1.elim
  | _ => exact h1.elim
theorem i_rng2 (c : Cxt P X d C Wx) (hs : notStar a = true) (hs2 : notStar b = true) (hg : gloB C.sc "range" = true) (ha : PE X a (tM X.K X.mg Wx (evE n P d C a))) (hb : PE X b (tM X.K X.mg Wx (evE n P d C b))) : L2.PI X tg (.Call (.Name "range" p1) [a, b] [] pos) (tMI X.K X.mg Wx fun ρ => .bnd (evE n P d C a ρ) fun x => .bnd (evE n P d C b ρ) fun y => (match x.1, y.1 with
          | .int i, .int j => if in62 i && in62 j then .ret (rngD i (j - i).toNat, .sh) else .no
          | _, _ => .no)) := by
  refine (pi_range2 (c.glo hg) (c.wf.blt _ (by decide)) (pa_cons ha (pa_cons hb pa_nil (star_cons hs2 _)) (star_cons hs _)) (by rw [star_cons hs, star_cons hs2]; rfl) (star_cons hs2 _)).imp fun σ H R ⟨Mo, H0, L0, L, ρ, st, r, h⟩ => ?_
  refine tM_then r (Out.bnd h) fun x st1 v1 L1 H1 h1 p1 w1 => ?_
  refine tM_then p1.rl ((Out.bnd h1).imp (fun _ _ q => q) fun _ _ q => q.from p1) fun y st2 v2 L2' H2 h2 p2 w2 => ?_
  replace w1 := w1.po p2
  obtain ⟨x, k⟩ := x
  obtain ⟨y, k2⟩ := y
  cases x with
  | int i =>
    cases y with
    | int j =>
      have h1 : Out ((if (in62 i && in62 j) = true then M.ret (rngD i (j - i).toNat, Kd.sh) else M.no : M (List D × Kd)) st2) _ _ := h2
      split at h1
      · rename_i hj
        rw [Bool.and_eq_true] at hj
        exact ⟨i, j, by rw [w1.int, w2.int], ⟨(in62_ok hj.1).1, (in62_ok hj.1).2, (in62_ok hj.2).1, (in62_ok hj.2).2⟩, (Out.ret h1) _ _ H2 (p1.trans p2) (.inr (.inr (.inr (.inl ⟨i, (j - i).toNat, rfl, rfl⟩))))⟩
      · exact h1.elim
    | _ => exact h2.elim
  | _ => cases y <;> exact h2.elim
theorem i_enum (c : Cxt P X d C Wx) (hs : notStar a = true) (hg : gloB C.sc "enumerate" = true) {k : Nat} (ha : PE X a (tM X.K X.mg Wx (evE n P d C a))) : L2.PI X (.Tuple es k p2) (.Call (.Name "enumerate" p1) [a] [] pos) (tMI X.K X.mg Wx fun ρ => .bnd (evE n P d C a ρ) fun x => (match x.1 with
          | .lst xs => .ret (enumD 0 xs, x.2)
          | .tup xs => .ret (enumD 0 xs, .sh)
          | .str s => .ret (enumD 0 (signsD s), .sh)
          | _ => .no)) := by
  refine (((pi_enum (c.glo hg) (c.wf.blt _ (by decide)) (pa_cons ha pa_nil (star_cons hs _)) (star_cons hs _)).or (pi_enumT (c.glo hg) (c.wf.blt _ (by decide)) (pa_cons ha pa_nil (star_cons hs _)) (star_cons hs _))).or (pi_enumS (c.glo hg) (c.wf.blt _ (by decide)) (pa_cons ha pa_nil (star_cons hs _)) (star_cons hs _))).imp fun σ H R ⟨Mo, H0, L0, L, ρ, st, r, h⟩ => ?_
  have h1 := Out.bnd h
  cases hx : evE n P d C a ρ st with
  | no => rw [hx] at h1; exact h1.elim
  | ex e st1 =>
    rw [hx] at h1
    exact .inl (.inl ⟨Mo, H0, L0, L, ρ, st, r, by rw [hx]; exact h1⟩)
  | ok x st1 =>
    rw [hx] at h1
    obtain ⟨x, k⟩ := x
    cases x with
    | lst xs =>
      replace h1 : Out (M.ret (enumD 0 xs, k) st1) (fun q st' => ∀ J L' H', Po X.K X.mg Mo H0 L0 L H ρ σ Mo L' H' st' → IW X.K X.mg (q.2 ≠ .wk) J q.1 (wo Mo L' H' ρ σ) → R J H') (ExQ X.K X.mg Mo H0 L0 L H ρ σ Wx) := h1
      have q := Out.ret h1
      refine .inl (.inl ⟨Mo, H0, L0, L, ρ, st, r, ?_⟩)
      rw [hx]
      intro v1 L1 H1 p rv fr
      obtain ⟨p1, w1⟩ := p.read rv fr r
      by_cases hk : k = .wk
      · have w1' := w1
        unfold RW at w1'
        dsimp only at w1'
        obtain ⟨c, vs, rfl, e1, e2, e3⟩ := w1'
        exact ⟨c, vs, rfl, .of e1, q _ L1 H1 p1 (.inr (.inr (.inr (.inr (.inl ⟨c, vs, xs, rfl, e1, e2, fun z => absurd hk z, e3, rfl⟩)))))⟩
      · obtain ⟨p2, w2⟩ := p.share rv fr r hk
        unfold Rep at w2
        obtain ⟨c, vs, rfl, e1, e2, e3⟩ := w2
        exact ⟨c, vs, rfl, .of e1, q _ L1 H1 p1 (.inr (.inr (.inr (.inr (.inl ⟨c, vs, xs, rfl, e1, fun m => e2 (.inr (.inl m)), fun z => e2, e3, rfl⟩)))))⟩
    | tup xs =>
      replace h1 : Out (M.ret (enumD 0 xs, Kd.sh) st1) (fun q st' => ∀ J L' H', Po X.K X.mg Mo H0 L0 L H ρ σ Mo L' H' st' → IW X.K X.mg (q.2 ≠ .wk) J q.1 (wo Mo L' H' ρ σ) → R J H') (ExQ X.K X.mg Mo H0 L0 L H ρ σ Wx) := h1
      have q := Out.ret h1
      refine .inl (.inr ⟨Mo, H0, L0, L, ρ, st, r, ?_⟩)
      rw [hx]
      intro v1 L1 H1 p rv fr
      obtain ⟨p1, w1⟩ := p.read rv fr r
      obtain ⟨c, vs, rfl, e1, e2, e3⟩ := w1.tup
      exact ⟨c, vs, rfl, e1, q _ L1 H1 p1 (.inr (.inr (.inr (.inr (.inr (.inl ⟨c, vs, xs, rfl, e1, e2, e3, rfl⟩))))))⟩
    | str z =>
      replace h1 : Out (M.ret (enumD 0 (signsD z), Kd.sh) st1) (fun q st' => ∀ J L' H', Po X.K X.mg Mo H0 L0 L H ρ σ Mo L' H' st' → IW X.K X.mg (q.2 ≠ .wk) J q.1 (wo Mo L' H' ρ σ) → R J H') (ExQ X.K X.mg Mo H0 L0 L H ρ σ Wx) := h1
      have q := Out.ret h1
      refine .inr ⟨Mo, H0, L0, L, ρ, st, r, ?_⟩
      rw [hx]
      intro v1 L1 H1 p rv fr
      obtain ⟨p1, w1⟩ := p.read rv fr r
      exact ⟨z, by rw [w1.str], q _ L1 H1 p1 (.inr (.inr (.inr (.inr (.inr (.inr (.inl ⟨z, rfl, rfl⟩)))))))⟩
    | _ => exact h1.elim
theorem i_bad {m : List Sl → M (List D × Kd)} (hm : ∀ ρ, m ρ = .no) : L2.PI X tg e (tMI X.K X.mg Wx m) := .nope fun σ H Q ⟨Mo, H0, L0, L, ρ, st, r, h⟩ => by
  rw [hm] at h
  exact h
theorem i_all (c : Cxt P X d C Wx) (hE : ∀ e, PE X e (tM X.K X.mg Wx (evE n P d C e))) (tg e : Expr) : L2.PI X tg e (tMI X.K X.mg Wx (evI (n + 1) P d C tg e)) := by
  cases e with
  | Call f as kw pos =>
    cases f with
    | Name x p =>
      cases kw with
      | nil =>
        have ev : evI (n + 1) P d C tg (.Call (.Name x p) as [] pos) = fun ρ => if (decide (x = "range") && gloB C.sc x && plainName P x) = true then (match as with
            | [a] => if notStar a then .bnd (evE n P d C a ρ) fun x => (match x.1 with
              | .int j => if in62 j then .ret (rngD 0 j.toNat, .sh) else .no
              | _ => .no) else .no
            | [a, b] => if notStar a && notStar b then .bnd (evE n P d C a ρ) fun x => .bnd (evE n P d C b ρ) fun y => (match x.1, y.1 with
              | .int i, .int j => if in62 i && in62 j then .ret (rngD i (j - i).toNat, .sh) else .no
              | _, _ => .no) else .no
            | _ => .no) else if (decide (x = "enumerate") && gloB C.sc x && plainName P x) = true then (match tg, as with
            | .Tuple _ _ _, [a] => if notStar a then .bnd (evE n P d C a ρ) fun x => (match x.1 with
              | .lst xs => .ret (enumD 0 xs, x.2)
              | .tup xs => .ret (enumD 0 xs, .sh)
              | .str s => .ret (enumD 0 (signsD s), .sh)
              | _ => .no) else .no
            | _, _ => .no) else .bnd (evE n P d C (.Call (.Name x p) as [] pos) ρ) fun x => (match x.1 with
              | .lst xs => .ret (xs, x.2)
              | .tup xs => .ret (xs, .sh)
              | .str s => .ret (signsD s, .sh)
              | .dct ks _ => .ret (ks, x.2)
              | _ => .no) := rfl
        rw [ev]
        by_cases h1 : (decide (x = "range") && gloB C.sc x && plainName P x) = true
        · simp only [h1, if_true]
          rw [Bool.and_eq_true, Bool.and_eq_true] at h1
          have hx := of_decide_eq_true h1.1.1
          subst hx
          cases as with
          | nil => exact i_bad fun _ => rfl
          | cons a as =>
            cases as with
            | nil =>
              by_cases hs : notStar a = true
              · simp only [hs, if_true]
                exact i_rng1 c hs h1.1.2 (hE a)
              · exact i_bad fun ρ => if_neg hs
            | cons b as =>
              cases as with
              | nil =>
                by_cases hs : (notStar a && notStar b) = true
                · simp only [hs, if_true]
                  rw [Bool.and_eq_true] at hs
                  exact i_rng2 c hs.1 hs.2 h1.1.2 (hE a) (hE b)
                · exact i_bad fun ρ => if_neg hs
              | cons _ _ => exact i_bad fun _ => rfl
        · simp only [h1, if_false]
          by_cases h2 : (decide (x = "enumerate") && gloB C.sc x && plainName P x) = true
          · simp only [h2, if_true]
            rw [Bool.and_eq_true, Bool.and_eq_true] at h2
            have hx := of_decide_eq_true h2.1.1
            subst hx
            cases tg with
            | Tuple es k p2 =>
              cases as with
              | nil => exact i_bad fun _ => rfl
              | cons a as =>
                cases as with
                | nil =>
                  by_cases hs : notStar a = true
                  · simp only [hs, if_true]
                    exact i_enum c hs h2.1.2 (hE a)
                  · exact i_bad fun ρ => if_neg hs
                | cons _ _ => exact i_bad fun _ => rfl
            | _ => exact i_bad fun _ => rfl
          · simp only [h2, if_false]
            exact i_seq (hE _)
      | cons => exact i_seq (hE _)
    | _ => exact i_seq (hE _)
  | _ => exact i_seq (hE _)
end
end PI
set_option Elab.async false
set_option linter.all false
set_option maxRecDepth 100000
set_option maxHeartbeats 4000000
/-! PI10: list comprehensions. -/
namespace PI
open PySem PySem.Spec PyProof.Rows L2
section
variable {K : PySem.W.Frag} {mg : Str → Option Value} {Mo Mo1 : Addr → Prop} {H0 H H1 : Hp} {L0 L L1 : List Addr} {ρ ρ' : List Sl} {σ σ' : L2.St} {st st1 : Store} {a : Addr}
/-- a list that an expression makes is changed -/
theorem Rl.chgMB (r : Rl K mg (ad Mo a) H0 L0 L H ρ σ st) {u0 w : HO} (mu : Mut (some w)) (e : H a = some u0) (n0 : H0 a = none) :
    Rl K mg (ad Mo a) H0 L0 L (upd H a w) ρ σ st ∧ Le K (wo (ad Mo a) L H ρ σ) (wo (ad Mo a) L (upd H a w) ρ σ) := by
  have ne : ∀ {b : Addr}, ¬ Mt (ad Mo a) L ρ σ b → b ≠ a := fun n z => n (by rw [z]; exact .inl (.inr rfl))
  have le : Le K (wo (ad Mo a) L H ρ σ) (wo (ad Mo a) L (upd H a w) ρ σ) := ⟨List.prefix_refl _, fun b u e n => ⟨by show upd H a _ b = _; rw [upd_ne (ne n)]; exact e, n⟩, fun b _ _ n => n, fun b e => by
    show upd H a _ b ≠ none
    by_cases q : b = a
    · rw [q, upd_same]; simp
    · rw [upd_ne q]; exact e⟩
  refine ⟨⟨r.len, fun j t e => ?_, r.dis, r.own, r.pre, r.lnd, r.lmo, r.lnew, r.sto, fun k c b q1 q2 => ?_, fun b o hk => ?_, fun b m => le.tr b (r.mt b m), fun b u q n => ?_, fun A q e b ps m z => nt_upd mu r.nt A q e b ps m z⟩, le⟩
  · have q := r.slot j t e
    cases t with
    | un => trivial
    | im d => obtain ⟨v, e1, h⟩ := q; exact ⟨v, e1, Rep.le le d v h⟩
    | ow d =>
      obtain ⟨b, q1, h⟩ := q
      have nb : b ≠ a := fun z => (r.own j b ⟨d, e, q1⟩).1 (.inr z)
      exact ⟨b, q1, h.le le fun _ e => by show upd H a _ b = _; rw [upd_ne nb]; exact e⟩
  · have nb : b ≠ a := fun z => r.lmo b (List.mem_of_getElem? q2) (.inr z)
    exact (r.cel k c b q1 q2).le le fun _ e => by show upd H a _ b = _; rw [upd_ne nb]; exact e
  · have q := r.kf b o hk
    by_cases z : b = a
    · rw [z, e] at q; cases q
    · rw [upd_ne z]; exact q
  · have nb : b ≠ a := fun z => by rw [z, n0] at q; cases q
    rw [upd_ne nb]
    exact r.base b u q n
theorem Rl.chgM (r : Rl K mg (ad Mo a) H0 L0 L H ρ σ st) {xs us : List V} (e : H a = some (.lst xs)) (n0 : H0 a = none) :
    Rl K mg (ad Mo a) H0 L0 L (upd H a (.lst us)) ρ σ st ∧ Le K (wo (ad Mo a) L H ρ σ) (wo (ad Mo a) L (upd H a (.lst us)) ρ σ) := r.chgMB True.intro e n0
/-- what went on in another frame over the same -/
theorem Po.back (r : Rl K mg Mo H0 L0 L H ρ σ st) (p : Po K mg Mo H0 L0 L H ρ' σ' Mo L1 H1 st1) (ow : ∀ i a, owAt ρ σ i a → ∃ j, owAt ρ' σ' j a) : Po K mg Mo H0 L0 L H ρ σ Mo L1 H1 st1 := by
  have old : ∀ b, b ∈ L1 → b ∉ L → H b = none := p.nw
  have nl : ∀ {b o}, H b = some o → b ∉ L → b ∉ L1 := fun {b o} e n m => by
    have := p.nw b m n
    rw [e] at this; cases this
  have l : Le K (wo Mo L H ρ σ) (wo Mo L1 H1 ρ σ) := ⟨p.le.L, fun b o e n => by
    have hb : b ∉ L := fun m => n (.inr (.inl m))
    refine ⟨p.ex b o e hb, fun m => ?_⟩
    rcases m with m | m | m
    · exact n (.inl m)
    · exact nl e hb m
    · exact n (.inr (.inr m)), fun b o hk n m => by
    rcases m with m | m | m
    · exact n (.inl m)
    · obtain ⟨vs, e⟩ := p.rl.lst m
      rw [p.rl.kf b o hk] at e; cases e
    · exact n (.inr (.inr m)), p.le.tr⟩
  have mm : ∀ b, Mt Mo L1 ρ σ b → Mt Mo L1 ρ' σ' b := fun b m => by
    rcases m with m | m | ⟨i, m⟩
    · exact .inl m
    · exact .inr (.inl m)
    · exact .inr (.inr (ow i b m))
  have lb : Le K (wo Mo L1 H1 ρ' σ') (wo Mo L1 H1 ρ σ) := ⟨List.prefix_refl _, fun b o e n => ⟨e, fun m => n (mm b m)⟩, fun b _ _ n m => n (mm b m), fun b e => e⟩
  refine ⟨⟨r.len, fun i s e => ?_, r.dis, fun i b o => ⟨(r.own i b o).1, fun m => ?_, (r.own i b o).2.2⟩, p.rl.pre, p.rl.lnd, p.rl.lmo, p.rl.lnew, p.rl.sto, fun k c b e1 e2 => (p.rl.cel k c b e1 e2).le lb fun _ e => e, p.rl.kf, p.rl.mt, p.rl.base, p.rl.nt⟩, l, p.ex, p.nw⟩
  · have q := r.slot i s e
    cases s with
    | un => trivial
    | im d => obtain ⟨v, e1, h⟩ := q; exact ⟨v, e1, Rep.le l d v h⟩
    | ow d =>
      obtain ⟨b, e1, h⟩ := q
      refine ⟨b, e1, h.le l fun vs e2 => p.ex b _ e2 (r.own i b ⟨d, e, e1⟩).2.1⟩
  · obtain ⟨vs, e, _⟩ := r.owned o
    exact nl e (r.own i b o).2.1 m
theorem le_back (ow : ∀ i a, owAt ρ σ i a → ∃ j, owAt ρ' σ' j a) : Le K (wo Mo L1 H1 ρ' σ') (wo Mo L1 H1 ρ σ) := by
  have mm : ∀ b, Mt Mo L1 ρ σ b → Mt Mo L1 ρ' σ' b := fun b m => by
    rcases m with m | m | ⟨i, m⟩
    · exact .inl m
    · exact .inr (.inl m)
    · exact .inr (.inr (ow i b m))
  exact ⟨List.prefix_refl _, fun b o e n => ⟨e, fun m => n (mm b m)⟩, fun b _ _ n m => n (mm b m), fun b e => e⟩
/-- slots forgotten -/
theorem Rl.wiped (r : Rl K mg Mo H0 L0 L H ρ σ st) : ∀ vs : List Nat, Rl K mg Mo H0 L0 L H (wipeR ρ vs) (L2.wipe σ vs) st ∧ Le K (wo Mo L H ρ σ) (wo Mo L H (wipeR ρ vs) (L2.wipe σ vs))
  | [] => ⟨r, Le.refl⟩
  | v :: vs => by
    obtain ⟨r1, l1⟩ := r.wiped vs
    obtain ⟨r2, l2⟩ := Rl.setIm (i := v) (s := .un) (o := none) r1 (by intro d z; cases z) (by intro d z; cases z)
    exact ⟨r2, l1.trans l2⟩
theorem Po.chgM (p : Po K mg Mo H0 L0 L H ρ σ (ad Mo a) L1 H1 st1) {xs us : List V} (hn : H a = none) (e : H1 a = some (.lst xs)) (n0 : H0 a = none) : Po K mg Mo H0 L0 L H ρ σ (ad Mo a) L1 (upd H1 a (.lst us)) st1 := by
  obtain ⟨r2, l2⟩ := Rl.chgM (us := us) p.rl e n0
  exact ⟨r2, p.le.trans l2, fun b o q n => by rw [upd_ne (ne_of_none q hn)]; exact p.ex b o q n, p.nw⟩
theorem IW.keep {s : Prop} {J : It} {xs : List PI.D} {W : Wo} (h : IW K mg s J xs W) {i : Nat} {Ha Hb : Hp} {x : V} (y : J.yld i Ha x Hb) : ∀ b o, Ha b = some o → Hb b = some o := by
  rcases h with ⟨a, vs, rfl, _⟩ | ⟨a, vs, rfl, _⟩ | ⟨z, rfl, rfl⟩ | ⟨lo, m, rfl, rfl⟩ | ⟨a, vs, ys, rfl, _⟩ | ⟨a, vs, ys, rfl, _⟩ | ⟨z, rfl, rfl⟩ | ⟨a, o, Lh, rfl, _⟩
  · obtain ⟨rfl, _⟩ := y; exact fun _ _ e => e
  · obtain ⟨rfl, _⟩ := y; exact fun _ _ e => e
  · obtain ⟨rfl, _⟩ := y; exact fun _ _ e => e
  · obtain ⟨rfl, _⟩ := y; exact fun _ _ e => e
  · obtain ⟨T, u, _, hT, rfl, _⟩ := y
    exact fun b o e => by rw [upd_ne (ne_of_none e hT)]; exact e
  · obtain ⟨T, u, _, hT, rfl, _⟩ := y
    exact fun b o e => by rw [upd_ne (ne_of_none e hT)]; exact e
  · obtain ⟨T, u, _, hT, rfl, _⟩ := y
    exact fun b o e => by rw [upd_ne (ne_of_none e hT)]; exact e
  · obtain ⟨rfl, _⟩ := y; exact fun _ _ e => e
theorem wipe_wipe {vs : List Nat} : L2.wipe (L2.wipe σ vs) vs = L2.wipe σ vs := by
  apply List.ext_getElem?
  intro i
  rw [wipe_get, wipe_get, L2.wipe_length]
  by_cases hi : i ∈ vs
  · simp [hi]
  · rw [if_neg hi]
theorem Out.some {α : Type} {r : R α} {ok : α → Store → Prop} (h : Out r ok fun _ _ => False) : ∃ a st', r = .ok a st' ∧ ok a st' := by
  cases r with
  | ok a st => exact ⟨a, st, rfl, h⟩
  | ex e st => exact h.elim
  | no => exact h.elim
end
section
variable {P : Pg} {X : Cx} {n d : Nat} {C : Ct} {Wx : WX} {a b e tg elt it : Expr} {es ifs : List Expr} {pos p1 p2 p3 : Pos} {te : TE} {scope : Scope}
def WF : WX := fun _ _ _ _ => False
theorem ownOf_ix {N : List Str} {sc : Scope} {x : Str} {i : Nat} (h : stB ⟨N, relC sc sc, [], some sc, none⟩ x = true) (e : sIdx N x = some i) : i ∈ (ownOf N sc).map (·.2) := by
  unfold stB at h
  dsimp only at h
  have key : ∀ k, sc.names.lookup x = some k → (k = .local ∨ k = .cell) → i ∈ (ownOf N sc).map (·.2) := fun k h1 h2 => by
    have hm : (x, k) ∈ sc.names := by
      have := List.lookup_eq_some_iff.mp h1
      obtain ⟨l1, l2, e1, _⟩ := this
      rw [e1]; simp
    unfold ownOf
    rw [List.mem_map]
    refine ⟨(x, i), ?_, rfl⟩
    rw [List.mem_filterMap]
    refine ⟨(x, k), hm, ?_⟩
    rcases h2 with rfl | rfl
    · show (sIdx N x).map (fun i => (x, i)) = _
      rw [e]; rfl
    · show (sIdx N x).map (fun i => (x, i)) = _
      rw [e]; rfl
  split at h
  · exact key _ (by assumption) (.inl rfl)
  · exact key _ (by assumption) (.inr rfl)
  · cases h
theorem relS_local {sc : Scope} {x : Str} : ∀ (names : List (Str × NameKind)), names.lookup x = some .local →
    (names.map fun (n, k) => if (k == .free && sc.kind == .function && sc.names.lookup n == some .cell) then (n, NameKind.cell) else (n, k)).lookup x = some .local
  | [], h => by cases h
  | (y, k) :: r, h => by
    rw [List.lookup_cons] at h
    rw [List.map_cons]
    by_cases e : (x == y) = true
    · simp only [e] at h
      cases h
      show List.lookup x ((y, NameKind.local) :: _) = _
      rw [List.lookup_cons, e]
    · have e' : (x == y) = false := by simpa using e
      simp only [e'] at h
      have ih := relS_local (sc := sc) r h
      dsimp only
      split
      · rw [List.lookup_cons, e']; exact ih
      · rw [List.lookup_cons, e']; exact ih
theorem blk_cxt (c : Cxt P X d C Wx) (s : Shared) (H : Hp) (cl : List (Str × Addr)) (A : Addr) (fp : List Addr) : Cxt P (X.blk s H scope (compEnvC scope cl A X.env) fp) d ⟨C.N, relC scope C.sc, [], some scope, none⟩ WF where
  N := c.N
  sc := by show relS scope X.env.scope = relC scope C.sc; rw [c.sc]; rfl
  nd := c.nd
  calm := c.calm
  gd := fun h => by cases h
  room := c.room
  tk := fun u s' ⟨a, B, sI, pins, σ, H, cls, d, e, I, nb, up, sky, na, os, ag, w⟩ => w.elim
  po := PassesOwn.never
  fn := fun x hx hl => by
    have h : stB ⟨C.N, relC scope C.sc, [], some scope, none⟩ x = true := hx
    unfold stB at h
    dsimp only at h
    split at h
    · rename_i h1
      right
      show (relS scope X.env.scope).names.lookup x = some .local
      exact relS_local _ h1
    · rename_i h1
      left
      show (scope.names.lookup x == some .cell) = true
      rw [h1]; rfl
    · cases h
  wf := c.wf
  tp := fun A q h => by cases h
  ind := fun _ _ _ _ _ h => h
/-- what a comprehension makes of an item -/
def cpF (n : Nat) (P : Pg) (d : Nat) (C : Ct) (elt tg : Expr) (ifs : List Expr) (scope : Scope) (ρ : List Sl) (x : D) : M (Option D) :=
  match asT n ⟨C.N, relC scope C.sc, [], some scope, none⟩ tg x .sh (wipeR ρ ((ownOf C.N scope).map (·.2))) with
  | some ρ' => .bnd (evIfs n P d ⟨C.N, relC scope C.sc, [], some scope, none⟩ ifs ρ') fun b => if b then .bnd (evE n P d ⟨C.N, relC scope C.sc, [], some scope, none⟩ elt ρ') fun y => (match strong [y] with
    | some [z] => .ret (some z)
    | _ => .no) else .ret none
  | none => .no
theorem noOw_ok {ρ : List Sl} {own : List (Str × Nat)} (h : noOw ρ own = true) {i : Nat} (hi : i ∈ own.map (·.2)) {d : D} : ρ[i]? ≠ some (.ow d) := by
  unfold noOw at h
  rw [List.all_eq_true] at h
  obtain ⟨p, hp, rfl⟩ := List.mem_map.mp hi
  have := h p hp
  intro e
  rw [e] at this
  cases this
def lcG (K : PySem.W.Frag) (mg : Str → Option Value) (n : Nat) (C : Ct) (scope : Scope) (tg : Expr) : TG := fun v σ H Q => KF K H → tG K mg ⟨C.N, relC scope C.sc, [], some scope, none⟩ .sh (fun d ρ => asT n ⟨C.N, relC scope C.sc, [], some scope, none⟩ tg d .sh ρ) v σ H Q
theorem lc_hG (c : Cxt P X d C Wx) (s : Shared) (H : Hp) (A : Addr) (cl : List (Str × Addr)) (fp : List Addr) : PG (X.blk s H scope (compEnvC scope cl A X.env) fp) tg (lcG X.K X.mg n C scope tg) :=
  ((g_all (X := X.blk s H scope (compEnvC scope cl A X.env) fp) (C := ⟨C.N, relC scope C.sc, [], some scope, none⟩) c.calm (blk_cxt c s H cl A fp).N c.nd (blk_cxt c s H cl A fp).sc (blk_cxt c s H cl A fp).fn n).1 tg .sh).kfIn
theorem lc_imp (c : Cxt P X d C Wx) (hb : blkC C.N C.sc scope (ownOf C.N scope) = true) (σ : L2.St) (H : Hp) (Q : VK) (hq : tM X.K X.mg Wx (evE (n + 1) P d C (.ListComp elt [⟨tg, it, ifs, 0⟩] scope pos)) σ H Q) :
    tLc (tMI X.K X.mg Wx (evI n P d C tg it)) (lcG X.K X.mg n C scope tg) (tMB X.K X.mg WF (evIfs n P d ⟨C.N, relC scope C.sc, [], some scope, none⟩ ifs)) (tM X.K X.mg WF (evE n P d ⟨C.N, relC scope C.sc, [], some scope, none⟩ elt)) ((ownOf C.N scope).map (·.2)) σ H (fun v H' => KF X.K H' → Q v H') := by
    obtain ⟨Mo, H0, L0, L, ρ, st, r, h⟩ := hq
    replace h : Out ((if (blkC C.N C.sc scope (ownOf C.N scope) && noOw ρ (ownOf C.N scope)) = true then M.bnd (evI n P d C tg it ρ) (fun items => M.calm (.bnd (compL (cpF n P d C elt tg ifs scope ρ) items.1) fun ys => if ys.length ≤ lim then .ret (.lst ys, .fr) else .no)) else M.no : M DK) st) (OkV X.K X.mg Mo H0 L0 L H ρ σ Q) (ExQ X.K X.mg Mo H0 L0 L H ρ σ Wx) := h
    split at h
    · rename_i hno
      rw [Bool.and_eq_true] at hno
      have hno := hno.2
      refine ⟨Mo, H0, L0, L, ρ, st, r, (Out.bnd h).imp (fun q st1 h1 J L1 H1 p1 iw D hD => ?_) fun _ _ q => q⟩
      have h2 := Out.bnd (Out.calm h1)
      generalize hvs : (ownOf C.N scope).map (·.2) = vs at *
      -- the state at turn i
      let S : Nat → Hp → Prop := fun i H' => ∃ (acc : List PI.D) (accV : List V) (L' : List Addr) (st' : Store), H' D = some (.lst accV) ∧ RepL X.K X.mg (wo (ad Mo D) L' H' ρ σ) acc accV ∧ Rl X.K X.mg (ad Mo D) H0 L0 L' H' ρ σ st' ∧
        Po X.K X.mg Mo H0 L0 L1 H1 ρ σ (ad Mo D) L' H' st' ∧
        Out (compL (cpF n P d C elt tg ifs scope ρ) (q.1.drop i) st') (fun ys st'' => (acc ++ ys).length ≤ lim ∧ OkV X.K X.mg Mo H0 L0 L H ρ σ Q (.lst (acc ++ ys), .fr) st'') (fun _ _ => False)
      refine ⟨fun i m H' => m = q.1.length - i ∧ i ≤ q.1.length ∧ (∀ j, (q.1.length = j → J.stop j H') ∧ (j < q.1.length → J.go j H')) ∧ (KF X.K H' → S i H'), ⟨q.1.length, by simp, Nat.zero_le _, ?_, fun kf => ?_⟩, ?_⟩
      · exact iw.raw fun b o e => by
          have e : H1 b = some o := e
          rw [upd_ne (ne_of_none e hD)]; exact e
      · obtain ⟨r2, l2⟩ := p1.rl.laidF hD kf
        have p2 : Po X.K X.mg Mo H0 L0 L1 H1 ρ σ (ad Mo D) L1 (upd H1 D (.lst [])) st1 := ⟨r2, l2, fun b u e _ => by rw [upd_ne (ne_of_none e hD)]; exact e, fun b m n => absurd m n⟩
        refine ⟨[], [], L1, st1, upd_same, .nil, r2, p2, h2.imp (fun ys st2 h3 => ?_) fun _ _ q => q⟩
        split at h3
        · rename_i hl
          exact ⟨by simpa using hl, h3⟩
        · exact h3.elim
      · rintro i m H' ⟨rfl, hi, raw, full⟩
        by_cases hlt : i < q.1.length
        · refine .inr ⟨(raw i).2 hlt, fun H' => (∀ j, (q.1.length = j → J.stop j H') ∧ (j < q.1.length → J.go j H')) ∧ (KF X.K H' → S (i + 1) H'), fun H'' z => ⟨q.1.length - (i + 1), by omega, rfl, hlt, z⟩, fun x H'' y kf => ?_⟩
          have yk := iw.keep y
          have kf' : KF X.K H' := fun b o hk => by
            cases e : H' b with
            | none => rfl
            | some u =>
              have := kf b o hk
              rw [yk b u e] at this; cases this
          obtain ⟨acc, accV, L', st', e1, e2, e3, e4, e6⟩ := full kf'
          have hi2 : q.1[i]? = some q.1[i] := List.getElem?_eq_getElem hlt
          rw [List.drop_eq_getElem_cons hlt] at e6
          generalize q.1[i] = dd at *
          have e5 := iw.po e4
          obtain ⟨pa, rep⟩ := e5.step e3 hi2 y kf
          have e4a : Po X.K X.mg Mo H0 L0 L1 H1 ρ σ (ad Mo D) L' H'' st' := e4.trans pa
          have e1a : H'' D = some (.lst accV) := yk _ _ e1
          have e2a := RepL.le pa.le _ _ e2
          obtain ⟨rw1, lw1⟩ := pa.rl.wiped vs
          have hgd : cpF n P d C elt tg ifs scope ρ dd = match asT n ⟨C.N, relC scope C.sc, [], some scope, none⟩ tg dd .sh (wipeR ρ vs) with
            | some ρ' => .bnd (evIfs n P d ⟨C.N, relC scope C.sc, [], some scope, none⟩ ifs ρ') fun b => if b then .bnd (evE n P d ⟨C.N, relC scope C.sc, [], some scope, none⟩ elt ρ') fun y => (match strong [y] with
              | some [z] => .ret (some z)
              | _ => .no) else .ret none
            | none => .no := by rw [← hvs]; rfl
          have e7 := Out.bnd e6
          rw [hgd] at e7
          have n0 : H0 D = none := p1.rl.free0 hD
          have nx : ∀ (acc' : List PI.D) (accV' : List V) (L3 : List Addr) (H3 : Hp) (st3 : Store), Po X.K X.mg Mo H0 L0 L1 H1 ρ σ (ad Mo D) L3 H3 st3 → H3 D = some (.lst accV') → RepL X.K X.mg (wo (ad Mo D) L3 H3 ρ σ) acc' accV' →
              Out (compL (cpF n P d C elt tg ifs scope ρ) (q.1.drop (i + 1)) st3) (fun ys st'' => (acc' ++ ys).length ≤ lim ∧ OkV X.K X.mg Mo H0 L0 L H ρ σ Q (.lst (acc' ++ ys), .fr) st'') (fun _ _ => False) →
              (∀ j, (q.1.length = j → J.stop j H3) ∧ (j < q.1.length → J.go j H3)) ∧ (KF X.K H3 → S (i + 1) H3) := fun acc' accV' L3 H3 st3 p3 g1 g2 g3 =>
            ⟨(iw.po p3).raw fun b o e => e, fun _ => ⟨acc', accV', L3, st3, g1, g2, p3.rl, p3, g3⟩⟩
          cases hA : asT n ⟨C.N, relC scope C.sc, [], some scope, none⟩ tg dd .sh (wipeR ρ vs) with
          | none => rw [hA] at e7; exact e7.elim
          | some ρ2 =>
            rw [hA] at e7
            dsimp only at e7
            refine ⟨ad Mo D, H0, L0, L', wipeR ρ vs, st', dd, ρ2, rw1, Rep.le lw1 _ _ rep, by simp, (fun z => by cases z), hA, fun σ2 r2 l2 s2 => ⟨?_, ?_⟩⟩
            · rw [s2.wipe fun x k h3 h4 => by rw [← hvs]; exact ownOf_ix h3 h4, wipe_wipe]
            · have sr := (set_pair n).1 _ _ _ _ _ hA
              have ow : ∀ k b, owAt ρ σ k b → ∃ j, owAt ρ2 σ2 j b := fun k b ⟨d', o1, o2⟩ => by
                have hk : k ∉ vs := fun z => noOw_ok hno (by rw [hvs]; exact z) o1
                have hst : ∀ x, stB ⟨C.N, relC scope C.sc, [], some scope, none⟩ x = true → sIdx C.N x ≠ some k := fun x h3 h4 => hk (by rw [← hvs]; exact ownOf_ix h3 h4)
                refine ⟨k, d', ?_, ?_⟩
                · rw [sr.2 k hst, wipeR_get, if_neg hk]; exact o1
                · rw [s2.2 k hst, wipe_get, if_neg hk]; exact o2
              refine ⟨ad Mo D, H0, L0, L', ρ2, st', r2, (Out.bnd e7).imp (fun b st2 e8 L3 H3 p3 => ?_) fun _ _ z => z.elim⟩
              have pb := Po.back pa.rl p3 ow
              cases b with
              | false =>
                have e9 : Out (M.bnd (compL (cpF n P d C elt tg ifs scope ρ) (q.1.drop (i + 1))) (fun ys => M.ret ys) st2) _ _ := Out.ret e8
                exact nx acc accV L3 H3 st2 (e4a.trans pb) (pb.ex _ _ e1a fun m => e3.lmo D m (.inr rfl)) (RepL.le pb.le _ _ e2a) ((Out.bnd e9).imp (fun ys st4 z => z) fun _ _ z => z)
              | true =>
                refine ⟨ad Mo D, H0, L0, L3, ρ2, st2, p3.rl, (Out.bnd e8).imp (fun yk2 st4 e9 v L4 H4 p4 rv fr => ?_) fun _ _ z => z.elim⟩
                obtain ⟨z, k⟩ := yk2
                have kk : k ≠ .wk := by
                  rintro rfl
                  exact e9.elim
                have e10 : Out (M.bnd (compL (cpF n P d C elt tg ifs scope ρ) (q.1.drop (i + 1))) (fun ys => M.ret (z :: ys)) st4) (fun ys st'' => (acc ++ ys).length ≤ lim ∧ OkV X.K X.mg Mo H0 L0 L H ρ σ Q (.lst (acc ++ ys), .fr) st'') (fun _ _ => False) := by
                  cases k with
                  | wk => exact absurd rfl kk
                  | sh =>
                    have e9 : Out (M.ret (some z) st4) _ _ := e9
                    exact Out.ret e9
                  | fr =>
                    have e9 : Out (M.ret (some z) st4) _ _ := e9
                    exact Out.ret e9
                obtain ⟨p5, rz⟩ := p4.share rv fr p3.rl kk
                have pb5 := Po.back pb.rl p5 ow
                have e11 := (Out.bnd e10).imp (ok' := fun ys st'' => ((acc ++ [z]) ++ ys).length ≤ lim ∧ OkV X.K X.mg Mo H0 L0 L H ρ σ Q (.lst ((acc ++ [z]) ++ ys), .fr) st'') (fun ys st5 w => by
                  have w := Out.ret w
                  rw [List.append_assoc]
                  exact w) fun _ _ z => z
                have hD4 : H4 D = some (.lst accV) := pb5.ex _ _ (pb.ex _ _ e1a fun m => e3.lmo D m (.inr rfl)) fun m => pb.rl.lmo D m (.inr rfl)
                have hlen : acc.length < lim := by
                  obtain ⟨ys, st5, _, w, _⟩ := Out.some e11
                  simp at w
                  omega
                refine ⟨accV, hD4, by rw [e2.length, ← lim_eq]; exact hlen, ?_⟩
                have p6 : Po X.K X.mg Mo H0 L0 L1 H1 ρ σ (ad Mo D) L4 H4 st4 := (e4a.trans pb).trans pb5
                have p7 := Po.chgM (us := accV ++ [v]) p6 hD hD4 n0
                obtain ⟨_, l7⟩ := Rl.chgM (us := accV ++ [v]) p6.rl hD4 n0
                have lz : Rep X.K X.mg (wo (ad Mo D) L4 H4 ρ σ) z v := Rep.le (le_back ow) _ _ rz
                refine nx (acc ++ [z]) (accV ++ [v]) L4 _ st4 p7 upd_same ?_ e11
                exact RepL.le l7 _ _ ((RepL.le pb5.le _ _ (RepL.le pb.le _ _ e2a)).append (.cons lz .nil))
        · have e : i = q.1.length := by omega
          subst e
          refine .inl ⟨(raw _).1 rfl, fun kf => ?_⟩
          obtain ⟨acc, accV, L', st', e1, e2, e3, e4, e6⟩ := full kf
          rw [List.drop_length] at e6
          obtain ⟨hl, q6⟩ := Out.ret (show Out (M.ret ([] : List PI.D) st') _ _ from e6)
          rw [List.append_nil] at q6
          refine q6 (.ref D) L' H' (p1.trans e4) ⟨D, rfl, accV, e1, e2⟩ fun _ a z => ?_
          cases z
          exact p1.untr hD
    · exact h.elim
theorem e_lc (c : Cxt P X d C Wx) (hI : L2.PI X tg it (tMI X.K X.mg Wx (evI n P d C tg it))) (hs : ∀ x, foldedSetIterable it X.env x = pure x)
    (hT : ∀ (s : Shared) (H : Hp) (A : Addr) (cl : List (Str × Addr)) (fp : List Addr), PTs (X.blk s H scope (compEnvC scope cl A X.env) fp) ifs (tMB X.K X.mg WF (evIfs n P d ⟨C.N, relC scope C.sc, [], some scope, none⟩ ifs)))
    (hE : ∀ (s : Shared) (H : Hp) (A : Addr) (cl : List (Str × Addr)) (fp : List Addr), PE (X.blk s H scope (compEnvC scope cl A X.env) fp) elt (tM X.K X.mg WF (evE n P d ⟨C.N, relC scope C.sc, [], some scope, none⟩ elt))) :
    PE X (.ListComp elt [⟨tg, it, ifs, 0⟩] scope pos) (tM X.K X.mg Wx (evE (n + 1) P d C (.ListComp elt [⟨tg, it, ifs, 0⟩] scope pos))) := by
  by_cases hb : blkC C.N C.sc scope (ownOf C.N scope) = true
  · have ok : BlkOk X.N X.env.scope scope (ownOf C.N scope) := by rw [c.N, c.sc]; exact blkOk_by hb
    exact (pe_lc c.calm (by rw [c.N]; exact c.nd) hI ok (lc_hG c) hT hE hs).kf.imp fun σ H Q hq => lc_imp c hb σ H Q hq
  · refine .nope fun σ H Q ⟨Mo, H0, L0, L, ρ, st, r, h⟩ => ?_
    replace h : Out ((if (blkC C.N C.sc scope (ownOf C.N scope) && noOw ρ (ownOf C.N scope)) = true then M.bnd (evI n P d C tg it ρ) (fun items => M.calm (.bnd (compL (cpF n P d C elt tg ifs scope ρ) items.1) fun ys => if ys.length ≤ lim then .ret (.lst ys, .fr) else .no)) else M.no : M DK) st) (OkV X.K X.mg Mo H0 L0 L H ρ σ Q) (ExQ X.K X.mg Mo H0 L0 L H ρ σ Wx) := h
    rw [if_neg (by rw [Bool.and_eq_true]; exact fun z => hb z.1)] at h
    exact h
end
end PI
set_option Elab.async false
set_option linter.all false
set_option maxRecDepth 100000
set_option maxHeartbeats 4000000
/-! PI11: calls. -/
namespace PI
open PySem PySem.Spec PyProof.Rows L2
section
variable {K : PySem.W.Frag} {mg : Str → Option Value} {Mo Mo1 Mo2 Mo3 : Addr → Prop} {H0 H H1 : Hp} {L0 L L1 : List Addr} {ρ ρ' : List Sl} {σ σ' : L2.St} {st st1 : Store} {a : Addr}
/-- what a callee must leave: the caller's own too -/
def MoC (Mo : Addr → Prop) (ρ : List Sl) (σ : L2.St) : Addr → Prop := fun a => Mo a ∨ ∃ i, owAt ρ σ i a
theorem ow_nil {i : Nat} {a : Addr} : ¬ owAt [] [] i a := fun ⟨d, e, _⟩ => by simp at e
theorem mt_nil {b : Addr} : Mt Mo L [] [] b ↔ Mo b ∨ b ∈ L := ⟨fun m => by
  rcases m with m | m | ⟨i, m⟩
  · exact .inl m
  · exact .inr m
  · exact absurd m ow_nil, fun m => m.elim .inl fun m => .inr (.inl m)⟩
theorem mtC {b : Addr} : Mt (MoC Mo ρ σ) L [] [] b ↔ Mt Mo L ρ σ b := by
  rw [mt_nil]
  constructor
  · rintro ((h | h) | h)
    · exact .inl h
    · exact .inr (.inr h)
    · exact .inr (.inl h)
  · rintro (h | h | h)
    · exact .inl (.inl h)
    · exact .inr h
    · exact .inl (.inr h)
theorem Le.of_sub {L : List Addr} {M M' : Addr → Prop} {H : Hp} (h : ∀ b, M' b → M b) : Le K ⟨L, M, H⟩ ⟨L, M', H⟩ := ⟨List.prefix_refl _, fun b o e n => ⟨e, fun m => n (h b m)⟩, fun b _ _ n m => n (h b m), fun b e => e⟩
theorem Rl.enter (r : Rl K mg Mo H0 L0 L H ρ σ st) : Rl K mg (MoC Mo ρ σ) H L L H [] [] st where
  len := rfl
  slot := fun i s e => by simp at e
  dis := fun i j a h => absurd h ow_nil
  own := fun i a h => absurd h ow_nil
  pre := List.prefix_refl _
  lnd := r.lnd
  lmo := fun a hl m => by
    rcases m with m | ⟨i, m⟩
    · exact r.lmo a hl m
    · exact (r.own i a m).2.1 hl
  lnew := fun a h n => absurd h n
  sto := r.sto
  cel := fun l c a e1 e2 => (r.cel l c a e1 e2).le (W' := wo (MoC Mo ρ σ) L H [] []) (Le.of_sub fun b m => mtC.mp m) fun _ e => e
  kf := r.kf
  mt := fun a m => by
    rcases m with m | ⟨i, m⟩
    · exact r.mt a m
    · obtain ⟨vs, e, _⟩ := r.owned m
      rw [e]; simp
  base := fun a o e _ => e
  nt := fun A q e a ps m => m.elim (r.nt A q e a ps) fun ⟨i, m⟩ z => by
    obtain ⟨vs, e, mu⟩ := r.owned m
    rw [e] at z; cases z; exact mu
theorem le_enter : Le K (wo Mo L H ρ σ) (wo (MoC Mo ρ σ) L H [] []) := Le.of_sub fun b m => mtC.mp m
/-- behind a call: Mo2 is the callee's, Mo3 the caller's -/
theorem Po.leave (r : Rl K mg Mo H0 L0 L H ρ σ st) (p : Po K mg (MoC Mo ρ σ) H L L H [] [] Mo2 L1 H1 st1) (h1 : ∀ b, Mo3 b → Mo2 b) (h2 : ∀ b, MoC Mo ρ σ b → Mo2 b) (h3 : ∀ b, Mo3 b → Mo b ∨ H b = none) :
    Po K mg Mo H0 L0 L H ρ σ Mo3 L1 H1 st1 ∧ Le K (wo Mo2 L1 H1 [] []) (wo Mo3 L1 H1 ρ σ) := by
  have sub : ∀ b, Mt Mo3 L1 ρ σ b → Mt Mo2 L1 [] [] b := fun b m => mt_nil.mpr (by
    rcases m with m | m | m
    · exact .inl (h1 b m)
    · exact .inr m
    · exact .inl (h2 b (.inr m)))
  have lb : Le K (wo Mo2 L1 H1 [] []) (wo Mo3 L1 H1 ρ σ) := Le.of_sub sub
  have l : Le K (wo Mo L H ρ σ) (wo Mo3 L1 H1 ρ σ) := (le_enter.trans p.le).trans lb
  have nl : ∀ {b o}, H b = some o → b ∉ L → b ∉ L1 := fun {b o} e n m => by
    have := p.nw b m n
    rw [e] at this; cases this
  refine ⟨⟨⟨r.len, fun i s e => ?_, r.dis, fun i b o => ⟨fun m => ?_, fun m => ?_, (r.own i b o).2.2⟩, r.pre.trans p.le.L, p.rl.lnd, fun b hl m => p.rl.lmo b hl (h1 b m), fun b hl hn => ?_, p.rl.sto, fun k c b e1 e2 => (p.rl.cel k c b e1 e2).le lb fun _ e => e, p.rl.kf, fun b m => p.rl.mt b (h1 b m), fun b o e n => ?_, fun A q e b ps m => p.rl.nt A q e b ps (h1 b m)⟩, l, p.ex, p.nw⟩, lb⟩
  · have q := r.slot i s e
    cases s with
    | un => trivial
    | im d => obtain ⟨v, e1, h⟩ := q; exact ⟨v, e1, Rep.le l d v h⟩
    | ow d =>
      obtain ⟨b, e1, h⟩ := q
      exact ⟨b, e1, h.le l fun vs e2 => p.ex b _ e2 (r.own i b ⟨d, e, e1⟩).2.1⟩
  · obtain ⟨vs, e, _⟩ := r.owned o
    rcases h3 b m with m | m
    · exact (r.own i b o).1 m
    · rw [e] at m; cases m
  · obtain ⟨vs, e, _⟩ := r.owned o
    exact nl e (r.own i b o).2.1 m
  · by_cases hb : b ∈ L
    · exact r.lnew b hb hn
    · exact r.free0 (p.nw b hl hb)
  · have hb : b ∉ L := fun m => by
      rw [r.lnew b m n] at e; cases e
    exact p.ex b o (r.base b o e n) hb
theorem ExR.le {W W' : Wo} (l : Le K W W') (hH : W'.H = W.H) {e : Ex} {cls : Value} {dd : Option Addr} (h : ExR K mg W e cls dd) : ExR K mg W' e cls dd := by
  obtain ⟨c, d, fs, h1, h2, h3, h4, h5, h6⟩ := h
  exact ⟨c, d, fs, h1, h2, h3, by rw [hH]; exact h4, h5, RepL.le l _ _ h6⟩
end
/-- what a call gives back to the caller -/
theorem call_ok {K : PySem.W.Frag} {mg : Str → Option Value} {Mo : Addr → Prop} {H0 H : Hp} {L0 L : List Addr} {ρ : List Sl} {σ : L2.St} {st st1 : Store} {Q : VK} {x : DK} (r : Rl K mg Mo H0 L0 L H ρ σ st) (h : OkV K mg Mo H0 L0 L H ρ σ Q x st1) :
    OkV K mg (MoC Mo ρ σ) H L L H [] [] Q x st1 := by
  intro v L' H' p rv fr
  obtain ⟨x, k⟩ := x
  dsimp only at p rv fr
  cases k with
  | wk =>
    obtain ⟨i, a, _, e, _⟩ := rv
    simp at e
  | sh =>
    obtain ⟨p', lb⟩ := Po.leave (Mo3 := Mo) r p (fun b m => .inl m) (fun b m => m) fun b m => .inl m
    exact h v L' H' p' (Rep.le lb _ _ rv) fun z => by cases z
  | fr =>
    obtain ⟨a, rfl, o⟩ := rv
    have na : H a = none := fr rfl a rfl
    obtain ⟨p', lb⟩ := Po.leave (Mo3 := ad Mo a) r p (fun b m => m.elim (fun m => .inl (.inl m)) .inr) (fun b m => .inl m) fun b m => m.elim .inl fun m => .inr (by rw [m]; exact na)
    exact h (.ref a) L' H' p' ⟨a, rfl, o.le lb fun _ e => e⟩ fun _ b e => by cases e; exact na
section
variable {P : Pg} {X : Cx} {n d : Nat} {C : Ct} {Wx : WX} {a b e tg elt it : Expr} {es ifs : List Expr} {pos p1 p2 p3 : Pos} {te : TE} {scope : Scope}
theorem call_ex (c : Cxt P X d C Wx) {Mo : Addr → Prop} {H0 H : Hp} {L0 L : List Addr} {ρ : List Sl} {σ : L2.St} {st st1 : Store} {e : Ex} (r : Rl X.K X.mg Mo H0 L0 L H ρ σ st) (h : ExQ X.K X.mg Mo H0 L0 L H ρ σ Wx e st1) :
    ExQ X.K X.mg (MoC Mo ρ σ) H L L H [] [] (fun cls dd _ H' => ∃ σ, Wx cls dd σ H') e st1 := by
  intro cls dd L' H' p x
  obtain ⟨p', lb⟩ := Po.leave (Mo3 := Mo) r p (fun b m => .inl m) (fun b m => m) fun b m => .inl m
  exact ⟨σ, h cls dd L' H' p' (x.le lb rfl)⟩
theorem call_go (c : Cxt P X d C Wx) {x : Str} {k : Nat} {Mo : Addr → Prop} {H0 H : Hp} {L0 L : List Addr} {ρ : List Sl} {σ : L2.St} {st : Store} {xs : List D} {vs : List V} {Q : VK} (hl : xs.length = k) (r : Rl X.K X.mg Mo H0 L0 L H ρ σ st) (rl : RepL X.K X.mg (wo Mo L H ρ σ) xs vs)
    (h : Out (callF n P d x xs st) (OkV X.K X.mg Mo H0 L0 L H ρ σ Q) (ExQ X.K X.mg Mo H0 L0 L H ρ σ Wx)) : spI P X.K X.mg n d x k (vs ++ []) H Q (fun cls dd H' => ∃ σ, Wx cls dd σ H') := by
  rw [List.append_nil]
  exact ⟨by rw [rl.length]; exact hl, MoC Mo ρ σ, L, st, xs, r.enter, RepL.le le_enter _ _ rl, h.imp (fun x st1 q => call_ok r q) fun e st1 q => call_ex c r q⟩
theorem callF_len {x : Str} {F : FnI} {xs : List D} {st : Store} {ok : DK → Store → Prop} {ex : Ex → Store → Prop} (hF : P.fns.lookup x = some F) (h : Out (callF n P d x xs st) ok ex) : xs.length = F.ps.length := by
  cases n with
  | zero => exact h.elim
  | succ n =>
    cases d with
    | zero => exact h.elim
    | succ d =>
      unfold callF at h
      rw [hF] at h
      dsimp only at h
      split at h
      · assumption
      · exact h.elim
theorem e_callG (c : Cxt P X d C Wx) {x : Str} {F : FnI} (hF : P.fns.lookup x = some F) (hk : okName x = true) (hg : gloB C.sc x = true) (hs : noStar es = true) (hO : FO P X.prog X.w X.K X.mg X.base n) (ha : PA X es (tML X.K X.mg Wx (evL n P d C es))) :
    PE X (.Call (.Name x p1) es [] pos) (tM X.K X.mg Wx fun ρ => .bnd (evL n P d C es ρ) fun xs => callF n P d x xs) := by
  obtain ⟨f, hm, hkeep⟩ := c.wf.fns x F hF
  obtain ⟨fd, fo, hb⟩ := hO d x F f hF hm
  obtain ⟨n1, n2, n3⟩ := okName_3 hk
  have go : ∀ σ H Q, tM X.K X.mg Wx (fun ρ => .bnd (evL n P d C es ρ) fun xs => callF n P d x xs) σ H Q → tCall (spI P X.K X.mg n d x F.ps.length) [] (fun cls dd H' => ∃ σ, Wx cls dd σ H') (tML X.K X.mg Wx (evL n P d C es)) σ H Q := fun σ H Q ⟨Mo, H0, L0, L, ρ, st, r, h⟩ => by
    refine ⟨Mo, H0, L0, L, ρ, st, r, (Out.bnd h).imp (fun xs st1 h1 vs L1 H1 p1 rl => ?_) fun _ _ q => q⟩
    exact call_go c (callF_len hF h1) p1.rl rl (h1.imp (fun _ _ q => OkV.from p1 q) fun _ _ q => ExQ.from p1 q)
  have hx := passes_call (E := fun cls dd H' => ∃ σ, Wx cls dd σ H') c.tk fun cls dd σ H ⟨σ', h⟩ => c.ind cls dd σ' σ H h
  cases es with
  | nil =>
    refine (pe_call0 fo c.room (c.glo hg) hm hkeep hb .nil hx n1).imp fun σ H Q h => ?_
    obtain ⟨Mo, H0, L0, L, ρ, st, r, h⟩ := go σ H Q h
    cases n with
    | zero => exact h.elim
    | succ n => exact (Out.ret (a := ([] : List D)) h) [] L H (Po.refl r) .nil
  | cons e es =>
    have hs' : notStar e = true ∧ noStar es = true := by
      unfold noStar at hs
      rwa [Bool.and_eq_true] at hs
    exact (pe_call fo c.room (c.glo hg) hm hkeep hb .nil hx ha n1 (star_cons hs'.1 _) (noStar_plain _ _ _ hs'.2)).imp go
theorem e_callV (c : Cxt P X d C Wx) {x : Str} (hk : okName x = true) (hv : visB C.sc x = true) (hO : FO P X.prog X.w X.K X.mg X.base n) (ha : PA X es (tML X.K X.mg Wx (evL n P d C es))) :
    PE X (.Call (.Name x p1) es [] pos) (tM X.K X.mg Wx fun ρ => match rdName C x ρ with
          | some (.fn g, _) => if noStar es && (!es.isEmpty && (P.fns.lookup g).isSome) then .bnd (evL n P d C es ρ) fun xs => callF n P d g xs else .no
          | _ => .no) := by
  refine ⟨fun pins s σ H Q I ⟨Mo, H0, L0, L, ρ, st, r, h⟩ => ?_⟩
  dsimp only at h
  cases hr : rdName C x ρ with
  | none => rw [hr] at h; exact h.elim
  | some y =>
    obtain ⟨y, k⟩ := y
    rw [hr] at h
    cases y with
    | fn g =>
      have h : Out ((if (noStar es && (!es.isEmpty && (P.fns.lookup g).isSome)) = true then M.bnd (evL n P d C es ρ) (fun xs => callF n P d g xs) else M.no : M DK) st) _ _ := h
      split at h
      · rename_i hs
        rw [Bool.and_eq_true, Bool.and_eq_true] at hs
        obtain ⟨hs, hne, hsm⟩ := hs
        obtain ⟨n1, n2, n3⟩ := okName_3 hk
        unfold rdName at hr
        split at hr
        · rename_i i hi
          obtain ⟨v, e1, rv, nf⟩ := rd_slot r hr
          have hg : ∃ f, v = .ref f ∧ X.mg g = some (.ref f) := by
            cases k with
            | sh => exact rv
            | fr => exact absurd rfl nf
            | wk =>
              obtain ⟨j, a, rfl, e2, e3⟩ := rv
              obtain ⟨b, _, o⟩ := r.slot j _ e2
              exact o.elim
          obtain ⟨f, rfl, hm⟩ := hg
          obtain ⟨F, hF⟩ := Option.isSome_iff_exists.mp hsm
          obtain ⟨f', hm', hkeep⟩ := c.wf.fns g F hF
          rw [hm] at hm'
          cases hm'
          obtain ⟨fd, fo, hb⟩ := hO d g F f hF hm
          have hx := passes_call (E := fun cls dd H' => ∃ σ, Wx cls dd σ H') c.tk fun cls dd σ H ⟨σ', h⟩ => c.ind cls dd σ' σ H h
          have go : tML X.K X.mg Wx (evL n P d C es) σ H fun vs H1 => spI P X.K X.mg n d g F.ps.length (vs ++ []) H1 Q (fun cls dd H' => ∃ σ, Wx cls dd σ H') := by
            refine ⟨Mo, H0, L0, L, ρ, st, r, (Out.bnd h).imp (fun xs st1 h1 vs L1 H1 p1 rl => ?_) fun _ _ q => q⟩
            exact call_go c (callF_len hF h1) p1.rl rl (h1.imp (fun _ _ q => OkV.from p1 q) fun _ _ q => ExQ.from p1 q)
          have hN : X.N[i]? = some x := by rw [c.N]; exact sIdx_get hi
          have hvis : Vis X.env.scope x := by rw [c.sc]; exact visB_ok hv
          cases es with
          | nil => cases hne
          | cons e es =>
            have hs' : notStar e = true ∧ noStar es = true := by
              unfold noStar at hs
              rwa [Bool.and_eq_true] at hs
            exact (pe_callL fo c.room hN hvis hkeep hb .nil hx ha n1 n2 (star_cons hs'.1 _) (noStar_plain _ _ _ hs'.2)).run pins s σ H Q I ⟨e1, go⟩
        · cases hr
      · exact h.elim
    | _ => exact h.elim
end
end PI
set_option Elab.async false
set_option linter.all false
set_option maxRecDepth 100000
set_option maxHeartbeats 4000000
/-! PI12: all expressions. -/
namespace PI
open PySem PySem.Spec PyProof.Rows L2
section
variable {P : Pg} {X : Cx} {n d : Nat} {C : Ct} {Wx : WX} {a b e tg elt it o : Expr} {es ifs : List Expr} {pos p1 p2 p3 ap : Pos} {te : TE} {scope : Scope}
theorem base_ok {m : Str} (h : notCall o = true) : attributeBase o m X.env (eval o X.env) = eval o X.env := by
  cases o with
  | Call f as kw p =>
    cases f <;> first | rfl | skip
    cases as <;> first | rfl | skip
    cases kw <;> first | rfl | cases h
  | _ => rfl
theorem e_join (hn : notCall o = true) (hs : notStar e = true) (hl : (ap.endLine == pos.line) = true) (ho : PE X o (tM X.K X.mg Wx (evE n P d C o))) (he : PE X e (tM X.K X.mg Wx (evE n P d C e))) :
    PE X (.Call (.Attribute o "join" ap) [e] [] pos) (tM X.K X.mg Wx fun ρ => .bnd (evE n P d C o ρ) fun x => (match x.1 with
            | .str a => .bnd (evE n P d C e ρ) fun y => (match y.1 with
              | .lst ys => (match mapO strOf? ys with
                | some zs => if (zs.map (·.length)).sum + zs.length * a.length ≤ lim then .ret (.str (Txt.join a zs), .sh) else .no
                | none => .no)
              | _ => .no)
            | _ => .no)) := by
  refine (pe_join ho he (star_cons hs _) (base_ok hn) hl).imp fun σ H Q ⟨Mo, H0, L0, L, ρ, st, r, h⟩ => ?_
  refine tM_then r (Out.bnd h) fun x st1 v1 L1 H1 h1 p1 w1 => ?_
  obtain ⟨x, k⟩ := x
  cases x with
  | str a =>
    refine ⟨⟨a, w1.str⟩, ?_⟩
    refine tM_then p1.rl ((Out.bnd h1).imp (fun _ _ q => q) fun _ _ q => q.from p1) fun y st2 v2 L2' H2 h2 p2 w2 => ?_
    obtain ⟨y, k2⟩ := y
    cases y with
    | lst ys =>
      dsimp only at h2
      cases hz : mapO strOf? ys with
      | none => rw [hz] at h2; exact h2.elim
      | some zs =>
        rw [hz] at h2
        dsimp only at h2
        split at h2
        · rename_i hlim
          obtain ⟨c, vs, rfl, e1, e2⟩ := w2.lst
          refine ⟨a, c, zs, w1.str, rfl, .inl ?_, hlim, ((Out.ret h2).from (p1.trans p2)).str p2.rl⟩
          rw [← strs_of hz e2]
          exact .of e1
        · exact h2.elim
    | _ => exact h2.elim
  | _ => exact h1.elim
theorem mthT_lst {m : Str} {x : D} (h : mthT m x = true) (hm : m = "index" ∨ m = "count") : ∃ xs, x = .lst xs := by
  unfold mthT at h
  cases x with
  | lst xs => exact ⟨xs, rfl⟩
  | str s => rcases hm with rfl | rfl <;> cases h
  | _ => cases h
theorem mthT_str {x : D} (h : mthT "split" x = true) : ∃ s, x = .str s := by
  unfold mthT at h
  cases x with
  | lst xs => cases h
  | str s => exact ⟨s, rfl⟩
  | _ => cases h
theorem few_ok (hs : notStar e = true) : ((backTo pos (starEach [e] X.env)).all (fun x => !x.1) && (backToKw pos (keywordEach [] X.env)).all (fun x => x.1.isSome) && decide ([e].length + ([] : List Keyword).length + (if ([] : List Keyword).isEmpty then 0 else 1) < 30)) = true := by
  have h1 := star_cons (es := []) hs X.env
  rw [h1]
  simp only [backTo, List.map_cons, List.all_cons, starEach]
  rfl
theorem pyL_at {xs : List D} {m : Nat} (hm : m < xs.length) : (pyL xs)[m]? = some xs[m].py := by rw [pyL_map]; simp [hm]
theorem e_index1 (c : Cxt P X d C Wx) (hn : notCall o = true) (hs : notStar e = true) (hl : (ap.endLine == pos.line) = true) (ho : PE X o (tM X.K X.mg Wx (evE n P d C o))) (he : PE X e (tM X.K X.mg Wx (evE n P d C e))) :
    PE X (.Call (.Attribute o "index" ap) [e] [] pos) (tM X.K X.mg Wx fun ρ => .bnd (evE n P d C o ρ) fun x => if mthT "index" x.1 then .bnd (evE n P d C e ρ) fun y => .opt (mthD "index" x.1 y.1) else .no) := by
  refine (pe_bm PySem.F.plainAttrs_list PySem.F.slot_list_index PySem.F.type_list_index (mt_indexD c.units) ho (pa_cons he pa_nil (star_cons hs _)) (base_ok hn) (few_ok hs) hl (star_cons hs _) rfl).imp fun σ H Q ⟨Mo, H0, L0, L, ρ, st, r, h⟩ => ?_
  refine tM_then r (Out.bnd h) fun x st1 v1 L1 H1 h1 p1 w1 => ?_
  obtain ⟨x, k⟩ := x
  dsimp only at h1 w1
  split at h1
  case isFalse => exact h1.elim
  case isTrue hT =>
  obtain ⟨xs, rfl⟩ := mthT_lst hT (.inl rfl)
  have w1' := w1
  obtain ⟨a, vs, rfl, g1, g2⟩ := w1.lst
  refine ⟨.inl ⟨rfl, vs, .of g1⟩, ?_⟩
  refine tM_then p1.rl ((Out.bnd h1).imp (fun _ _ q => q) fun _ _ q => q.from p1) fun y st2 u L2' H2 h2 p2 w3 => ?_
  obtain ⟨z, e1, q⟩ := Out.opt h2
  obtain ⟨y, k2⟩ := y
  dsimp only at e1 w3
  unfold mthD at e1
  rw [if_pos rfl] at e1
  dsimp only at e1
  unfold idxD at e1
  split at e1
  · rename_i hh
    rw [Bool.and_eq_true] at hh
    obtain ⟨q1, s1⟩ := cmpOk_sh hh.1
    obtain ⟨q2, s2⟩ := cmpOk_sh hh.2
    cases hf : xs.findIdx? (fun z => PyData.eqv z.py y.py) with
    | none => rw [hf] at e1; cases e1
    | some j =>
      rw [hf] at e1
      cases e1
      obtain ⟨f1, f2, f3⟩ := List.findIdx?_eq_some_iff_getElem.mp hf
      have d1 := (w1'.po p2).dp q2
      have d2 := w3.dp q1
      refine ⟨a, u, y.py, pyL xs, j, xs[j].py, rfl, rfl, ?_, d2, ?_, s1, pyL_at f1, f2, fun m z' hm hz => ?_, (q.from (p1.trans p2)).int p2.rl⟩
      · unfold D.py at d1; exact d1
      · unfold D.py at s2; exact s2
      · have hml : m < xs.length := Nat.lt_trans hm f1
        rw [pyL_at hml] at hz
        cases hz
        have := f3 m hm
        simpa using this
  · cases e1
theorem countP_py (y : D) : ∀ xs : List D, (pyL xs).countP (fun z => PyData.eqv z y.py) = xs.countP fun z => PyData.eqv z.py y.py
  | [] => by unfold pyL; rfl
  | x :: r => by unfold pyL; rw [List.countP_cons, List.countP_cons, countP_py y r]
theorem e_count1 (c : Cxt P X d C Wx) (hn : notCall o = true) (hs : notStar e = true) (hl : (ap.endLine == pos.line) = true) (ho : PE X o (tM X.K X.mg Wx (evE n P d C o))) (he : PE X e (tM X.K X.mg Wx (evE n P d C e))) :
    PE X (.Call (.Attribute o "count" ap) [e] [] pos) (tM X.K X.mg Wx fun ρ => .bnd (evE n P d C o ρ) fun x => if mthT "count" x.1 then .bnd (evE n P d C e ρ) fun y => .opt (mthD "count" x.1 y.1) else .no) := by
  refine (pe_bm PySem.F.plainAttrs_list PySem.F.slot_list_count PySem.F.type_list_count (mt_cntL c.units) ho (pa_cons he pa_nil (star_cons hs _)) (base_ok hn) (few_ok hs) hl (star_cons hs _) rfl).imp fun σ H Q ⟨Mo, H0, L0, L, ρ, st, r, h⟩ => ?_
  refine tM_then r (Out.bnd h) fun x st1 v1 L1 H1 h1 p1 w1 => ?_
  obtain ⟨x, k⟩ := x
  dsimp only at h1 w1
  split at h1
  case isFalse => exact h1.elim
  case isTrue hT =>
  obtain ⟨xs, rfl⟩ := mthT_lst hT (.inr rfl)
  have w1' := w1
  obtain ⟨a, vs, rfl, g1, g2⟩ := w1.lst
  refine ⟨.inl ⟨rfl, vs, .of g1⟩, ?_⟩
  refine tM_then p1.rl ((Out.bnd h1).imp (fun _ _ q => q) fun _ _ q => q.from p1) fun y st2 u L2' H2 h2 p2 w3 => ?_
  obtain ⟨z, e1, q⟩ := Out.opt h2
  obtain ⟨y, k2⟩ := y
  dsimp only at e1 w3
  unfold mthD at e1
  rw [if_neg (by decide), if_pos rfl] at e1
  dsimp only at e1
  unfold cntD at e1
  split at e1
  · rename_i hh
    rw [Bool.and_eq_true] at hh
    obtain ⟨q1, s1⟩ := cmpOk_sh hh.1
    obtain ⟨q2, s2⟩ := cmpOk_sh hh.2
    cases e1
    have d1 := (w1'.po p2).dp q2
    have d2 := w3.dp q1
    unfold D.py at d1
    refine ⟨a, u, y.py, pyL xs, rfl, rfl, d1, d2, D.plainOkL xs (plL_of q2), D.plainOk y q1, cmpOk_dp hh.1, ?_⟩
    rw [countP_py]
    exact (q.from (p1.trans p2)).int p2.rl
  · cases e1
theorem strs_rep {K : PySem.W.Frag} {mg : Str → Option Value} {W : Wo} : ∀ zs : List Str, RepL K mg W (zs.map D.str) (zs.map V.str)
  | [] => .nil
  | z :: zs => .cons (by unfold Rep; rfl) (strs_rep zs)
theorem e_split1 (c : Cxt P X d C Wx) (hn : notCall o = true) (hs : notStar e = true) (hl : (ap.endLine == pos.line) = true) (ho : PE X o (tM X.K X.mg Wx (evE n P d C o))) (he : PE X e (tM X.K X.mg Wx (evE n P d C e))) :
    PE X (.Call (.Attribute o "split" ap) [e] [] pos) (tM X.K X.mg Wx fun ρ => .bnd (evE n P d C o ρ) fun x => if mthT "split" x.1 then .bnd (evE n P d C e ρ) fun y => .opt (mthD "split" x.1 y.1) else .no) := by
  refine ((pe_bm PySem.F.plainAttrs_str PySem.F.slot_str_split PySem.F.type_str_split mt_split ho (pa_cons he pa_nil (star_cons hs _)) (base_ok hn) (few_ok hs) hl (star_cons hs _) rfl).kf).imp fun σ H Q ⟨Mo, H0, L0, L, ρ, st, r, h⟩ => ?_
  refine tM_then r (Out.bnd h) fun x st1 v1 L1 H1 h1 p1 w1 => ?_
  obtain ⟨x, k⟩ := x
  dsimp only at h1 w1
  split at h1
  case isFalse => exact h1.elim
  case isTrue hT =>
  obtain ⟨a, rfl⟩ := mthT_str hT
  have e0 := w1.str
  subst e0
  refine ⟨rfl, ?_⟩
  refine tM_then p1.rl ((Out.bnd h1).imp (fun _ _ q => q) fun _ _ q => q.from p1) fun y st2 u L2' H2 h2 p2 w3 => ?_
  obtain ⟨z, e1, q⟩ := Out.opt h2
  obtain ⟨y, k2⟩ := y
  dsimp only at e1 w3
  unfold mthD at e1
  rw [if_neg (by decide), if_neg (by decide), if_pos rfl] at e1
  split at e1
  · rename_i a' b ea
    cases ea
    split at e1
    · rename_i hh
      rw [Bool.and_eq_true] at hh
      cases e1
      refine ⟨a, b, rfl, by rw [w3.str], by simpa using hh.1, by rw [← lim_eq]; exact of_decide_eq_true hh.2, fun p hp kf => ?_⟩
      exact (q.from (p1.trans p2)).lst p2.rl (strs_rep _) hp kf
    · cases e1
  · cases e1
theorem e_mth (c : Cxt P X d C Wx) {m : Str} (hm : mthB m = true) (hn : notCall o = true) (hs : notStar e = true) (hl : (ap.endLine == pos.line) = true) (ho : PE X o (tM X.K X.mg Wx (evE n P d C o))) (he : PE X e (tM X.K X.mg Wx (evE n P d C e))) :
    PE X (.Call (.Attribute o m ap) [e] [] pos) (tM X.K X.mg Wx fun ρ => .bnd (evE n P d C o ρ) fun x => if mthT m x.1 then .bnd (evE n P d C e ρ) fun y => .opt (mthD m x.1 y.1) else .no) := by
  have := List.contains_iff_mem.mp hm
  simp only [List.mem_cons, List.not_mem_nil, or_false] at this
  rcases this with h | h | h <;> subst h
  · exact e_index1 c hn hs hl ho he
  · exact e_count1 c hn hs hl ho he
  · exact e_split1 c hn hs hl ho he
/-- list(range(..)), tuple(range(..)) -/
theorem rgV_rep {K : PySem.W.Frag} {mg : Str → Option Value} {W : Wo} : ∀ (n : Nat) (lo : Int), RepL K mg W (rngD lo n) ((List.range n).map fun i => V.int (lo + (i : Nat)))
  | 0, lo => .nil
  | n + 1, lo => by
    unfold rngD
    rw [List.range_succ_eq_map, List.map_cons, List.map_map]
    refine .cons (by unfold Rep; simp) ?_
    have h := rgV_rep (K := K) (mg := mg) (W := W) n (lo + 1)
    have e : ((fun i : Nat => V.int (lo + 1 + (i : Nat)))) = ((fun i : Nat => V.int (lo + (i : Nat))) ∘ Nat.succ) := by
      funext i
      show V.int (lo + 1 + (i : Nat)) = V.int (lo + ((i + 1 : Nat) : Int))
      congr 1
      omega
    rw [e] at h
    exact h
theorem rngArg_ok {x : Str} {as rs : List Expr} (h : rngArg P C x as = some rs) : ∃ p q, as = [.Call (.Name "range" p) rs [] q] ∧ gloB C.sc "range" = true ∧ noStar rs = true ∧ (x = "list" ∨ x = "tuple") := by
  unfold rngArg at h
  split at h
  · rename_i f p rs' q
    split at h
    · rename_i hh
      rw [Bool.and_eq_true, Bool.and_eq_true, Bool.and_eq_true, Bool.and_eq_true, Bool.or_eq_true] at hh
      obtain ⟨⟨⟨⟨h1, h2⟩, h3⟩, h4⟩, h5⟩ := hh
      cases h
      have hf : f = "range" := eq_of_beq h1
      subst hf
      exact ⟨p, q, rfl, h2, h4, h5.imp of_decide_eq_true of_decide_eq_true⟩
    · cases h
  · cases h
theorem c_rng (c : Cxt P X d C Wx) (hE : ∀ e, PE X e (tM X.K X.mg Wx (evE n P d C e))) {x : Str} {rs : List Expr} {q : Pos} (hg : gloB C.sc x = true) (hgr : gloB C.sc "range" = true) (hs : noStar rs = true) (hx : x = "list" ∨ x = "tuple") :
    PE X (.Call (.Name x p1) [.Call (.Name "range" p2) rs [] q] [] pos) (tM X.K X.mg Wx fun ρ => .bnd (evRg (n + 1) P d C rs ρ) fun q => .opt (rngV x q)) := by
  have hmr : X.mg "range" = none := c.wf.blt _ (by decide)
  have key : ∀ {t : L2.St → Hp → (Int → Int → Hp → Prop) → Prop}, PRg X (.Call (.Name "range" p2) rs [] q) t → (∀ σ H Q', (∃ Mo H0 L0 L ρ st, Rl X.K X.mg Mo H0 L0 L H ρ σ st ∧ Out (evRg (n + 1) P d C rs ρ st) (fun z st' => ∀ L' H', Po X.K X.mg Mo H0 L0 L H ρ σ Mo L' H' st' → Q' z.1 z.2 H') (ExQ X.K X.mg Mo H0 L0 L H ρ σ Wx)) → t σ H Q') →
      PE X (.Call (.Name x p1) [.Call (.Name "range" p2) rs [] q] [] pos) (tM X.K X.mg Wx fun ρ => .bnd (evRg (n + 1) P d C rs ρ) fun q => .opt (rngV x q)) := fun {t} hp ht => by
    have fin : ∀ {i j : Int} {z : DK}, rngV x (i, j) = some z → RgOk i j := fun {i j z} e => by
      unfold rngV at e
      split at e
      · rename_i hh
        exact RgOk.of_le hh.1 hh.2.2.2 hh.2.1 hh.2.2.1
      · cases e
    rcases hx with rfl | rfl
    · refine ((pe_listRg c.calm (c.glo hg) (c.wf.blt _ (by decide)) hp).kf).imp fun σ H Q ⟨Mo, H0, L0, L, ρ, st, r, h⟩ => ?_
      refine ht σ H _ ⟨Mo, H0, L0, L, ρ, st, r, (Out.bnd h).imp (fun z st1 h1 L1 H1 p1' => ?_) fun _ _ q => q⟩
      obtain ⟨y, e1, q1⟩ := Out.opt h1
      obtain ⟨i, j⟩ := z
      refine ⟨fin e1, fun p hp kf => ?_⟩
      unfold rngV at e1
      split at e1
      · cases e1
        exact (OkV.from p1' q1).lst p1'.rl (rgV_rep _ _) hp kf
      · cases e1
    · refine ((pe_tupRg c.calm (c.glo hg) (c.wf.blt _ (by decide)) hp).kf).imp fun σ H Q ⟨Mo, H0, L0, L, ρ, st, r, h⟩ => ?_
      refine ht σ H _ ⟨Mo, H0, L0, L, ρ, st, r, (Out.bnd h).imp (fun z st1 h1 L1 H1 p1' => ?_) fun _ _ q => q⟩
      obtain ⟨y, e1, q1⟩ := Out.opt h1
      obtain ⟨i, j⟩ := z
      refine ⟨fin e1, fun p hp kf => ?_⟩
      unfold rngV at e1
      split at e1
      · cases e1
        exact (OkV.from p1' q1).tup p1'.rl (rgV_rep _ _) hp kf
      · cases e1
  match rs, hs with
  | [a], hs =>
    have hs' : notStar a = true := by
      unfold noStar at hs
      rw [Bool.and_eq_true] at hs
      exact hs.1
    refine key (prg_1 (c.glo hgr) hmr (hE a) (star_cons hs' _)) fun σ H Q' ⟨Mo, H0, L0, L, ρ, st, r, h⟩ => ?_
    refine tM_then r (Out.bnd h) fun x st1 v1 L1 H1 h1 p1' w1 => ?_
    obtain ⟨z, e1, q1⟩ := Out.opt h1
    obtain ⟨x, k⟩ := x
    cases x with
    | int i =>
      cases e1
      exact ⟨i, w1.int, q1 L1 H1 p1'⟩
    | _ => cases e1
  | [a, b], hs =>
    have hs' : notStar a = true ∧ notStar b = true := by
      unfold noStar at hs
      rw [Bool.and_eq_true] at hs
      have h2 := hs.2
      unfold noStar at h2
      rw [Bool.and_eq_true] at h2
      exact ⟨hs.1, h2.1⟩
    refine key (prg_2 (c.glo hgr) hmr (hE a) (hE b) (star_cons hs'.1 _) (star_cons hs'.2 _) (noStar_plain _ _ _ (by unfold noStar; rw [hs'.2]; rfl))) fun σ H Q' ⟨Mo, H0, L0, L, ρ, st, r, h⟩ => ?_
    refine tM_then r (Out.bnd h) fun x st1 v1 L1 H1 h1 p1' w1 => ?_
    refine tM_then p1'.rl ((Out.bnd h1).imp (fun _ _ q => q) fun _ _ q => q.from p1') fun y st2 v2 L2' H2 h2 p2' w2 => ?_
    obtain ⟨z, e1, q1⟩ := Out.opt h2
    obtain ⟨x, k⟩ := x
    obtain ⟨y, k2⟩ := y
    cases x with
    | int i =>
      cases y with
      | int j =>
        cases e1
        exact ⟨i, j, w1.int, w2.int, q1 L2' H2 (p1'.trans p2')⟩
      | _ => cases e1
    | _ => cases e1
  | [], _ => exact .nope fun σ H Q ⟨Mo, H0, L0, L, ρ, st, r, h⟩ => h
  | _ :: _ :: _ :: _, _ => exact .nope fun σ H Q ⟨Mo, H0, L0, L, ρ, st, r, h⟩ => h
theorem e_bad {m : List Sl → M DK} (hm : ∀ ρ, m ρ = .no) : PE X e (tM X.K X.mg Wx m) := .nope fun σ H Q ⟨Mo, H0, L0, L, ρ, st, r, h⟩ => by
  rw [hm] at h
  exact h
theorem lamArg_ok {as : List Expr} {b : Expr} {lsc : Scope} (h : lamArg as = some (b, lsc)) : ∃ q, as = [.Lambda ⟨[], [], none, [], [], none, []⟩ b lsc q] := by
  unfold lamArg at h
  split at h
  · cases h; exact ⟨_, rfl⟩
  · cases h
theorem e_call (c : Cxt P X d C Wx) (hO : FO P X.prog X.w X.K X.mg X.base n) (hE : ∀ e, PE X e (tM X.K X.mg Wx (evE n P d C e))) (hL : ∀ es, PA X es (tML X.K X.mg Wx (evL n P d C es))) (hW : ∀ es, noStar es = true → PA X es (tMW X.K X.mg Wx (evW n P d C es)))
    (hR : ∀ (b : Expr) (lsc : Scope) (p q pos : Pos), gloB C.sc P.ref = true → LamX.lamSB C.sc lsc = true → PE X (.Call (.Name P.ref p) [.Lambda ⟨[], [], none, [], [], none, []⟩ b lsc q] [] pos) (tM X.K X.mg Wx (evRef n P d ⟨C.N, lsc, [], some lsc, C.top⟩ b)))
    (hG : ∀ (x : Str) (rs : List Expr) (p1 p2 q pos : Pos), gloB C.sc x = true → gloB C.sc "range" = true → noStar rs = true → (x = "list" ∨ x = "tuple") → PE X (.Call (.Name x p1) [.Call (.Name "range" p2) rs [] q] [] pos) (tM X.K X.mg Wx fun ρ => .bnd (evRg n P d C rs ρ) fun q => .opt (rngV x q)))
    (f : Expr) (as : List Expr) (pos : Pos) (hl : lineOk f pos = true) : PE X (.Call f as [] pos) (tM X.K X.mg Wx (evCall (n + 1) P d C f as)) := by
  cases f with
  | Name x p =>
    have ev : evCall (n + 1) P d C (.Name x p) as = fun ρ => if okName x = true then (
        if visB C.sc x = true then (match rdName C x ρ with
          | some (.fn g, _) => if noStar as && (!as.isEmpty && (P.fns.lookup g).isSome) then .bnd (evL n P d C as ρ) fun xs => callF n P d g xs else .no
          | _ => .no)
        else if gloB C.sc x = true then (match P.fns.lookup x with
          | some _ => if noStar as then .bnd (evL n P d C as ρ) fun xs => callF n P d x xs else .no
          | none => if x = P.ref then (match lamArg as with
              | some (b, lsc) => if LamX.lamSB C.sc lsc then evRef n P d ⟨C.N, lsc, [], some lsc, C.top⟩ b ρ else .no
              | none => .no)
            else if (decide (x = "isinstance") && plainName P x) = true then (match as with
              | [e, ts] => if notStar e then (match tyList C ts with
                | some tn => .bnd (evE n P d C e ρ) fun v => .opt ((isiAny v.1 tn).map fun b => (.bl b, .sh))
                | none => .no) else .no
              | _ => .no)
            else if ((bltT x || bltB x || bltR C x) && plainName P x && noStar as) = true then (match rngArg P C x as with
              | some rs => .bnd (evRg n P d C rs ρ) fun q => .opt (rngV x q)
              | none => .bnd (evW n P d C as ρ) fun xs => .opt (bltD x xs))
            else .no)
        else .no) else .no := rfl
    rw [ev]
    by_cases hk : okName x = true
    · simp only [hk, if_true]
      by_cases hv : visB C.sc x = true
      · simp only [hv, if_true]
        exact e_callV c hk hv hO (hL as)
      · simp only [hv, if_false]
        by_cases hg : gloB C.sc x = true
        · simp only [hg, if_true]
          cases hF : P.fns.lookup x with
          | some F =>
            by_cases hs : noStar as = true
            · simp only [hs, if_true]
              exact e_callG c hF hk hg hs hO (hL as)
            · exact e_bad fun ρ => if_neg hs
          | none =>
            dsimp only
            by_cases hr : x = P.ref
            · simp only [hr, if_true]
              subst hr
              simp only [Bool.false_eq_true, if_false]
              cases hla : lamArg as with
              | none => exact e_bad fun ρ => rfl
              | some q =>
                obtain ⟨b, lsc⟩ := q
                obtain ⟨q, rfl⟩ := lamArg_ok hla
                dsimp only
                by_cases hls : LamX.lamSB C.sc lsc = true
                · simp only [hls, if_true]
                  exact hR _ _ _ _ _ hg hls
                · exact e_bad fun ρ => if_neg hls
            · simp only [hr, if_false]
              by_cases hi : (decide (x = "isinstance") && plainName P x) = true
              · simp only [hi, if_true]
                rw [Bool.and_eq_true] at hi
                have hx := of_decide_eq_true hi.1
                subst hx
                cases as with
                | nil => exact e_bad fun ρ => rfl
                | cons e as =>
                  cases as with
                  | nil => exact e_bad fun ρ => rfl
                  | cons ts as =>
                    cases as with
                    | cons _ _ => exact e_bad fun ρ => rfl
                    | nil =>
                      dsimp only
                      by_cases hs : notStar e = true
                      · simp only [hs, if_true]
                        cases ht : tyList C ts with
                        | none => exact e_bad fun ρ => rfl
                        | some tn => exact c_isi c hs ht hg (hE e)
                      · exact e_bad fun ρ => if_neg hs
              · simp only [hi, if_false]
                by_cases hb : ((bltT x || bltB x || bltR C x) && plainName P x && noStar as) = true
                · simp only [hb, if_true]
                  rw [Bool.and_eq_true, Bool.and_eq_true] at hb
                  cases hra : rngArg P C x as with
                  | none => exact c_blt c hb.1.1 hg hb.2 (hW as hb.2)
                  | some rs =>
                    obtain ⟨p2, q2, rfl, g1, g2, g3⟩ := rngArg_ok hra
                    exact hG x rs p p2 q2 pos hg g1 g2 g3
                · exact e_bad fun ρ => if_neg hb
        · exact e_bad fun ρ => if_neg hg
    · exact e_bad fun ρ => if_neg hk
  | Attribute o m ap =>
    have ev : evCall (n + 1) P d C (.Attribute o m ap) as = fun ρ => if (decide (m = "join") && notCall o) = true then (match as with
          | [e] => if notStar e then .bnd (evE n P d C o ρ) fun x => (match x.1 with
            | .str a => .bnd (evE n P d C e ρ) fun y => (match y.1 with
              | .lst ys => (match mapO strOf? ys with
                | some zs => if (zs.map (·.length)).sum + zs.length * a.length ≤ lim then .ret (.str (Txt.join a zs), .sh) else .no
                | none => .no)
              | _ => .no)
            | _ => .no) else .no
          | _ => .no) else if (mthB m && notCall o) = true then (match as with
          | [e] => if notStar e then .bnd (evE n P d C o ρ) fun x => if mthT m x.1 then .bnd (evE n P d C e ρ) fun y => .opt (mthD m x.1 y.1) else .no else .no
          | _ => .no) else .no := rfl
    rw [ev]
    by_cases hm : (decide (m = "join") && notCall o) = true
    · simp only [hm, if_true]
      rw [Bool.and_eq_true] at hm
      have hx := of_decide_eq_true hm.1
      subst hx
      cases as with
      | nil => exact e_bad fun ρ => rfl
      | cons e as =>
        cases as with
        | cons _ _ => exact e_bad fun ρ => rfl
        | nil =>
          dsimp only
          by_cases hs : notStar e = true
          · simp only [hs, if_true]
            exact e_join hm.2 hs hl (hE o) (hE e)
          · exact e_bad fun ρ => if_neg hs
    · simp only [hm, if_false]
      by_cases hm2 : (mthB m && notCall o) = true
      · simp only [hm2, if_true]
        rw [Bool.and_eq_true] at hm2
        cases as with
        | nil => exact e_bad fun ρ => rfl
        | cons e as =>
          cases as with
          | cons _ _ => exact e_bad fun ρ => rfl
          | nil =>
            dsimp only
            by_cases hs : notStar e = true
            · simp only [hs, if_true]
              exact e_mth c hm2.1 hm2.2 hs hl (hE o) (hE e)
            · exact e_bad fun ρ => if_neg hs
      · exact e_bad fun ρ => if_neg hm2
  | _ => exact e_bad fun ρ => rfl

/-- all that is said of expressions at a fuel -/
structure EA (P : Pg) (X : Cx) (n d : Nat) (C : Ct) (Wx : WX) : Prop where
  E : ∀ e, PE X e (tM X.K X.mg Wx (evE n P d C e))
  O : ∀ o, PO X o (fun σ H Q => ∃ Mo H0 L0 L ρ st, Rl X.K X.mg Mo H0 L0 L H ρ σ st ∧ Out (evO n P d C o ρ st) (fun i st' => ∀ L' H', Po X.K X.mg Mo H0 L0 L H ρ σ Mo L' H' st' → Q i H') (ExQ X.K X.mg Mo H0 L0 L H ρ σ Wx))
  L : ∀ es, PA X es (tML X.K X.mg Wx (evL n P d C es))
  W : ∀ es, noStar es = true → PA X es (tMW X.K X.mg Wx (evW n P d C es))
  B : ∀ op es pos, PE X (.BoolOp op es pos) (tM X.K X.mg Wx (evB n P d C op es))
  Ch : ∀ ops cs, PCh X ops cs (tCh X.K X.mg Wx fun y => evC n P d C y ops cs)
  T : ∀ e, PT X e (tMB X.K X.mg Wx (evT n P d C e))
  Ts : ∀ op es pos, PW X (.BoolOp op es pos) (tMB X.K X.mg Wx (evTs n P d C op es))
  If : ∀ es, PTs X es (tMB X.K X.mg Wx (evIfs n P d C es))
  I : ∀ tg e, L2.PI X tg e (tMI X.K X.mg Wx (evI n P d C tg e))
  Ca : ∀ f as pos, lineOk f pos = true → PE X (.Call f as [] pos) (tM X.K X.mg Wx (evCall n P d C f as))
  Rg : ∀ (x : Str) (rs : List Expr) (p1 p2 q pos : Pos), gloB C.sc x = true → gloB C.sc "range" = true → noStar rs = true → (x = "list" ∨ x = "tuple") → PE X (.Call (.Name x p1) [.Call (.Name "range" p2) rs [] q] [] pos) (tM X.K X.mg Wx fun ρ => .bnd (evRg n P d C rs ρ) fun q => .opt (rngV x q))
theorem ts_bad {m : List Sl → M Bool} (hm : ∀ ρ, m ρ = .no) : PTs X es (tMB X.K X.mg Wx m) := ⟨fun pins s σ H Q I ⟨Mo, H0, L0, L, ρ, st, r, h⟩ => by
  rw [hm] at h
  exact h.elim⟩
theorem EA.zero : EA P X 0 d C Wx where
  E := fun e => e_bad fun _ => rfl
  O := fun o => ⟨fun pins s σ H Q I ⟨Mo, H0, L0, L, ρ, st, r, h⟩ => h.elim⟩
  L := fun es => .nope fun σ H Q ⟨Mo, H0, L0, L, ρ, st, r, h⟩ => h
  W := fun es _ => .nope fun σ H Q ⟨Mo, H0, L0, L, ρ, st, r, h⟩ => h
  B := fun op es pos => e_bad fun _ => rfl
  Ch := fun ops cs => by
    have e0 : ∀ y ρ st, evC 0 P d C y ops cs ρ st = .no := fun y ρ st => by first | rfl | (cases ops <;> cases cs <;> rfl)
    refine ⟨fun _ _ _ _ _ _ _ _ _ _ ⟨Mo, H0, L0, L, ρ, st, y, r, w, h⟩ => ?_, fun _ _ _ _ _ _ _ _ _ _ ⟨Mo, H0, L0, L, ρ, st, y, r, w, h⟩ => ?_⟩
    · have h : Out (evC 0 P d C y ops cs ρ st) _ _ := h
      rw [e0] at h; exact h.elim
    · have h : Out (evC 0 P d C y ops cs ρ st) _ _ := h
      rw [e0] at h; exact h.elim
  T := fun e => .nope fun σ H Q ⟨Mo, H0, L0, L, ρ, st, r, h⟩ => h
  Ts := fun op es pos => ⟨fun wh pins s σ H Q I ⟨Mo, H0, L0, L, ρ, st, r, h⟩ => h.elim⟩
  If := fun es => ts_bad fun _ => rfl
  I := fun tg e => i_bad fun _ => rfl
  Ca := fun f as pos _ => e_bad fun _ => rfl
  Rg := fun x rs p1 p2 q pos _ _ _ _ => e_bad fun _ => rfl
theorem foldS (he : PE X it te) : True := trivial
end
end PI
set_option Elab.async false
set_option linter.all false
set_option maxRecDepth 100000
set_option maxHeartbeats 4000000
/-! PI13: expressions at every fuel. -/
namespace PI
open PySem PySem.Spec PyProof.Rows L2
def RF (P : Pg) (pr : Program) (w : World) (K : PySem.W.Frag) (mg : Str → Option Value) (base : Heap) (n : Nat) : Prop := ∀ (X : Cx) (d : Nat) (C : Ct) (Wx : WX), X.prog = pr → X.w = w → X.K = K → X.mg = mg → X.base = base → Cxt P X d C Wx →
  ∀ (b : Expr) (lsc : Scope) (p q pos : Pos), gloB C.sc P.ref = true → LamX.lamSB C.sc lsc = true → PE X (.Call (.Name P.ref p) [.Lambda ⟨[], [], none, [], [], none, []⟩ b lsc q] [] pos) (tM X.K X.mg Wx (evRef n P d ⟨C.N, lsc, [], some lsc, C.top⟩ b))
structure MO (P : Pg) (pr : Program) (w : World) (K : PySem.W.Frag) (mg : Str → Option Value) (base : Heap) (n : Nat) : Prop where
  fo : FO P pr w K mg base n
  rf : RF P pr w K mg base n
section
variable {P : Pg} {X : Cx} {n d : Nat} {C : Ct} {Wx : WX} {a b e tg elt it o : Expr} {es ifs : List Expr} {pos p1 p2 p3 ap : Pos} {te : TE} {scope : Scope}
theorem evI_set {xs : List Expr} {k : Nat} {tg : Expr} {ρ : List Sl} {p : Pos} : evI n P d C tg (.Set xs k p) ρ = .no := by
  cases n with
  | zero => rfl
  | succ n =>
    cases n with
    | zero => rfl
    | succ n => rfl
theorem set_free (h : ∀ xs k p, it ≠ .Set xs k p) : ∀ x, foldedSetIterable it X.env x = pure x := by
  intro x
  cases it <;> first | rfl | exact absurd rfl (h _ _ _)
theorem ea_E (hmo : MO P X.prog X.w X.K X.mg X.base n) (c : Cxt P X d C Wx) (ih : EA P X n d C Wx) (ihb : ∀ (s : Shared) (H : Hp) (A : Addr) (cl : List (Str × Addr)) (fp : List Addr) (scope : Scope), EA P (X.blk s H scope (compEnvC scope cl A X.env) fp) n d ⟨C.N, relC scope C.sc, [], some scope, none⟩ WF) (e : Expr) :
    PE X e (tM X.K X.mg Wx (evE (n + 1) P d C e)) := by
  cases e with
  | Name x p => exact e_name c
  | Constant k j p => exact e_const
  | BinOp a op b p => exact e_bin c (ih.E a) (ih.E b)
  | UnaryOp op a p =>
    cases op with
    | USub => exact e_neg (ih.E a)
    | Not => exact e_not (ih.E a)
    | _ => exact e_bad fun _ => rfl
  | BoolOp op vs p => exact ih.B op vs p
  | Compare a ops cs p => exact e_cmp c (ih.E a) (ih.Ch ops cs)
  | IfExp t a b p => exact e_ifexp (ih.T t) (ih.E a) (ih.E b)
  | Subscript o i p =>
    by_cases hi : ∃ l u s q, i = .Slice l u s q
    · obtain ⟨l, u, s, q, rfl⟩ := hi
      cases s with
      | none => exact e_slice ih.O (ih.E o)
      | some s =>
        by_cases hr : ∃ i k q1 q2, l = none ∧ u = none ∧ s = .UnaryOp .USub (.Constant (.int i) k q1) q2
        · obtain ⟨i, k, q1, q2, rfl, rfl, rfl⟩ := hr
          exact e_rev (ih.E o)
        · refine e_bad fun ρ => ?_
          unfold evE
          split <;> first | rfl | skip
          all_goals first | (rename_i h; cases h; done) | skip
          all_goals first | (rename_i h; cases h; exact absurd ⟨_, _, _, _, rfl, rfl, rfl⟩ hr) | skip
          rename_i h1 h2 h3 h4
          cases h4
          exact absurd rfl (h3 _ _ _ _)
    · exact e_index (by have := c.units; omega) (fun l u s q z => hi ⟨l, u, s, q, z⟩) (ih.E o) (ih.E i)
  | List es p => exact e_list (ih.L es)
  | Tuple es k p => exact e_tuple (ih.L es)
  | Dict ks vs p =>
    cases ks with
    | nil =>
      cases vs with
      | nil => exact e_dict0
      | cons _ _ => exact e_bad fun _ => rfl
    | cons _ _ => exact e_bad fun _ => rfl
  | ListComp elt gens scope p =>
    cases gens with
    | nil => exact e_bad fun _ => rfl
    | cons g gens =>
      cases gens with
      | cons _ _ =>
        refine e_bad fun ρ => ?_
        unfold evE
        split <;> first | rfl | skip
        all_goals first | (rename_i h; cases h; done) | skip
      | nil =>
        obtain ⟨tg, it, ifs, k⟩ := g
        by_cases hk : k = 0
        case neg =>
          refine e_bad fun ρ => ?_
          unfold evE
          split <;> first | rfl | skip
          all_goals first | (rename_i h; cases h; done) | skip
          all_goals first | (rename_i h; cases h; exact absurd rfl hk) | skip
        case pos =>
          subst hk
          by_cases hs : ∃ xs k p, it = .Set xs k p
          · obtain ⟨xs, k, q, rfl⟩ := hs
            refine e_bad fun ρ => ?_
            show (if (blkC C.N C.sc scope (ownOf C.N scope) && noOw ρ (ownOf C.N scope)) = true then M.bnd (evI n P d C tg (.Set xs k q) ρ) _ else M.no : M DK) = M.no
            rw [evI_set]
            split
            · rfl
            · rfl
          · exact e_lc c (ih.I tg it) (set_free fun xs k q z => hs ⟨xs, k, q, z⟩) (fun s H A cl fp => (ihb s H A cl fp scope).If ifs) (fun s H A cl fp => (ihb s H A cl fp scope).E elt)
  | Call f as kw p =>
    cases kw with
    | cons _ _ => exact e_bad fun _ => rfl
    | nil =>
      by_cases hl : lineOk f p = true
      · have ev : evE (n + 1) P d C (.Call f as [] p) = fun ρ => if lineOk f p then evCall n P d C f as ρ else .no := rfl
        rw [ev]
        simp only [hl, if_true]
        exact ih.Ca f as p hl
      · exact e_bad fun ρ => if_neg hl
  | _ => exact e_bad fun _ => rfl
theorem ea_succ (hmo : MO P X.prog X.w X.K X.mg X.base n) (c : Cxt P X d C Wx) (ih : EA P X n d C Wx) (ihb : ∀ (s : Shared) (H : Hp) (A : Addr) (cl : List (Str × Addr)) (fp : List Addr) (scope : Scope), EA P (X.blk s H scope (compEnvC scope cl A X.env) fp) n d ⟨C.N, relC scope C.sc, [], some scope, none⟩ WF) :
    EA P X (n + 1) d C Wx where
  E := ea_E hmo c ih ihb
  O := o_all ih.E
  L := fun es => by
    cases es with
    | nil => exact l_nil
    | cons e es => exact l_cons ih.E (ih.L es)
  W := fun es hs => by
    cases es with
    | nil => exact w_nil
    | cons e es =>
      have hs' : notStar e = true ∧ noStar es = true := by
        unfold noStar at hs
        rwa [Bool.and_eq_true] at hs
      exact w_cons hs'.1 ih.E (ih.W es hs'.2)
  B := fun op es pos => by
    cases es with
    | nil => exact b_nil
    | cons e es =>
      cases es with
      | nil => exact b_one (ih.E e)
      | cons e2 es => exact b_more (ih.E e) (ih.B op (e2 :: es) pos)
  Ch := fun ops cs => ch_all c ih.E ih.Ch ops cs
  T := fun e => t_all c ih.E ih.T ih.Ts ih.Ch e
  Ts := fun op es pos => ts_all ih.T (fun es => ih.Ts op es pos) es
  If := fun es => by
    cases es with
    | nil => exact ⟨fun pins s σ H Q I ⟨Mo, H0, L0, L, ρ, st, r, h⟩ => pts_nil.run pins s σ H Q I (h L H (Po.refl r))⟩
    | cons e es =>
      cases es with
      | nil => exact pts_one (ih.T e)
      | cons _ _ => exact ts_bad fun _ => rfl
  I := fun tg e => i_all c ih.E tg e
  Ca := fun f as pos hl => e_call c hmo.fo ih.E ih.L ih.W (fun b lsc p q pos hg hls => hmo.rf X d C Wx rfl rfl rfl rfl rfl c b lsc p q pos hg hls) ih.Rg f as pos hl
  Rg := fun x rs p1 p2 q pos hg hgr hs hx => c_rng c ih.E hg hgr hs hx
theorem EA.all : ∀ (n : Nat) (X : Cx) (d : Nat) (C : Ct) (Wx : WX), (∀ m, m < n → MO P X.prog X.w X.K X.mg X.base m) → Cxt P X d C Wx → EA P X n d C Wx
  | 0, X, d, C, Wx, _, c => EA.zero
  | n + 1, X, d, C, Wx, h, c => ea_succ (h n (Nat.lt_succ_self n)) c (EA.all n X d C Wx (fun m hm => h m (Nat.lt_succ_of_lt hm)) c)
      fun s H A cl fp scope => EA.all n _ d _ WF (fun m hm => h m (Nat.lt_succ_of_lt hm)) (blk_cxt c s H cl A fp)
end
end PI
set_option Elab.async false
set_option linter.all false
set_option maxRecDepth 100000
set_option maxHeartbeats 4000000
/-! PI14: statements: what is asked, the simple ones, loops. -/
namespace PI
open PySem PySem.Spec PyProof.Rows L2
section
variable (K : PySem.W.Frag) (mg : Str → Option Value) (Mo : Addr → Prop) (H0 : Hp) (L0 : List Addr) (W0 : Wo)
def ExS (Wx : WX) (e : Ex) (st' : Store) : Prop := ∀ cls dd L' H' ρ' σ', Rl K mg Mo H0 L0 L' H' ρ' σ' st' → Le K W0 (wo Mo L' H' ρ' σ') → ExR K mg (wo Mo L' H' ρ' σ') e cls dd → Wx cls dd σ' H'
def NxS (st' : Store) (ρ' : List Sl) (N : L2.St → Hp → Prop) : Prop := ∀ σ' L' H', Rl K mg Mo H0 L0 L' H' ρ' σ' st' → Le K W0 (wo Mo L' H' ρ' σ') → N σ' H'
def RtS (st' : Store) (r : D) (k : Kd) (N : VK) : Prop := ∀ v L' H', Rl K mg (addF Mo k v) H0 L0 L' H' [] [] st' → Le K W0 (wo (addF Mo k v) L' H' [] []) → RV K mg (wo (addF Mo k v) L' H' [] []) [] [] r k v → (k = .fr → ∀ a, v = .ref a → ¬ Mo a ∧ H0 a = none) → N v H'
def OkS (D : Ends) (q : Fl × List Sl) (st' : Store) : Prop := match q.1 with
  | .nx => NxS K mg Mo H0 L0 W0 st' q.2 D.nx
  | .bk => NxS K mg Mo H0 L0 W0 st' q.2 D.bk
  | .ct => NxS K mg Mo H0 L0 W0 st' q.2 D.ct
  | .rt r k => k ≠ .wk ∧ RtS K mg Mo H0 L0 W0 st' r k D.rt
end
def tMS (K : PySem.W.Frag) (mg : Str → Option Value) (Wx : WX) (m : List Sl → M (Fl × List Sl)) : TS := fun D σ H => ∃ Mo H0 L0 L ρ st W0, Rl K mg Mo H0 L0 L H ρ σ st ∧ Le K W0 (wo Mo L H ρ σ) ∧ Out (m ρ st) (OkS K mg Mo H0 L0 W0 D) (ExS K mg Mo H0 L0 W0 Wx)
section
variable {K : PySem.W.Frag} {mg : Str → Option Value} {Mo Mo1 : Addr → Prop} {H0 H H1 : Hp} {L0 L L1 : List Addr} {ρ ρ' : List Sl} {σ σ' : L2.St} {st st1 : Store} {a : Addr} {W0 : Wo} {Wx : WX} {D : Ends}
theorem ExS.q (l : Le K W0 (wo Mo L H ρ σ)) {e : Ex} {st' : Store} (h : ExS K mg Mo H0 L0 W0 Wx e st') : ExQ K mg Mo H0 L0 L H ρ σ Wx e st' := fun cls dd L' H' p x => h cls dd L' H' ρ σ p.rl (l.trans p.le) x
/-- an expression within a statement, read -/
theorem tS_rd {m : List Sl → M DK} {f : DK → M (Fl × List Sl)} {Q : VK} (r : Rl K mg Mo H0 L0 L H ρ σ st) (l : Le K W0 (wo Mo L H ρ σ)) (h : Out (M.bnd (m ρ) f st) (OkS K mg Mo H0 L0 W0 D) (ExS K mg Mo H0 L0 W0 Wx))
    (g : ∀ x st' v L' H', Out (f x st') (OkS K mg Mo H0 L0 W0 D) (ExS K mg Mo H0 L0 W0 Wx) → Po K mg Mo H0 L0 L H ρ σ Mo L' H' st' → Le K W0 (wo Mo L' H' ρ σ) → RW K mg (wo Mo L' H' ρ σ) x.1 v → Q v H') : tM K mg Wx m σ H Q :=
  tM_rd r ((Out.bnd h).imp (fun x st' q v L' H' p w => g x st' v L' H' q p (l.trans p.le) w) fun _ _ q => q.q l)
theorem tS_B {m : List Sl → M Bool} {f : Bool → M (Fl × List Sl)} {Q : Bool → Hp → Prop} (r : Rl K mg Mo H0 L0 L H ρ σ st) (l : Le K W0 (wo Mo L H ρ σ)) (h : Out (M.bnd (m ρ) f st) (OkS K mg Mo H0 L0 W0 D) (ExS K mg Mo H0 L0 W0 Wx))
    (g : ∀ x st' L' H', Out (f x st') (OkS K mg Mo H0 L0 W0 D) (ExS K mg Mo H0 L0 W0 Wx) → Po K mg Mo H0 L0 L H ρ σ Mo L' H' st' → Le K W0 (wo Mo L' H' ρ σ) → Q x H') : tMB K mg Wx m σ H Q :=
  ⟨Mo, H0, L0, L, ρ, st, r, (Out.bnd h).imp (fun x st' q L' H' p => g x st' L' H' q p (l.trans p.le)) fun _ _ q => q.q l⟩
/-- with its standing -/
theorem tS_rv {m : List Sl → M DK} {f : DK → M (Fl × List Sl)} {Q : VK} (r : Rl K mg Mo H0 L0 L H ρ σ st) (l : Le K W0 (wo Mo L H ρ σ)) (h : Out (M.bnd (m ρ) f st) (OkS K mg Mo H0 L0 W0 D) (ExS K mg Mo H0 L0 W0 Wx))
    (g : ∀ x st' v L' H', Out (f x st') (OkS K mg Mo H0 L0 W0 D) (ExS K mg Mo H0 L0 W0 Wx) → Po K mg Mo H0 L0 L H ρ σ (addF Mo x.2 v) L' H' st' → Le K W0 (wo (addF Mo x.2 v) L' H' ρ σ) → RV K mg (wo (addF Mo x.2 v) L' H' ρ σ) ρ σ x.1 x.2 v → (x.2 = .fr → ∀ a, v = .ref a → ¬ Mo a ∧ H0 a = none) → Q v H') : tM K mg Wx m σ H Q :=
  ⟨Mo, H0, L0, L, ρ, st, r, (Out.bnd h).imp (fun x st' q v L' H' p rv fr => g x st' v L' H' q p (l.trans p.le) rv fun k a e => ⟨fun m => r.mt a m (fr k a e), r.free0 (fr k a e)⟩) fun _ _ q => q.q l⟩
/-- a name's own list comes to be shared -/
theorem Rl.frz (r : Rl K mg Mo H0 L0 L H ρ σ st) {i : Nat} {d : PI.D} (e : ρ[i]? = some (.ow d)) : Rl K mg Mo H0 L0 L H (ρ.set i (.im d)) σ st ∧ Le K (wo Mo L H ρ σ) (wo Mo L H (ρ.set i (.im d)) σ) := by
  obtain ⟨a, ea, o⟩ := r.slot i _ e
  have hi : i < ρ.length := (List.getElem?_eq_some_iff.mp e).1
  have ha : owAt ρ σ i a := ⟨d, e, ea⟩
  have oo : ∀ {j b}, owAt (ρ.set i (.im d)) σ j b → j ≠ i ∧ owAt ρ σ j b := fun {j b} ⟨d', e1, e2⟩ => by
    by_cases hj : j = i
    · subst hj
      rw [List.getElem?_set_self hi] at e1
      cases e1
    · rw [List.getElem?_set_ne (Ne.symm hj)] at e1
      exact ⟨hj, d', e1, e2⟩
  have mm : ∀ b, Mt Mo L (ρ.set i (.im d)) σ b → Mt Mo L ρ σ b := fun b h => by
    rcases h with h | h | ⟨j, h⟩
    · exact .inl h
    · exact .inr (.inl h)
    · exact .inr (.inr ⟨j, (oo h).2⟩)
  have l : Le K (wo Mo L H ρ σ) (wo Mo L H (ρ.set i (.im d)) σ) := Le.of_sub mm
  have na : ¬ Mt Mo L (ρ.set i (.im d)) σ a := fun m => by
    rcases m with m | m | ⟨j, m⟩
    · exact (r.own i a ha).1 m
    · exact (r.own i a ha).2.1 m
    · exact (oo m).1 (r.dis j i a (oo m).2 ha)
  refine ⟨⟨by simp [r.len], fun j t et => ?_, fun j k b h1 h2 => r.dis j k b (oo h1).2 (oo h2).2, fun j b h => r.own j b (oo h).2, r.pre, r.lnd, r.lmo, r.lnew, r.sto, fun k c b e1 e2 => (r.cel k c b e1 e2).le l fun _ e => e, r.kf, r.mt, r.base, r.nt⟩, l⟩
  by_cases hj : j = i
  · subst hj
    rw [List.getElem?_set_self hi] at et
    cases et
    exact ⟨.ref a, ea, o.rep l rfl na⟩
  · rw [List.getElem?_set_ne (Ne.symm hj)] at et
    have q := r.slot j t et
    cases t with
    | un => trivial
    | im d => obtain ⟨v, e1, h⟩ := q; exact ⟨v, e1, Rep.le l d v h⟩
    | ow d => obtain ⟨a, e1, h⟩ := q; exact ⟨a, e1, h.le l fun _ e => e⟩
theorem Rl.freeze (r : Rl K mg Mo H0 L0 L H ρ σ st) (N : List Str) (x : Str) : Rl K mg Mo H0 L0 L H (PI.freeze N x ρ) σ st ∧ Le K (wo Mo L H ρ σ) (wo Mo L H (PI.freeze N x ρ) σ) := by
  unfold PI.freeze
  split
  · split
    · rename_i e
      exact r.frz e
    · exact ⟨r, Le.refl⟩
  · exact ⟨r, Le.refl⟩
theorem Rl.freezes : ∀ (xs : List Str) {ρ : List Sl} (N : List Str), Rl K mg Mo H0 L0 L H ρ σ st → Rl K mg Mo H0 L0 L H (PI.freezes N xs ρ) σ st ∧ Le K (wo Mo L H ρ σ) (wo Mo L H (PI.freezes N xs ρ) σ)
  | [], ρ, N, r => ⟨r, Le.refl⟩
  | x :: xs, ρ, N, r => by
    obtain ⟨r1, l1⟩ := r.freeze N x
    obtain ⟨r2, l2⟩ := Rl.freezes xs N r1
    exact ⟨r2, l1.trans l2⟩
/-- the frame is left -/
theorem Rl.drop (r : Rl K mg Mo H0 L0 L H ρ σ st) : Rl K mg Mo H0 L0 L H [] [] st ∧ Le K (wo Mo L H ρ σ) (wo Mo L H [] []) := by
  have mm : ∀ b, Mt Mo L [] [] b → Mt Mo L ρ σ b := fun b h => (mt_nil.mp h).elim .inl fun h => .inr (.inl h)
  have l : Le K (wo Mo L H ρ σ) (wo Mo L H [] []) := Le.of_sub mm
  exact ⟨⟨rfl, fun i s e => by simp at e, fun i j a h => absurd h ow_nil, fun i a h => absurd h ow_nil, r.pre, r.lnd, r.lmo, r.lnew, r.sto, fun k c b e1 e2 => (r.cel k c b e1 e2).le l fun _ e => e, r.kf, r.mt, r.base, r.nt⟩, l⟩
/-- and takes a name's own list along -/
theorem Rl.dropOw (r : Rl K mg Mo H0 L0 L H ρ σ st) {i : Nat} {a : Addr} (h : owAt ρ σ i a) : Rl K mg (ad Mo a) H0 L0 L H [] [] st ∧ Le K (wo Mo L H ρ σ) (wo (ad Mo a) L H [] []) := by
  have mm : ∀ b, Mt (ad Mo a) L [] [] b → Mt Mo L ρ σ b := fun b m => by
    rcases mt_nil.mp m with (m | m) | m
    · exact .inl m
    · rw [m]; exact .inr (.inr ⟨i, h⟩)
    · exact .inr (.inl m)
  have l : Le K (wo Mo L H ρ σ) (wo (ad Mo a) L H [] []) := Le.of_sub mm
  exact ⟨⟨rfl, fun i s e => by simp at e, fun i j a h => absurd h ow_nil, fun i a h => absurd h ow_nil, r.pre, r.lnd, fun b hl m => m.elim (r.lmo b hl) fun m => (r.own i a h).2.1 (by rw [← m]; exact hl), r.lnew, r.sto,
    fun k c b e1 e2 => (r.cel k c b e1 e2).le l fun _ e => e, r.kf, fun b m => m.elim (r.mt b) fun m => by
      obtain ⟨vs, e, _⟩ := r.owned h
      rw [m, e]; simp, r.base, fun A q e b ps m => m.elim (r.nt A q e b ps) fun m z => by
      obtain ⟨vs, e2, mu⟩ := r.owned h
      rw [m, e2] at z; cases z; exact mu⟩, l⟩
end
section
variable {P : Pg} {X : Cx} {n d : Nat} {C : Ct} {Wx : WX} {a b e tg elt it o : Expr} {es ifs : List Expr} {pos p1 p2 p3 ap : Pos} {te : TE} {scope : Scope} {s : Stmt} {ss bd : List Stmt}
theorem _root_.L2.PS.nope {s : Stmt} {t : TS} (h : ∀ D σ H, ¬ t D σ H) : PS X s t := ⟨fun pins s σ H D I q => absurd q (h D σ H)⟩
theorem s_bad {m : List Sl → M (Fl × List Sl)} (hm : ∀ ρ, m ρ = .no) : PS X s (tMS X.K X.mg Wx m) := .nope fun D σ H ⟨Mo, H0, L0, L, ρ, st, W0, r, l, h⟩ => by
  rw [hm] at h
  exact h
theorem _root_.L2.PS.kf {s : Stmt} {t : TS} (h : PS X s t) : PS X s (fun D σ H => t { D with nx := fun σ' H' => KF X.K H' → D.nx σ' H' } σ H) := ⟨fun pins s σ H D I q => thn (h.run pins s σ H _ I q) fun f s' sp => by
  cases f with
  | next => obtain ⟨σ', H', I', q⟩ := sp; exact ⟨σ', H', I', q (kfI I')⟩
  | brk => exact sp
  | cont => exact sp
  | ret u => exact sp⟩
theorem s_pass : PS X (.Pass pos) (tMS X.K X.mg Wx (exQ (n + 1) P d C (.Pass pos))) := ps_pass.imp fun D σ H ⟨Mo, H0, L0, L, ρ, st, W0, r, l, h⟩ => (Out.ret h : OkS _ _ _ _ _ _ _ _ _) σ L H r l
theorem s_break : PS X (.Break pos) (tMS X.K X.mg Wx (exQ (n + 1) P d C (.Break pos))) := ps_break.imp fun D σ H ⟨Mo, H0, L0, L, ρ, st, W0, r, l, h⟩ => (Out.ret h : OkS _ _ _ _ _ _ _ _ _) σ L H r l
theorem s_cont : PS X (.Continue pos) (tMS X.K X.mg Wx (exQ (n + 1) P d C (.Continue pos))) := ps_continue.imp fun D σ H ⟨Mo, H0, L0, L, ρ, st, W0, r, l, h⟩ => (Out.ret h : OkS _ _ _ _ _ _ _ _ _) σ L H r l
theorem s_retN : PS X (.Return none pos) (tMS X.K X.mg Wx (exQ (n + 1) P d C (.Return none pos))) := ps_retN.imp fun D σ H ⟨Mo, H0, L0, L, ρ, st, W0, r, l, h⟩ => by
  obtain ⟨r1, l1⟩ := r.drop
  exact (Out.ret h : OkS _ _ _ _ _ _ _ _ _).2 .non L H r1 (l.trans l1) (by unfold RV Rep; rfl) fun z => by cases z
theorem s_ret (he : PE X e (tM X.K X.mg Wx (evE n P d C e))) : PS X (.Return (some e) pos) (tMS X.K X.mg Wx (exQ (n + 1) P d C (.Return (some e) pos))) := (ps_ret he).imp fun D σ H ⟨Mo, H0, L0, L, ρ, st, W0, r, l, h⟩ => by
  refine tS_rv r l h fun x st1 v L1 H1 h1 p1 l1 rv fr => ?_
  obtain ⟨x, k⟩ := x
  dsimp only at p1 l1 rv fr
  have h2 := (Out.ret h1 : OkS _ _ _ _ _ _ _ _ _).2
  cases k with
  | sh =>
    obtain ⟨r2, l2⟩ := p1.rl.drop
    exact h2 v L1 H1 r2 (l1.trans l2) (Rep.le l2 _ _ rv) fun z => by cases z
  | fr =>
    obtain ⟨r2, l2⟩ := p1.rl.drop
    obtain ⟨a, rfl, o⟩ := rv
    exact h2 (.ref a) L1 H1 r2 (l1.trans l2) ⟨a, rfl, o.le l2 fun _ e => e⟩ fr
  | wk =>
    obtain ⟨i, a, rfl, e1, e2⟩ := rv
    have p1 : Po X.K X.mg Mo H0 L0 L H ρ σ Mo L1 H1 st1 := p1
    have hw : owAt ρ σ i a := ⟨x, e1, e2⟩
    obtain ⟨r2, l2⟩ := p1.rl.dropOw hw
    obtain ⟨b, e3, o⟩ := p1.rl.slot i _ e1
    rw [e2] at e3
    cases e3
    exact h2 (.ref a) L1 H1 r2 (Le.trans l1 l2) ⟨a, rfl, o.le l2 fun _ e => e⟩ fun _ b e => by
      cases e
      exact ⟨(p1.rl.own i a hw).1, (p1.rl.own i a hw).2.2⟩
theorem s_if {t : Expr} {u w : List Stmt} (ht : PT X t (tMB X.K X.mg Wx (evT n P d C t))) (ha : PSs X u (tMS X.K X.mg Wx (exSs n P d C u))) (hb : PSs X w (tMS X.K X.mg Wx (exSs n P d C w))) : PS X (.If t u w pos) (tMS X.K X.mg Wx (exQ (n + 1) P d C (.If t u w pos))) :=
  (ps_if ht ha hb).imp fun D σ H ⟨Mo, H0, L0, L, ρ, st, W0, r, l, h⟩ => by
    refine tS_B r l h fun x st1 L1 H1 h1 p1 l1 => ?_
    cases x with
    | true => exact ⟨Mo, H0, L0, L1, ρ, st1, W0, p1.rl, l1, h1⟩
    | false => exact ⟨Mo, H0, L0, L1, ρ, st1, W0, p1.rl, l1, h1⟩
theorem ss_nil : PSs X [] (tMS X.K X.mg Wx (exSs (n + 1) P d C [])) := pss_nil.imp fun D σ H ⟨Mo, H0, L0, L, ρ, st, W0, r, l, h⟩ => (Out.ret h : OkS _ _ _ _ _ _ _ _ _) σ L H r l
theorem ss_cons (hs : PS X s (tMS X.K X.mg Wx (exS n P d C s))) (hr : PSs X ss (tMS X.K X.mg Wx (exSs n P d C ss))) : PSs X (s :: ss) (tMS X.K X.mg Wx (exSs (n + 1) P d C (s :: ss))) :=
  (pss_cons hs hr).imp fun D σ H ⟨Mo, H0, L0, L, ρ, st, W0, r, l, h⟩ => by
    refine ⟨Mo, H0, L0, L, ρ, st, W0, r, l, (Out.bnd h).imp (fun q st1 h1 => ?_) fun _ _ q => q⟩
    obtain ⟨f, ρ1⟩ := q
    cases f with
    | nx => exact fun σ1 L1 H1 r1 l1 => ⟨Mo, H0, L0, L1, ρ1, st1, W0, r1, l1, h1⟩
    | bk => exact h1
    | ct => exact h1
    | rt x k => exact h1
theorem s_frz (h : PS X s (tMS X.K X.mg Wx (exQ n P d C s))) : PS X s (tMS X.K X.mg Wx (exS (n + 1) P d C s)) := h.imp fun D σ H ⟨Mo, H0, L0, L, ρ, st, W0, r, l, h⟩ => by
  obtain ⟨r1, l1⟩ := Rl.freezes (fzS s) C.N r
  exact ⟨Mo, H0, L0, L, _, st, W0, r1, l.trans l1, h⟩
theorem s_doc {z : Str} {j : Nat} : PS X (.Expr (.Constant (.str z) j pos) p1) (tMS X.K X.mg Wx (exQ (n + 1) P d C (.Expr (.Constant (.str z) j pos) p1))) := ps_doc.imp fun D σ H ⟨Mo, H0, L0, L, ρ, st, W0, r, l, h⟩ => (Out.ret h : OkS _ _ _ _ _ _ _ _ _) σ L H r l
theorem s_exprCall {f : Expr} (he : PE X (.Call f es [] p2) (tM X.K X.mg Wx (evE n P d C (.Call f es [] p2)))) (hx : ∀ ρ, exQ (n + 1) P d C (.Expr (.Call f es [] p2) pos) ρ = .bnd (evE n P d C (.Call f es [] p2) ρ) fun _ => .ret (.nx, ρ)) :
    PS X (.Expr (.Call f es [] p2) pos) (tMS X.K X.mg Wx (exQ (n + 1) P d C (.Expr (.Call f es [] p2) pos))) := (ps_expr he).imp fun D σ H ⟨Mo, H0, L0, L, ρ, st, W0, r, l, h⟩ => by
  rw [hx] at h
  exact tS_rd r l h fun x st1 v L1 H1 h1 p1 l1 w => (Out.ret h1 : OkS _ _ _ _ _ _ _ _ _) σ L1 H1 p1.rl l1

/-! ### loops -/
theorem _root_.L2.PT.any {e : Expr} {p : Nat → Prop} {t : Nat → TT} (h : ∀ k, p k → PT X e (t k)) : PT X e (fun σ H Q => ∃ k, p k ∧ t k σ H Q) := ⟨fun pins s σ H Q I ⟨k, hk, q⟩ => (h k hk).run pins s σ H Q I q⟩
theorem _root_.L2.PSs.any {e : List Stmt} {p : Nat → Prop} {t : Nat → TS} (h : ∀ k, p k → PSs X e (t k)) : PSs X e (fun D σ H => ∃ k, p k ∧ t k D σ H) := ⟨fun pins s σ H D I ⟨k, hk, q⟩ => (h k hk).run pins s σ H D I q⟩
theorem s_while (c : Cxt P X d C Wx) {t : Expr} (hT : ∀ k, k ≤ n → PT X t (tMB X.K X.mg Wx (evT k P d C t))) (hB : ∀ k, k ≤ n → PSs X bd (tMS X.K X.mg Wx (exSs k P d C bd))) : PS X (.While t bd [] pos) (tMS X.K X.mg Wx (exQ (n + 1) P d C (.While t bd [] pos))) :=
  (ps_while c.po (.any hT) (.any hB)).imp fun D σ H ⟨Mo, H0, L0, L, ρ, st, W0, r, l, h⟩ => by
    replace h : Out (exW n P d C t bd ρ st) (OkS X.K X.mg Mo H0 L0 W0 D) (ExS X.K X.mg Mo H0 L0 W0 Wx) := h
    refine ⟨fun m σ' H' => m ≤ n ∧ ∃ L' ρ' st', Rl X.K X.mg Mo H0 L0 L' H' ρ' σ' st' ∧ Le X.K W0 (wo Mo L' H' ρ' σ') ∧ Out (exW m P d C t bd ρ' st') (OkS X.K X.mg Mo H0 L0 W0 D) (ExS X.K X.mg Mo H0 L0 W0 Wx), ⟨n, Nat.le_refl _, L, ρ, st, r, l, h⟩, ?_⟩
    rintro m σ1 H1 ⟨hm, L1, ρ1, st1, r1, l1, h1⟩
    cases m with
    | zero => exact h1.elim
    | succ m =>
      refine ⟨m, by omega, tS_B r1 l1 h1 fun b st2 L2' H2 h2 p2 l2 => ?_⟩
      cases b with
      | false => exact (Out.ret h2 : OkS _ _ _ _ _ _ _ _ _) σ1 L2' H2 p2.rl l2
      | true =>
        refine ⟨fun σ' H' => m ≤ n ∧ ∃ L' ρ' st', Rl X.K X.mg Mo H0 L0 L' H' ρ' σ' st' ∧ Le X.K W0 (wo Mo L' H' ρ' σ') ∧ Out (exW m P d C t bd ρ' st') (OkS X.K X.mg Mo H0 L0 W0 D) (ExS X.K X.mg Mo H0 L0 W0 Wx), fun σ' H' z => ⟨m, Nat.lt_succ_self m, z⟩, m, by omega, Mo, H0, L0, L2', ρ1, st2, W0, p2.rl, l2, (Out.bnd h2).imp (fun q st3 h3 => ?_) fun _ _ z => z⟩
        obtain ⟨f, ρ3⟩ := q
        cases f with
        | nx => exact fun σ3 L3 H3 r3 l3 => ⟨by omega, L3, ρ3, st3, r3, l3, h3⟩
        | ct => exact fun σ3 L3 H3 r3 l3 => ⟨by omega, L3, ρ3, st3, r3, l3, h3⟩
        | bk => exact h3
        | rt x k => exact h3
theorem NxS.from {K : PySem.W.Frag} {mg : Str → Option Value} {Mo : Addr → Prop} {H0 : Hp} {L0 : List Addr} {W0 W1 : Wo} {st : Store} {ρ : List Sl} {N : L2.St → Hp → Prop} (l : Le K W0 W1) (h : NxS K mg Mo H0 L0 W0 st ρ N) : NxS K mg Mo H0 L0 W1 st ρ N := fun σ' L' H' r l' => h σ' L' H' r (l.trans l')
theorem RtS.from {K : PySem.W.Frag} {mg : Str → Option Value} {Mo : Addr → Prop} {H0 : Hp} {L0 : List Addr} {W0 W1 : Wo} {st : Store} {x : D} {k : Kd} {N : VK} (l : Le K W0 W1) (h : RtS K mg Mo H0 L0 W0 st x k N) : RtS K mg Mo H0 L0 W1 st x k N := fun v L' H' r l' => h v L' H' r (l.trans l')
theorem ExS.from {K : PySem.W.Frag} {mg : Str → Option Value} {Mo : Addr → Prop} {H0 : Hp} {L0 : List Addr} {W0 W1 : Wo} {st : Store} {e : Ex} (l : Le K W0 W1) (h : ExS K mg Mo H0 L0 W0 Wx e st) : ExS K mg Mo H0 L0 W1 Wx e st := fun cls dd L' H' ρ' σ' r l' x => h cls dd L' H' ρ' σ' r (l.trans l') x
/-- a turn of a for -/
def frF (n : Nat) (P : Pg) (d : Nat) (C : Ct) (tg : Expr) (bd : List Stmt) (x : D) (ρ : List Sl) : M (Fl × List Sl) := match asT n C tg x .sh ρ with
  | some ρ' => exSs n P d C bd ρ'
  | none => .no
theorem s_for (c : Cxt P X d C Wx) (hI : L2.PI X tg it (tMI X.K X.mg Wx (evI n P d C tg it))) (hs : ∀ x, foldedSetIterable it X.env x = pure x) (hB : PSs X bd (tMS X.K X.mg Wx (exSs n P d C bd))) :
    PS X (.For tg it bd [] pos) (tMS X.K X.mg Wx (exQ (n + 1) P d C (.For tg it bd [] pos))) :=
  (ps_for c.po c.calm hI ((g_all c.calm c.N c.nd c.sc c.fn n).1 tg .sh).kfIn hB hs).imp fun D σ H ⟨Mo, H0, L0, L, ρ, st, W0, r, l, h⟩ => by
    replace h : Out (M.bnd (evI n P d C tg it ρ) (fun items => match items.2 with
      | .wk => .no
      | _ => forL (frF n P d C tg bd) items.1 ρ) st) (OkS X.K X.mg Mo H0 L0 W0 D) (ExS X.K X.mg Mo H0 L0 W0 Wx) := h
    refine ⟨Mo, H0, L0, L, ρ, st, r, (Out.bnd h).imp (fun q st1 h1 J L1 H1 p1 iw => ?_) fun _ _ z => z.q l⟩
    obtain ⟨xs, k⟩ := q
    dsimp only at iw h1
    have hk : k ≠ .wk := by
      rintro rfl
      exact h1.elim
    replace h1 : Out (forL (frF n P d C tg bd) xs ρ st1) (OkS X.K X.mg Mo H0 L0 W0 D) (ExS X.K X.mg Mo H0 L0 W0 Wx) := by
      cases k with
      | wk => exact absurd rfl hk
      | sh => exact h1
      | fr => exact h1
    let S : Nat → L2.St → Hp → Prop := fun i σ' H' => ∃ L' ρ' st', Rl X.K X.mg Mo H0 L0 L' H' ρ' σ' st' ∧ Le X.K W0 (wo Mo L' H' ρ' σ') ∧ IW X.K X.mg (k ≠ .wk) J xs (wo Mo L' H' ρ' σ') ∧ Out (forL (frF n P d C tg bd) (xs.drop i) ρ' st') (OkS X.K X.mg Mo H0 L0 W0 D) (ExS X.K X.mg Mo H0 L0 W0 Wx)
    refine ⟨fun i m σ' H' => m = xs.length - i ∧ i ≤ xs.length ∧ S i σ' H', ⟨xs.length, by simp, Nat.zero_le _, L1, ρ, st1, p1.rl, l.trans p1.le, iw, h1⟩, ?_⟩
    rintro i m σ2 H2 ⟨rfl, hi, L2', ρ2, st2, r2, l2, iw2, h2⟩
    have raw := iw2.raw (H' := H2) fun b o e => e
    by_cases hlt : i < xs.length
    · have hi2 : xs[i]? = some xs[i] := List.getElem?_eq_getElem hlt
      rw [List.drop_eq_getElem_cons hlt] at h2
      generalize xs[i] = dd at *
      refine .inr ⟨(raw i).2 hlt, fun σ' H' => S (i + 1) σ' H', fun σ' H' z => ⟨xs.length - (i + 1), by omega, rfl, hlt, z⟩, fun x H3 y kf => ?_⟩
      obtain ⟨pa, rep⟩ := iw2.step r2 hi2 y kf
      have h3 := Out.bnd h2
      cases hA : asT n C tg dd .sh ρ2 with
      | none =>
        unfold frF at h3
        rw [hA] at h3
        exact h3.elim
      | some ρ3 =>
        have hf : frF n P d C tg bd dd ρ2 = exSs n P d C bd ρ3 := by unfold frF; rw [hA]
        rw [hf] at h3
        refine ⟨Mo, H0, L0, L2', ρ2, st2, dd, ρ3, pa.rl, rep, by simp, (fun z => by cases z), hA, fun σ4 r4 l4 s4 => ?_⟩
        have l4' : Le X.K W0 (wo Mo L2' H3 ρ3 σ4) := (l2.trans pa.le).trans l4
        have iw4 : IW X.K X.mg (k ≠ .wk) J xs (wo Mo L2' H3 ρ3 σ4) := (iw2.po pa).le (fun a m => .inr (.inl m)) l4 hk
        refine ⟨Mo, H0, L0, L2', ρ3, st2, wo Mo L2' H3 ρ3 σ4, r4, Le.refl, h3.imp (fun q st5 h5 => ?_) fun _ _ z => z.from l4'⟩
        obtain ⟨f, ρ5⟩ := q
        cases f with
        | nx => exact fun σ6 L6 H6 r6 l6 => ⟨L6, ρ5, st5, r6, l4'.trans l6, iw4.le (fun a m => .inr (.inl m)) l6 hk, h5⟩
        | ct => exact fun σ6 L6 H6 r6 l6 => ⟨L6, ρ5, st5, r6, l4'.trans l6, iw4.le (fun a m => .inr (.inl m)) l6 hk, h5⟩
        | bk =>
          have h5 : NxS X.K X.mg Mo H0 L0 W0 st5 ρ5 D.nx := h5
          exact h5.from l4'
        | rt x k2 =>
          have h5 : k2 ≠ .wk ∧ RtS X.K X.mg Mo H0 L0 W0 st5 x k2 D.rt := h5
          exact ⟨h5.1, h5.2.from l4'⟩
    · have e : i = xs.length := by omega
      subst e
      rw [List.drop_length] at h2
      have h2 : OkS X.K X.mg Mo H0 L0 W0 D (.nx, ρ2) st2 := h2
      exact .inl ⟨(raw _).1 rfl, h2 σ2 L2' H2 r2 l2⟩
end
end PI
set_option Elab.async false
set_option linter.all false
set_option maxRecDepth 100000
set_option maxHeartbeats 4000000
/-! PI15: assignments, appending. -/
namespace PI
open PySem PySem.Spec PyProof.Rows L2 PD
section
variable {K : PySem.W.Frag} {mg : Str → Option Value} {Mo Mo1 : Addr → Prop} {H0 H H1 : Hp} {L0 L L1 : List Addr} {ρ ρ' : List Sl} {σ σ' : L2.St} {st st1 : Store} {a : Addr} {W0 : Wo} {Wx : WX} {D : Ends}
/-- a slot is given a value -/
theorem Rl.put {d : PI.D} {k : Kd} {v : V} {i : Nat} {s : Sl} (r : Rl K mg (addF Mo k v) H0 L0 L H ρ σ st) (rv : RV K mg (wo (addF Mo k v) L H ρ σ) ρ σ d k v) (fr : k = .fr → ∀ a, v = .ref a → ¬ Mo a ∧ H0 a = none) (e : slotOf d k = some s) :
    Rl K mg Mo H0 L0 L H (ρ.set i s) (σ.set i (some v)) st ∧ Le K (wo (addF Mo k v) L H ρ σ) (wo Mo L H (ρ.set i s) (σ.set i (some v))) := by
  cases k with
  | wk => cases e
  | sh =>
    cases e
    exact Rl.setIm (i := i) (s := .im d) (o := some v) r (by intro d' z; cases z) (by intro d' z; cases z; exact ⟨v, rfl, rv⟩)
  | fr =>
    cases e
    obtain ⟨c, rfl, o⟩ := rv
    obtain ⟨n1, n2⟩ := fr rfl c rfl
    exact Rl.setOw (i := i) r o n1 n2
theorem setN_ok {C : Ct} {i : Nat} {x : Str} {y : DK} {v : V} (r : Rl K mg (addF Mo y.2 v) H0 L0 L H ρ σ st) (l : Le K W0 (wo (addF Mo y.2 v) L H ρ σ)) (rv : RV K mg (wo (addF Mo y.2 v) L H ρ σ) ρ σ y.1 y.2 v) (fr : y.2 = .fr → ∀ a, v = .ref a → ¬ Mo a ∧ H0 a = none)
    (h : Out (setN C i x y ρ st) (OkS K mg Mo H0 L0 W0 D) (ExS K mg Mo H0 L0 W0 Wx)) : D.nx (σ.set i (some v)) H := by
  obtain ⟨d, k⟩ := y
  dsimp only at r l rv fr
  by_cases hf : ((∃ xs, d = .lst xs) ∨ ∃ ks vs, d = .dct ks vs) ∧ k = .fr ∧ C.cells.contains x = true
  · obtain ⟨hd, rfl, hc⟩ := hf
    have e0 : setN C i x (d, .fr) ρ = fun st => .ok (.nx, ρ.set i (.im (.obj st.length))) (st ++ [.box d]) := by
      unfold setN
      rw [hc]
      rcases hd with ⟨xs, rfl⟩ | ⟨ks, vs, rfl⟩ <;> rfl
    rw [e0] at h
    have h : NxS K mg Mo H0 L0 W0 (st ++ [.box d]) (ρ.set i (.im (.obj st.length))) D.nx := h
    obtain ⟨a, rfl, o⟩ := rv
    obtain ⟨n1, n2⟩ := fr rfl a rfl
    obtain ⟨r1, l1⟩ := Rl.addL r o n1 n2
    obtain ⟨r2, l2⟩ := Rl.setIm (i := i) (s := .im (.obj st.length)) (o := some (.ref a)) r1 (by intro d' z; cases z) (by
      intro d' z
      cases z
      refine ⟨.ref a, rfl, ?_⟩
      unfold Rep
      refine ⟨a, rfl, ?_⟩
      show (L ++ [a])[st.length]? = some a
      rw [r.sto]
      simp)
    exact h _ _ _ r2 ((Le.trans l l1).trans l2)
  · have e0 : setN C i x (d, k) ρ = (match slotOf d k with
        | some s => .ret (.nx, ρ.set i s)
        | none => .no) := by
      unfold setN
      cases k <;> cases d <;> first
        | rfl
        | (cases hb : C.cells.contains x <;> first | rfl | exact absurd ⟨.inl ⟨_, rfl⟩, rfl, hb⟩ hf | exact absurd ⟨.inr ⟨_, _, rfl⟩, rfl, hb⟩ hf)
    rw [e0] at h
    cases e : slotOf d k with
    | none => rw [e] at h; exact h.elim
    | some s =>
      rw [e] at h
      have h : NxS K mg Mo H0 L0 W0 st (ρ.set i s) D.nx := h
      obtain ⟨r1, l1⟩ := Rl.put (i := i) r rv fr e
      exact h _ _ _ r1 (l.trans l1)
end
section
variable {P : Pg} {X : Cx} {n d : Nat} {C : Ct} {Wx : WX} {a b e tg elt it o : Expr} {es ifs : List Expr} {pos p1 p2 p3 ap : Pos} {te : TE} {scope : Scope} {s : Stmt} {ss bd : List Stmt}
theorem sw_not (h : ∀ a b c d, e ≠ .ListComp a b c d) (h2 : evE (n + 1) P d C e ≠ fun _ => .no) {t : Option Expr} {l : Nat} {env : Env} : swapsWith e t l env = pure false := by
  cases e <;> first | rfl | exact absurd rfl (h _ _ _ _) | exact absurd rfl h2
theorem s_setI (c : Cxt P X d C Wx) {x : Str} {i : Nat} (hi : sIdx C.N x = some i) (hc : (okName x && locB C.sc x && stB C x) = true) (he : PE X e (tM X.K X.mg Wx (evE n P d C e))) (hs : swapsWith e (some (.Name x p1)) pos.line X.env = pure false) :
    PS X (.Assign [.Name x p1] e pos) (tMS X.K X.mg Wx fun ρ => .bnd (evE n P d C e ρ) fun v => setN C i x v ρ) := by
  rw [Bool.and_eq_true, Bool.and_eq_true] at hc
  obtain ⟨⟨h1, h2⟩, h3⟩ := hc
  have hl : Loc X.env.scope x := by rw [c.sc]; exact locB_ok h2
  refine (ps_set (i := i) (by rw [c.N]; exact c.nd) (by rw [c.N]; exact sIdx_get hi) hl he hs (c.fn x h3 hl)).imp fun D σ H ⟨Mo, H0, L0, L, ρ, st, W0, r, l, h⟩ => ?_
  exact tS_rv r l h fun y st1 v L1 H1 h1 p1 l1 rv fr => setN_ok p1.rl l1 rv fr h1
theorem s_setLc (c : Cxt P X d C Wx) {x : Str} {i : Nat} (hi : sIdx C.N x = some i) (hc : (okName x && locB C.sc x && stB C x) = true) (hb : blkC C.N C.sc scope (ownOf C.N scope) = true) (hI : L2.PI X tg it (tMI X.K X.mg Wx (evI n P d C tg it))) (hs : ∀ x, foldedSetIterable it X.env x = pure x)
    (hT : ∀ (s : Shared) (H : Hp) (A : Addr) (cl : List (Str × Addr)) (fp : List Addr), PTs (X.blk s H scope (compEnvC scope cl A X.env) fp) ifs (tMB X.K X.mg WF (evIfs n P d ⟨C.N, relC scope C.sc, [], some scope, none⟩ ifs)))
    (hE : ∀ (s : Shared) (H : Hp) (A : Addr) (cl : List (Str × Addr)) (fp : List Addr), PE (X.blk s H scope (compEnvC scope cl A X.env) fp) elt (tM X.K X.mg WF (evE n P d ⟨C.N, relC scope C.sc, [], some scope, none⟩ elt)))
    (hyl : X.env.scope.names.lookup x = some .local) (hsw : swapsWith (.ListComp elt [⟨tg, it, ifs, 0⟩] scope p2) (some (.Name x p1)) pos.line X.env = pure true) :
    PS X (.Assign [.Name x p1] (.ListComp elt [⟨tg, it, ifs, 0⟩] scope p2) pos) (tMS X.K X.mg Wx fun ρ => .bnd (evE (n + 1) P d C (.ListComp elt [⟨tg, it, ifs, 0⟩] scope p2) ρ) fun v => setN C i x v ρ) := by
  have ok : BlkOk X.N X.env.scope scope (ownOf C.N scope) := by rw [c.N, c.sc]; exact blkOk_by hb
  refine ((ps_setLc (i := i) c.calm (by rw [c.N]; exact c.nd) (by rw [c.N]; exact sIdx_get hi) hyl hsw hI ok (lc_hG (n := n) c) hT hE hs).kf).imp fun D σ H ⟨Mo, H0, L0, L, ρ, st, W0, r, l, h⟩ => ?_
  exact lc_imp c hb σ H (fun v H1 => D.nx (σ.set i (some v)) H1) (tS_rv r l h fun y st1 v L1 H1 h1 p1 l1 rv fr => setN_ok p1.rl l1 rv fr h1)
/-- (a, b, ..) = value -/
theorem swap_none {ts : List Expr} {k : Nat} {env : Env} (h : notTup e = true) : swappedStores [.Tuple ts k p1] e env = pure none := by
  cases e <;> first | rfl | cases h
theorem s_tup (c : Cxt P X d C Wx) {ts : List Expr} {k : Nat} (hn : notTup e = true) (he : PE X e (tM X.K X.mg Wx (evE n P d C e))) : PS X (.Assign [.Tuple ts k p1] e pos) (tMS X.K X.mg Wx fun ρ => .bnd (evE n P d C e ρ) fun v => (match v.2 with
        | .wk => .no
        | k' => .opt ((asT n C (.Tuple ts k p1) v.1 k' ρ).map fun ρ' => (.nx, ρ')))) := by
  have hg : PG X (.Tuple ts k p1) (fun v σ H Q => ∃ k', tG X.K X.mg C k' (fun d ρ => asT n C (.Tuple ts k p1) d k' ρ) v σ H Q) := ⟨fun pins s σ H v u Q I r ⟨k', q⟩ => ((g_all c.calm c.N c.nd c.sc c.fn n).1 (.Tuple ts k p1) k').run pins s σ H v u Q I r q⟩
  refine (ps_asg he hg (by cases e <;> first | rfl | cases hn) (swap_none hn)).imp fun D σ H ⟨Mo, H0, L0, L, ρ, st, W0, r, l, h⟩ => ?_
  refine tS_rv r l h fun y st1 v L1 H1 h1 p1' l1 rv fr => ?_
  obtain ⟨y, k'⟩ := y
  have hk : k' ≠ .wk := by
    rintro rfl
    exact h1.elim
  replace h1 : Out (M.opt ((asT n C (.Tuple ts k p1) y k' ρ).map fun ρ' => ((Fl.nx, ρ') : Fl × List Sl)) st1) (OkS X.K X.mg Mo H0 L0 W0 D) (ExS X.K X.mg Mo H0 L0 W0 Wx) := by
    cases k' with
    | wk => exact absurd rfl hk
    | sh => exact h1
    | fr => exact h1
  obtain ⟨z, e1, q⟩ := Out.opt h1
  cases hA : asT n C (.Tuple ts k p1) y k' ρ with
  | none => rw [hA] at e1; cases e1
  | some ρ' =>
    rw [hA] at e1
    cases e1
    exact ⟨k', Mo, H0, L0, L1, ρ, st1, y, ρ', p1'.rl, rv, hk, fr, hA, fun σ' r' l' _ => (q : NxS _ _ _ _ _ _ _ _ _) σ' L1 H1 r' (l1.trans l')⟩

theorem asT_name {x : Str} {i : Nat} {y : D} {ρ : List Sl} (hi : sIdx C.N x = some i) (hc : (okName x && locB C.sc x && stB C x) = true) : asT (n + 1) C (.Name x p1) y .sh ρ = some (ρ.set i (.im y)) := by
  unfold asT
  dsimp only
  rw [if_pos hc, hi]
  rfl
/-- x = y = e -/
theorem s_two (c : Cxt P X d C Wx) {x y : Str} {i j : Nat} (hi : sIdx C.N x = some i) (hj : sIdx C.N y = some j) (hx : (okName x && locB C.sc x && stB C x) = true) (hy : (okName y && locB C.sc y && stB C y) = true) (he : PE X e (tM X.K X.mg Wx (evE n P d C e))) :
    PS X (.Assign [.Name x p1, .Name y p2] e pos) (tMS X.K X.mg Wx fun ρ => .bnd (evE n P d C e ρ) fun v => (match v.2 with
          | .sh => .ret (.nx, (ρ.set i (.im v.1)).set j (.im v.1))
          | _ => .no)) := by
  have g := (g_all c.calm c.N c.nd c.sc c.fn 1).1
  refine (ps_asg2 he (g (.Name x p1) .sh) (g (.Name y p2) .sh) (by rfl) (by cases e <;> rfl)).imp fun D σ H ⟨Mo, H0, L0, L, ρ, st, W0, r, l, h⟩ => ?_
  refine tS_rv r l h fun v st1 vv L1 H1 h1 p1' l1 rv fr => ?_
  obtain ⟨v, k⟩ := v
  cases k with
  | sh =>
    have h1 : NxS X.K X.mg Mo H0 L0 W0 st1 ((ρ.set i (.im v)).set j (.im v)) D.nx := h1
    refine ⟨Mo, H0, L0, L1, ρ, st1, v, _, p1'.rl, rv, by simp, (by intro z; cases z), asT_name hi hx, fun σ1 r1 l2 _ => ?_⟩
    exact ⟨Mo, H0, L0, L1, _, st1, v, _, r1, Rep.le l2 _ _ rv, by simp, (by intro z; cases z), asT_name hj hy, fun σ2 r2 l3 _ => h1 σ2 L1 H1 r2 ((l1.trans l2).trans l3)⟩
  | _ => exact h1.elim

/-! ### two values at once -/
def addK (Mo : Addr → Prop) : List DK → List V → Addr → Prop
  | (_, k) :: r, v :: vs => addK (addF Mo k v) r vs
  | _, _ => Mo
/-- two values with their standing -/
def tM2 (K : PySem.W.Frag) (mg : Str → Option Value) (Wx : WX) (m : List Sl → M (List DK)) : TA := fun σ H Q => ∃ Mo H0 L0 L ρ st, Rl K mg Mo H0 L0 L H ρ σ st ∧ Out (m ρ st) (fun xs st' => ∀ x y, xs = [x, y] → ∀ v u L' H',
    Po K mg Mo H0 L0 L H ρ σ (addF (addF Mo x.2 v) y.2 u) L' H' st' → x.2 ≠ .wk → y.2 ≠ .wk → RV K mg (wo (addF (addF Mo x.2 v) y.2 u) L' H' ρ σ) ρ σ x.1 x.2 v → RV K mg (wo (addF (addF Mo x.2 v) y.2 u) L' H' ρ σ) ρ σ y.1 y.2 u →
    (x.2 = .fr → ∀ a, v = .ref a → H a = none) → (y.2 = .fr → ∀ a, u = .ref a → ¬ addF Mo x.2 v a ∧ H a = none) → Q [v, u] H') (ExQ K mg Mo H0 L0 L H ρ σ Wx)
theorem RV.le {K : PySem.W.Frag} {mg : Str → Option Value} {W W' : Wo} {ρ : List Sl} {σ : L2.St} {x : D} {k : Kd} {v : V} (l : Le K W W') (hk : k ≠ .wk) (e : k = .fr → ∀ a (vs : HO), v = .ref a → W.H a = some vs → W'.H a = some vs) (h : RV K mg W ρ σ x k v) : RV K mg W' ρ σ x k v := by
  cases k with
  | wk => exact absurd rfl hk
  | sh => exact Rep.le l _ _ h
  | fr =>
    obtain ⟨a, rfl, o⟩ := h
    exact ⟨a, rfl, o.le l fun vs q => e rfl a vs rfl q⟩
theorem Po.few {K : PySem.W.Frag} {mg : Str → Option Value} {Mo Mo1 : Addr → Prop} {H0 H H1 : Hp} {L0 L L1 : List Addr} {ρ : List Sl} {σ : L2.St} {st1 : Store} (h : ∀ a, Mo a → Mo1 a) (p : Po K mg Mo H0 L0 L H ρ σ Mo1 L1 H1 st1) : Po K mg Mo H0 L0 L H ρ σ Mo L1 H1 st1 := by
  obtain ⟨r, l⟩ := p.rl.fewer (Mo' := Mo) h
  exact ⟨r, p.le.trans l, p.ex, p.nw⟩
theorem addF_sub {Mo : Addr → Prop} {k : Kd} {v : V} : ∀ a, Mo a → addF Mo k v a := fun a m => by
  cases k with
  | fr => cases v <;> first | exact m | exact .inl m
  | _ => exact m
theorem a_two {e1 e2 : Expr} (n1 : notStar e1 = true) (n2 : notStar e2 = true) (h1 : PE X e1 (tM X.K X.mg Wx (evE n P d C e1))) (h2 : PE X e2 (tM X.K X.mg Wx (evE n P d C e2))) :
    PA X [e1, e2] (tM2 X.K X.mg Wx fun ρ => .bnd (evE n P d C e1 ρ) fun v => .bnd (evE n P d C e2 ρ) fun w => pr2 v w) := by
  refine (pa_cons h1 (pa_cons h2 pa_nil (star_cons n2 _)) (star_cons n1 _)).imp fun σ H Q ⟨Mo, H0, L0, L, ρ, st, r, h⟩ => ?_
  refine ⟨Mo, H0, L0, L, ρ, st, r, (Out.bnd h).imp (fun x st1 h3 v L1 H1 p1 rv fr => ?_) fun _ _ q => q⟩
  refine ⟨addF Mo x.2 v, H0, L0, L1, ρ, st1, p1.rl, (Out.bnd h3).imp (fun y st2 h4 u L2' H2 p2 rw' fr2 => ?_) fun e st2 q => ?_⟩
  · unfold pr2 at h4
    split at h4
    · exact h4.elim
    · rename_i hk
      rw [Bool.or_eq_true, not_or] at hk
      have k1 : x.2 ≠ .wk := fun z => hk.1 (by rw [z]; rfl)
      have k2 : y.2 ≠ .wk := fun z => hk.2 (by rw [z]; rfl)
      refine Out.ret h4 x y rfl v u L2' H2 (p1.trans p2) k1 k2 (RV.le p2.le k1 (fun kf a vs e q => p2.ex _ _ q fun m => ?_) rv) rw' fr fun kf a e => ⟨fun m => p1.rl.mt a m (fr2 kf a e), p1.untr (fr2 kf a e)⟩
      refine p1.rl.lmo a m ?_
      rw [kf, e]
      exact .inr rfl
  · intro cls dd L' H' p x'
    exact q cls dd L' H' ((p1.trans (Mo2 := addF Mo x.2 v) ⟨(p.rl), p.le, p.ex, p.nw⟩).few addF_sub) (ExR.le (W' := wo Mo L' H' ρ σ) (Le.of_sub (M := Mt (addF Mo x.2 v) L' ρ σ) fun b m => Or.elim m (fun m => .inl (addF_sub b m)) .inr) rfl x')
theorem okT_ok (c : Cxt P X d C Wx) {x : Str} (h : okT C x = true) : ∃ i, sIdx C.N x = some i ∧ okName x = true ∧ locB C.sc x = true ∧ stB C x = true ∧ X.N[i]? = some x ∧ Loc X.env.scope x := by
  unfold okT at h
  rw [Bool.and_eq_true, Bool.and_eq_true, Bool.and_eq_true] at h
  obtain ⟨⟨⟨h1, h2⟩, h3⟩, h4⟩ := h
  obtain ⟨i, hi⟩ := Option.isSome_iff_exists.mp h4
  exact ⟨i, hi, h1, h2, h3, by rw [c.N]; exact sIdx_get hi, by rw [c.sc]; exact locB_ok h2⟩
theorem asK_two (c : Cxt P X d C Wx) {x y : Str} {i j : Nat} (hi : sIdx C.N x = some i) (hj : sIdx C.N y = some j) {px py : Pos} {a b : DK} {ρ ρ' : List Sl} (h : asK n C [.Name x px, .Name y py] [a, b] ρ = some ρ') : ∃ s1 s2, slotOf a.1 a.2 = some s1 ∧ slotOf b.1 b.2 = some s2 ∧ ρ' = (ρ.set i s1).set j s2 := by
  unfold asK at h
  split at h
  · rename_i ρ1 e1
    unfold asK at h
    split at h
    · rename_i ρ2 e2
      unfold asK at h
      cases h
      cases n with
      | zero => unfold asT at e1; cases e1
      | succ n =>
        unfold asT at e1 e2
        dsimp only at e1 e2
        split at e1
        · split at e2
          · rw [hi] at e1
            rw [hj] at e2
            cases f1 : slotOf a.1 a.2 with
            | none => rw [f1] at e1; cases e1
            | some s1 =>
              cases f2 : slotOf b.1 b.2 with
              | none => rw [f2] at e2; cases e2
              | some s2 =>
                rw [f1] at e1
                rw [f2] at e2
                cases e1
                cases e2
                exact ⟨s1, s2, rfl, rfl, rfl⟩
          · cases e2
        · cases e1
    · cases h
  · cases h
theorem N_ne {N : List Str} {x y : Str} {i j : Nat} (hi : N[i]? = some x) (hj : N[j]? = some y) (h : (x == y) = false) : i ≠ j := fun e => by
  rw [e, hj] at hi
  cases hi
  simp at h
/-- both are stored -/
theorem put_two {K : PySem.W.Frag} {mg : Str → Option Value} {Mo : Addr → Prop} {H0 H : Hp} {L0 L : List Addr} {ρ : List Sl} {σ : L2.St} {st : Store} {i j : Nat} (hij : i ≠ j) {a b : DK} {v u : V} {s1 s2 : Sl} (r : Rl K mg (addF (addF Mo a.2 v) b.2 u) H0 L0 L H ρ σ st)
    (k1 : a.2 ≠ .wk) (k2 : b.2 ≠ .wk) (rv1 : RV K mg (wo (addF (addF Mo a.2 v) b.2 u) L H ρ σ) ρ σ a.1 a.2 v) (rv2 : RV K mg (wo (addF (addF Mo a.2 v) b.2 u) L H ρ σ) ρ σ b.1 b.2 u) (f1 : a.2 = .fr → ∀ p, v = .ref p → ¬ Mo p ∧ H0 p = none) (f2 : b.2 = .fr → ∀ p, u = .ref p → ¬ addF Mo a.2 v p ∧ H0 p = none)
    (e1 : slotOf a.1 a.2 = some s1) (e2 : slotOf b.1 b.2 = some s2) : Rl K mg Mo H0 L0 L H ((ρ.set i s1).set j s2) ((σ.set i (some v)).set j (some u)) st ∧ Le K (wo (addF (addF Mo a.2 v) b.2 u) L H ρ σ) (wo Mo L H ((ρ.set i s1).set j s2) ((σ.set i (some v)).set j (some u))) := by
  obtain ⟨r1, l1⟩ := Rl.put (i := j) r rv2 f2 e2
  have rv1' : RV K mg (wo (addF Mo a.2 v) L H (ρ.set j s2) (σ.set j (some u))) (ρ.set j s2) (σ.set j (some u)) a.1 a.2 v := by
    have q := RV.le l1 k1 (fun _ a vs _ q => q) rv1
    obtain ⟨a1, ak⟩ := a
    cases ak with
    | wk => exact absurd rfl k1
    | sh => exact q
    | fr => exact q
  obtain ⟨r2, l2⟩ := Rl.put (i := i) r1 rv1' f1 e1
  rw [List.set_comm _ _ (Ne.symm hij), List.set_comm _ _ (Ne.symm hij)] at r2 l2
  exact ⟨r2, l1.trans l2⟩
/-- what swappedStores looks at -/
theorem sw_pair {n1 : notStar a = true} {n2 : notStar b = true} (hk : X.env.blockKind = .function) {x y : Str} {px py : Pos} {k k2 : Nat} (k1 : X.env.kindOf x = some .local) (k3 : X.env.kindOf y = some .local) (hl : (px.line == py.line) = true) (hn : (x == y) = false)
    (h5 : [a, b].all (foldedForSure 8) = false) (h6 : [a, b].all (constantsAlone 8) = false) : swappedStores [.Tuple [.Name x px, .Name y py] k p1] (.Tuple [a, b] k2 p2) X.env = pure (some [x, y]) := by
  have hst : ([a, b].any fun e => match e with | .Starred .. => true | _ => false) = false := by
    cases a <;> cases b <;> first | rfl | exact absurd n1 Bool.false_ne_true | exact absurd n2 Bool.false_ne_true
  have hl' : (py.line == px.line) = true := by
    have := eq_of_beq hl
    rw [this]; simp
  have hd : [x, y].eraseDups.length = 2 := by
    have : (y == x) = false := by
      cases e : y == x with
      | false => rfl
      | true =>
        have := eq_of_beq e
        rw [this] at hn
        simp at hn
    simp [List.eraseDups, List.eraseDupsBy, List.eraseDupsBy.loop, this, hn]
  unfold swappedStores
  simp only [hk, k1, k3, h5, h6, hl', List.length_cons, List.length_nil, List.filterMap_cons, List.filterMap_nil, Expr.pos, List.head?_cons, Option.map_some, Option.getD_some, beq_self_eq_true, Bool.and_true, if_true]
  refine Eq.trans (if_neg (by decide)) ?_
  refine Eq.trans (if_neg (by rw [Bool.not_eq_true]; exact hst)) ?_
  refine Eq.trans (if_neg ?_) ?_
  · show ¬ ([x, y].length != 2 || [x, y].eraseDups.length != [x, y].length) = true
    rw [hd]
    simp
  · rfl
theorem s_par (c : Cxt P X d C Wx) {x y : Str} {px py : Pos} {e1 e2 : Expr} {k k2 : Nat} (n1 : notStar e1 = true) (n2 : notStar e2 = true) (t1 : okT C x = true) (t2 : okT C y = true) (hp : par2 C x px y py e1 e2 = true)
    (h1 : PE X e1 (tM X.K X.mg Wx (evE n P d C e1))) (h2 : PE X e2 (tM X.K X.mg Wx (evE n P d C e2))) :
    PS X (.Assign [.Tuple [.Name x px, .Name y py] k p1] (.Tuple [e1, e2] k2 p2) pos) (tMS X.K X.mg Wx fun ρ => .bnd (.bnd (evE n P d C e1 ρ) fun v => .bnd (evE n P d C e2 ρ) fun w => pr2 v w) fun vs => .opt ((asK n C [.Name x px, .Name y py] vs ρ).map fun ρ' => (.nx, ρ'))) := by
  obtain ⟨i, hi, _, _, _, gi, _⟩ := okT_ok c t1
  obtain ⟨j, hj, _, _, _, gj, _⟩ := okT_ok c t2
  unfold par2 at hp
  simp only [Bool.and_eq_true] at hp
  obtain ⟨⟨⟨⟨⟨⟨⟨q1, q2⟩, q3⟩, q4⟩, q5⟩, q6⟩, q7⟩, q8⟩ := hp
  have q4' : (x == y) = false := by simpa using q4
  have l1 : X.env.scope.names.lookup x = some .local := by rw [c.sc]; exact of_decide_eq_true q1
  have l2 : X.env.scope.names.lookup y = some .local := by rw [c.sc]; exact of_decide_eq_true q2
  have hk : X.env.blockKind = .function := by
    have : X.env.scope.kind = .function := by
      rw [c.sc]
      cases e : C.sc.kind <;> first | rfl | (rw [e] at q8; cases q8)
    unfold Env.blockKind
    rw [this]
    rfl
  have hij := N_ne gi gj q4'
  refine (ps_par c.calm (by rw [c.N]; exact c.nd) gi gj hij l1 l2 (a_two n1 n2 h1 h2) (sw_pair (n1 := n1) (n2 := n2) hk l1 l2 q3 q4' (by rw [Bool.not_eq_true'] at q5; exact q5) (by rw [Bool.not_eq_true'] at q6; exact q6)) rfl).imp fun D σ H ⟨Mo, H0, L0, L, ρ, st, W0, r, l, h⟩ => ?_
  refine ⟨Mo, H0, L0, L, ρ, st, r, (Out.bnd h).imp (fun xs st1 h3 a b exs v u L1 H1 p1 k1 k2 rv1 rv2 f1 f2 => ?_) fun _ _ q => q.q l⟩
  refine ⟨v, u, rfl, ?_⟩
  subst exs
  obtain ⟨z, e3, q⟩ := Out.opt h3
  cases hA : asK n C [.Name x px, .Name y py] [a, b] ρ with
  | none => rw [hA] at e3; cases e3
  | some ρ' =>
    rw [hA] at e3
    cases e3
    obtain ⟨s1, s2, g1, g2, rfl⟩ := asK_two c hi hj hA
    obtain ⟨r2, l2⟩ := put_two hij p1.rl k1 k2 rv1 rv2 (fun kf p e => ⟨fun m => r.mt p m (f1 kf p e), r.free0 (f1 kf p e)⟩) (fun kf p e => ⟨(f2 kf p e).1, r.free0 (f2 kf p e).2⟩) g1 g2
    exact (q : NxS _ _ _ _ _ _ _ _ _) _ L1 H1 r2 ((l.trans p1.le).trans l2)
theorem seq_sw (hk : True) {x y : Str} {px py : Pos} {e1 e2 : Expr} {k k2 : Nat} (h : ¬ (X.env.kindOf x = some .local ∧ X.env.kindOf y = some .local)) : swappedStores [.Tuple [.Name x px, .Name y py] k p1] (.Tuple [e1, e2] k2 p2) X.env = pure none := by
  unfold swappedStores
  dsimp only
  split
  · rfl
  · split
    · rfl
    · have hl : ¬ ((([Expr.Name x px, Expr.Name y py].filterMap fun
        | .Name id pos => if (X.env.kindOf id == some .local && pos.line == (([Expr.Name x px, Expr.Name y py].head?.map (·.pos.line)).getD 0)) = true then some id else none
        | _ => none).length) = 2) := by
        intro z
        apply h
        by_cases a1 : X.env.kindOf x = some .local
        · by_cases a2 : X.env.kindOf y = some .local
          · exact ⟨a1, a2⟩
          · have b2 : (X.env.kindOf y == some NameKind.local) = false := by simpa using a2
            simp only [List.filterMap_cons, List.filterMap_nil, b2, Bool.false_and, Bool.false_eq_true, if_false] at z
            split at z <;> simp at z
        · have b1 : (X.env.kindOf x == some NameKind.local) = false := by simpa using a1
          simp only [List.filterMap_cons, List.filterMap_nil, b1, Bool.false_and, Bool.false_eq_true, if_false] at z
          split at z <;> simp at z
      refine if_pos ?_
      rw [Bool.or_eq_true]
      left
      rw [bne_iff_ne]
      exact hl
theorem s_seq (c : Cxt P X d C Wx) {x y : Str} {px py : Pos} {e1 e2 : Expr} {k k2 : Nat} (n1 : notStar e1 = true) (n2 : notStar e2 = true) (t1 : okT C x = true) (t2 : okT C y = true) (hp : seq2 C x y = true)
    (h1 : PE X e1 (tM X.K X.mg Wx (evE n P d C e1))) (h2 : PE X e2 (tM X.K X.mg Wx (evE n P d C e2))) :
    PS X (.Assign [.Tuple [.Name x px, .Name y py] k p1] (.Tuple [e1, e2] k2 p2) pos) (tMS X.K X.mg Wx fun ρ => .bnd (.bnd (evE n P d C e1 ρ) fun v => .bnd (evE n P d C e2 ρ) fun w => pr2 v w) fun vs => .opt ((asK n C [.Name x px, .Name y py] vs ρ).map fun ρ' => (.nx, ρ'))) := by
  obtain ⟨i, hi, _, _, st1, gi, o1⟩ := okT_ok c t1
  obtain ⟨j, hj, _, _, st2, gj, o2⟩ := okT_ok c t2
  unfold seq2 at hp
  rw [Bool.and_eq_true] at hp
  have q4' : (x == y) = false := by simpa using hp.1
  have hij := N_ne gi gj q4'
  have hw : swappedStores [.Tuple [.Name x px, .Name y py] k p1] (.Tuple [e1, e2] k2 p2) X.env = pure none := seq_sw trivial fun ⟨a1, a2⟩ => by
    have b1 : C.sc.names.lookup x = some .local := by rw [← c.sc]; exact a1
    have b2 : C.sc.names.lookup y = some .local := by rw [← c.sc]; exact a2
    have := hp.2
    rw [b1, b2] at this
    simp at this
  have hg : PGs X [.Name x px, .Name y py] (gCons (gName i) (gCons (gName j) gNil)) := pgs_cons (pg_name (by rw [c.N]; exact c.nd) gi o1 (c.fn x st1 o1)) (pgs_cons (pg_name (by rw [c.N]; exact c.nd) gj o2 (c.fn y st2 o2)) pgs_nil)
  refine (ps_asg (pe_tup (x1 := k2) (a_two n1 n2 h1 h2)) ((pg_tup (k := k) (n := 2) c.calm hg rfl rfl).kfIn) rfl hw).imp fun D σ H ⟨Mo, H0, L0, L, ρ, st, W0, r, l, h⟩ => ?_
  refine ⟨Mo, H0, L0, L, ρ, st, r, (Out.bnd h).imp (fun xs st1 h3 a b exs v u L1 H1 p1 k1 k2 rv1 rv2 f1 f2 => ?_) fun _ _ q => q.q l⟩
  refine ⟨by show 2 ≤ sizeLine; rw [sizeLine_eq]; decide, fun p hp kf => ⟨p, [v, u], rfl, .inl (.inl upd_same), rfl, v, [u], rfl, u, [], rfl, rfl, ?_⟩⟩
  subst exs
  obtain ⟨z, e3, q⟩ := Out.opt h3
  cases hA : asK n C [.Name x px, .Name y py] [a, b] ρ with
  | none => rw [hA] at e3; cases e3
  | some ρ' =>
    rw [hA] at e3
    cases e3
    obtain ⟨s1, s2, g1, g2, rfl⟩ := asK_two c hi hj hA
    have pl := Po.laid p1.rl hp kf
    have hne : ∀ {k : Kd} {w : V} {vs : HO} {b : Addr}, H1 b = some vs → upd H1 p (.tup [v, u]) b = some vs := fun e => by rw [upd_ne (ne_of_none e hp)]; exact e
    obtain ⟨r2, l2⟩ := put_two hij pl.rl k1 k2 (RV.le pl.le k1 (fun _ a vs _ e => hne (k := .sh) (w := .non) e) rv1) (RV.le pl.le k2 (fun _ a vs _ e => hne (k := .sh) (w := .non) e) rv2) (fun kf p e => ⟨fun m => r.mt p m (f1 kf p e), r.free0 (f1 kf p e)⟩) (fun kf p e => ⟨(f2 kf p e).1, r.free0 (f2 kf p e).2⟩) g1 g2
    exact (q : NxS _ _ _ _ _ _ _ _ _) _ L1 _ r2 (((l.trans p1.le).trans pl.le).trans l2)

/-! ### a list is changed -/
theorem RV.strong {K : PySem.W.Frag} {mg : Str → Option Value} {Mo : Addr → Prop} {H0 H H1 : Hp} {L0 L L1 : List Addr} {ρ : List Sl} {σ : L2.St} {st st1 : Store} {v : V} {x : DK} {z : D} (h : PI.strong [x] = some [z]) (r0 : Rl K mg Mo H0 L0 L H ρ σ st) (p : Po K mg Mo H0 L0 L H ρ σ (addF Mo x.2 v) L1 H1 st1) (rv : RV K mg (wo (addF Mo x.2 v) L1 H1 ρ σ) ρ σ x.1 x.2 v)
    (fr : x.2 = .fr → ∀ a, v = .ref a → H a = none) : Po K mg Mo H0 L0 L H ρ σ Mo L1 H1 st1 ∧ Rep K mg (wo Mo L1 H1 ρ σ) z v := by
  obtain ⟨x, k⟩ := x
  cases k with
  | wk => cases h
  | sh => cases h; exact p.share rv fr r0 (by simp)
  | fr => cases h; exact p.share rv fr r0 (by simp)
theorem strong_cases (x : DK) : (∃ z, PI.strong [x] = some [z]) ∨ PI.strong [x] = none := by
  obtain ⟨x, k⟩ := x
  cases k with
  | wk => exact .inr rfl
  | sh => exact .inl ⟨x, rfl⟩
  | fr => exact .inl ⟨x, rfl⟩
theorem nslice_ok {i : Expr} (h : notSlice i = true) (o : Expr) (p : Pos) : ∀ v, assign (.Subscript o i p) X.env v = (do
      let ov ← holding [v] (eval o X.env)
      let iv ← holding [v, ov] (eval i X.env)
      standAt p
      holding [v, ov, iv] (setItem ov iv v)
      release [v, ov, iv] []) := by
  intro v
  cases i <;> first | rfl | exact absurd h Bool.false_ne_true
def subM (n : Nat) (P : Pg) (d : Nat) (C : Ct) (x : Str) (i e : Expr) (ρ : List Sl) : M (Fl × List Sl) := .bnd (evE n P d C e ρ) fun v => (match strong [v], sIdx C.N x with
        | some [z], some j => (match ρ[j]? with
          | some (.im (.obj l)) => .bnd (evE n P d C i ρ) fun y => (match strong [y] with
            | some [q] => fun st => (match st[l]? with
              | some (.box b) => (match setAt b q z with
                | some b' => .ok (.nx, ρ) (st.set l (.box b'))
                | none => .no)
              | _ => .no)
            | _ => .no)
          | some (.ow b) => .bnd (evE n P d C i ρ) fun y => (match strong [y] with
            | some [q] => .opt ((setAt b q z).map fun b' => (.nx, ρ.set j (.ow b')))
            | _ => .no)
          | _ => .no)
        | _, _ => .no)
/-- the same on the side of lists, and of dicts -/
def isDt : D → Bool
  | .dct _ _ => true
  | _ => false
def subE (n : Nat) (P : Pg) (d : Nat) (C : Ct) (x : Str) (i e : Expr) (ρ : List Sl) (st : Store) : Option Bool := match evE n P d C e ρ st with
  | .ok _ st1 => (match sIdx C.N x with
    | some j => (match ρ[j]? with
      | some (.im (.obj l)) => (match evE n P d C i ρ st1 with
        | .ok _ st2 => (match st2[l]? with
          | some (.box b) => some (isDt b)
          | _ => none)
        | _ => none)
      | some (.ow b) => some (isDt b)
      | _ => none)
    | none => none)
  | _ => none
/-- what is stored -/
theorem set_at {K : PySem.W.Frag} {mg : Str → Option Value} {Mo : Addr → Prop} {H0 H2 : Hp} {L0 L2' : List Addr} {ρ : List Sl} {σ : L2.St} {st2 : Store} {b b' q z : D} {a : Addr} {yv vv : V} (r : Rl K mg Mo H0 L0 L2' H2 ρ σ st2)
    (ow : Own K mg (wo Mo L2' H2 ρ σ) b a) (w2 : Rep K mg (wo Mo L2' H2 ρ σ) q yv) (w1 : Rep K mg (wo Mo L2' H2 ρ σ) z vv) (e : setAt b q z = some b') :
    (isDt b = false ∧ ∃ us i m, yv = .int i ∧ H2 a = some (.lst us) ∧ ixN us.length i = some m ∧ (∀ W', Le K (wo Mo L2' H2 ρ σ) W' → W'.H a = some (.lst (us.set m vv)) → Own K mg W' b' a)) ∨
    (isDt b = true ∧ ∃ o L k, DcA H2 a o L ∧ Ky K H2 L k yv ∧ L.length < sizeLine ∧ ∀ o', Dc o' (PD.put L k yv vv) → ∀ W', Le K (wo Mo L2' H2 ρ σ) W' → W'.H a = some (DX a o') → Own K mg W' b' a) := by
  cases b with
  | lst xs =>
    cases q with
    | int i =>
      replace e : ((ixN xs.length i).map fun m => D.lst (xs.set m z)) = some b' := e
      obtain ⟨us, h1, h2⟩ := ow
      unfold Rep at w2
      cases hm : ixN xs.length i with
      | none => rw [hm] at e; cases e
      | some m =>
        rw [hm] at e
        cases e
        exact .inl ⟨rfl, us, i, m, w2, h1, by rw [h2.length]; exact hm, fun W' l e => ⟨_, e, RepL.set (Rep.le l _ _ w1) m (RepL.le l _ _ h2)⟩⟩
    | _ => cases e
  | dct ks vs =>
    replace e : ((putD ks vs q z).map fun p => D.dct p.1 p.2) = some b' := by cases q <;> exact e
    obtain ⟨o, L, R⟩ := ow.dct
    cases hp : putD ks vs q z with
    | none => rw [hp] at e; cases e
    | some p =>
      rw [hp] at e
      cases e
      obtain ⟨q', ky, s3, fin⟩ := R.put w2 w1 hp
      exact .inr ⟨rfl, o, L, q', R.at', ky, s3, fun o' c W' l e => (fin W' o' l e c).own⟩
  | _ => cases q <;> cases e
theorem _root_.L2.PS.or {st : Stmt} {t t' : TS} (h : PS X st t) (h' : PS X st t') : PS X st (fun D σ H => t D σ H ∨ t' D σ H) := ⟨fun pins s σ H D I q => by
  rcases q with q | q
  · exact h.run pins s σ H D I q
  · exact h'.run pins s σ H D I q⟩
theorem s_sub (c : Cxt P X d C Wx) {x : Str} {i : Expr} (hk : okName x = true) (hv : visB C.sc x = true) (hn : notSlice i = true) (hjs : (sIdx C.N x).isSome = true) (he : PE X e (tM X.K X.mg Wx (evE n P d C e))) (hi : PE X i (tM X.K X.mg Wx (evE n P d C i)))
    (hs : swapsWith e (some (.Subscript (.Name x p2) i p1)) pos.line X.env = pure false) : PS X (.Assign [.Subscript (.Name x p2) i p1] e pos) (tMS X.K X.mg Wx (subM n P d C x i e)) := by
  obtain ⟨n1, n2, n3⟩ := okName_3 hk
  cases hj : sIdx C.N x with
  | none => rw [hj] at hjs; cases hjs
  | some j =>
    have hN : X.N[j]? = some x := by rw [c.N]; exact sIdx_get hj
    have hvis : Vis X.env.scope x := by rw [c.sc]; exact visB_ok hv
    have hu : X.A.units + 9 < cLine := by have := c.units; omega
    refine ((show PS X (.Assign [.Subscript (.Name x p2) i p1] e pos) _ from ps_asg he (pg_sub (pe_var (pos := p2) hN hvis n1 n2) hi set_list (nslice_ok hn _ _)) hs (by cases e <;> rfl) rfl).or (PD.ps_xput hu (pe_var (pos := p2) hN hvis n1 n2) hi he hs)).imp fun D σ H ⟨Mo, H0, L0, L, ρ, st, W0, r, l, h⟩ => ?_
    -- which of the two it is
    have go : ∀ tb : Bool, (∀ t, subE n P d C x i e ρ st = some t → t = tb) → Out (evE n P d C e ρ st) (fun v st1 => ∀ vv L1 H1, Po X.K X.mg Mo H0 L0 L H ρ σ (addF Mo v.2 vv) L1 H1 st1 → RV X.K X.mg (wo (addF Mo v.2 vv) L1 H1 ρ σ) ρ σ v.1 v.2 vv → (v.2 = .fr → ∀ a, vv = .ref a → H a = none) →
        ∃ ov, σ[j]? = some (some ov) ∧ ∃ Mo H0 L0 L ρ st, Rl X.K X.mg Mo H0 L0 L H1 ρ σ st ∧ Out (evE n P d C i ρ st) (fun y st2 => ∀ yv L2' H2, Po X.K X.mg Mo H0 L0 L H1 ρ σ (addF Mo y.2 yv) L2' H2 st2 → RV X.K X.mg (wo (addF Mo y.2 yv) L2' H2 ρ σ) ρ σ y.1 y.2 yv → (y.2 = .fr → ∀ a, yv = .ref a → H1 a = none) →
          ∃ a, ov = .ref a ∧ ((tb = false ∧ ∃ us i m, yv = .int i ∧ H2 a = some (.lst us) ∧ ixN us.length i = some m ∧ D.nx σ (upd H2 a (.lst (us.set m vv)))) ∨
            (tb = true ∧ ∃ o L k, DcA H2 a o L ∧ Ky X.K H2 L k yv ∧ L.length < sizeLine ∧ ∀ o', Dc o' (PD.put L k yv vv) → D.nx σ (upd H2 a (DX a o'))))) (ExQ X.K X.mg Mo H0 L0 L H1 ρ σ Wx)) (ExQ X.K X.mg Mo H0 L0 L H ρ σ Wx) := fun tb ht => by
      unfold subM at h
      have h := Out.bnd h
      cases e0 : evE n P d C e ρ st with
      | no => rw [e0] at h; exact h.elim
      | ex x' st1 => rw [e0] at h; exact ExS.q l h
      | ok v st1 =>
      rw [e0] at h
      intro vv L1 H1 p rv fr
      have h1 : Out ((match strong [v], sIdx C.N x with
        | some [z], some j => (match ρ[j]? with
          | some (.im (.obj l)) => .bnd (evE n P d C i ρ) fun y => (match strong [y] with
            | some [q] => fun st => (match st[l]? with
              | some (.box b) => (match setAt b q z with
                | some b' => .ok (.nx, ρ) (st.set l (.box b'))
                | none => .no)
              | _ => .no)
            | _ => .no)
          | some (.ow b) => .bnd (evE n P d C i ρ) fun y => (match strong [y] with
            | some [q] => .opt ((setAt b q z).map fun b' => (Fl.nx, ρ.set j (.ow b')))
            | _ => .no)
          | _ => .no)
        | _, _ => .no : M (Fl × List Sl)) st1) (OkS X.K X.mg Mo H0 L0 W0 D) (ExS X.K X.mg Mo H0 L0 W0 Wx) := h
      rcases strong_cases v with ⟨z, hz⟩ | hz
      · obtain ⟨p1', w1⟩ := RV.strong hz r p rv fr
        have l1 := l.trans p1'.le
        rw [hz, hj] at h1
        dsimp only at h1
        cases hρ : ρ[j]? with
        | none => rw [hρ] at h1; exact h1.elim
        | some s =>
          rw [hρ] at h1
          have sl := p1'.rl.slot j s hρ
          cases s with
          | un => exact h1.elim
          | im dd =>
            cases dd with
            | obj l' =>
              obtain ⟨ov, e1, rep⟩ := sl
              refine ⟨ov, e1, Mo, H0, L0, L1, ρ, st1, p1'.rl, ?_⟩
              have h2 := Out.bnd h1
              cases e2 : evE n P d C i ρ st1 with
              | no => rw [e2] at h2; exact h2.elim
              | ex x' st2 => rw [e2] at h2; exact ExS.q l1 h2
              | ok y st2 =>
              rw [e2] at h2
              intro yv L2' H2 p2 rv2 fr2
              rcases strong_cases y with ⟨q, hq⟩ | hq
              · obtain ⟨p2', w2⟩ := RV.strong hq p1'.rl p2 rv2 fr2
                replace h2 : Out ((match strong [y] with
                  | some [q] => fun st => (match st[l']? with
                    | some (.box b) => (match setAt b q z with
                      | some b' => .ok (Fl.nx, ρ) (st.set l' (.box b'))
                      | none => .no)
                    | _ => .no)
                  | _ => .no : M (Fl × List Sl)) st2) (OkS X.K X.mg Mo H0 L0 W0 D) (ExS X.K X.mg Mo H0 L0 W0 Wx) := h2
                rw [hq] at h2
                dsimp only at h2
                cases hst : st2[l']? with
                | none => rw [hst] at h2; exact h2.elim
                | some cell =>
                  cases cell with
                  | tab A q => rw [hst] at h2; exact h2.elim
                  | box b =>
                    rw [hst] at h2
                    dsimp only at h2
                    cases hm : setAt b q z with
                    | none => rw [hm] at h2; exact h2.elim
                    | some b' =>
                      rw [hm] at h2
                      have h2 : NxS X.K X.mg Mo H0 L0 W0 (st2.set l' (.box b')) ρ D.nx := h2
                      replace rep := Rep.le p2'.le _ _ rep
                      unfold Rep at rep
                      obtain ⟨a, rfl, ha⟩ := rep
                      have l2 := l1.trans p2'.le
                      have ht' : isDt b = tb := ht _ (by unfold subE; rw [e0]; dsimp only; rw [hj]; dsimp only; rw [hρ]; dsimp only; rw [e2]; dsimp only; rw [hst])
                      rcases set_at p2'.rl (p2'.rl.cel l' _ a hst ha) w2 (Rep.le p2'.le _ _ w1) hm with ⟨t1, us, q', m, g1, g2, g3, g4⟩ | ⟨t1, o, LL, k, g1, g2, g3, g4⟩
                      · obtain ⟨r5, l5⟩ := Rl.chgLB (d1 := b') (u := .lst (us.set m vv)) p2'.rl True.intro hst ha g4
                        exact ⟨a, rfl, .inl ⟨ht'.symm.trans t1, us, q', m, g1, g2, g3, h2 σ L2' _ r5 (l2.trans l5)⟩⟩
                      · refine ⟨a, rfl, .inr ⟨ht'.symm.trans t1, o, LL, k, g1, g2, g3, fun o' co => ?_⟩⟩
                        obtain ⟨r5, l5⟩ := Rl.chgLB (d1 := b') (u := DX a o') p2'.rl True.intro hst ha (g4 o' co)
                        exact h2 σ L2' _ r5 (l2.trans l5)
              · replace h2 : Out ((match strong [y] with
                  | some [q] => fun st => (match st[l']? with
                    | some (.box b) => (match setAt b q z with
                      | some b' => .ok (Fl.nx, ρ) (st.set l' (.box b'))
                      | none => .no)
                    | _ => .no)
                  | _ => .no : M (Fl × List Sl)) st2) (OkS X.K X.mg Mo H0 L0 W0 D) (ExS X.K X.mg Mo H0 L0 W0 Wx) := h2
                rw [hq] at h2
                exact h2.elim
            | _ => exact h1.elim
          | ow b =>
            obtain ⟨a, e1, o⟩ := sl
            refine ⟨.ref a, e1, Mo, H0, L0, L1, ρ, st1, p1'.rl, ?_⟩
            have h2 := Out.bnd h1
            cases e2 : evE n P d C i ρ st1 with
            | no => rw [e2] at h2; exact h2.elim
            | ex x' st2 => rw [e2] at h2; exact ExS.q l1 h2
            | ok y st2 =>
            rw [e2] at h2
            intro yv L2' H2 p2 rv2 fr2
            replace h2 : Out ((match strong [y] with
              | some [q] => .opt ((setAt b q z).map fun b' => (Fl.nx, ρ.set j (.ow b')))
              | _ => .no : M (Fl × List Sl)) st2) (OkS X.K X.mg Mo H0 L0 W0 D) (ExS X.K X.mg Mo H0 L0 W0 Wx) := h2
            rcases strong_cases y with ⟨q, hq⟩ | hq
            · obtain ⟨p2', w2⟩ := RV.strong hq p1'.rl p2 rv2 fr2
              rw [hq] at h2
              dsimp only at h2
              obtain ⟨zz, ez, h2⟩ := Out.opt h2
              cases hm : setAt b q z with
              | none => rw [hm] at ez; cases ez
              | some b' =>
                rw [hm] at ez
                cases ez
                have h2 : NxS X.K X.mg Mo H0 L0 W0 st2 (ρ.set j (.ow b')) D.nx := h2
                have l2 := l1.trans p2'.le
                obtain ⟨b0, e3, o2⟩ := p2'.rl.slot j _ hρ
                rw [e1] at e3
                cases e3
                have ht' : isDt b = tb := ht _ (by unfold subE; rw [e0]; dsimp only; rw [hj]; dsimp only; rw [hρ])
                rcases set_at p2'.rl o2 w2 (Rep.le p2'.le _ _ w1) hm with ⟨t1, us, q', m, g1, g2, g3, g4⟩ | ⟨t1, o, LL, k, g1, g2, g3, g4⟩
                · obtain ⟨r5, l5⟩ := Rl.chgB (d1 := b') (u := .lst (us.set m vv)) p2'.rl True.intro hρ e1 g4
                  exact ⟨a, rfl, .inl ⟨ht'.symm.trans t1, us, q', m, g1, g2, g3, h2 σ L2' _ r5 (l2.trans l5)⟩⟩
                · refine ⟨a, rfl, .inr ⟨ht'.symm.trans t1, o, LL, k, g1, g2, g3, fun o' co => ?_⟩⟩
                  obtain ⟨r5, l5⟩ := Rl.chgB (d1 := b') (u := DX a o') p2'.rl True.intro hρ e1 (g4 o' co)
                  exact h2 σ L2' _ r5 (l2.trans l5)
            · rw [hq] at h2
              exact h2.elim
      · rw [hz] at h1
        exact h1.elim
    by_cases hb : subE n P d C x i e ρ st = some true
    · refine .inr ⟨Mo, H0, L0, L, ρ, st, r, (go true fun t ht => by rw [hb] at ht; cases ht; rfl).imp (fun v st1 g vv L1 H1 p rv fr => ?_) fun _ _ q => q⟩
      obtain ⟨ov, e1, Mo', H0', L0', L', ρ', st', r', g⟩ := g vv L1 H1 p rv fr
      refine ⟨ov, e1, Mo', H0', L0', L', ρ', st', r', g.imp (fun y st2 g yv L2' H2 p2 rv2 fr2 => ?_) fun _ _ q => q⟩
      obtain ⟨a, rfl, g | ⟨_, o, LL, k, g⟩⟩ := g yv L2' H2 p2 rv2 fr2
      · cases g.1
      · exact ⟨a, o, LL, k, rfl, g⟩
    · refine .inl ⟨Mo, H0, L0, L, ρ, st, r, (go false fun t ht => by
        cases t with
        | true => exact absurd ht hb
        | false => rfl).imp (fun v st1 g vv L1 H1 p rv fr => ?_) fun _ _ q => q⟩
      obtain ⟨ov, e1, Mo', H0', L0', L', ρ', st', r', g⟩ := g vv L1 H1 p rv fr
      refine ⟨ov, e1, Mo', H0', L0', L', ρ', st', r', g.imp (fun y st2 g yv L2' H2 p2 rv2 fr2 => ?_) fun _ _ q => q⟩
      obtain ⟨a, rfl, ⟨_, us, q, m, g⟩ | g⟩ := g yv L2' H2 p2 rv2 fr2
      · exact ⟨a, us, q, m, rfl, g⟩
      · cases g.1
def appM (n : Nat) (P : Pg) (d : Nat) (C : Ct) (j : Nat) (e : Expr) (ρ : List Sl) : M (Fl × List Sl) := (match ρ[j]? with
          | some (.ow (.lst xs)) => .bnd (evE n P d C e ρ) fun v => (match strong [v] with
            | some [z] => if xs.length < lim then .ret (.nx, ρ.set j (.ow (.lst (xs ++ [z])))) else .no
            | _ => .no)
          | some (.im (.obj l)) => isLst l <| .bnd (evE n P d C e ρ) fun v => (match strong [v] with
            | some [z] => fun st => (match st[l]? with
              | some (.box (.lst xs)) => if xs.length < lim then .ok (.nx, ρ) (st.set l (.lst (xs ++ [z]))) else .no
              | _ => .no)
            | _ => .no)
          | _ => .no)
theorem s_app (c : Cxt P X d C Wx) {x : Str} {j : Nat} (hj : sIdx C.N x = some j) (hk : okName x = true) (hv : visB C.sc x = true) (hs : notStar e = true) (hl : (ap.endLine == p2.line) = true) (he : PE X e (tM X.K X.mg Wx (evE n P d C e))) :
    PS X (.Expr (.Call (.Attribute (.Name x p1) "append" ap) [e] [] p2) pos) (tMS X.K X.mg Wx (appM n P d C j e)) := by
  obtain ⟨n1, n2, n3⟩ := okName_3 hk
  have hN : X.N[j]? = some x := by rw [c.N]; exact sIdx_get hj
  have hvis : Vis X.env.scope x := by rw [c.sc]; exact visB_ok hv
  refine (ps_expr (pe_bm PySem.F.plainAttrs_list PySem.F.slot_list_append PySem.F.type_list_append mt_append (pe_var (pos := p1) hN hvis n1 n2) (pa_cons he pa_nil (star_cons hs _)) rfl (by
    have h1 := star_cons (es := []) hs X.env
    rw [h1]
    simp only [backTo, List.map_cons, List.all_cons, starEach]
    rfl) hl (star_cons hs _) rfl) rfl).imp fun D σ H ⟨Mo, H0, L0, L, ρ, st, W0, r, l, h⟩ => ?_
  unfold appM at h
  cases hρ : ρ[j]? with
  | none => rw [hρ] at h; exact h.elim
  | some s =>
    rw [hρ] at h
    have sl := r.slot j s hρ
    cases s with
    | un => exact h.elim
    | im dd =>
      cases dd with
      | obj l' =>
        obtain ⟨ov, e1, rep⟩ := sl
        unfold Rep at rep
        obtain ⟨a, rfl, ha⟩ := rep
        have ha : L[l']? = some a := ha
        dsimp only at h
        obtain ⟨us0, g0, h⟩ : ∃ us0, H a = some (.lst us0) ∧ Out (M.bnd (evE n P d C e ρ) (fun v => (match strong [v] with
            | some [z] => fun st => (match st[l']? with
              | some (.box (.lst xs)) => if xs.length < lim then .ok (.nx, ρ) (st.set l' (.lst (xs ++ [z]))) else .no
              | _ => .no)
            | _ => .no : M (Fl × List Sl))) st) (OkS X.K X.mg Mo H0 L0 W0 D) (ExS X.K X.mg Mo H0 L0 W0 Wx) := by
          unfold isLst at h
          cases hst0 : st[l']? with
          | none => rw [hst0] at h; exact h.elim
          | some cell =>
            cases cell with
            | tab A q => rw [hst0] at h; exact h.elim
            | box dd =>
              rcases (show (∃ xs0, dd = .lst xs0) ∨ ¬ ∃ xs0, dd = .lst xs0 from Classical.em _) with ⟨xs0, rfl⟩ | hn
              · rw [hst0] at h
                obtain ⟨us0, g0, _⟩ := r.cel l' _ a hst0 ha
                exact ⟨us0, g0, h⟩
              · rw [hst0] at h; cases dd <;> first | exact h.elim | exact absurd ⟨_, rfl⟩ hn
        refine ⟨.ref a, e1, .inl ⟨rfl, us0, .of g0⟩, ?_⟩
        refine ⟨Mo, H0, L0, L, ρ, st, r, (Out.bnd h).imp (fun v st1 h1 vv L1 H1 p rv fr => ?_) fun _ _ q => q.q l⟩
        rcases strong_cases v with ⟨z, hz⟩ | hz
        · obtain ⟨p1', w1⟩ := RV.strong hz r p rv fr
          have l1 := l.trans p1'.le
          rw [hz] at h1
          dsimp only at h1
          cases hst : st1[l']? with
          | none => rw [hst] at h1; exact h1.elim
          | some cell =>
            cases cell with
            | tab A q => rw [hst] at h1; exact h1.elim
            | box dd =>
              rcases (show (∃ xs, dd = .lst xs) ∨ ¬ ∃ xs, dd = .lst xs from Classical.em _) with ⟨xs, rfl⟩ | hn
              · rw [hst] at h1
                dsimp only at h1
                split at h1
                · rename_i hlt
                  have h1 : NxS X.K X.mg Mo H0 L0 W0 (st1.set l' (.lst (xs ++ [z]))) ρ D.nx := h1
                  have ha1 : L1[l']? = some a := get_prefix p1'.le.L ha
                  obtain ⟨us, e4, e5⟩ := p1'.rl.cel l' _ a hst ha1
                  obtain ⟨r5, l5⟩ := Rl.chgL (ys := xs ++ [z]) (us := us ++ [vv]) p1'.rl hst ha1 (e5.append (.cons w1 .nil))
                  exact ⟨a, us, vv, rfl, rfl, e4, by rw [e5.length, ← lim_eq]; exact hlt, h1 σ L1 _ r5 (l1.trans l5)⟩
                · exact h1.elim
              · rw [hst] at h1; cases dd <;> first | exact h1.elim | exact absurd ⟨_, rfl⟩ hn
        · rw [hz] at h1
          exact h1.elim
      | _ => exact h.elim
    | ow dd =>
      cases dd with
      | lst xs =>
        obtain ⟨a, e1, us0, g0, g1⟩ := sl
        refine ⟨.ref a, e1, .inl ⟨rfl, us0, .of g0⟩, ?_⟩
        dsimp only at h
        refine ⟨Mo, H0, L0, L, ρ, st, r, (Out.bnd h).imp (fun v st1 h1 vv L1 H1 p rv fr => ?_) fun _ _ q => q.q l⟩
        rcases strong_cases v with ⟨z, hz⟩ | hz
        · obtain ⟨p1', w1⟩ := RV.strong hz r p rv fr
          have l1 := l.trans p1'.le
          rw [hz] at h1
          dsimp only at h1
          split at h1
          · rename_i hlt
            have h1 : NxS X.K X.mg Mo H0 L0 W0 st1 (ρ.set j (.ow (.lst (xs ++ [z])))) D.nx := h1
            obtain ⟨b, e2, us, e4, e5⟩ := p1'.rl.slot j _ hρ
            rw [e1] at e2
            cases e2
            obtain ⟨r5, l5⟩ := Rl.chg (ys := xs ++ [z]) (us := us ++ [vv]) p1'.rl hρ e1 (e5.append (.cons w1 .nil))
            exact ⟨a, us, vv, rfl, rfl, e4, by rw [e5.length, ← lim_eq]; exact hlt, h1 σ L1 _ r5 (l1.trans l5)⟩
          · exact h1.elim
        · rw [hz] at h1
          exact h1.elim
      | _ => exact h.elim

/-! ### name.extend(e) -/
def extM (n : Nat) (P : Pg) (d : Nat) (C : Ct) (j : Nat) (e : Expr) (ρ : List Sl) : M (Fl × List Sl) := (match ρ[j]? with
          | some (.ow (.lst xs)) => .bnd (evE n P d C e ρ) fun v => (match v.1 with
            | .lst ys => if xs.length + ys.length ≤ lim then .ret (.nx, ρ.set j (.ow (.lst (xs ++ ys)))) else .no
            | _ => .no)
          | _ => .no)
theorem s_ext (c : Cxt P X d C Wx) {x : Str} {j : Nat} (hj : sIdx C.N x = some j) (hk : okName x = true) (hv : visB C.sc x = true) (hs : notStar e = true) (hl : (ap.endLine == p2.line) = true) (he : PE X e (tM X.K X.mg Wx (evE n P d C e))) :
    PS X (.Expr (.Call (.Attribute (.Name x p1) "extend" ap) [e] [] p2) pos) (tMS X.K X.mg Wx (extM n P d C j e)) := by
  obtain ⟨n1, n2, n3⟩ := okName_3 hk
  have hN : X.N[j]? = some x := by rw [c.N]; exact sIdx_get hj
  have hvis : Vis X.env.scope x := by rw [c.sc]; exact visB_ok hv
  refine (ps_expr (pe_bm PySem.F.plainAttrs_list PySem.F.slot_list_extend PySem.F.type_list_extend mt_extend (pe_var (pos := p1) hN hvis n1 n2) (pa_cons he pa_nil (star_cons hs _)) rfl (few_ok hs) hl (star_cons hs _) rfl) rfl).imp fun D σ H ⟨Mo, H0, L0, L, ρ, st, W0, r, l, h⟩ => ?_
  unfold extM at h
  cases hρ : ρ[j]? with
  | none => rw [hρ] at h; exact h.elim
  | some s =>
    rw [hρ] at h
    have sl := r.slot j s hρ
    cases s with
    | un => exact h.elim
    | im dd => exact h.elim
    | ow dd =>
      cases dd with
      | lst xs =>
        obtain ⟨a, e1, us0, g0, g1⟩ := sl
        refine ⟨.ref a, e1, .inl ⟨rfl, us0, .of g0⟩, ?_⟩
        dsimp only at h
        refine ⟨Mo, H0, L0, L, ρ, st, r, (Out.bnd h).imp (fun v st1 h1 vv L1 H1 p rv fr => ?_) fun _ _ q => q.q l⟩
        obtain ⟨p1', w1⟩ := p.read rv fr r
        have l1 := l.trans p1'.le
        obtain ⟨v, k⟩ := v
        cases v with
        | lst ys =>
          dsimp only at h1 w1
          split at h1
          · rename_i hlt
            have h1 : NxS X.K X.mg Mo H0 L0 W0 st1 (ρ.set j (.ow (.lst (xs ++ ys)))) D.nx := h1
            obtain ⟨b, e2, us, e4, e5⟩ := p1'.rl.slot j _ hρ
            rw [e1] at e2
            cases e2
            obtain ⟨b, ws, rfl, g2, g3⟩ := w1.lst
            obtain ⟨r5, l5⟩ := Rl.chg (ys := xs ++ ys) (us := us ++ ws) p1'.rl hρ e1 (e5.append g3)
            exact ⟨a, b, us, ws, rfl, rfl, e4, g2, by rw [e5.length, g3.length, ← lim_eq]; exact hlt, h1 σ L1 _ r5 (l1.trans l5)⟩
          · exact h1.elim
        | _ => exact h1.elim
      | _ => exact h.elim

/-! ### three values at once -/
def RVs (K : PySem.W.Frag) (mg : Str → Option Value) (W : Wo) (ρ : List Sl) (σ : L2.St) : List DK → List V → Prop
  | [], vs => vs = []
  | x :: r, vs => ∃ v vr, vs = v :: vr ∧ x.2 ≠ .wk ∧ RV K mg W ρ σ x.1 x.2 v ∧ RVs K mg W ρ σ r vr
def FrK (H : Hp) : (Addr → Prop) → List DK → List V → Prop
  | Mo, x :: r, v :: vs => (x.2 = .fr → ∀ a, v = .ref a → ¬ Mo a ∧ H a = none) ∧ FrK H (addF Mo x.2 v) r vs
  | _, _, _ => True
theorem FrK.mono {H H' : Hp} (h : ∀ a, H a = none → H' a = none) : ∀ {xs : List DK} {vs : List V} {Mo : Addr → Prop}, FrK H Mo xs vs → FrK H' Mo xs vs
  | [], _, _, _ => by unfold FrK; trivial
  | x :: r, [], _, _ => by unfold FrK; trivial
  | x :: r, v :: vs, Mo, q => by
    unfold FrK at q ⊢
    exact ⟨fun k a e => ⟨(q.1 k a e).1, h a (q.1 k a e).2⟩, FrK.mono h q.2⟩
theorem RVs.le {K : PySem.W.Frag} {mg : Str → Option Value} {W W' : Wo} {ρ : List Sl} {σ : L2.St} (l : Le K W W') (e : ∀ a (vs : HO), W.H a = some vs → W'.H a = some vs) : ∀ {xs : List DK} {vs : List V}, RVs K mg W ρ σ xs vs → RVs K mg W' ρ σ xs vs
  | [], _, h => by unfold RVs at h ⊢; exact h
  | x :: r, _, h => by
    unfold RVs at h ⊢
    obtain ⟨v, vr, e1, h1, h2, h3⟩ := h
    exact ⟨v, vr, e1, h1, RV.le l h1 (fun _ a vs _ q => e a vs q) h2, RVs.le l e h3⟩
def tMK (K : PySem.W.Frag) (mg : Str → Option Value) (Wx : WX) (m : List Sl → M (List DK)) : TA := fun σ H Q => ∃ Mo H0 L0 L ρ st, Rl K mg Mo H0 L0 L H ρ σ st ∧ Out (m ρ st) (fun xs st' => ∀ vs L' H', Po K mg Mo H0 L0 L H ρ σ (addK Mo xs vs) L' H' st' →
    RVs K mg (wo (addK Mo xs vs) L' H' ρ σ) ρ σ xs vs → FrK H Mo xs vs → Q vs H') (ExQ K mg Mo H0 L0 L H ρ σ Wx)
theorem k_nil : PA X [] (tMK X.K X.mg Wx (evK (n + 1) P d C [])) := pa_nil.imp fun σ H Q ⟨Mo, H0, L0, L, ρ, st, r, h⟩ => Out.ret h [] L H (Po.refl r) rfl (by unfold FrK; trivial)
theorem k_cons {e : Expr} {es : List Expr} (hs : notStar e = true) (he : PE X e (tM X.K X.mg Wx (evE n P d C e))) (hes : PA X es (tMK X.K X.mg Wx (evK n P d C es))) : PA X (e :: es) (tMK X.K X.mg Wx (evK (n + 1) P d C (e :: es))) := by
  refine (pa_cons he hes (star_cons hs _)).imp fun σ H Q ⟨Mo, H0, L0, L, ρ, st, r, h⟩ => ?_
  refine ⟨Mo, H0, L0, L, ρ, st, r, (Out.bnd h).imp (fun x st1 h3 v L1 H1 p1 rv fr => ?_) fun _ _ q => q⟩
  refine ⟨addF Mo x.2 v, H0, L0, L1, ρ, st1, p1.rl, (Out.bnd h3).imp (fun ys st2 h4 us L2' H2 p2 rvs frs => ?_) fun e st2 q => ?_⟩
  · split at h4
    · exact h4.elim
    · rename_i hk
      have k1 : x.2 ≠ .wk := fun z => hk (by rw [z]; rfl)
      refine Out.ret h4 (v :: us) L2' H2 (p1.trans p2) ⟨v, us, rfl, k1, RV.le p2.le k1 (fun kf a vs e q => p2.ex _ _ q fun m => ?_) rv, rvs⟩ ⟨fun kf a e => ⟨fun m => r.mt a m (fr kf a e), fr kf a e⟩, frs.mono fun a => p1.untr⟩
      refine p1.rl.lmo a m ?_
      rw [kf, e]
      exact .inr rfl
  · intro cls dd L' H' p x'
    exact q cls dd L' H' ((p1.trans (Mo2 := addF Mo x.2 v) ⟨(p.rl), p.le, p.ex, p.nw⟩).few addF_sub) (ExR.le (W' := wo Mo L' H' ρ σ) (Le.of_sub (M := Mt (addF Mo x.2 v) L' ρ σ) fun b m => Or.elim m (fun m => .inl (addF_sub b m)) .inr) rfl x')
theorem k_all (hmo : ∀ m, m < n → MO P X.prog X.w X.K X.mg X.base m) (c : Cxt P X d C Wx) : ∀ (k : Nat), k ≤ n → ∀ es, noStar es = true → PA X es (tMK X.K X.mg Wx (evK k P d C es))
  | 0, _, es, _ => .nope fun σ H Q ⟨Mo, H0, L0, L, ρ, st, r, h⟩ => h
  | k + 1, hk, [], _ => k_nil
  | k + 1, hk, e :: es, hs => by
    unfold noStar at hs
    rw [Bool.and_eq_true] at hs
    exact k_cons hs.1 ((EA.all k X d C Wx (fun m hm => hmo m (by omega)) c).E e) (k_all hmo c k (by omega) es hs.2)
theorem put_three {K : PySem.W.Frag} {mg : Str → Option Value} {Mo : Addr → Prop} {H0 H : Hp} {L0 L : List Addr} {ρ : List Sl} {σ : L2.St} {st : Store} {i j k : Nat} (hij : i ≠ j) (hik : i ≠ k) (hjk : j ≠ k) {a b c : DK} {v u w : V} {s1 s2 s3 : Sl} (r : Rl K mg (addF (addF (addF Mo a.2 v) b.2 u) c.2 w) H0 L0 L H ρ σ st)
    (rvs : RVs K mg (wo (addF (addF (addF Mo a.2 v) b.2 u) c.2 w) L H ρ σ) ρ σ [a, b, c] [v, u, w]) (f : FrK H0 Mo [a, b, c] [v, u, w]) (e1 : slotOf a.1 a.2 = some s1) (e2 : slotOf b.1 b.2 = some s2) (e3 : slotOf c.1 c.2 = some s3) :
    Rl K mg Mo H0 L0 L H (((ρ.set i s1).set j s2).set k s3) (((σ.set i (some v)).set j (some u)).set k (some w)) st ∧ Le K (wo (addF (addF (addF Mo a.2 v) b.2 u) c.2 w) L H ρ σ) (wo Mo L H (((ρ.set i s1).set j s2).set k s3) (((σ.set i (some v)).set j (some u)).set k (some w))) := by
  obtain ⟨v', _, ev, k1, rv1, u', _, eu, k2, rv2, w', _, ew, k3, rv3, rfl⟩ := rvs
  cases ev
  cases eu
  cases ew
  obtain ⟨f1, f2, f3, _⟩ := f
  obtain ⟨r1, l1⟩ := Rl.put (i := k) r rv3 f3 e3
  have mv : ∀ {x : DK} {y : V}, x.2 ≠ .wk → RV K mg (wo (addF (addF (addF Mo a.2 v) b.2 u) c.2 w) L H ρ σ) ρ σ x.1 x.2 y → RV K mg (wo (addF (addF Mo a.2 v) b.2 u) L H (ρ.set k s3) (σ.set k (some w))) (ρ.set k s3) (σ.set k (some w)) x.1 x.2 y := fun {x y} kx q => by
    have q := RV.le l1 kx (fun _ a vs _ q => q) q
    obtain ⟨x1, xk⟩ := x
    cases xk with
    | wk => exact absurd rfl kx
    | sh => exact q
    | fr => exact q
  obtain ⟨r2, l2⟩ := put_two hij r1 k1 k2 (mv k1 rv1) (mv k2 rv2) f1 f2 e1 e2
  have c1 : ((ρ.set k s3).set i s1).set j s2 = ((ρ.set i s1).set j s2).set k s3 := by
    rw [List.set_comm _ _ (Ne.symm hik), List.set_comm _ _ (Ne.symm hjk)]
  have c2 : ((σ.set k (some w)).set i (some v)).set j (some u) = ((σ.set i (some v)).set j (some u)).set k (some w) := by
    rw [List.set_comm _ _ (Ne.symm hik), List.set_comm _ _ (Ne.symm hjk)]
  rw [c1, c2] at r2 l2
  exact ⟨r2, l1.trans l2⟩
theorem asT_one {x : Str} {i : Nat} (hi : sIdx C.N x = some i) {px : Pos} {d' : D} {k : Kd} {ρ ρ' : List Sl} (h : asT n C (.Name x px) d' k ρ = some ρ') : ∃ s, slotOf d' k = some s ∧ ρ' = ρ.set i s := by
  cases n with
  | zero => unfold asT at h; cases h
  | succ n =>
    unfold asT at h
    dsimp only at h
    split at h
    · rw [hi] at h
      cases f1 : slotOf d' k with
      | none => rw [f1] at h; cases h
      | some s =>
        rw [f1] at h
        cases h
        exact ⟨s, rfl, rfl⟩
    · cases h
theorem asK_three {x y z : Str} {i j l : Nat} (hi : sIdx C.N x = some i) (hj : sIdx C.N y = some j) (hl : sIdx C.N z = some l) {px py pz : Pos} {vs : List DK} {ρ ρ' : List Sl} (h : asK n C [.Name x px, .Name y py, .Name z pz] vs ρ = some ρ') :
    ∃ a b c s1 s2 s3, vs = [a, b, c] ∧ slotOf a.1 a.2 = some s1 ∧ slotOf b.1 b.2 = some s2 ∧ slotOf c.1 c.2 = some s3 ∧ ρ' = ((ρ.set i s1).set j s2).set l s3 := by
  match vs, h with
  | [a, b, c], h =>
    unfold asK at h
    split at h
    · rename_i ρ1 e1
      unfold asK at h
      split at h
      · rename_i ρ2 e2
        unfold asK at h
        split at h
        · rename_i ρ3 e3
          unfold asK at h
          cases h
          obtain ⟨s1, g1, rfl⟩ := asT_one hi e1
          obtain ⟨s2, g2, rfl⟩ := asT_one hj e2
          obtain ⟨s3, g3, rfl⟩ := asT_one hl e3
          exact ⟨a, b, c, s1, s2, s3, rfl, g1, g2, g3, rfl⟩
        · cases h
      · cases h
    · cases h
  | [], h => cases h
  | [a], h =>
    unfold asK at h
    split at h
    · unfold asK at h; cases h
    · cases h
  | [a, b], h =>
    unfold asK at h
    split at h
    · unfold asK at h
      split at h
      · unfold asK at h; cases h
      · cases h
    · cases h
  | a :: b :: c :: e :: r, h =>
    unfold asK at h
    split at h
    · unfold asK at h
      split at h
      · unfold asK at h
        split at h
        · unfold asK at h; cases h
        · cases h
      · cases h
    · cases h
theorem beq_sym {x y : Str} (h : (x == y) = false) : (y == x) = false := by
  cases e : y == x with
  | false => rfl
  | true =>
    have := eq_of_beq e
    rw [this] at h
    simp at h
theorem noStar_any {e1 e2 e3 : Expr} (h : noStar [e1, e2, e3] = true) : ([e1, e2, e3].any fun e => match e with | .Starred .. => true | _ => false) = false := by
  unfold noStar at h
  rw [Bool.and_eq_true] at h
  obtain ⟨h1, h⟩ := h
  unfold noStar at h
  rw [Bool.and_eq_true] at h
  obtain ⟨h2, h⟩ := h
  unfold noStar at h
  rw [Bool.and_eq_true] at h
  have q : ∀ e : Expr, notStar e = true → (match e with | .Starred .. => true | _ => false) = false := fun e he => by
    cases e <;> first | rfl | exact absurd he Bool.false_ne_true
  rw [List.any_cons, List.any_cons, List.any_cons, q e1 h1, q e2 h2, q e3 h.1]
  rfl
theorem sw_trip {e1 e2 e3 : Expr} (hs : noStar [e1, e2, e3] = true) (hk : X.env.blockKind = .function) {x y z : Str} {px py pz : Pos} {k k2 : Nat} (k1 : X.env.kindOf x = some .local) (k3 : X.env.kindOf y = some .local) (k4 : X.env.kindOf z = some .local) (hl : (px.line == py.line) = true) (hl2 : (px.line == pz.line) = true) (hn : (x == y) = false) (hn2 : (x == z) = false) (hn3 : (y == z) = false)
    (h5 : [e1, e2, e3].all (foldedForSure 8) = false) (h6 : [e1, e2, e3].all (constantsAlone 8) = false) : swappedStores [.Tuple [.Name x px, .Name y py, .Name z pz] k p1] (.Tuple [e1, e2, e3] k2 p2) X.env = pure (some [x, y, z]) := by
  have hst := noStar_any hs
  have hl' : (py.line == px.line) = true := by
    have := eq_of_beq hl
    rw [this]; simp
  have hl2' : (pz.line == px.line) = true := by
    have := eq_of_beq hl2
    rw [this]; simp
  have hd : [x, y, z].eraseDups.length = 3 := by
    simp [List.eraseDups, List.eraseDupsBy, List.eraseDupsBy.loop, beq_sym hn, beq_sym hn2, beq_sym hn3, hn, hn2, hn3]
  unfold swappedStores
  simp only [hk, k1, k3, k4, h5, h6, hl', hl2', List.length_cons, List.length_nil, List.filterMap_cons, List.filterMap_nil, Expr.pos, List.head?_cons, Option.map_some, Option.getD_some, beq_self_eq_true, Bool.and_true, if_true]
  refine Eq.trans (if_neg (by decide)) ?_
  refine Eq.trans (if_neg (by rw [Bool.not_eq_true]; exact hst)) ?_
  refine Eq.trans (if_neg ?_) ?_
  · show ¬ ([x, y, z].length != 3 || [x, y, z].eraseDups.length != [x, y, z].length) = true
    rw [hd]
    simp
  · rfl
theorem seq_sw3 {x y z : Str} {px py pz : Pos} {e1 e2 e3 : Expr} {k k2 : Nat} (h : ¬ (X.env.kindOf x = some .local ∧ X.env.kindOf y = some .local ∧ X.env.kindOf z = some .local)) : swappedStores [.Tuple [.Name x px, .Name y py, .Name z pz] k p1] (.Tuple [e1, e2, e3] k2 p2) X.env = pure none := by
  unfold swappedStores
  dsimp only
  split
  · rfl
  · split
    · rfl
    · have hl : ¬ ((([Expr.Name x px, Expr.Name y py, Expr.Name z pz].filterMap fun
        | .Name id pos => if (X.env.kindOf id == some .local && pos.line == (([Expr.Name x px, Expr.Name y py, Expr.Name z pz].head?.map (·.pos.line)).getD 0)) = true then some id else none
        | _ => none).length) = 3) := by
        intro q
        apply h
        have side : ∀ (u : Str) (pu : Pos) (r : List Str), ((if (X.env.kindOf u == some .local && pu.line == (([Expr.Name x px, Expr.Name y py, Expr.Name z pz].head?.map (·.pos.line)).getD 0)) = true then some u else none) = none ∨ X.env.kindOf u = some .local) := fun u pu r => by
          by_cases a1 : X.env.kindOf u = some .local
          · exact .inr a1
          · have b1 : (X.env.kindOf u == some NameKind.local) = false := by simpa using a1
            left
            rw [b1]
            rfl
        refine ⟨?_, ?_, ?_⟩
        · rcases side x px [] with s | s
          · simp only [List.filterMap_cons, List.filterMap_nil, s] at q
            repeat' split at q
            all_goals simp at q
          · exact s
        · rcases side y py [] with s | s
          · simp only [List.filterMap_cons, List.filterMap_nil, s] at q
            repeat' split at q
            all_goals simp at q
          · exact s
        · rcases side z pz [] with s | s
          · simp only [List.filterMap_cons, List.filterMap_nil, s] at q
            repeat' split at q
            all_goals simp at q
          · exact s
      refine if_pos ?_
      rw [Bool.or_eq_true]
      left
      rw [bne_iff_ne]
      exact hl
/-- from the values to the slots -/
theorem three_end {x y z : Str} {i j l : Nat} (hi : sIdx C.N x = some i) (hj : sIdx C.N y = some j) (hl : sIdx C.N z = some l) (hij : i ≠ j) (hil : i ≠ l) (hjl : j ≠ l) {px py pz : Pos} {K : PySem.W.Frag} {mg : Str → Option Value} {Mo : Addr → Prop} {H0 H H1 : Hp} {L0 L L1 : List Addr} {ρ : List Sl} {σ : L2.St} {st st1 : Store} {W0 : Wo} {Wx : WX} {D : Ends} {xs : List DK} {vs : List V}
    (r : Rl K mg Mo H0 L0 L H ρ σ st) (lw : Le K W0 (wo Mo L H ρ σ)) (p : Po K mg Mo H0 L0 L H ρ σ (addK Mo xs vs) L1 H1 st1) (rvs : RVs K mg (wo (addK Mo xs vs) L1 H1 ρ σ) ρ σ xs vs) (f : FrK H Mo xs vs)
    (h : Out (M.opt ((asK n C [.Name x px, .Name y py, .Name z pz] xs ρ).map fun ρ' => ((Fl.nx, ρ') : Fl × List Sl)) st1) (OkS K mg Mo H0 L0 W0 D) (ExS K mg Mo H0 L0 W0 Wx)) :
    ∃ u v w, vs = [u, v, w] ∧ D.nx (((σ.set i (some u)).set j (some v)).set l (some w)) H1 := by
  obtain ⟨q', e3, q⟩ := Out.opt h
  cases hA : asK n C [.Name x px, .Name y py, .Name z pz] xs ρ with
  | none => rw [hA] at e3; cases e3
  | some ρ' =>
    rw [hA] at e3
    cases e3
    obtain ⟨a, b, c, s1, s2, s3, rfl, g1, g2, g3, rfl⟩ := asK_three hi hj hl hA
    obtain ⟨u, _, rfl, k1, rv1, v, _, rfl, k2, rv2, w, _, rfl, k3, rv3, rfl⟩ := id rvs
    obtain ⟨r2, l2⟩ := put_three hij hil hjl p.rl rvs (f.mono fun a => r.free0) g1 g2 g3
    exact ⟨u, v, w, rfl, (q : NxS _ _ _ _ _ _ _ _ _) _ L1 H1 r2 ((lw.trans p.le).trans l2)⟩
theorem s_three (c : Cxt P X d C Wx) {x y z : Str} {px py pz : Pos} {e1 e2 e3 : Expr} {k k2 : Nat} (hs : noStar [e1, e2, e3] = true) (t1 : okT C x = true) (t2 : okT C y = true) (t3 : okT C z = true) (hp : (par3 C x px y py z pz [e1, e2, e3] || seq3 C x y z) = true)
    (he : PA X [e1, e2, e3] (tMK X.K X.mg Wx (evK n P d C [e1, e2, e3]))) :
    PS X (.Assign [.Tuple [.Name x px, .Name y py, .Name z pz] k p1] (.Tuple [e1, e2, e3] k2 p2) pos) (tMS X.K X.mg Wx fun ρ => .bnd (evK n P d C [e1, e2, e3] ρ) fun vs => .opt ((asK n C [.Name x px, .Name y py, .Name z pz] vs ρ).map fun ρ' => (.nx, ρ'))) := by
  obtain ⟨i, hi, _, _, st1, gi, o1⟩ := okT_ok c t1
  obtain ⟨j, hj, _, _, st2, gj, o2⟩ := okT_ok c t2
  obtain ⟨l, hl, _, _, st3, gl, o3⟩ := okT_ok c t3
  rw [Bool.or_eq_true] at hp
  rcases hp with hp | hp
  · unfold par3 at hp
    simp only [Bool.and_eq_true] at hp
    obtain ⟨⟨⟨⟨⟨⟨⟨⟨⟨⟨⟨q1, q2⟩, q3⟩, q4⟩, q5⟩, q6⟩, q7⟩, q8⟩, q9⟩, qa⟩, qb⟩, qc⟩ := hp
    have n1 : (x == y) = false := by simpa using q6
    have n2 : (x == z) = false := by simpa using q7
    have n3 : (y == z) = false := by simpa using q8
    have l1 : X.env.scope.names.lookup x = some .local := by rw [c.sc]; exact of_decide_eq_true q1
    have l2 : X.env.scope.names.lookup y = some .local := by rw [c.sc]; exact of_decide_eq_true q2
    have l3 : X.env.scope.names.lookup z = some .local := by rw [c.sc]; exact of_decide_eq_true q3
    have hk : X.env.blockKind = .function := by
      have : X.env.scope.kind = .function := by
        rw [c.sc]
        cases e : C.sc.kind <;> first | rfl | (rw [e] at qc; cases qc)
      unfold Env.blockKind
      rw [this]
      rfl
    refine (ps_par3 c.calm (by rw [c.N]; exact c.nd) gi gj gl (N_ne gi gj n1) (N_ne gi gl n2) (N_ne gj gl n3) l1 l2 l3 he (sw_trip hs hk l1 l2 l3 q4 q5 n1 n2 n3 (by rw [Bool.not_eq_true'] at q9; exact q9) (by rw [Bool.not_eq_true'] at qa; exact qa)) rfl).imp fun D σ H ⟨Mo, H0, L0, L, ρ, st, W0, r, lw, h⟩ => ?_
    refine ⟨Mo, H0, L0, L, ρ, st, r, (Out.bnd h).imp (fun xs st1 h3 vs L1 H1 p1 rvs f => ?_) fun _ _ q => q.q lw⟩
    exact three_end hi hj hl (N_ne gi gj n1) (N_ne gi gl n2) (N_ne gj gl n3) r lw p1 rvs f h3
  · unfold seq3 at hp
    simp only [Bool.and_eq_true] at hp
    obtain ⟨⟨⟨q6, q7⟩, q8⟩, q9⟩ := hp
    have n1 : (x == y) = false := by simpa using q6
    have n2 : (x == z) = false := by simpa using q7
    have n3 : (y == z) = false := by simpa using q8
    have hw : swappedStores [.Tuple [.Name x px, .Name y py, .Name z pz] k p1] (.Tuple [e1, e2, e3] k2 p2) X.env = pure none := seq_sw3 fun ⟨a1, a2, a3⟩ => by
      have b1 : C.sc.names.lookup x = some .local := by rw [← c.sc]; exact a1
      have b2 : C.sc.names.lookup y = some .local := by rw [← c.sc]; exact a2
      have b3 : C.sc.names.lookup z = some .local := by rw [← c.sc]; exact a3
      rw [b1, b2, b3] at q9
      simp at q9
    have hg : PGs X [.Name x px, .Name y py, .Name z pz] (gCons (gName i) (gCons (gName j) (gCons (gName l) gNil))) := pgs_cons (pg_name (by rw [c.N]; exact c.nd) gi o1 (c.fn x st1 o1)) (pgs_cons (pg_name (by rw [c.N]; exact c.nd) gj o2 (c.fn y st2 o2)) (pgs_cons (pg_name (by rw [c.N]; exact c.nd) gl o3 (c.fn z st3 o3)) pgs_nil))
    refine (ps_asg (pe_tup (x1 := k2) he) ((pg_tup (k := k) (n := 3) c.calm hg rfl rfl).kfIn) rfl hw).imp fun D σ H ⟨Mo, H0, L0, L, ρ, st, W0, r, lw, h⟩ => ?_
    refine ⟨Mo, H0, L0, L, ρ, st, r, (Out.bnd h).imp (fun xs st1 h3 vs L1 H1 p1 rvs f => ?_) fun _ _ q => q.q lw⟩
    have hlen : vs.length ≤ sizeLine ∧ ∃ u v w, vs = [u, v, w] := by
      obtain ⟨q', e3, _⟩ := Out.opt h3
      cases hA : asK n C [.Name x px, .Name y py, .Name z pz] xs ρ with
      | none => rw [hA] at e3; cases e3
      | some ρ' =>
        obtain ⟨a, b, c, s1, s2, s3, rfl, _⟩ := asK_three hi hj hl hA
        obtain ⟨u, _, rfl, _, _, v, _, rfl, _, _, w, _, rfl, _, _, rfl⟩ := rvs
        exact ⟨by show 3 ≤ sizeLine; rw [sizeLine_eq]; decide, u, v, w, rfl⟩
    refine ⟨hlen.1, fun p hp kf => ?_⟩
    obtain ⟨u, v, w, rfl⟩ := hlen.2
    have pl := Po.laid p1.rl hp kf
    have hne : ∀ b (us : HO), H1 b = some us → upd H1 p (.tup [u, v, w]) b = some us := fun b us e => by rw [upd_ne (ne_of_none e hp)]; exact e
    obtain ⟨u', v', w', ev, hq⟩ := three_end hi hj hl (N_ne gi gj n1) (N_ne gi gl n2) (N_ne gj gl n3) r lw (p1.trans pl) (RVs.le pl.le hne rvs) f h3
    cases ev
    exact ⟨p, [u, v, w], rfl, .inl (.inl upd_same), rfl, u, [v, w], rfl, v, [w], rfl, w, [], rfl, rfl, hq⟩
/-! ### name op= e -/
def augM (n : Nat) (P : Pg) (d : Nat) (C : Ct) (i : Nat) (op : Operator) (e : Expr) (ρ : List Sl) : M (Fl × List Sl) := (match ρ[i]? with
          | some (.im (.int a)) => .bnd (evE n P d C e ρ) fun v => (match augI op a v.1 with
            | some r => .ret (.nx, ρ.set i (.im r))
            | none => .no)
          | some (.im (.str a)) => .bnd (evE n P d C e ρ) fun v => (match op, v.1 with
            | .Add, .str b => if a.length + b.length ≤ lim then .ret (.nx, ρ.set i (.im (.str (a ++ b)))) else .no
            | _, _ => .no)
          | _ => .no)
def rAug (op : Operator) : R2 := fun x y H Q => (∃ a d r, x = .int a ∧ (∃ b, d = D.int b ∧ y = .int b) ∧ augI op a d = some r ∧ ∃ z, r = .int z ∧ Q (.int z) H) ∨ (∃ a b, op = .Add ∧ x = .str a ∧ y = .str b ∧ a.length + b.length ≤ lim ∧ Q (.str (a ++ b)) H)
theorem op_aug (op : Operator) : PIp X op (rAug op) := by
  intro pins s σ H x y v u Q I rx ry h
  rcases h with ⟨a, d, r, rfl, ⟨b, rfl, rfl⟩, e, z, rfl, q⟩ | ⟨a, b, rfl, rfl, rfl, hl, q⟩
  · unfold augI at e
    split at e
    · rename_i e1; cases e1; cases e; exact iop_add pins s σ H _ _ v u Q I rx ry ⟨_, _, rfl, rfl, q⟩
    · rename_i e1; cases e1; cases e; exact iop_sub pins s σ H _ _ v u Q I rx ry ⟨_, _, rfl, rfl, q⟩
    · rename_i e1
      cases e1
      split at e
      · rename_i hl
        cases e
        rw [Bool.or_eq_true] at hl
        exact iop_mul pins s σ H _ _ v u Q I rx ry ⟨_, _, rfl, rfl, hl.imp (fun h => of_decide_eq_true h) fun h => of_decide_eq_true h, q⟩
      · cases e
    · rename_i e1
      cases e1
      split at e
      · rename_i hl
        cases e
        exact iop_fdiv pins s σ H _ _ v u Q I rx ry ⟨_, _, rfl, rfl, hl, q⟩
      · cases e
    · rename_i e1
      cases e1
      split at e
      · rename_i hl
        cases e
        exact iop_mod pins s σ H _ _ v u Q I rx ry ⟨_, _, rfl, rfl, hl, q⟩
      · cases e
    · cases e
  · exact iop_add_str pins s σ H _ _ v u Q I rx ry ⟨_, _, rfl, rfl, by rw [← lim_eq]; exact hl, q⟩
theorem augI_int {op : Operator} {a : Int} {d r : D} (h : augI op a d = some r) : (∃ b, d = .int b) ∧ ∃ z, r = .int z := by
  unfold augI at h
  split at h
  · cases h; exact ⟨⟨_, rfl⟩, _, rfl⟩
  · cases h; exact ⟨⟨_, rfl⟩, _, rfl⟩
  · split at h
    · cases h; exact ⟨⟨_, rfl⟩, _, rfl⟩
    · cases h
  · split at h
    · cases h; exact ⟨⟨_, rfl⟩, _, rfl⟩
    · cases h
  · split at h
    · cases h; exact ⟨⟨_, rfl⟩, _, rfl⟩
    · cases h
  · cases h
theorem s_aug (c : Cxt P X d C Wx) {x : Str} {i : Nat} {op : Operator} (hi : sIdx C.N x = some i) (hc : (okName x && locB C.sc x && stB C x) = true) (he : PE X e (tM X.K X.mg Wx (evE n P d C e))) :
    PS X (.AugAssign (.Name x p1) op e pos) (tMS X.K X.mg Wx (augM n P d C i op e)) := by
  rw [Bool.and_eq_true, Bool.and_eq_true] at hc
  obtain ⟨⟨h1, h2⟩, h3⟩ := hc
  have hl : Loc X.env.scope x := by rw [c.sc]; exact locB_ok h2
  refine (ps_aug (i := i) (by rw [c.N]; exact c.nd) (by rw [c.N]; exact sIdx_get hi) hl he (op_aug op) (c.fn x h3 hl)).imp fun D σ H ⟨Mo, H0, L0, L, ρ, st, W0, r, l, h⟩ => ?_
  unfold augM at h
  cases hρ : ρ[i]? with
  | none => rw [hρ] at h; exact h.elim
  | some s =>
    rw [hρ] at h
    have sl := r.slot i s hρ
    cases s with
    | un => exact h.elim
    | ow dd => exact h.elim
    | im dd =>
      cases dd with
      | int a =>
        obtain ⟨ov, e1, rep⟩ := sl
        unfold Rep at rep
        subst rep
        refine ⟨.int a, e1, ?_⟩
        dsimp only at h
        refine tS_rd r l h fun y st2 yv L2' H2 h2 p2' l2 w2 => ?_
        cases hA : augI op a y.1 with
        | none => rw [hA] at h2; exact h2.elim
        | some rr =>
          rw [hA] at h2
          have h2 : NxS X.K X.mg Mo H0 L0 W0 st2 (ρ.set i (.im rr)) D.nx := h2
          obtain ⟨⟨b, hb⟩, z, rfl⟩ := augI_int hA
          rw [hb] at w2 hA
          refine .inl ⟨a, .int b, _, rfl, ⟨b, rfl, w2.int⟩, hA, z, rfl, ?_⟩
          obtain ⟨r5, l5⟩ := Rl.setIm (i := i) (s := .im (.int z)) (o := some (.int z)) p2'.rl (by intro d' z; cases z) (by intro d' q; cases q; exact ⟨_, rfl, by unfold Rep; rfl⟩)
          exact h2 _ L2' H2 r5 (l2.trans l5)
      | str a =>
        obtain ⟨ov, e1, rep⟩ := sl
        unfold Rep at rep
        subst rep
        refine ⟨.str a, e1, ?_⟩
        dsimp only at h
        refine tS_rd r l h fun y st2 yv L2' H2 h2 p2' l2 w2 => ?_
        obtain ⟨y, k2⟩ := y
        dsimp only at h2
        split at h2
        · split at h2
          · rename_i hll
            have h2 : NxS X.K X.mg Mo H0 L0 W0 st2 (ρ.set i (.im (.str (a ++ _)))) D.nx := h2
            refine .inr ⟨a, _, rfl, rfl, w2.str, hll, ?_⟩
            obtain ⟨r5, l5⟩ := Rl.setIm (i := i) (s := .im (.str (a ++ _))) (o := some (.str (a ++ _))) p2'.rl (by intro d' z; cases z) (by intro d' q; cases q; exact ⟨_, rfl, by unfold Rep; rfl⟩)
            exact h2 _ L2' H2 r5 (l2.trans l5)
          · exact h2.elim
        · exact h2.elim
      | _ => exact h.elim
end
end PI
set_option Elab.async false
set_option linter.all false
set_option maxRecDepth 100000
set_option maxHeartbeats 4000000
/-! PI16: raise; all statements. -/
namespace PI
open PySem PySem.Spec PyProof.Rows L2
def EXH (P : Pg) (pr : Program) (w : World) (K : PySem.W.Frag) (mg : Str → Option Value) (base : Heap) : Prop := ∀ (X : Cx) (d : Nat), X.prog = pr → X.w = w → X.K = K → X.mg = mg → X.base = base → Room (d + 2) X.A → X.calm = true → ∀ (c : Str) (k : Nat), P.exc.lookup c = some k → Gl X c → okName c = true →
  ∃ Cc, mg c = some (.ref Cc) ∧ ∀ (e : Expr) (es : List Expr) (p pos : Pos) (ta : TA), noStar (e :: es) = true → PA X (e :: es) ta → PMk X (.Call (.Name c p) (e :: es) [] pos) (fun σ H E => ta σ H fun vs H1 => ∃ fs, exFs k vs = some fs ∧ ∀ d, H1 d = none → E (.ref Cc) (some d) (upd H1 d (.xd fs)))
section
variable {P : Pg} {X : Cx} {n d : Nat} {C : Ct} {Wx : WX} {a b e tg elt it o : Expr} {es ifs : List Expr} {pos p1 p2 p3 ap : Pos} {te : TE} {scope : Scope} {s : Stmt} {ss bd : List Stmt}
theorem pmk_kf {t : L2.St → Hp → XK → Prop} (h : PMk X e t) : PMk X e (fun σ H E => t σ H fun c d H' => KF X.K H' → E c d H') := fun pins s σ H Q I q => thn (h pins s σ H _ I q) fun u s' ⟨a, oe, vs, sI, H', cls, d, e1, J, r1, r2, r3, r4, r5, r6, r7, r8, r9, r10, q⟩ =>
  ⟨a, oe, vs, sI, H', cls, d, e1, J, r1, r2, r3, r4, r5, r6, r7, r8, r9, r10, q (kfI J)⟩
theorem exFs_rep {K : PySem.W.Frag} {mg : Str → Option Value} {W : Wo} {k : Nat} {xs : List D} {vs : List V} {fs : List (Str × D)} (h : exFs k xs = some fs) (r : RepL K mg W xs vs) : ∃ gs, exFs k vs = some gs ∧ gs.map (·.1) = fs.map (·.1) ∧ RepL K mg W (fs.map (·.2)) (gs.map (·.2)) := by
  unfold exFs at h
  split at h
  · rename_i v
    cases h
    obtain ⟨u, ur, rfl, h1, h2⟩ := r.uncons
    unfold RepL at h2
    subst h2
    exact ⟨_, rfl, rfl, .cons h1 .nil⟩
  · rename_i v w
    cases h
    obtain ⟨u, ur, rfl, h1, h2⟩ := r.uncons
    obtain ⟨u2, ur2, rfl, h3, h4⟩ := h2.uncons
    unfold RepL at h4
    subst h4
    exact ⟨_, rfl, rfl, .cons h3 (.cons h1 (.cons h1 .nil))⟩
  · cases h
theorem exFs_nil {α : Type} {k : Nat} : exFs (α := α) k [] = none := by
  unfold exFs
  split <;> first | rfl | (rename_i h; cases h) | skip
  all_goals (rename_i h _; cases h)
theorem s_raise (c : Cxt P X (d + 2) C Wx) (hx : EXH P X.prog X.w X.K X.mg X.base) {cl : Str} {k : Nat} (hk : P.exc.lookup cl = some k) (hg : gloB C.sc cl = true) (hn : okName cl = true) (hs : noStar es = true) (hL : PA X es (tML X.K X.mg Wx (evL n P (d + 2) C es))) :
    PS X (.Raise (some (.Call (.Name cl p1) es [] p2)) none pos) (tMS X.K X.mg Wx fun ρ => .bnd (evL n P (d + 2) C es ρ) fun vs => (match exFs k vs with
          | some fs => fun st => .ex ⟨cl, fs⟩ st
          | none => .no)) := by
  obtain ⟨Cc, hm, mk⟩ := hx X d rfl rfl rfl rfl rfl c.room c.calm cl k hk (c.glo hg) hn
  cases es with
  | nil =>
    refine .nope fun D σ H ⟨Mo, H0, L0, L, ρ, st, W0, r, l, h⟩ => ?_
    cases n with
    | zero => exact h.elim
    | succ n =>
      have h1 : Out ((match exFs k ([] : List PI.D) with
          | some fs => fun st => .ex ⟨cl, fs⟩ st
          | none => .no : M (Fl × List Sl)) st) _ _ := Out.ret (Out.bnd h)
      rw [exFs_nil] at h1
      exact h1
  | cons e es =>
    refine (ps_raise c.calm c.tk (pmk_kf (mk e es p1 p2 _ hs hL))).imp fun D σ H ⟨Mo, H0, L0, L, ρ, st, W0, r, l, h⟩ => ?_
    refine ⟨Mo, H0, L0, L, ρ, st, r, (Out.bnd h).imp (fun xs st1 h1 vs L1 H1 p1' rl => ?_) fun _ _ q => q.q l⟩
    cases hf : exFs k xs with
    | none => rw [hf] at h1; exact h1.elim
    | some fs =>
      rw [hf] at h1
      have h1 : ExS X.K X.mg Mo H0 L0 W0 Wx ⟨cl, fs⟩ st1 := h1
      obtain ⟨gs, g1, g2, g3⟩ := exFs_rep hf rl
      refine ⟨gs, g1, fun dx hd kf => ?_⟩
      have p2' := Po.laid p1'.rl hd kf
      exact h1 _ _ L1 _ ρ σ p2'.rl ((l.trans p1'.le).trans p2'.le) ⟨Cc, dx, gs, rfl, rfl, hm, upd_same, g2, RepL.le p2'.le _ _ g3⟩
end
end PI
set_option Elab.async false
set_option linter.all false
set_option maxRecDepth 100000
set_option maxHeartbeats 4000000
/-! PI17: all statements, blocks. -/
namespace PI
open PySem PySem.Spec PyProof.Rows L2
section
variable {P : Pg} {X : Cx} {n d : Nat} {C : Ct} {Wx : WX} {a b e tg elt it o : Expr} {es ifs : List Expr} {pos p1 p2 p3 ap : Pos} {te : TE} {scope : Scope} {s : Stmt} {ss bd : List Stmt}
theorem sw_lc {gs : List Comprehension} {x : Str} {l : Nat} {env : Env} : swapsWith (.ListComp elt gs scope p2) (some (.Name x p1)) l env = pure (env.blockKind == .function && env.kindOf x == some .local && p1.line == p2.line && !(scope.names.any fun (n, k) => n == x && (k == .local || k == .cell))) := rfl
theorem lc_shape (h : ∀ gs : List Comprehension, e ≠ .ListComp elt gs scope p2) : True := trivial
/-- an Assign to one name -/
theorem s_asgN (hmo : ∀ m, m < n → MO P X.prog X.w X.K X.mg X.base m) (c : Cxt P X d C Wx) {x : Str} {i : Nat} (hi : sIdx C.N x = some i) (hc : (okName x && locB C.sc x && stB C x) = true) (e : Expr) :
    PS X (.Assign [.Name x p1] e pos) (tMS X.K X.mg Wx fun ρ => .bnd (evE n P d C e ρ) fun v => setN C i x v ρ) := by
  have ea := EA.all n X d C Wx hmo c
  have plain : swapsWith e (some (.Name x p1)) pos.line X.env = pure false → PS X (.Assign [.Name x p1] e pos) (tMS X.K X.mg Wx fun ρ => .bnd (evE n P d C e ρ) fun v => setN C i x v ρ) := fun h => s_setI c hi hc (ea.E e) h
  have bad : (∀ ρ, evE n P d C e ρ = .no) → PS X (.Assign [.Name x p1] e pos) (tMS X.K X.mg Wx fun ρ => .bnd (evE n P d C e ρ) fun v => setN C i x v ρ) := fun h => s_bad fun ρ => by
    rw [h]
    rfl
  cases e with
  | ListComp elt gs scope p2 =>
    by_cases hsh : ∃ tg it ifs, gs = [⟨tg, it, ifs, 0⟩]
    · obtain ⟨tg, it, ifs, rfl⟩ := hsh
      by_cases hb : (X.env.blockKind == .function && X.env.kindOf x == some .local && p1.line == p2.line && !(scope.names.any fun (n, k) => n == x && (k == .local || k == .cell))) = true
      · cases n with
        | zero => exact bad fun ρ => rfl
        | succ n =>
          have hmo' : ∀ m, m < n → MO P X.prog X.w X.K X.mg X.base m := fun m hm => hmo m (Nat.lt_succ_of_lt hm)
          have hyl : X.env.scope.names.lookup x = some .local := by
            rw [Bool.and_eq_true, Bool.and_eq_true, Bool.and_eq_true] at hb
            have := hb.1.1.2
            exact eq_of_beq this
          by_cases hk : blkC C.N C.sc scope (ownOf C.N scope) = true
          · by_cases hset : ∃ xs k p, it = .Set xs k p
            · obtain ⟨xs, k, q, rfl⟩ := hset
              refine bad fun ρ => ?_
              show (if (blkC C.N C.sc scope (ownOf C.N scope) && noOw ρ (ownOf C.N scope)) = true then M.bnd (evI n P d C tg (.Set xs k q) ρ) _ else M.no : M DK) = M.no
              rw [evI_set]
              split
              · rfl
              · rfl
            · exact s_setLc c hi hc hk ((EA.all n X d C Wx hmo' c).I tg it) (set_free fun xs k q z => hset ⟨xs, k, q, z⟩) (fun s H A cl fp => (EA.all n (X.blk s H scope (compEnvC scope cl A X.env) fp) d ⟨C.N, relC scope C.sc, [], some scope, none⟩ WF hmo' (blk_cxt c s H cl A fp)).If ifs) (fun s H A cl fp => (EA.all n (X.blk s H scope (compEnvC scope cl A X.env) fp) d ⟨C.N, relC scope C.sc, [], some scope, none⟩ WF hmo' (blk_cxt c s H cl A fp)).E elt) hyl (by rw [sw_lc, hb])
          · refine bad fun ρ => ?_
            show (if (blkC C.N C.sc scope (ownOf C.N scope) && noOw ρ (ownOf C.N scope)) = true then M.bnd (evI n P d C tg it ρ) _ else M.no : M DK) = M.no
            rw [if_neg (by rw [Bool.and_eq_true]; exact fun z => hk z.1)]
      · exact plain (by rw [Bool.not_eq_true] at hb; rw [sw_lc, hb])
    · refine bad fun ρ => ?_
      cases n with
      | zero => rfl
      | succ n =>
        unfold evE
        split <;> first | rfl | skip
        all_goals first | (rename_i h; cases h; done) | skip
        all_goals first | (rename_i h; cases h; exact absurd ⟨_, _, _, rfl⟩ hsh) | skip
  | SetComp _ _ _ _ => exact bad fun ρ => by cases n <;> rfl
  | DictComp _ _ _ _ _ => exact bad fun ρ => by cases n <;> rfl
  | _ => exact plain rfl
theorem tup_off {e : Expr} (h : ∀ es k p, e ≠ .Tuple es k p) : notTup e = true := by
  cases e <;> first | rfl | exact absurd rfl (h _ _ _)
theorem s_asg (hmo : ∀ m, m < n → MO P X.prog X.w X.K X.mg X.base m) (c : Cxt P X d C Wx) (ts : List Expr) (e : Expr) : PS X (.Assign ts e pos) (tMS X.K X.mg Wx (exQ (n + 1) P d C (.Assign ts e pos))) := by
  have ea := EA.all n X d C Wx hmo c
  cases ts with
  | nil => exact s_bad fun _ => rfl
  | cons t ts =>
    cases ts with
    | cons t2 ts2 =>
      by_cases h2 : ∃ x p y q, t = .Name x p ∧ t2 = .Name y q ∧ ts2 = []
      · obtain ⟨x, p, y, q, rfl, rfl, rfl⟩ := h2
        have ev : exQ (n + 1) P d C (.Assign [.Name x p, .Name y q] e pos) = fun ρ => if (okName x && locB C.sc x && stB C x && (okName y && locB C.sc y && stB C y)) = true then (match sIdx C.N x, sIdx C.N y with
          | some i, some j => .bnd (evE n P d C e ρ) fun v => (match v.2 with
            | .sh => .ret (.nx, (ρ.set i (.im v.1)).set j (.im v.1))
            | _ => .no)
          | _, _ => .no) else .no := rfl
        rw [ev]
        by_cases hc : (okName x && locB C.sc x && stB C x && (okName y && locB C.sc y && stB C y)) = true
        · simp only [hc, if_true]
          rw [Bool.and_eq_true] at hc
          cases hi : sIdx C.N x with
          | none => exact s_bad fun _ => rfl
          | some i =>
            cases hj : sIdx C.N y with
            | none => exact s_bad fun _ => rfl
            | some j => exact s_two c hi hj hc.1 hc.2 (ea.E e)
        · exact s_bad fun _ => if_neg hc
      refine s_bad fun _ => ?_
      unfold exQ
      split <;> first | rfl | skip
      all_goals first | (rename_i h; cases h; done) | skip
      all_goals (rename_i h; cases h; exact absurd ⟨_, _, _, _, rfl, rfl, rfl⟩ h2)
    | nil =>
      cases t with
      | Name x p =>
        have ev : exQ (n + 1) P d C (.Assign [.Name x p] e pos) = fun ρ => if (okName x && locB C.sc x && stB C x) = true then (match sIdx C.N x with
          | some i => .bnd (evE n P d C e ρ) fun v => setN C i x v ρ
          | none => .no) else .no := rfl
        rw [ev]
        by_cases hc : (okName x && locB C.sc x && stB C x) = true
        · simp only [hc, if_true]
          cases hi : sIdx C.N x with
          | none => exact s_bad fun _ => rfl
          | some i => exact s_asgN hmo c hi hc e
        · exact s_bad fun _ => if_neg hc
      | Subscript o i p =>
        cases o with
        | Name x q =>
          have ev : exQ (n + 1) P d C (.Assign [.Subscript (.Name x q) i p] e pos) = fun ρ => if (okName x && visB C.sc x && notSlice i && (sIdx C.N x).isSome) = true then subM n P d C x i e ρ else .no := rfl
          rw [ev]
          by_cases hc : (okName x && visB C.sc x && notSlice i && (sIdx C.N x).isSome) = true
          · simp only [hc, if_true]
            rw [Bool.and_eq_true, Bool.and_eq_true, Bool.and_eq_true] at hc
            obtain ⟨⟨⟨h1, h2⟩, h3⟩, h4⟩ := hc
            by_cases hsw : swapsWith e (some (.Subscript (.Name x q) i p)) pos.line X.env = pure false
            · exact s_sub c h1 h2 h3 h4 (ea.E e) (ea.E i) hsw
            · exact absurd (by cases e <;> rfl) hsw
          · exact s_bad fun _ => if_neg hc
        | _ => exact s_bad fun _ => rfl
      | Tuple ts k p =>
        by_cases hp : ∃ x px y py e1 e2 k2 p2, ts = [.Name x px, .Name y py] ∧ e = .Tuple [e1, e2] k2 p2
        · obtain ⟨x, px, y, py, e1, e2, k2, p2, rfl, rfl⟩ := hp
          have ev : exQ (n + 1) P d C (.Assign [.Tuple [.Name x px, .Name y py] k p] (.Tuple [e1, e2] k2 p2) pos) = fun ρ => if (notStar e1 && notStar e2 && okT C x && okT C y) = true then (
            if par2 C x px y py e1 e2 = true then .bnd (.bnd (evE n P d C e1 ρ) fun v => .bnd (evE n P d C e2 ρ) fun w => pr2 v w) fun vs => .opt ((asK n C [.Name x px, .Name y py] vs ρ).map fun ρ' => (.nx, ρ'))
            else if seq2 C x y = true then .bnd (.bnd (evE n P d C e1 ρ) fun v => .bnd (evE n P d C e2 ρ) fun w => pr2 v w) fun vs => .opt ((asK n C [.Name x px, .Name y py] vs ρ).map fun ρ' => (.nx, ρ'))
            else .no) else .no := rfl
          rw [ev]
          by_cases hc : (notStar e1 && notStar e2 && okT C x && okT C y) = true
          · simp only [hc, if_true]
            rw [Bool.and_eq_true, Bool.and_eq_true, Bool.and_eq_true] at hc
            obtain ⟨⟨⟨h1, h2⟩, h3⟩, h4⟩ := hc
            by_cases h5 : par2 C x px y py e1 e2 = true
            · simp only [h5, if_true]
              exact s_par c h1 h2 h3 h4 h5 (ea.E e1) (ea.E e2)
            · simp only [h5, if_false]
              by_cases h6 : seq2 C x y = true
              · simp only [h6, if_true]
                exact s_seq c h1 h2 h3 h4 h6 (ea.E e1) (ea.E e2)
              · exact s_bad fun _ => if_neg h6
          · exact s_bad fun _ => if_neg hc
        · by_cases hp3 : ∃ x px y py z pz e1 e2 e3 k2 p2, ts = [.Name x px, .Name y py, .Name z pz] ∧ e = .Tuple [e1, e2, e3] k2 p2
          · obtain ⟨x, px, y, py, z, pz, e1, e2, e3, k2, p2, rfl, rfl⟩ := hp3
            have ev : exQ (n + 1) P d C (.Assign [.Tuple [.Name x px, .Name y py, .Name z pz] k p] (.Tuple [e1, e2, e3] k2 p2) pos) = fun ρ => if (noStar [e1, e2, e3] && (okT C x && okT C y && okT C z) && (par3 C x px y py z pz [e1, e2, e3] || seq3 C x y z)) = true then
              .bnd (evK n P d C [e1, e2, e3] ρ) fun vs => .opt ((asK n C [.Name x px, .Name y py, .Name z pz] vs ρ).map fun ρ' => (.nx, ρ')) else .no := rfl
            rw [ev]
            by_cases hc : (noStar [e1, e2, e3] && (okT C x && okT C y && okT C z) && (par3 C x px y py z pz [e1, e2, e3] || seq3 C x y z)) = true
            · simp only [hc, if_true]
              rw [Bool.and_eq_true, Bool.and_eq_true, Bool.and_eq_true, Bool.and_eq_true] at hc
              obtain ⟨⟨h1, ⟨h2, h3⟩, h4⟩, h5⟩ := hc
              exact s_three c h1 h2 h3 h4 h5 (k_all hmo c n (Nat.le_refl n) _ h1)
            · exact s_bad fun _ => if_neg hc
          · have ev : exQ (n + 1) P d C (.Assign [.Tuple ts k p] e pos) = fun ρ => if notTup e = true then .bnd (evE n P d C e ρ) fun v => (match v.2 with
              | .wk => .no
              | k' => .opt ((asT n C (.Tuple ts k p) v.1 k' ρ).map fun ρ' => (.nx, ρ'))) else .no := by
              funext ρ
              unfold exQ
              split <;> first | rfl | skip
              all_goals first | (rename_i h; cases h; done) | skip
              all_goals first | (rename_i h; cases h; first | exact absurd ⟨_, _, _, _, _, _, _, _, rfl, rfl⟩ hp | exact absurd ⟨_, _, _, _, _, _, _, _, _, _, _, rfl, rfl⟩ hp3) | skip
              all_goals first
                | (rename_i h; cases h; rfl; done)
                | (exfalso; rename_i ha hb hc; first | exact ha _ _ _ _ _ rfl | exact hb _ _ _ _ _ rfl | exact hc _ _ _ _ _ rfl)
            rw [ev]
            by_cases hc : notTup e = true
            · simp only [hc, if_true]
              exact s_tup c hc (ea.E e)
            · exact s_bad fun _ => if_neg hc
      | _ => exact s_bad fun _ => rfl
theorem s_all (hmo : ∀ m, m < n → MO P X.prog X.w X.K X.mg X.base m) (hx : EXH P X.prog X.w X.K X.mg X.base) (c : Cxt P X d C Wx) (hB : ∀ k, k ≤ n → ∀ ss, PSs X ss (tMS X.K X.mg Wx (exSs k P d C ss))) (s : Stmt) : PS X s (tMS X.K X.mg Wx (exQ (n + 1) P d C s)) := by
  have ea := EA.all n X d C Wx hmo c
  cases s with
  | Pass p => exact s_pass
  | Break p => exact s_break
  | Continue p => exact s_cont
  | Return v p =>
    cases v with
    | none => exact s_retN
    | some e => exact s_ret (ea.E e)
  | If t u w p => exact s_if (ea.T t) (hB n (Nat.le_refl n) u) (hB n (Nat.le_refl n) w)
  | While t bd orelse p =>
    cases orelse with
    | cons _ _ => exact s_bad fun _ => rfl
    | nil => exact s_while c (fun k hk => (EA.all k X d C Wx (fun m hm => hmo m (Nat.lt_of_lt_of_le hm hk)) c).T t) fun k hk => hB k hk bd
  | For tg it bd orelse p =>
    cases orelse with
    | cons _ _ => exact s_bad fun _ => rfl
    | nil =>
      by_cases hset : ∃ xs k p, it = .Set xs k p
      · obtain ⟨xs, k, q, rfl⟩ := hset
        refine s_bad fun ρ => ?_
        show M.bnd (evI n P d C tg (.Set xs k q) ρ) _ = M.no
        rw [evI_set]
        rfl
      · exact s_for c (ea.I tg it) (set_free fun xs k q z => hset ⟨xs, k, q, z⟩) (hB n (Nat.le_refl n) bd)
  | Assign ts e p => exact s_asg hmo c ts e
  | AugAssign t op e p =>
    cases t with
    | Name x q =>
      have ev : exQ (n + 1) P d C (.AugAssign (.Name x q) op e p) = fun ρ => if (okName x && locB C.sc x && stB C x) = true then (match sIdx C.N x with
        | some i => augM n P d C i op e ρ
        | none => .no) else .no := rfl
      rw [ev]
      by_cases hc : (okName x && locB C.sc x && stB C x) = true
      · simp only [hc, if_true]
        cases hi : sIdx C.N x with
        | none => exact s_bad fun _ => rfl
        | some i => exact s_aug c hi hc (ea.E e)
      · exact s_bad fun _ => if_neg hc
    | _ => exact s_bad fun _ => rfl
  | Raise v cause p =>
    cases v with
    | none => exact s_bad fun _ => rfl
    | some v =>
      cases cause with
      | some _ =>
        refine s_bad fun _ => ?_
        unfold exQ
        split <;> first | rfl | skip
        all_goals (rename_i h; cases h; done)
      | none =>
        by_cases hsh : ∃ cl q es p2, v = .Call (.Name cl q) es [] p2
        · obtain ⟨cl, q, es, p2, rfl⟩ := hsh
          cases d with
          | zero =>
            refine s_bad fun ρ => ?_
            show (if (gloB C.sc cl && okName cl && noStar es) = true then M.no else M.no) = M.no
            split <;> rfl
          | succ d =>
          cases d with
          | zero =>
            refine s_bad fun ρ => ?_
            show (if (gloB C.sc cl && okName cl && noStar es) = true then M.no else M.no) = M.no
            split <;> rfl
          | succ d =>
            have ev : exQ (n + 1) P (d + 2) C (.Raise (some (.Call (.Name cl q) es [] p2)) none p) = fun ρ => if (gloB C.sc cl && okName cl && noStar es) = true then (match P.exc.lookup cl with
              | some k => .bnd (evL n P (d + 2) C es ρ) fun vs => (match exFs k vs with
                | some fs => fun st => .ex ⟨cl, fs⟩ st
                | none => .no)
              | none => .no) else .no := by
                funext ρ
                show (if _ then (match d + 2, P.exc.lookup cl with
                  | _ + 2, some k => _
                  | _, _ => _) else _) = _
                cases P.exc.lookup cl <;> rfl
            rw [ev]
            by_cases hc : (gloB C.sc cl && okName cl && noStar es) = true
            · simp only [hc, if_true]
              rw [Bool.and_eq_true, Bool.and_eq_true] at hc
              cases hk : P.exc.lookup cl with
              | none => exact s_bad fun _ => rfl
              | some k => exact s_raise c hx hk hc.1.1 hc.1.2 hc.2 (ea.L es)
            · exact s_bad fun _ => if_neg hc
        · refine s_bad fun _ => ?_
          unfold exQ
          split <;> first | rfl | skip
          all_goals first | (rename_i h; cases h; done) | skip
          all_goals (rename_i h; cases h; exact absurd ⟨_, _, _, _, rfl⟩ hsh)
  | Expr v p =>
    cases v with
    | Constant k j q =>
      cases k with
      | str z => exact s_doc
      | _ => exact s_bad fun _ => rfl
    | Call f as kw p2 =>
      cases kw with
      | cons _ _ =>
        refine s_bad fun _ => ?_
        unfold exQ
        split <;> first | rfl | skip
        all_goals (rename_i h; cases h; done)
      | nil =>
        cases f with
        | Name g q => exact s_exprCall (ea.E _) fun ρ => rfl
        | Attribute o m ap =>
          by_cases hsh : ∃ x q e, o = .Name x q ∧ as = [e]
          · obtain ⟨x, q, e, rfl, rfl⟩ := hsh
            have ev : exQ (n + 1) P d C (.Expr (.Call (.Attribute (.Name x q) m ap) [e] [] p2) p) = fun ρ => if (okName x && visB C.sc x && (decide (m = "extend") && (ap.endLine == p2.line) && notStar e)) = true then (match sIdx C.N x with
              | some j => extM n P d C j e ρ
              | none => .no) else if (okName x && visB C.sc x && (decide (m = "append") && (ap.endLine == p2.line) && notStar e)) = true then (match sIdx C.N x with
              | some j => appM n P d C j e ρ
              | none => .no) else .no := rfl
            rw [ev]
            by_cases hc : (okName x && visB C.sc x && (decide (m = "extend") && (ap.endLine == p2.line) && notStar e)) = true
            · simp only [hc, if_true]
              rw [Bool.and_eq_true, Bool.and_eq_true, Bool.and_eq_true, Bool.and_eq_true] at hc
              obtain ⟨⟨h1, h2⟩, ⟨h3, h4⟩, h5⟩ := hc
              have hm := of_decide_eq_true h3
              subst hm
              cases hi : sIdx C.N x with
              | none => exact s_bad fun _ => rfl
              | some j => exact s_ext c hi h1 h2 h5 h4 (ea.E e)
            · simp only [hc, if_false]
              by_cases hc : (okName x && visB C.sc x && (decide (m = "append") && (ap.endLine == p2.line) && notStar e)) = true
              · simp only [hc, if_true]
                rw [Bool.and_eq_true, Bool.and_eq_true, Bool.and_eq_true, Bool.and_eq_true] at hc
                obtain ⟨⟨h1, h2⟩, ⟨h3, h4⟩, h5⟩ := hc
                have hm := of_decide_eq_true h3
                subst hm
                cases hi : sIdx C.N x with
                | none => exact s_bad fun _ => rfl
                | some j => exact s_app c hi h1 h2 h5 h4 (ea.E e)
              · exact s_bad fun _ => if_neg hc
          · refine s_bad fun _ => ?_
            unfold exQ
            split <;> first | rfl | skip
            all_goals first | (rename_i h; cases h; done) | skip
            all_goals (rename_i h; cases h; exact absurd ⟨_, _, _, rfl, rfl⟩ hsh)
        | _ => exact s_bad fun _ => rfl
    | _ => exact s_bad fun _ => rfl
  | _ => exact s_bad fun _ => rfl
structure SA (P : Pg) (X : Cx) (n d : Nat) (C : Ct) (Wx : WX) : Prop where
  Q : ∀ s, PS X s (tMS X.K X.mg Wx (exQ n P d C s))
  S : ∀ s, PS X s (tMS X.K X.mg Wx (exS n P d C s))
  B : ∀ ss, PSs X ss (tMS X.K X.mg Wx (exSs n P d C ss))
theorem ss_bad {m : List Sl → M (Fl × List Sl)} (hm : ∀ ρ, m ρ = .no) : PSs X ss (tMS X.K X.mg Wx m) := ⟨fun pins s σ H D I ⟨Mo, H0, L0, L, ρ, st, W0, r, l, h⟩ => by
  rw [hm] at h
  exact h.elim⟩
theorem SA.all (hx : EXH P X.prog X.w X.K X.mg X.base) (c : Cxt P X d C Wx) : ∀ n, (∀ m, m < n → MO P X.prog X.w X.K X.mg X.base m) → SA P X n d C Wx := by
  intro n
  induction n using Nat.strongRecOn with
  | _ n ih =>
    intro hmo
    cases n with
    | zero => exact ⟨fun s => s_bad fun _ => rfl, fun s => s_bad fun _ => rfl, fun ss => ss_bad fun _ => rfl⟩
    | succ n =>
      have ih' : ∀ k, k ≤ n → SA P X k d C Wx := fun k hk => ih k (Nat.lt_succ_of_le hk) fun m hm => hmo m (Nat.lt_of_lt_of_le hm (Nat.le_succ_of_le hk))
      refine ⟨s_all (fun m hm => hmo m (Nat.lt_succ_of_lt hm)) hx c fun k hk ss => (ih' k hk).B ss, fun s => s_frz ((ih' n (Nat.le_refl n)).Q s), fun ss => ?_⟩
      cases ss with
      | nil => exact ss_nil
      | cons s ss => exact ss_cons ((ih' n (Nat.le_refl n)).S s) ((ih' n (Nat.le_refl n)).B ss)
end
end PI
set_option Elab.async false
set_option linter.all false
set_option maxRecDepth 100000
set_option maxHeartbeats 4000000
/-! PI18: a def keeps what the interpreter tells. -/
namespace PI
open PySem PySem.Spec PyProof.Rows L2
structure FnW (K : PySem.W.Frag) (mg : Str → Option Value) (x : Str) (F : FnI) : Prop where
  ex : ∃ f, mg x = some (.ref f) ∧ PySem.W.keepIn K (.ref f) = true ∧ ∃ (oc : Value) (od : Option Addr) (name qual : Str) (params : Arguments) (dV kV doc pm : Value) (an : Option Addr) (cdv ct : Value) (osl : Array (Option Value)),
    K.lookup f = some ⟨oc, od, .func (PySem.W.fnOf name qual params F.body F.sc dV kV doc pm an cdv ct), osl⟩ ∧ PySem.W.codeIn K cdv qual = true ∧ Binds K (PySem.W.fnOf name qual params F.body F.sc dV kV doc pm an cdv ct) F.ps []
  S : FnScope F.N F.ps F.sc
section
variable {K : PySem.W.Frag} {mg : Str → Option Value} {Mo : Addr → Prop} {H H1 : Hp} {L L1 : List Addr} {st st1 : Store} {ρ : List Sl} {σ : L2.St}
/-- the slots at the entry -/
def ρ0 (as : List D) (k : Nat) : List Sl := as.map .im ++ List.replicate k .un
theorem ρ0_ow {as : List D} {k i : Nat} {d : D} : (ρ0 as k)[i]? ≠ some (.ow d) := by
  unfold ρ0
  intro h
  by_cases hi : i < as.length
  · rw [List.getElem?_append_left (by simpa using hi), List.getElem?_map] at h
    cases e : as[i]? with
    | none => rw [e] at h; cases h
    | some x => rw [e] at h; cases h
  · rw [List.getElem?_append_right (by simpa using hi), List.getElem?_replicate] at h
    split at h <;> cases h
theorem Rl.start (r : Rl K mg Mo H L L H [] [] st) {as : List D} {vs : List V} {k : Nat} {N : List Str} (rl : RepL K mg (wo Mo L H [] []) as vs) (hk : k = N.length - as.length) : Rl K mg Mo H L L H (ρ0 as k) (L2.start N vs) st ∧ Le K (wo Mo L H [] []) (wo Mo L H (ρ0 as k) (L2.start N vs)) := by
  have no : ∀ i a, ¬ owAt (ρ0 as k) (L2.start N vs) i a := fun i a ⟨d, e, _⟩ => ρ0_ow e
  have l : Le K (wo Mo L H [] []) (wo Mo L H (ρ0 as k) (L2.start N vs)) := Le.of_sub fun b m => by
    rcases m with m | m | ⟨i, m⟩
    · exact .inl m
    · exact .inr (.inl m)
    · exact absurd m (no i b)
  refine ⟨⟨?_, fun i s e => ?_, fun i j a h => absurd h (no i a), fun i a h => absurd h (no i a), r.pre, r.lnd, r.lmo, r.lnew, r.sto, fun k c a e1 e2 => (r.cel k c a e1 e2).le l fun _ e => e, r.kf, r.mt, r.base, r.nt⟩, l⟩
  · unfold L2.start ρ0
    rw [List.length_append, List.length_append, List.length_map, List.length_map, List.length_replicate, List.length_replicate, rl.length, hk]
  · cases s with
    | un => trivial
    | ow d => exact absurd e ρ0_ow
    | im d =>
      unfold ρ0 at e
      by_cases hi : i < as.length
      · rw [List.getElem?_append_left (by simpa using hi), List.getElem?_map] at e
        cases e1 : as[i]? with
        | none => rw [e1] at e; cases e
        | some x =>
          rw [e1] at e
          cases e
          obtain ⟨v, e2, h⟩ := rl.get e1
          refine ⟨v, ?_, Rep.le l _ _ h⟩
          unfold L2.start
          have hv : i < vs.length := by rw [rl.length]; exact hi
          rw [List.getElem?_append_left (by simpa using hv), List.getElem?_map, e2]
          rfl
      · rw [List.getElem?_append_right (by simpa using hi), List.getElem?_replicate] at e
        split at e <;> cases e
/-- from the body's end to the call's -/
theorem Po.ofEnd {Mo2 : Addr → Prop} (r : Rl K mg Mo2 H L L1 H1 [] [] st1) (l : Le K (wo Mo L H [] []) (wo Mo2 L1 H1 [] [])) : Po K mg Mo H L L H [] [] Mo2 L1 H1 st1 := ⟨r, l, r.base, r.lnew⟩
/-- no store within -/
def MoB (Mo : Addr → Prop) (L : List Addr) : Addr → Prop := fun a => Mo a ∨ a ∈ L
theorem Rl.boxed (r : Rl K mg Mo H L L H [] [] st) : Rl K mg (MoB Mo L) H [] [] H [] [] [] where
  len := rfl
  slot := fun i s e => by simp at e
  dis := fun i j a h => absurd h ow_nil
  own := fun i a h => absurd h ow_nil
  pre := List.prefix_refl _
  lnd := List.nodup_nil
  lmo := fun a h => by simp at h
  lnew := fun a h => by simp at h
  sto := rfl
  cel := fun l c a e => by simp at e
  kf := r.kf
  mt := fun a m => m.elim (r.mt a) fun m => by
    obtain ⟨vs, e⟩ := r.lst m
    rw [e]; simp
  base := fun a o e _ => e
  nt := fun A q e => by simp at e
theorem rep_boxL {as : List D} {vs : List V} (h : noObjL as = true) (r : RepL K mg (wo Mo L H [] []) as vs) : RepL K mg (wo (MoB Mo L) [] H [] []) as vs := by
  have r1 := RepL.box (W := wo Mo L H [] []) (L' := ([] : List Addr)) as vs h r
  refine RepL.le (W := ⟨[], Mt Mo L [] [], H⟩) (Le.of_sub fun b m => ?_) _ _ r1
  rcases mt_nil.mp m with (m | m) | m
  · exact .inl m
  · exact .inr (.inl m)
  · simp at m
/-- the end of a boxed run -/
theorem Po.unbox {k : Kd} {v : V} (r : Rl K mg Mo H L L H [] [] st) (rb : Rl K mg (addF (MoB Mo L) k v) H [] L1 H1 [] [] st1) (fr : k = .fr → ∀ a, v = .ref a → H a = none) (fl : k = .fr → ∀ a, v = .ref a → ∃ o, H1 a = some o ∧ Mut (some o)) : Po K mg Mo H L L H [] [] (addF Mo k v) L H1 st := by
  have sub : ∀ b, addF Mo k v b → addF (MoB Mo L) k v b := fun b m => by
    cases k with
    | fr =>
      cases v <;> first | exact .inl m | exact m.elim (fun m => .inl (.inl m)) .inr
    | _ => exact .inl m
  have new : ∀ b, addF Mo k v b → Mo b ∨ H b = none := fun b m => by
    cases k with
    | fr =>
      cases v <;> first | exact .inl m | skip
      exact m.elim .inl fun m => .inr (by rw [m]; exact fr rfl _ rfl)
    | _ => exact .inl m
  have bs : ∀ b o, H b = some o → H1 b = some o := fun b o e => rb.base b o e (by simp)
  have lst : ∀ b ∈ L, H b ≠ none := fun b m => by
    obtain ⟨vs, e⟩ := r.lst m
    rw [e]; simp
  have l : Le K (wo Mo L H [] []) (wo (addF Mo k v) L H1 [] []) := ⟨List.prefix_refl _, fun b o e n => ⟨bs b o e, fun m => by
      rcases mt_nil.mp m with m | m
      · rcases new b m with m | m
        · exact n (.inl m)
        · rw [show H b = some o from e] at m; cases m
      · exact n (.inr (.inl m))⟩, fun b o hk n m => by
      rcases mt_nil.mp m with m | m
      · exact rb.mt b (sub b m) (rb.kf b o hk)
      · exact n (.inr (.inl m)), fun b e => by
      show H1 b ≠ none
      cases q : H b with
      | none => exact absurd q e
      | some o => rw [bs b o q]; simp⟩
  refine ⟨⟨rfl, fun i s e => by simp at e, fun i j a h => absurd h ow_nil, fun i a h => absurd h ow_nil, List.prefix_refl _, r.lnd, fun b hl m => ?_, fun b m n => absurd m n, r.sto, fun k c b e1 e2 => (r.cel k c b e1 e2).le l fun vs e => bs _ _ e, rb.kf, fun b m => rb.mt b (sub b m), fun b o e _ => bs b o e, fun A q e b ps m => ?_⟩, l, fun b o e _ => bs b o e, fun b m n => absurd m n⟩
  · rcases new b m with m | m
    · exact r.lmo b hl m
    · exact lst b hl m
  · have old : Mo b → H1 b ≠ some (.tbl ps) := fun m z => by
      cases q2 : H b with
      | none => exact r.mt b m q2
      | some o =>
        have := bs b o q2
        rw [z] at this
        cases this
        exact r.nt A q e b ps m q2
    cases k with
    | fr =>
      cases v <;> first | exact old m | skip
      rename_i a
      exact m.elim old fun m z => by
        obtain ⟨vs, e2, mu⟩ := fl rfl a rfl
        rw [m, e2] at z
        cases z
        exact mu
    | _ => exact old m
theorem unbox_le {k : Kd} {v : V} : ∀ b, Mt (addF Mo k v) L [] [] b → Mt (addF (MoB Mo L) k v) L1 [] [] b := fun b m => by
  rw [mt_nil] at m ⊢
  left
  cases k with
  | fr =>
    cases v <;> first | exact m | exact m.elim (fun m => m.elim (fun m => .inl (.inl m)) .inr) fun m => .inl (.inr m)
  | _ => exact m
theorem rv_unbox {d : D} {k : Kd} {v : V} (hn : d.noObj = true) (nk : k ≠ .wk) (h : RV K mg (wo (addF (MoB Mo L) k v) L1 H1 [] []) [] [] d k v) : RV K mg (wo (addF Mo k v) L H1 [] []) [] [] d k v := by
  have lb : Le K ⟨L, Mt (addF (MoB Mo L) k v) L1 [] [], H1⟩ (wo (addF Mo k v) L H1 [] []) := Le.of_sub unbox_le
  cases k with
  | wk => exact absurd rfl nk
  | sh => exact Rep.le lb _ _ (Rep.box (W := wo (addF (MoB Mo L) .sh v) L1 H1 [] []) (L' := L) d v hn h)
  | fr =>
    obtain ⟨a, rfl, o⟩ := h
    exact ⟨a, rfl, (Own.box (W := wo (addF (MoB Mo L) .fr (.ref a)) L1 H1 [] []) (L' := L) hn o).le lb fun _ e => e⟩
end
section
variable {P : Pg} {pr : Program} {w : World} {K : PySem.W.Frag} {mg : Str → Option Value} {base : Heap} {n : Nat}
theorem fo_step (hw : ∀ x F, P.fns.lookup x = some F → FnW K mg x F) (wf : Wf P K mg) (hx : EXH P pr w K mg base) (hmo : ∀ m, m < n → MO P pr w K mg base m) : FO P pr w K mg base n := by
  intro d x F f hF hm
  obtain ⟨⟨f', hm', hkeep, oc, od, name, qual, params, dV, kV, doc, pm, an, cdv, ct, osl, lk, hcd, hb⟩, S⟩ := hw x F hF
  rw [hm] at hm'
  cases hm'
  refine ⟨_, ?_, hb⟩
  have none : (∀ ds st, callF n P d x ds st = .no) → FnOk pr w K mg base (L2.CX pr w) d f (PySem.W.fnOf name qual params F.body F.sc dV kV doc pm an cdv ct) F.ps (spI P K mg n d x F.ps.length) := fun h =>
    ⟨fun vs H Q E q => q.1, fun A outer s H args us vs Q E _ _ _ _ q => by
      obtain ⟨_, Mo, L, st, ds, _, _, o⟩ := q
      rw [h] at o
      exact o.elim⟩
  cases n with
  | zero => exact none fun _ _ => rfl
  | succ n =>
    cases d with
    | zero => exact none fun _ _ => rfl
    | succ d =>
      refine fn_of lk hcd S (fun vs H Q E q => q.1) fun A outer s H vs Q E hr q => ?_
      obtain ⟨hl, Mo, L, st, ds, r, rl, o⟩ := q
      have c : Cxt P (cxOf (L2.CX pr w) pr w K mg base F.N qual F.sc f cdv A outer s H E) d ⟨F.N, F.sc, F.cells, Option.none, Option.none⟩ (fun cls dd _ H' => E cls dd H') :=
        { N := rfl, sc := rfl, nd := S.nd, calm := rfl, room := hr, tk := takes_of rfl rfl rfl rfl, po := passes_of rfl, fn := fun x _ _ => .inl rfl, wf := wf, tp := fun A q h => (by cases h), ind := fun _ _ _ _ _ h => h, gd := fun h => (by cases h) }
      have sa := SA.all (X := cxOf (L2.CX pr w) pr w K mg base F.N qual F.sc f cdv A outer s H E) hx c n fun m hm => hmo m (Nat.lt_succ_of_lt hm)
      refine ⟨_, sa.B F.body, ?_⟩
      have hlen : ds.length = F.ps.length := callF_len hF o
      have ev : callF (n + 1) P (d + 1) x ds = box ds (.bnd (exSs n P d ⟨F.N, F.sc, F.cells, Option.none, Option.none⟩ F.body (ρ0 ds (F.N.length - ds.length))) fun q => match q.1 with
          | .nx => .ret (.non, .sh)
          | .rt r k => if isWk k then .no else .ret (r, k)
          | _ => .no) := by
        unfold callF
        rw [hF]
        dsimp only
        rw [if_pos hlen]
        rfl
      rw [ev] at o
      unfold box at o
      by_cases hbx : noObjL ds = true
      · rw [if_pos hbx] at o
        have rb := r.boxed
        have rlb := rep_boxL hbx rl
        obtain ⟨r1, l1⟩ := Rl.start (N := F.N) rb rlb rfl
        refine ⟨MoB Mo L, H, [], [], _, [], wo (MoB Mo L) [] H [] [], r1, l1, ?_⟩
        unfold M.bnd at o
        show Out (exSs n P d ⟨F.N, F.sc, F.cells, Option.none, Option.none⟩ F.body (ρ0 ds (F.N.length - ds.length)) []) _ _
        cases he : exSs n P d ⟨F.N, F.sc, F.cells, Option.none, Option.none⟩ F.body (ρ0 ds (F.N.length - ds.length)) [] with
        | no => rw [he] at o; exact o.elim
        | ex e st1 =>
          rw [he] at o
          dsimp only at o
          split at o
          · rename_i hok
            intro cls dd L' H' ρ' σ' rr ll xx
            obtain ⟨r2, l2⟩ := rr.drop
            have pu := Po.unbox (k := .sh) (v := .non) r r2 (fun z => by cases z) fun z => by cases z
            refine o cls dd L H' pu ?_
            obtain ⟨cc, dx, fs, e1, e2, e3, e4, e5, e6⟩ := xx.le l2 rfl
            refine ⟨cc, dx, fs, e1, e2, e3, e4, e5, ?_⟩
            exact RepL.le (W := ⟨L, Mt (MoB Mo L) L' [] [], H'⟩) (Le.of_sub (unbox_le (k := .sh) (v := .non))) _ _ (RepL.box (W := wo (MoB Mo L) L' H' [] []) (L' := L) _ _ hok e6)
          · exact o.elim
        | ok q st1 =>
          rw [he] at o
          dsimp only at o
          obtain ⟨fl, ρ1⟩ := q
          cases fl with
          | nx =>
            have o : OkV K mg Mo H L L H [] [] Q (.non, .sh) st := o
            intro σ' L' H' rr ll
            obtain ⟨r2, l2⟩ := rr.drop
            exact o.sh (Po.unbox (k := .sh) (v := .non) r r2 (fun z => by cases z) fun z => by cases z) (by unfold Rep; rfl)
          | rt rv k =>
            have hk : k ≠ .wk := by
              rintro rfl
              exact o.elim
            replace o : Out ((if rv.noObj = true then .ok (rv, k) st else .no : R DK)) (OkV K mg Mo H L L H [] [] Q) (ExQ K mg Mo H L L H [] [] fun cls dd _ H' => E cls dd H') := by
              cases k with
              | wk => exact absurd rfl hk
              | sh => exact o
              | fr => exact o
            split at o
            · rename_i hno
              have o : OkV K mg Mo H L L H [] [] Q (rv, k) st := o
              refine ⟨hk, fun v L' H' rr ll rvv fr => ?_⟩
              exact o v L H' (Po.unbox r rr (fun z a e => (fr z a e).2) fun z a e => by
                subst z
                obtain ⟨a2, e2, o2⟩ := rvv
                obtain ⟨vs, q⟩ := o2.there
                rw [e] at e2
                cases e2
                exact ⟨vs, q⟩) (rv_unbox hno hk rvv) fun z a e => (fr z a e).2
            · exact o.elim
          | bk => exact o.elim
          | ct => exact o.elim
      · rw [if_neg hbx] at o
        obtain ⟨r1, l1⟩ := Rl.start (N := F.N) r rl rfl
        refine ⟨Mo, H, L, L, _, st, wo Mo L H [] [], r1, l1, (Out.bnd o).imp (fun q st1 o => ?_) fun e st1 o => ?_⟩
        · obtain ⟨fl, ρ1⟩ := q
          cases fl with
          | nx =>
            have o : OkV K mg Mo H L L H [] [] Q (.non, .sh) st1 := o
            intro σ' L' H' rr ll
            obtain ⟨r2, l2⟩ := rr.drop
            exact o.sh (Po.ofEnd r2 (ll.trans l2)) (by unfold Rep; rfl)
          | rt rv k =>
            have hk : k ≠ .wk := by
              rintro rfl
              exact o.elim
            replace o : OkV K mg Mo H L L H [] [] Q (rv, k) st1 := by
              cases k with
              | wk => exact absurd rfl hk
              | sh => exact o
              | fr => exact o
            exact ⟨hk, fun v L' H' rr ll rvv fr => o v L' H' (Po.ofEnd rr ll) rvv fun z a e => (fr z a e).2⟩
          | bk => exact o.elim
          | ct => exact o.elim
        · intro cls dd L' H' ρ' σ' rr ll xx
          obtain ⟨r2, l2⟩ := rr.drop
          exact o cls dd L' H' (Po.ofEnd r2 (ll.trans l2)) (xx.le l2 rfl)
end
end PI
set_option Elab.async false
set_option linter.all false
set_option maxRecDepth 100000
set_option maxHeartbeats 4000000
/-! PI19: a lambda made and handed on, the heap told exactly. -/
namespace PI
open PySem PySem.Spec PyProof.Rows L2 LamX
/-- the heap behind the making: as it was, or the code object at c is new in the table at A -/
def Hn (H : Hp) (A : Addr) (q : Str) (ps : Array Value) (H1 : Hp) : Prop := H1 = H ∨ ∃ (c : Addr) (more : Array Value), H c = none ∧ TriplesOk (ps ++ more).toList ∧
  (∀ (pos : Pos) (cv : Value), codeAmong pos (ps ++ more).toList = some cv → codeAmong pos ps.toList = some cv ∨ cv = .ref c) ∧ H1 = upd (upd H A (.tbl (ps ++ more))) c (CodeO c q)
section
variable {X : Cx} {pins : List (Addr × Obj)} {σ : L2.St} {H : Hp} {s : Shared}
theorem make3 {c A : Addr} {params : Arguments} {body : Expr} {scope : Scope} {pos : Pos} {E : Value → Shared → Prop} {Q : Value → Shared → Prop} {ps : Array Value} (I : Inv X pins σ H s) (TB : TabB X.base X.mg c A) (hcode : X.env.code = .ref c)
    (hA : H A = some (.tbl ps)) (ht : TriplesOk ps.toList) (ha : ∀ (p : Pos) (cv : Value), codeAmong p ps.toList = some cv → ∃ c, cv = .ref c ∧ H c = some (CodeO c (X.env.qual ++ "<lambda>"))) (hdef : defaultsOf params X.env = ([], [])) (hfree : ∀ y ∈ scope.names, y.2 = .free → ∃ c, X.env.cells.lookup y.1 = some c)
    (h : ∀ (f c' : Addr) (pm ctv : Value) (H1 : Hp) (s' : Shared), Inv X pins σ H1 s' → Hn H A (X.env.qual ++ "<lambda>") ps H1 →
      s'.heap.get? f = some (PySem.W.kla_obj "<lambda>" (X.env.qual ++ "<lambda>") params body scope (cloFrom X.env.cells scope.names []) pm c' ctv) → H1 f = none → f ∉ frs X.stack → H1 c' = some (CodeO c' (X.env.qual ++ "<lambda>")) → Q (.ref f) s') :
    wpAny (model X.prog X.w) X.A (eval (.Lambda params body scope pos) X.env) Q E s := by
  refine PySem.W.kla_eval hdef ?_
  have bA : s.heap.BuiltinsAt X.mg A := TB.bm.keeps I.bk
  have gA : s.heap.get? A = some { cls := .none, data := .fields ps } := I.hok A _ hA
  have away : ∀ f, s.heap.objs.size ≤ f → f ∉ frs X.stack := fun f hf z => by
    rcases List.mem_cons.mp (I.stkSub _ z) with e | e
    · have := I.lt
      rw [← e] at this
      exact absurd (Nat.lt_of_lt_of_le this hf) (Nat.lt_irrefl _)
    · exact I.nofs hf e
  cases hc : codeAmong pos ps.toList with
  | some cv =>
    obtain ⟨c', rfl, hco⟩ := ha pos cv hc
    refine PySem.W.kla_makeFunctionHit (mg := X.mg) (c := c) (P := A) (ps := ps) (closure_ok hfree) I.ok.glob (I.mod.glob.keeps I.bk) hcode (TB.code.keeps I.bk) gA ht hc bA fun ctv h' tk hx hsz => ?_
    exact h h'.objs.size c' ((X.mg "__name__").getD .none) ctv H _ (I.kept fun b o e => Heap.get?_push_of_some _ (hx b o e)) (.inl rfl) (Heap.get?_push_size _ rfl) (I.hok.fresh hsz) (away _ hsz) hco
  | none =>
    refine PySem.W.kla_makeFunction (mg := X.mg) (c := c) (P := A) (ps := ps) (closure_ok hfree) I.ok.glob (I.mod.glob.keeps I.bk) hcode (TB.code.keeps I.bk) gA ht hc TB.gP bA fun c' ctv h' tk hx hge hlt hrec htb => ?_
    obtain ⟨c2, oc, vs, t, e2, hoc, hd, hv⟩ := hrec
    cases e2
    have big : s.heap.objs.size ≤ h'.objs.size := Nat.le_trans hge (Nat.le_of_lt hlt)
    have nC : H c' = none := I.hok.fresh hge
    have I1 := inv_table (t' := tk) (more := #[rawInt pos.line, rawInt pos.col, .ref c']) (h' := h'.push (PySem.W.kla_obj "<lambda>" (X.env.qual ++ "<lambda>") params body scope (cloFrom X.env.cells scope.names []) ((X.mg "__name__").getD .none) c' ctv)) (q := X.env.qual ++ "<lambda>") I hA
      (fun b o hb e => Heap.get?_push_of_some _ (hx b o hb e)) (Heap.get?_push_of_some _ htb) hge ⟨oc, vs, t, Heap.get?_push_of_some _ hoc, hd, hv⟩
    have eL : (ps ++ #[rawInt pos.line, rawInt pos.col, .ref c']).toList = ps.toList ++ [rawInt pos.line, rawInt pos.col, .ref c'] := by simp
    refine h h'.objs.size c' ((X.mg "__name__").getD .none) ctv _ _ I1 (.inr ⟨c', _, nC, by rw [eL]; exact PySem.TriplesOk_snoc _ _ _ _ ht, fun p' cv hcv => ?_, rfl⟩) (Heap.get?_push_size _ rfl) ?_ (away _ big) upd_same
    · rw [eL] at hcv
      exact among_app _ ht hcv
    · have n1 : h'.objs.size ≠ c' := Nat.ne_of_gt hlt
      have n2 : h'.objs.size ≠ A := Nat.ne_of_gt (Nat.lt_of_lt_of_le (Heap.lt_size gA) big)
      rw [upd_ne n1, upd_ne n2]
      exact I.hok.fresh big
def tLam3 (A : Addr) (q : Str) (TT : (XK → Hp → VK → Prop) → Hp → VK → Prop) (t : XK → TE) : TE := fun σ H Q => ∃ ps : Array Value, H A = some (.tbl ps) ∧ TriplesOk ps.toList ∧ (∀ (p : Pos) (cv : Value), codeAmong p ps.toList = some cv → ∃ c, cv = .ref c ∧ H c = some (CodeO c q)) ∧
  ∀ H1, Hn H A q ps H1 → TT (fun E H' Q' => t E σ H' Q') H1 Q
theorem lamcall3 {TT : (XK → Hp → VK → Prop) → Hp → VK → Prop} {x a : Str} {g c A : Addr} {k : Nat} {pg : Arguments} {bg : List Stmt} {sg : Scope} {dV kV doc pm cdv ct oc : Value} {an od : Option Addr} {osl : Array (Option Value)} {Ng : List Str}
    {params : Arguments} {body : Expr} {scope : Scope} {t : XK → TE} {p lpos pos : Pos} (hg : Gl X x) (hm : X.mg x = some (.ref g)) (hk : PySem.W.keepIn X.K (.ref g) = true)
    (lk : X.K.lookup g = some ⟨oc, od, .func (PySem.W.fnOf x x pg bg sg dV kV doc pm an cdv ct), osl⟩) (hcg : PySem.W.codeIn X.K cdv x = true) (hb : L2.Binds X.K (PySem.W.fnOf x x pg bg sg dV kV doc pm an cdv ct) [a] []) (Sg : FnScope Ng [a] sg) (hNg : Ng[0]? = some a) (hva : Vis sg a)
    (hG : GivesTo X Ng x sg g cdv bg a (X.env.qual ++ "<lambda>") TT)
    (TB : TabB X.base X.mg c A) (hcode : X.env.code = .ref c) (hr : Room (k + 2) X.A) (L : LamS X.env.scope scope) (hdef : defaultsOf params X.env = ([], []))
    (hbind : ∀ (q : Str) (cl : List (Str × Addr)) (pm cv ctv : Value), bindArgs (PySem.W.kla_fn "<lambda>" q params body scope cl pm cv ctv) ⟨[], []⟩ = pure [])
    (hbody : ∀ (A : Around) (outer : List Env) (s : Shared) (H : Hp) (E : XK) (f c' : Addr), Room k (A.deeper (lamEnv X scope s.heap.objs.size f c')) → PE (lamCx X A outer s H E scope f c') body (t E))
    (hdb : (x == ("__debug__" : Str)) = false) (hd : (a == ("__debug__" : Str)) = false) (hcd : (a == ("__classdict__" : Str)) = false) :
    PE X (.Call (.Name x p) [.Lambda params body scope lpos] [] pos) (tLam3 A (X.env.qual ++ "<lambda>") TT t) := by
  refine ⟨fun pins s σ H Q I ⟨ps, hA, ht, ha, h⟩ => ?_⟩
  refine wpAny_Call_Name_kw (ld_glob I hg hm ?_ hdb)
  refine PySem.W.callWith_K (h₀ := X.base) I.ok.mod.kin hk ?_ (by rfl) (by rfl)
  show wpAny _ _ (spliced ((false, eval (.Lambda params body scope lpos) X.env) :: backTo pos (starEach [] X.env))) _ _ s
  refine Calls.spliced_cons (make3 I TB hcode hA ht ha hdef (L.has I.ok) fun f c' pm' ctv H1 s' I1 eN hf hfn hfr hco => ?_)
  refine Calls.spliced_nil ⟨I1.kIn, ?_⟩
  have rc : codeAny (model X.prog X.w) X.A (.call (.ref g) ⟨[.ref f], []⟩) (CR C8.CX0 X.stack X.prog X.w H1 s' Q C8.E0) s' := by
    refine run_ofS (N := Ng) (ps := [a]) (us := [.ref f]) (vs := [.ref f]) lk hcg Sg hr I1.env0 (hb s' [.ref f] I1.kIn rfl) (.cons rfl .nil) rfl fun hr' => ?_
    obtain ⟨t', ht', hq'⟩ := hG f c' s' H1 Q (fun E H' Q' => t E σ H' Q') (fun W pn xe E p1 p2 tk hW => pe_act (i := 0) I1 L hf hfn hfr (hbind _ _ _ _ _) tk hW hr' (fun A outer s H hr2 => hbody A outer s H E f c' hr2) hNg hva hd hcd) hco (h H1 eN)
    exact ⟨t', ht'.nox, hq'⟩
  refine wpAny_call (codeAny_mono rc fun r s2 hq => ?_)
  cases r with
  | error e => exact (show False from hq).elim
  | ok fl =>
    cases fl with
    | ret u => exact I1.after hq
    | next => exact False.elim hq
    | brk => exact False.elim hq
    | cont => exact False.elim hq
end
section
variable {K : PySem.W.Frag} {mg : Str → Option Value} {Mo : Addr → Prop} {H0 H H1 : Hp} {L0 L : List Addr} {ρ : List Sl} {σ : L2.St} {st : Store} {A a : Addr} {q : Str} {l : Nat}
/-- the table's object changes -/
theorem Rl.chgT (r : Rl K mg Mo H0 L0 L H ρ σ st) (e1 : st[l]? = some (.tab A q)) (e2 : L[l]? = some a) {ps more : Array Value} {c : Addr} (hA : H A = some (.tbl ps)) (hc : H c = none) (kf : KF K (upd (upd H A (.tbl (ps ++ more))) c (CodeO c q)))
    (ht : TriplesOk (ps ++ more).toList) (ho : ∀ (pos : Pos) (cv : Value), codeAmong pos (ps ++ more).toList = some cv → codeAmong pos ps.toList = some cv ∨ cv = .ref c) :
    Rl K mg Mo H0 L0 L (upd (upd H A (.tbl (ps ++ more))) c (CodeO c q)) ρ σ st ∧ Le K (wo Mo L H ρ σ) (wo Mo L (upd (upd H A (.tbl (ps ++ more))) c (CodeO c q)) ρ σ) ∧ (∀ b o, H b = some o → b ∉ L → upd (upd H A (.tbl (ps ++ more))) c (CodeO c q) b = some o) := by
  obtain ⟨ea, ps', hA', ht', hco⟩ := r.cel l _ a e1 e2
  subst ea
  have hA' : H a = some (.tbl ps') := hA'
  rw [hA] at hA'
  cases hA'
  have ha : a ∈ L := List.mem_of_getElem? e2
  have nac : a ≠ c := ne_of_none hA hc
  have keep : ∀ b o, H b = some o → b ≠ a → upd (upd H a (.tbl (ps ++ more))) c (CodeO c q) b = some o := fun b o e n => by
    rw [upd_ne (ne_of_none e hc), upd_ne n]; exact e
  have atA : upd (upd H a (.tbl (ps ++ more))) c (CodeO c q) a = some (.tbl (ps ++ more)) := by rw [upd_ne nac, upd_same]
  have le : Le K (wo Mo L H ρ σ) (wo Mo L (upd (upd H a (.tbl (ps ++ more))) c (CodeO c q)) ρ σ) := ⟨List.prefix_refl _, fun b u e n => ⟨keep b u e fun z => n (by rw [z]; exact .inr (.inl ha)), n⟩, fun b _ _ n => n, fun b e => by
    show upd (upd H a (.tbl (ps ++ more))) c (CodeO c q) b ≠ none
    by_cases z : b = a
    · rw [z, atA]; simp
    · cases z2 : H b with
      | none => exact absurd z2 e
      | some o => rw [keep b o z2 z]; simp⟩
  refine ⟨⟨r.len, fun j t e => ?_, r.dis, r.own, r.pre, r.lnd, r.lmo, r.lnew, r.sto, fun k d b q1 q2 => ?_, kf, fun b m => le.tr b (r.mt b m), fun b u z n => ?_, fun A' q' e b ps2 m z => ?_⟩, le, fun b o e n => keep b o e fun z => n (by rw [z]; exact ha)⟩
  · have w := r.slot j t e
    cases t with
    | un => trivial
    | im d => obtain ⟨v, w1, h⟩ := w; exact ⟨v, w1, Rep.le le d v h⟩
    | ow d =>
      obtain ⟨b, w1, h⟩ := w
      have nb : b ≠ a := fun z => (r.own j b ⟨d, e, w1⟩).2.1 (by rw [z]; exact ha)
      exact ⟨b, w1, h.le le fun vs e => keep b _ e nb⟩
  · by_cases hb : b = a
    · subst hb
      have hk : k = l := by
        obtain ⟨h1, z1⟩ := List.getElem?_eq_some_iff.mp q2
        obtain ⟨h2, z2⟩ := List.getElem?_eq_some_iff.mp e2
        exact (List.getElem_inj r.lnd).mp (z1.trans z2.symm)
      subst hk
      rw [e1] at q1
      cases q1
      refine ⟨rfl, _, atA, ht, fun pos cv h => ?_⟩
      rcases ho pos cv h with h | h
      · obtain ⟨c0, f1, f2, f3⟩ := hco pos cv h
        obtain ⟨g1, g2⟩ := le.st c0 _ f2 f3
        exact ⟨c0, f1, g1, g2⟩
      · exact ⟨c, h, upd_same, r.free hc⟩
    · exact (r.cel k d b q1 q2).le le fun o e => keep b o e hb
  · have nb : b ≠ a := fun y => by
      subst y
      by_cases hn : b ∈ L0
      · exact n hn
      · rw [r.lnew b ha hn] at z; cases z
    exact keep b u (r.base b u z n) nb
  · have nb : b ≠ a := fun y => r.lmo a ha (by rw [← y]; exact m)
    cases w : H b with
    | none => exact r.mt b m w
    | some o =>
      rw [keep b o w nb] at z
      cases z
      exact r.nt A' q' e b ps2 m w
end
end PI
set_option Elab.async false
set_option linter.all false
set_option maxRecDepth 100000
set_option maxHeartbeats 4000000
/-! PI20: a try with several clauses `except X as e`, one of which takes whatever comes. -/
namespace PI
open PySem PySem.Spec PyProof.Rows L2
/-- what the clauses wish, the name's slot is i; what no clause takes does not come -/
def wNm (K : PySem.W.Frag) (i : Nat) (D : Ends) : List (Value × (Addr → Value → Option Addr → TS)) → WX
  | [] => fun _ _ _ _ => False
  | (c, ts) :: r => fun cls d σ H => ∃ b, PySem.W.exmOne K cls c = some b ∧ (b = true → ∀ a, H a = none → ts a cls d { nx := fun σ' H' => D.nx (σ'.set i none) H', rt := D.rt, bk := fun σ' H' => D.bk (σ'.set i none) H', ct := fun σ' H' => D.ct (σ'.set i none) H' } (σ.set i (some (.ref a))) H) ∧
    (b = false → wNm K i D r cls d σ H)
inductive HdsN (X : Cx) (n : Str) : List ExceptHandler → List (Value × (Addr → Value → Option Addr → TS)) → Prop
  | nil : HdsN X n [] []
  | cons {x : Str} {c : Value} {ts : Addr → Value → Option Addr → TS} {b₀ : Stmt} {suite : List Stmt} {np pos' : Pos} {hds : List ExceptHandler} {l : List (Value × (Addr → Value → Option Addr → TS))} (hc : Names X x c)
      (hsu : ∀ (a : Addr) (oe : Obj) (cls : Value) (d : Option Addr) (pn : List (Addr × Obj)), Zc cls d oe → (∃ vs, oe.data = .fields vs) → PSs (X.suite a ((a, oe) :: pn)) (b₀ :: suite) (ts a cls d)) (r : HdsN X n hds l) :
      HdsN X n (.ExceptHandler (some (.Name x np)) (some n) (b₀ :: suite) pos' :: hds) ((c, ts) :: l)
section
variable {X : Cx} {body : List Stmt} {h₀ : ExceptHandler} {hds : List ExceptHandler} {l : List (Value × (Addr → Value → Option Addr → TS))} {n : Str} {i : Nat} {pos : Pos} {tb : WX → TS}
theorem try_named (hs : X.stack = X.env :: X.outer) (hf : X.env.frame = some X.env.locals) (hN : X.N.Nodup) (hi : X.N[i]? = some n) (hln : X.env.kindOf n = some .local)
    (hb : ∀ (W : WX) (pn : List (Addr × Obj)) (xe : Value → Shared → Prop), Takes (X.tr pn xe) W → PassesOwn (model X.prog X.w) X.A X.env xe → PSs (X.tr pn xe) body (tb W))
    (hh : HdsN X n (h₀ :: hds) l) : PS X (.Try body (h₀ :: hds) [] [] pos) (fun D σ H => tb (wNm X.K i D l) D σ H) := by
  refine ⟨fun pins s σ H D I h => ?_⟩
  have ok := I.ok
  have hfr : X.A.frames = some (X.env :: X.outer) := by rw [ok.frames, hs]
  have hloc : Loc X.env.scope n := .inl hln
  refine wpAny_Try_except ?_
  refine wpAny_mono ((hb (wNm X.K i D l) (X.pn ++ pins) (fun e s₁ => wpAny (model X.prog X.w) X.A (noteFrame e X.env) (fun _ s₂ => wpAny (model X.prog X.w) X.A (setFlight e none) (fun _ s₃ =>
    wpAny (model X.prog X.w) X.A (handleBy e X.env (h₀ :: hds)) (SP X pins D) X.xe s₃) X.xe s₂) X.xe s₁) (fun u s' xx => ?_) PassesOwn.looking).run [] s σ H D (I.toTry _) h) (fun f s1 hsp => ?_) (fun e s1 he => he)
  · obtain ⟨a, B, sI, pins', σ', H', cls, d, rfl, J', nb, up, sky, na, os, ag, w⟩ := xx
    have J : Inv X pins σ' H' sI := J'.ofTry ok
    have sky' : Sky B (X.env :: X.outer) a (Zc cls d) X.env.locals s'.heap := by rw [← hs]; exact sky
    show wpAny (model X.prog X.w) X.A (noteFrame (.ref a) X.env) _ _ _
    refine Sky.land Zc.steady hfr hf sky' fun h3 fl3 up3 => ?_
    have J3 : Inv X pins σ' H' { s' with heap := h3 } := J.landed nb fl3.1 (up.trans up3) os ag
    obtain ⟨oe3, vs3, he3, hz3, hd3⟩ := fl3.there
    have notFr : ∀ {h : Heap} {o : Obj} {vs : Array Value}, h.FunFrames B (X.env :: X.outer) → h.get? a = some o → o.data = .fields vs → a ∉ frs (X.env :: X.outer) := fun {h o vs} ff e dd hm => by
      obtain ⟨_, o', e', hnf⟩ := ff.mem hm
      rw [e] at e'; cases e'
      exact hnf _ dd
    have nfr := notFr fl3.2.2.1 he3 hd3
    have nL : a ≠ X.env.locals := fun z => nfr (List.mem_filterMap.mpr ⟨X.env, List.mem_cons_self, by rw [hf, z]⟩)
    have nF : a ∉ X.fs := fun hm => by
      obtain ⟨e, he, q⟩ := List.mem_filterMap.mp hm
      exact nfr (List.mem_filterMap.mpr ⟨e, List.mem_cons_of_mem _ he, q⟩)
    have S3 := J3.suite he3 hd3 na nL nF
    have go : ∀ {hds' : List ExceptHandler} {l' : List (Value × (Addr → Value → Option Addr → TS))}, HdsN X n hds' l' → wNm X.K i D l' cls d σ' H' →
        wpAny (model X.prog X.w) X.A (handleBy (.ref a) X.env hds') (SP X pins D) X.xe { s' with heap := h3 } := by
      intro hds' l' hk
      induction hk with
      | nil => intro w; exact w.elim
      | @cons x c ts b₀ suite np pos' hds2 l2 hc hsu r ih =>
        intro w
        obtain ⟨b, hb1, hyes, hno⟩ := w
        refine wpAny_handleBy_cons (codeAny_handlers_test ?_) (by intro q; cases q)
        have LT : PySem.W.Looks (model X.prog X.w) h3 (typeOf (.ref a)) cls := fun A Q E s k q => wpAny_typeOf_ref (k _ _ he3) (by rw [hz3.1]; exact q)
        have LM := PySem.W.exm_one (M := model X.prog X.w) (J3.kIn) LT hb1
        have test : ∀ {Q : Value → Shared → Prop} {E : Value → Shared → Prop}, Q c { s' with heap := h3 } → wpAny (model X.prog X.w) (X.A.mark (some (.ref a))) (eval (.Name x np) X.env) Q E { s' with heap := h3 } := fun {Q E} q => by
          obtain ⟨hg, hdbg, hm | ⟨hm, hv, hnn⟩⟩ := hc
          · exact ld_glob (X := X.suite a ((a, oe3) :: (X.pn ++ pins))) S3 hg hm q hdbg
          · exact ld_blt (X := X.suite a ((a, oe3) :: (X.pn ++ pins))) S3 hg hm hv q hnn hdbg
        refine test (LM.here ?_)
        cases b with
        | true =>
          refine codeAny_handlers_suite_as ?_
          refine HandSPX.lands_againZ fl3 fun h4 fl4 up4 => ?_
          have J4 : Inv X pins σ' H' { s' with heap := h4 } := J.landed nb fl4.1 ((up.trans up3).trans up4) os ag
          obtain ⟨oe4, vs4, he4, hz4, hd4⟩ := fl4.there
          have S4 := J4.suite he4 hd4 na nL nF
          refine store_ok (X := X.suite a ((a, oe4) :: (X.pn ++ pins))) (v := .ref a) S4 hN hi hloc rfl (fun s5 S5 => ?_) (.inr hln)
          refine wpAny_mono ((hsu a oe4 cls d (X.pn ++ pins) hz4 ⟨_, hd4⟩).run [] s5 _ H' _ S5 (hyes rfl a na)) (fun f s6 hsp => ?_) (fun _ _ z => False.elim z)
          have done : ∀ {σ6 : L2.St} {H6 : Hp} {Q : Shared → Prop}, Inv (X.suite a ((a, oe4) :: (X.pn ++ pins))) [] σ6 H6 s6 → (∀ s7, Inv X pins (σ6.set i none) H6 s7 → Q s7) →
              wpAny (model X.prog X.w) X.A (do bindName X.env n .none; unbindBehindTheSuite X.env n pos') (fun _ s7 => Q s7) X.xe s6 := fun {σ6 H6 Q} S6 hq => gone_ok (S6.unsuite ok) hN hi hln hq
          cases f with
          | next =>
            obtain ⟨σ6, H6, S6, q6⟩ := hsp
            exact done S6 fun s7 J7 => ⟨_, _, J7, q6⟩
          | brk =>
            obtain ⟨σ6, H6, S6, q6⟩ := hsp
            exact done S6 fun s7 J7 => ⟨_, _, J7, q6⟩
          | cont =>
            obtain ⟨σ6, H6, S6, q6⟩ := hsp
            exact done S6 fun s7 J7 => ⟨_, _, J7, q6⟩
          | ret u =>
            obtain ⟨v6, σ6, H6, S6, r6, q6⟩ := hsp
            exact done S6 fun s7 J7 => ⟨_, _, _, J7, r6, q6⟩
        | false =>
          show wpAny _ X.A (handleBy (.ref a) X.env hds2) _ _ _
          exact ih (hno rfl)
    exact go hh w
  · cases f with
    | next =>
      obtain ⟨σ', H', J', q⟩ := hsp
      exact wpAny_execs_nil ⟨σ', H', J'.ofTry ok, q⟩
    | brk =>
      obtain ⟨σ', H', J', q⟩ := hsp
      exact ⟨σ', H', J'.ofTry ok, q⟩
    | cont =>
      obtain ⟨σ', H', J', q⟩ := hsp
      exact ⟨σ', H', J'.ofTry ok, q⟩
    | ret u =>
      obtain ⟨v, σ', H', J', r, q⟩ := hsp
      exact ⟨v, σ', H', J'.ofTry ok, r, q⟩
end
end PI
set_option Elab.async false
set_option linter.all false
set_option maxRecDepth 100000
set_option maxHeartbeats 4000000
/-! PI21: the def that tells refusals. -/
namespace PI
open PySem PySem.Spec PyProof.Rows L2 LamX
/-- what one clause tells of the exception -/
def toldV (k : Nat) (w : Str) (fs : List (Str × V)) (H : Hp) (Q : VK) : Prop := match k with
  | 1 => ∃ v, fs.lookup ("value" : Str) = some v ∧ ∀ p, H p = none → Q (.ref p) (upd H p (.tup [.str w, v]))
  | 2 => ∃ v u, fs.lookup ("what" : Str) = some v ∧ fs.lookup ("limit" : Str) = some u ∧ ∀ p, H p = none → ∀ p2, upd H p (.tup [v, u]) p2 = none → Q (.ref p2) (upd (upd H p (.tup [v, u])) p2 (.tup [.str w, .ref p]))
  | _ => False
def toldX (C : Addr) (k : Nat) (w : Str) (cls : Value) (d : Option Addr) (H : Hp) (Q : VK) : Prop := cls = .ref C ∧ ∃ (dd : Addr) (fs : List (Str × V)), d = some dd ∧ H dd = some (.xd fs) ∧ toldV k w fs H Q
def wTold (K : PySem.W.Frag) (cls : Value) (d : Option Addr) (H : Hp) (Q : VK) : List (Addr × Str × Nat) → Prop
  | [] => False
  | (C, w, k) :: r => ∃ b, PySem.W.exmOne K cls (.ref C) = some b ∧ (b = true → toldX C k w cls d H Q) ∧ (b = false → wTold K cls d H Q r)
def TT3 (K : PySem.W.Frag) (l : List (Addr × Str × Nat)) : (XK → Hp → VK → Prop) → Hp → VK → Prop := fun tl H Q =>
  tl (fun cls d H' => wTold K cls d H' Q l) H (fun _ H' => ([V.str "", V.non] : List V).length ≤ sizeLine ∧ ∀ p, H' p = none → Q (.ref p) (upd H' p (.tup [.str "", .non])))
/-- the clauses of the text -/
inductive HdsW (K : PySem.W.Frag) (mg : Str → Option Value) (sg : Scope) (e : Str) : List ExceptHandler → List (Addr × Str × Nat) → Prop
  | nil : HdsW K mg sg e [] []
  | one {c w : Str} {C : Addr} {np p1 p2 p3 p4 p5 p6 : Pos} {j kk : Nat} {hds : List ExceptHandler} {l : List (Addr × Str × Nat)} (hc : sg.names.lookup c = some .globalImplicit) (hk : okName c = true) (hm : mg c = some (.ref C)) (T : XfC K C) (hv : PySem.W.findIn K (.ref C) "value" = some none) (r : HdsW K mg sg e hds l) :
      HdsW K mg sg e (.ExceptHandler (some (.Name c np)) (some e) [.Return (some (.Tuple [.Constant (.str w) j p1, .Attribute (.Name e p2) "value" p3] kk p4)) p5] p6 :: hds) ((C, w, 1) :: l)
  | two {c w : Str} {C : Addr} {np p1 p2 p3 p4 p5 p6 p7 p8 p9 : Pos} {j kk k2 : Nat} {hds : List ExceptHandler} {l : List (Addr × Str × Nat)} (hc : sg.names.lookup c = some .globalImplicit) (hk : okName c = true) (hm : mg c = some (.ref C)) (T : XfC K C) (hv : PySem.W.findIn K (.ref C) "what" = some none) (hv2 : PySem.W.findIn K (.ref C) "limit" = some none) (r : HdsW K mg sg e hds l) :
      HdsW K mg sg e (.ExceptHandler (some (.Name c np)) (some e) [.Return (some (.Tuple [.Constant (.str w) j p1, .Tuple [.Attribute (.Name e p2) "what" p3, .Attribute (.Name e p7) "limit" p8] k2 p9] kk p4)) p5] p6 :: hds) ((C, w, 2) :: l)
section
variable {X : Cx} {sg : Scope} {e : Str} {i : Nat}
theorem pss_len {ss : List Stmt} {t : TS} (h : PSs X ss t) : PSs X ss (fun D σ H => σ.length = X.N.length → t D σ H) := ⟨fun pins s σ H D I q => h.run pins s σ H D I (q I.len)⟩
/-- the suites of the clauses -/
def tsOf (N : List Str) (i : Nat) (C : Addr) (w : Str) : Nat → Addr → Value → Option Addr → TS
  | 1 => fun a cls d D σ H => σ.length = N.length → tRet (tTup (tCons (tC (.str w)) (tCons (tXf a cls d C "value" (tVar i)) tNil))) D σ H
  | 2 => fun a cls d D σ H => σ.length = N.length → tRet (tTup (tCons (tC (.str w)) (tCons (tTup (tCons (tXf a cls d C "what" (tVar i)) (tCons (tXf a cls d C "limit" (tVar i)) tNil))) tNil))) D σ H
  | _ => fun _ _ _ _ _ _ => False
theorem hds_of (hsc : X.env.scope = sg) (hi : X.N[i]? = some e) (hel : sg.names.lookup e = some .local) (he : okName e = true) : ∀ {hds : List ExceptHandler} {l : List (Addr × Str × Nat)}, HdsW X.K X.mg sg e hds l → HdsN X e hds (l.map fun q => (.ref q.1, tsOf X.N i q.1 q.2.1 q.2.2))
  | _, _, .nil => .nil
  | _, _, .one hc hk hm T hv r => by
    obtain ⟨n1, n2, _⟩ := okName_3 he
    refine .cons ⟨by show X.env.scope.names.lookup _ = _; rw [hsc]; exact hc, (okName_3 hk).1, .inl hm⟩ (fun a oe cls d pn hz hf => ?_) (hds_of hsc hi hel he r)
    have hv' : Vis X.env.scope e := by rw [hsc]; exact .inl hel
    exact pss_len (X := X.suite a ((a, oe) :: pn)) (pss_one (ps_ret (pe_tup (pa_cons pe_str (pa_cons (pe_xf T hv hz hf (pe_var hi hv' n1 n2)) pa_nil)))))
  | _, _, .two hc hk hm T hv hv2 r => by
    obtain ⟨n1, n2, _⟩ := okName_3 he
    refine .cons ⟨by show X.env.scope.names.lookup _ = _; rw [hsc]; exact hc, (okName_3 hk).1, .inl hm⟩ (fun a oe cls d pn hz hf => ?_) (hds_of hsc hi hel he r)
    have hv' : Vis X.env.scope e := by rw [hsc]; exact .inl hel
    exact pss_len (X := X.suite a ((a, oe) :: pn)) (pss_one (ps_ret (pe_tup (pa_cons pe_str (pa_cons (pe_tup (pa_cons (pe_xf T hv hz hf (pe_var hi hv' n1 n2)) (pa_cons (pe_xf T hv2 hz hf (pe_var hi hv' n1 n2)) pa_nil))) pa_nil)))))
/-- what is told makes the suite go -/
theorem told_suite {N : List Str} {D : Ends} {σ' : L2.St} {H' : Hp} {cls : Value} {d : Option Addr} (hiN : i < N.length) : ∀ {l : List (Addr × Str × Nat)}, wTold X.K cls d H' D.rt l → wNm X.K i D (l.map fun q => (.ref q.1, tsOf N i q.1 q.2.1 q.2.2)) cls d σ' H'
  | [], h => h
  | (C, w, k) :: r, h => by
    obtain ⟨b, hb, h1, h2⟩ := h
    refine ⟨b, hb, fun hbt a ha => ?_, fun hbf => told_suite hiN (h2 hbf)⟩
    obtain ⟨ec, dd, fs, ed, edd, hv⟩ := h1 hbt
    have get : (σ'.set i (some (.ref a))).length = N.length → (σ'.set i (some (.ref a)))[i]? = some (some (.ref a)) := fun hl => by
      rw [List.getElem?_set_self]
      rw [List.length_set] at hl
      rw [hl]
      exact hiN
    match k, hv with
    | 1, ⟨v, g1, g2⟩ =>
      intro hl
      exact ⟨.ref a, get hl, rfl, ec, dd, fs, v, ed, edd, g1, by show 2 ≤ sizeLine; rw [sizeLine_eq]; decide, g2⟩
    | 2, ⟨v, u, g1, g2, g3⟩ =>
      intro hl
      refine ⟨.ref a, get hl, rfl, ec, dd, fs, v, ed, edd, g1, .ref a, get hl, rfl, ec, dd, fs, u, ed, edd, g2, by show 2 ≤ sizeLine; rw [sizeLine_eq]; decide, fun p hp => ⟨by show 2 ≤ sizeLine; rw [sizeLine_eq]; decide, fun p2 hp2 => g3 p hp p2 hp2⟩⟩
theorem told_gives3 {Ng : List Str} {x a q : Str} {sg : Scope} {e : Str} {i : Nat} {g : Addr} {cdg : Value} {p1 p2 p3 p4 p5 p6 p7 p8 : Pos} {j0 k0 j1 : Nat} {h₀ : ExceptHandler} {hds : List ExceptHandler} {l : List (Addr × Str × Nat)} (hN : Ng.Nodup) (hi : Ng[i]? = some e) (hel : sg.names.lookup e = some .local) (he : okName e = true) (hw : HdsW X.K X.mg sg e (h₀ :: hds) l)
    (h0 : ∀ f : Addr, (L2.start Ng [V.ref f])[0]? = some (some (V.ref f))) :
    GivesTo X Ng x sg g cdg [.Try [.Expr (.Call (.Name a p1) [] [] p2) p3] (h₀ :: hds) [] [] p8, .Return (some (.Tuple [.Constant (.str "") j0 p4, .Constant .none j1 p5] k0 p6)) p7] a q (TT3 X.K l) := by
  intro f c' s H Q tl act hc h
  have hiN : i < Ng.length := (List.getElem?_eq_some_iff.mp hi).1
  refine ⟨_, pss_cons (try_named (X := (cxOf C8.CX0 X.prog X.w X.K X.mg X.base Ng x sg g cdg X.A X.stack s H C8.E0).nox) (i := i) (n := e)
      (tb := fun W D σ H => ∃ Ech : XK, (∀ cls d σ' H', Ech cls d H' → W cls d σ' H') ∧ σ[0]? = some (some (.ref f)) ∧ H c' = some (CodeO c' q) ∧ tl Ech H (fun _ H1 => D.nx σ H1))
      rfl rfl hN hi hel (fun W pn xe tk _ => ?_) (hds_of (X := (cxOf C8.CX0 X.prog X.w X.K X.mg X.base Ng x sg g cdg X.A X.stack s H C8.E0).nox) rfl hi hel he hw)) (pss_one (ps_ret (pe_tup (pa_cons pe_str (pa_cons pe_non pa_nil))))), ?_⟩
  · refine ⟨fun pins s' σ H' D I h' => ?_⟩
    obtain ⟨Ech, hW, h1, h2, h3⟩ := h'
    exact (pss_one (ps_expr (pos := p3) (act W pn xe Ech p1 p2 tk hW))).run pins s' σ H' D I ⟨h1, h2, h3⟩
  · refine ⟨fun cls d H' => wTold X.K cls d H' Q l, fun cls d σ' H' hh => told_suite (X := (cxOf C8.CX0 X.prog X.w X.K X.mg X.base Ng x sg g cdg X.A X.stack s H C8.E0).nox) (N := Ng) hiN hh, h0 f, hc, ?_⟩
    exact h
end
end PI
set_option Elab.async false
set_option linter.all false
set_option maxRecDepth 100000
set_option maxHeartbeats 4000000
/-! PI22: what a refused call tells, by the interpreter. -/
namespace PI
open PySem PySem.Spec PyProof.Rows L2 LamX
/-- the clauses of the text and the table's -/
inductive HP (mg : Str → Option Value) : List (Str × Str × Nat) → List (Addr × Str × Nat) → Prop
  | nil : HP mg [] []
  | cons {c w : Str} {C : Addr} {k : Nat} {r : List (Str × Str × Nat)} {l : List (Addr × Str × Nat)} (hm : mg c = some (.ref C)) (t : HP mg r l) : HP mg ((c, w, k) :: r) ((C, w, k) :: l)
structure RefW (P : Pg) (K : PySem.W.Frag) (mg : Str → Option Value) : Prop where
  dk : okName P.ref = true
  ex : ∃ g, mg P.ref = some (.ref g) ∧ PySem.W.keepIn K (.ref g) = true ∧ ∃ (oc : Value) (od : Option Addr) (pg : Arguments) (sg : Scope) (dV kV doc pm cdv ct : Value) (an : Option Addr) (osl : Array (Option Value)) (j0 k0 j1 : Nat) (p1 p2 p3 p4 p5 p6 p7 p8 : Pos) (h₀ : ExceptHandler) (hds : List ExceptHandler) (a e : Str) (Ng : List Str) (i : Nat) (l : List (Addr × Str × Nat)),
    let bg : List Stmt := [.Try [.Expr (.Call (.Name a p1) [] [] p2) p3] (h₀ :: hds) [] [] p8, .Return (some (.Tuple [.Constant (.str "") j0 p4, .Constant .none j1 p5] k0 p6)) p7]
    K.lookup g = some ⟨oc, od, .func (PySem.W.fnOf P.ref P.ref pg bg sg dV kV doc pm an cdv ct), osl⟩ ∧ PySem.W.codeIn K cdv P.ref = true ∧ Binds K (PySem.W.fnOf P.ref P.ref pg bg sg dV kV doc pm an cdv ct) [a] [] ∧ FnScope Ng [a] sg ∧ Ng[0]? = some a ∧ visB sg a = true ∧ okName a = true ∧
      Ng[i]? = some e ∧ sg.names.lookup e = some .local ∧ okName e = true ∧ HdsW K mg sg e (h₀ :: hds) l ∧ HP mg P.hds l
  em : ∀ c1 ∈ P.hds.map (·.1), ∀ c2 ∈ P.hds.map (·.1), ∀ C1 C2, mg c1 = some (.ref C1) → mg c2 = some (.ref C2) → PySem.W.exmOne K (.ref C1) (.ref C2) = some (decide (c2 = c1))
section
variable {K : PySem.W.Frag} {mg : Str → Option Value} {Mo Mo2 : Addr → Prop} {H0 H H1 : Hp} {L0 L L1 : List Addr} {ρ : List Sl} {σ : L2.St} {st st1 : Store} {a : Addr}
theorem noOwn_get {i : Nat} {s : Sl} (h : (noOwn ρ)[i]? = some s) : (∀ d, s ≠ .ow d) ∧ (∀ d, s = .im d → ρ[i]? = some (.im d)) := by
  unfold noOwn at h
  rw [List.getElem?_map] at h
  cases e : ρ[i]? with
  | none => rw [e] at h; cases h
  | some t =>
    rw [e] at h
    cases t with
    | un => cases h; exact ⟨(by intro d z; cases z), (by intro d z; cases z)⟩
    | im d => cases h; exact ⟨(by intro d z; cases z), (by intro d' z; cases z; rfl)⟩
    | ow d => cases h; exact ⟨(by intro d z; cases z), (by intro d z; cases z)⟩
theorem noOwn_ow {i : Nat} {a : Addr} : ¬ owAt (noOwn ρ) σ i a := fun ⟨d, e, _⟩ => (noOwn_get e).1 d rfl
theorem mt_noOwn {b : Addr} : Mt Mo L (noOwn ρ) σ b ↔ Mt Mo L [] [] b := by
  rw [mt_nil]
  constructor
  · rintro (m | m | ⟨i, m⟩)
    · exact .inl m
    · exact .inr m
    · exact absurd m noOwn_ow
  · rintro (m | m)
    · exact .inl m
    · exact .inr (.inl m)
/-- a lambda's body in the maker's frame -/
theorem Rl.lam (r : Rl K mg Mo H0 L0 L H ρ σ st) : Rl K mg (MoC Mo ρ σ) H L L H (noOwn ρ) σ st := by
  have re := r.enter
  have le : Le K (wo Mo L H ρ σ) (wo (MoC Mo ρ σ) L H (noOwn ρ) σ) := Le.of_sub fun b m => mtC.mp (mt_noOwn.mp m)
  have le2 : Le K (wo (MoC Mo ρ σ) L H [] []) (wo (MoC Mo ρ σ) L H (noOwn ρ) σ) := Le.of_sub fun b m => mt_noOwn.mp m
  refine ⟨by rw [r.len]; unfold noOwn; rw [List.length_map], fun i s e => ?_, fun i j a h => absurd h noOwn_ow, fun i a h => absurd h noOwn_ow, re.pre, re.lnd, re.lmo, re.lnew, re.sto, fun k c b e1 e2 => (re.cel k c b e1 e2).le le2 fun _ e => e, re.kf, re.mt, re.base, re.nt⟩
  obtain ⟨g1, g2⟩ := noOwn_get e
  cases s with
  | un => trivial
  | ow d => exact absurd rfl (g1 d)
  | im d =>
    obtain ⟨v, e1, h⟩ := r.slot i _ (g2 d rfl)
    exact ⟨v, e1, Rep.le le d v h⟩
theorem Po.toNil (p : Po K mg (MoC Mo ρ σ) H L L H (noOwn ρ) σ Mo2 L1 H1 st1) : Po K mg (MoC Mo ρ σ) H L L H [] [] Mo2 L1 H1 st1 ∧ Le K (wo Mo2 L1 H1 (noOwn ρ) σ) (wo Mo2 L1 H1 [] []) := by
  obtain ⟨r1, l1⟩ := p.rl.drop
  exact ⟨⟨r1, ((Le.of_sub fun b m => mt_noOwn.mp m : Le K (wo (MoC Mo ρ σ) L H [] []) (wo (MoC Mo ρ σ) L H (noOwn ρ) σ)).trans p.le).trans l1, p.ex, p.nw⟩, l1⟩
end
section
variable {P : Pg} {X : Cx} {n d : Nat} {C : Ct} {Wx : WX}
theorem lookup_rep {K : PySem.W.Frag} {mg : Str → Option Value} {W : Wo} {x : Str} {d : D} : ∀ {fs : List (Str × D)} {gs : List (Str × V)}, gs.map (·.1) = fs.map (·.1) → RepL K mg W (fs.map (·.2)) (gs.map (·.2)) → fs.lookup x = some d → ∃ v, gs.lookup x = some v ∧ Rep K mg W d v
  | [], _, _, _, h => by cases h
  | (y, e) :: fs, [], h, _, _ => by cases h
  | (y, e) :: fs, (z, u) :: gs, h, r, hl => by
    simp only [List.map_cons, List.cons.injEq] at h
    obtain ⟨rfl, h⟩ := h
    obtain ⟨v, vr, e1, r1, r2⟩ := r.uncons
    simp only [List.map_cons, List.cons.injEq] at e1
    obtain ⟨rfl, rfl⟩ := e1
    rw [List.lookup_cons] at hl ⊢
    cases hx : (x == z) with
    | true =>
      rw [hx] at hl
      cases hl
      exact ⟨u, rfl, r1⟩
    | false =>
      rw [hx] at hl
      exact lookup_rep h r2 hl
theorem pick_mem {e : Ex} {v : D} : ∀ {r : List (Str × Str × Nat)}, pickEx e r = some v → e.cls ∈ r.map (·.1)
  | [], h => by unfold pickEx at h; cases h
  | (c, w, k) :: r, h => by
    unfold pickEx at h
    by_cases hc : c = e.cls
    · rw [hc]; simp
    · rw [if_neg hc] at h
      exact List.mem_cons_of_mem _ (pick_mem h)
/-- an exception that the table tells -/
theorem told_of {K : PySem.W.Frag} {mg : Str → Option Value} {W : Wo} {H : Hp} {Q : VK} {e : Ex} {cls : Value} {dd : Option Addr} {all : List (Str × Str × Nat)} (hW : W.H = H) (x : ExR K mg W e cls dd)
    (em : ∀ c1 ∈ all.map (·.1), ∀ c2 ∈ all.map (·.1), ∀ C1 C2, mg c1 = some (.ref C1) → mg c2 = some (.ref C2) → PySem.W.exmOne K (.ref C1) (.ref C2) = some (decide (c2 = c1))) (hin : e.cls ∈ all.map (·.1)) {v : D}
    (h1 : ∀ w x u, v = .tup [.str w, x] → Rep K mg W x u → ∀ p, H p = none → Q (.ref p) (upd H p (.tup [.str w, u])))
    (h2 : ∀ w x y u u2, v = .tup [.str w, .tup [x, y]] → Rep K mg W x u → Rep K mg W y u2 → ∀ p, H p = none → ∀ p2, upd H p (.tup [u, u2]) p2 = none → Q (.ref p2) (upd (upd H p (.tup [u, u2])) p2 (.tup [.str w, .ref p]))) :
    ∀ {r : List (Str × Str × Nat)} {l : List (Addr × Str × Nat)}, HP mg r l → (∀ y ∈ r.map (·.1), y ∈ all.map (·.1)) → pickEx e r = some v → wTold K cls dd H Q l
  | _, _, .nil, _, hp => by unfold pickEx at hp; cases hp
  | _, _, .cons (c := c) (w := w) (C := C) (k := k) (r := r) (l := l) hm t, hall, hp => by
    obtain ⟨CC, dx, gs, rfl, rfl, mc, hd, nm, rl⟩ := x
    have hex := em e.cls hin c (hall c (by simp)) CC C mc hm
    refine ⟨_, hex, fun hb => ?_, fun hb => ?_⟩
    · have hc : c = e.cls := of_decide_eq_true hb
      unfold pickEx at hp
      rw [if_pos hc] at hp
      have hCC : CC = C := by
        rw [hc, mc] at hm
        cases hm; rfl
      refine ⟨by rw [hCC], dx, gs, rfl, by rw [← hW]; exact hd, ?_⟩
      match k, hp with
      | 1, hp =>
        cases hl : e.fs.lookup ("value" : Str) with
        | none => rw [hl] at hp; cases hp
        | some y =>
          rw [hl] at hp
          cases hp
          obtain ⟨u, g1, g2⟩ := lookup_rep nm rl hl
          exact ⟨u, g1, h1 w y u rfl g2⟩
      | 2, hp =>
        cases hl : e.fs.lookup ("what" : Str) with
        | none => rw [hl] at hp; cases hp
        | some y =>
          cases hl2 : e.fs.lookup ("limit" : Str) with
          | none => rw [hl, hl2] at hp; cases hp
          | some y2 =>
            rw [hl, hl2] at hp
            cases hp
            obtain ⟨u, g1, g2⟩ := lookup_rep nm rl hl
            obtain ⟨u2, g3, g4⟩ := lookup_rep nm rl hl2
            exact ⟨u, u2, g1, g3, h2 w y y2 u u2 rfl g2 g4⟩
      | 0, hp => cases hp
      | _ + 3, hp => cases hp
    · have hc : ¬ c = e.cls := of_decide_eq_false hb
      unfold pickEx at hp
      rw [if_neg hc] at hp
      exact told_of hW ⟨CC, dx, gs, rfl, rfl, mc, hd, nm, rl⟩ em hin h1 h2 t (fun y hy => hall y (List.mem_cons_of_mem _ hy)) hp
theorem rf_step {pr : Program} {w : World} {K : PySem.W.Frag} {mg : Str → Option Value} {base : Heap} (rw' : RefW P K mg) (hmo : ∀ m, m < n → MO P pr w K mg base m) : RF P pr w K mg base n := by
  intro X d C Wx e1 e2 e3 e4 e5 c b lsc p q pos hg hls
  subst e1 e2 e3 e4 e5
  cases n with
  | zero => exact e_bad fun _ => rfl
  | succ n =>
    cases d with
    | zero => exact e_bad fun _ => rfl
    | succ d =>
      cases d with
      | zero => exact e_bad fun _ => rfl
      | succ d =>
        obtain ⟨g, hm, hk, oc, od, pg, sg, dV, kV, doc, pm, cdv, ct, an, osl, j0, k0, j1, p1, p2, p3, p4, p5, p6, p7, p8, h₀, hds, a, e, Ng, i, l, lk, hcd, hb, S, hN0, hva, hoa, hNi, hel, hoe, hdw, hp⟩ := rw'.ex
        cases htop : C.top with
        | none =>
          refine e_bad fun ρ => ?_
          funext st
          unfold evRef
          dsimp only
          cases st[0]? with
          | none => rfl
          | some cell => cases cell <;> rfl
        | some top =>
          obtain ⟨A, qq⟩ := top
          obtain ⟨cc, hcode, TB, hqq⟩ := c.tp A qq htop
          have LS : LamS X.env.scope lsc := by rw [c.sc]; exact lamS_by hls
          have hbody : ∀ (A' : Around) (outer : List Env) (s : Shared) (H : Hp) (E : XK) (f c' : Addr), Room d (A'.deeper (lamEnv X lsc s.heap.objs.size f c')) → PE (lamCx X A' outer s H E lsc f c') b (fun σ H1 Q => KF X.K H1 → tM X.K X.mg (fun cls dd _ H' => E cls dd H') (evE n P d ⟨C.N, lsc, [], some lsc, none⟩ b) σ H1 Q) := fun A' outer s H E f c' hr => by
            have cx : Cxt P (lamCx X A' outer s H E lsc f c') d ⟨C.N, lsc, [], some lsc, none⟩ (fun cls dd _ H' => E cls dd H') :=
              { N := c.N, sc := rfl, nd := c.nd, calm := rfl, room := hr, tk := takes_of rfl rfl rfl rfl, po := passes_of rfl, fn := fun x hx hl => (by
                  have hx : (match lsc.names.lookup x with | some .local => true | some .cell => true | _ => false) = true := hx
                  split at hx
                  · rename_i h; exact absurd rfl (LS.own _ (PySem.mem_of_lookup h)).1
                  · rename_i h; exact absurd rfl (LS.own _ (PySem.mem_of_lookup h)).2
                  · cases hx), wf := c.wf, tp := fun A q h => (by cases h), ind := fun _ _ _ _ _ h => h, gd := fun h => (by cases h) }
            have pe := (EA.all (P := P) n (lamCx X A' outer s H E lsc f c') d _ _ (fun m hm => hmo m (Nat.lt_succ_of_lt hm)) cx).E b
            exact ⟨fun pins s σ H Q I h => pe.run pins s σ H Q I (h (by have k := kfI I; exact k))⟩
          have h0 : ∀ f : Addr, (L2.start Ng [V.ref f])[0]? = some (some (V.ref f)) := fun f => rfl
          have hG := told_gives3 (X := X) (x := P.ref) (g := g) (cdg := cdv) (a := a) (q := X.env.qual ++ "<lambda>") (p1 := p1) (p2 := p2) (p3 := p3) (p4 := p4) (p5 := p5) (p6 := p6) (p7 := p7) (p8 := p8) (j0 := j0) (k0 := k0) (j1 := j1) S.nd hNi hel hoe hdw h0
          obtain ⟨m1, m2, _⟩ := okName_3 hoa
          refine (lamcall3 (p := p) (lpos := q) (pos := pos) (c.glo hg) hm hk lk hcd hb S hN0 (visB_ok hva) hG TB hcode c.room LS rfl (fun _ _ _ _ _ => rfl) hbody (okName_3 rw'.dk).1 m1 m2).kf.imp fun σ H Q ⟨Mo, H0, L0, L, ρ, st, r, h⟩ => ?_
          replace h : Out ((match (st[0]? : Option Cell), (some (A, qq) : Option (Addr × Str)) with
            | some (Cell.tab A1 q1), some (A', q') => if A1 = A' ∧ q1 = q' then (match evE n P d ⟨C.N, lsc, [], some lsc, none⟩ b (noOwn ρ) st with
              | .ok _ st' => .ok (.tup [.str "", .non], .sh) st'
              | .ex e st' => (match pickEx e P.hds with
                | some v => .ok (v, .sh) st'
                | none => .no)
              | .no => .no) else .no
            | _, _ => .no : R DK)) (OkV X.K X.mg Mo H0 L0 L H ρ σ Q) (ExQ X.K X.mg Mo H0 L0 L H ρ σ Wx) := h
          cases hst : st[0]? with
          | none => rw [hst] at h; exact h.elim
          | some cell =>
            cases cell with
            | box dd => rw [hst] at h; cases dd <;> exact h.elim
            | tab A1 q1 =>
              rw [hst] at h
              dsimp only at h
              split at h
              case isFalse => exact h.elim
              case isTrue hAq =>
              obtain ⟨rfl, rfl⟩ := hAq
              subst hqq
              obtain ⟨a0, ha0⟩ : ∃ a0, L[0]? = some a0 := by
                have hlt : 0 < L.length := by
                  rw [← r.sto]
                  exact (List.getElem?_eq_some_iff.mp hst).1
                exact ⟨_, List.getElem?_eq_getElem hlt⟩
              obtain ⟨ea, ps, hA, ht, hco⟩ := r.cel 0 _ a0 hst ha0
              have ha0' := ha0
              rw [ea] at hA ha0
              have hA : H A1 = some (.tbl ps) := hA
              refine ⟨ps, hA, ht, fun p cv hc => ?_, fun H1 hn kf1 => ?_⟩
              · obtain ⟨c0, f1, f2, _⟩ := hco p cv hc
                exact ⟨c0, f1, f2⟩
              · have pT : Po X.K X.mg Mo H0 L0 L H ρ σ Mo L H1 st := by
                  rcases hn with rfl | ⟨c0, more, hc0, ht2, ho2, rfl⟩
                  · exact Po.refl r
                  · obtain ⟨r2, l2, x2⟩ := Rl.chgT r hst ha0 hA hc0 kf1 ht2 ho2
                    exact ⟨r2, l2, x2, fun b m n => absurd m n⟩
                have back : ∀ {k : Kd} {v : V} {L' : List Addr} {H' : Hp} {st' : Store}, Po X.K X.mg (MoC Mo ρ σ) H1 L L H1 (noOwn ρ) σ (addF (MoC Mo ρ σ) k v) L' H' st' → Po X.K X.mg Mo H0 L0 L H ρ σ Mo L' H' st' := fun {k v L' H' st'} p =>
                  pT.trans (Po.leave (Mo3 := Mo) pT.rl ((p.toNil.1).few addF_sub) (fun b m => .inl m) (fun b m => m) fun b m => .inl m).1
                refine ⟨MoC Mo ρ σ, H1, L, L, noOwn ρ, st, pT.rl.lam, ?_⟩
                cases he : evE n P d ⟨C.N, lsc, [], some lsc, none⟩ b (noOwn ρ) st with
                | no => rw [he] at h; exact h.elim
                | ok x st' =>
                  rw [he] at h
                  have h : OkV X.K X.mg Mo H0 L0 L H ρ σ Q (.tup [.str "", .non], .sh) st' := h
                  intro v L' H' p rv fr
                  have pa := back p
                  exact ⟨by show 2 ≤ sizeLine; rw [sizeLine_eq]; decide, fun p2 hp2 kf2 => (OkV.from pa h).tup pa.rl (.cons (by unfold Rep; rfl) (.cons (by unfold Rep; rfl) .nil)) hp2 kf2⟩
                | ex ee st' =>
                  rw [he] at h
                  cases hpk : pickEx ee P.hds with
                  | none =>
                    dsimp only at h
                    rw [hpk] at h
                    exact h.elim
                  | some v =>
                    dsimp only at h
                    rw [hpk] at h
                    have h : OkV X.K X.mg Mo H0 L0 L H ρ σ Q (v, .sh) st' := h
                    intro cls dd L' H' p x
                    have pa := back (k := .sh) (v := .non) p
                    have hf := OkV.from pa h
                    obtain ⟨pn, l1⟩ := p.toNil
                    obtain ⟨_, l2⟩ := Po.leave (Mo3 := Mo) pT.rl pn (fun b m => .inl m) (fun b m => m) fun b m => .inl m
                    refine told_of (W := wo Mo L' H' ρ σ) rfl (x.le (l1.trans l2) rfl) rw'.em (pick_mem hpk) (fun w y u hv rep p2 hp2 kf2 => ?_) (fun w y y2 u u2 hv rep rep2 p2 hp2 p3 hp3 kf3 => ?_) hp (fun y hy => hy) hpk
                    · subst hv
                      exact hf.tup pa.rl (.cons (by unfold Rep; rfl) (.cons rep .nil)) hp2 kf2
                    · subst hv
                      have kf2 : KF X.K (upd H' p2 (.tup [u, u2])) := fun z o hz => by
                        have := kf3 z o hz
                        by_cases hzz : z = p3
                        · rw [hzz, upd_same] at this; cases this
                        · rw [upd_ne hzz] at this; exact this
                      have pl := Po.laid pa.rl hp2 kf2
                      refine (hf.from pl).tup pl.rl (.cons (by unfold Rep; rfl) (.cons ?_ .nil)) hp3 kf3
                      unfold Rep
                      exact ⟨p2, _, rfl, .inl (.inl upd_same), pa.rl.free hp2, .cons (Rep.le pl.le _ _ rep) (.cons (Rep.le pl.le _ _ rep2) .nil)⟩
end
end PI
set_option Elab.async false
set_option linter.all false
set_option maxRecDepth 100000
set_option maxHeartbeats 4000000
/-! PI23: an own exception is made; all defs at every fuel. -/
namespace PI
open PySem PySem.Spec PyProof.Rows L2
/-- what the written part says of a class whose __init__ keeps `value` alone -/
structure ExW1 (K : PySem.W.Frag) (mg : Str → Option Value) (c : Str) : Prop where
  ex : ∃ C fI, mg c = some (.ref C) ∧ OexC K C ∧ PySem.W.findIn K (.ref C) "__init__" = some (some (.ref fI)) ∧ PySem.W.typeIn K (.ref fI) = some (.type "function") ∧ PySem.W.findIn K (.ref C) "value" = some none ∧
    ∃ (oc : Value) (od : Option Addr) (name qual : Str) (params : Arguments) (sg : Scope) (dV kV doc pm cdv ct : Value) (an : Option Addr) (osl : Array (Option Value)) (p1 p2 p3 p4 : Pos),
      let bd : List Stmt := [.Assign [.Attribute (.Name "self" p1) "value" p2] (.Name "value" p3) p4]
      K.lookup fI = some ⟨oc, od, .func (PySem.W.fnOf name qual params bd sg dV kV doc pm an cdv ct), osl⟩ ∧ PySem.W.codeIn K cdv qual = true ∧ Binds K (PySem.W.fnOf name qual params bd sg dV kV doc pm an cdv ct) ["self", "value"] [] ∧ FnScope ["self", "value"] ["self", "value"] sg ∧ visB sg "self" = true ∧ visB sg "value" = true
/-- the promise of __init__ -/
def spI1 (C : Addr) : Sp := fun vs H Q _ => ∃ a v, vs = [.ref a, v] ∧ H a = some (exo a C none) ∧ ∀ dx, H dx = none → dx ≠ a → Q .non (upd (upd H dx (exd dx [("value", v)])) a (exo a C (some dx)))
section
variable {P : Pg} {pr : Program} {w : World} {K : PySem.W.Frag} {mg : Str → Option Value} {base : Heap}
theorem exh_of (hw : ∀ c k, P.exc.lookup c = some k → k = 1 ∧ ExW1 K mg c) : EXH P pr w K mg base := by
  intro X d e1 e2 e3 e4 e5 hr hcalm c k hk hg hn
  subst e1 e2 e3 e4 e5
  obtain ⟨rfl, ⟨C, fI, hm, T, iC, tI, hno, oc, od, name, qual, params, sg, dV, kV, doc, pm, cdv, ct, an, osl, p1, p2, p3, p4, lk, hcd, hb, S, v1, v2⟩⟩ := hw c k hk
  refine ⟨C, hm, fun e es p pos ta hs ha => ?_⟩
  have hs' : notStar e = true ∧ noStar es = true := by
    unfold noStar at hs
    rwa [Bool.and_eq_true] at hs
  have F1 : FnOk X.prog X.w X.K X.mg X.base (L2.CX X.prog X.w) (d + 1) fI (PySem.W.fnOf name qual params [.Assign [.Attribute (.Name "self" p1) "value" p2] (.Name "value" p3) p4] sg dV kV doc pm an cdv ct) ["self", "value"] (spI1 C) := by
    refine fn_of lk hcd S (fun vs H Q E ⟨a, v, h, _⟩ => by rw [h]; rfl) fun A outer s H vs Q E hr q => ?_
    obtain ⟨a, v, rfl, ha, hq⟩ := q
    refine ⟨_, pss_one (ps_ost (pe_var (i := 0) rfl (visB_ok v1)) (pe_var (i := 1) rfl (visB_ok v2))), ?_⟩
    exact ⟨v, rfl, .ref a, rfl, a, C, rfl, T, hno, .inl ⟨ha, fun dx hd ne => hq dx hd ne⟩⟩
  have hx : Passes (L2.CX X.prog X.w) X (fun _ _ _ => False) := passes_call (E := fun _ _ _ => False) LamX.takes0 fun _ _ _ _ h => h
  have ha' : PA X (e :: es) (fun σ H Q' => ∃ Q0, ta σ H Q0 ∧ ∀ vs H1, Q0 vs H1 → Q' vs H1) := ⟨fun pos pins s σ H Q' I ⟨Q0, q, i⟩ => thn (ha.run pos pins s σ H Q0 I q) fun us s' ⟨vs, H', I', r, z⟩ => ⟨vs, H', I', r, i _ _ z⟩⟩
  have mk := pmk_oex (x := c) (p := p) (pos := pos) T iC tI F1 hr hb .nil hx hg hm ha' (okName_3 hn).1 (star_cons hs'.1 _) (noStar_plain _ _ _ hs'.2)
  refine fun pins s σ H Q I h => mk pins s σ H Q I ⟨_, h, fun vs H1 ⟨fs, hf, hq⟩ => ?_⟩
  cases vs with
  | nil => cases hf
  | cons v r =>
  cases r with
  | cons _ _ => cases hf
  | nil =>
    cases hf
    refine ⟨by simp, fun a hn => ⟨a, v, rfl, upd_same, fun dx hd ne => ⟨rfl, dx, [("value", v)], upd_same, ?_, ?_, ?_⟩⟩⟩
    · rw [upd_ne ne, upd_same]
    · rw [upd_ne ne] at hd
      exact hd
    · have hd1 : H1 dx = none := by
        rw [upd_ne ne] at hd
        exact hd
      have eq : upd (del (upd (upd (upd H1 a (exo a C none)) dx (exd dx [(("value" : Str), v)])) a (exo a C (some dx))) a) dx (.xd [(("value" : Str), v)]) = upd H1 dx (.xd [(("value" : Str), v)]) := by
        funext b
        by_cases hb : b = dx
        · rw [hb, upd_same, upd_same]
        · rw [upd_ne hb, upd_ne hb]
          by_cases ha : b = a
          · rw [ha, del_same, hn]
          · rw [del_ne ha, upd_ne ha, upd_ne hb, upd_ne ha]
      rw [eq]
      exact hq dx hd1
theorem mo_all (hf : ∀ x F, P.fns.lookup x = some F → FnW K mg x F) (wf : Wf P K mg) (hx : EXH P pr w K mg base) (hr : RefW P K mg) (n : Nat) : MO P pr w K mg base n := by
  induction n using Nat.strongRecOn with
  | _ n ih => exact ⟨fo_step hf wf hx ih, rf_step hr ih⟩
end
end PI
set_option Elab.async false
set_option linter.all false
set_option maxRecDepth 100000
set_option maxHeartbeats 4000000
/-! PIG: a def that is called where no repr stands below; the row's end from it. -/
namespace PI
open PySem PySem.Spec PyProof.Rows L2
/-- the def's promise, called where nothing is being shown -/
def FnG (P : Program) (w : World) (K : PySem.W.Frag) (mg : Str → Option Value) (base : Heap) (X0 : CXT) (k : Nat) (f : Addr) (fd : FuncData) (ps : List Str) (sp : Sp) : Prop :=
  ∀ (A : Around) (o : List Env) (z : Shared) (H : Hp) (us : List Value) (vs : List V) (Q : VK) (E : XK), A.guards = some [] → Room k A → Env0 P w K mg base A o z H → Vals vs us → BindsTo z fd ⟨us, []⟩ (ps.zip us) → sp vs H Q E →
    codeAny (model P w) A (.call (.ref f) ⟨us, []⟩) (CR X0 o P w H z Q E) z
section
variable {P : Program} {w : World} {K : PySem.W.Frag} {mg : Str → Option Value} {base : Heap} {X0 : CXT} {k : Nat} {f : Addr} {N ps : List Str} {sp : Sp}
theorem fnG_of {name qual : Str} {params : Arguments} {body : List Stmt} {sc : Scope} {dV kV doc pm cdv ct oc : Value} {an od : Option Addr} {osl : Array (Option Value)}
    (lk : K.lookup f = some ⟨oc, od, .func (PySem.W.fnOf name qual params body sc dV kV doc pm an cdv ct), osl⟩) (hc : PySem.W.codeIn K cdv qual = true) (S : FnScope N ps sc) (len : ∀ vs H Q E, sp vs H Q E → vs.length = ps.length)
    (go : ∀ (A : Around) (o : List Env) (z : Shared) (H : Hp) (vs : List V) (Q : VK) (E : XK), A.guards = some [] → Room k (A.deeper (envOfC qual sc z.heap.objs.size f cdv)) → sp vs H Q E →
      ∃ t, PSs (cxOf X0 P w K mg base N qual sc f cdv A o z H E) body t ∧ t { nx := fun _ H' => Q .non H', rt := Q } (start N vs) H) :
    FnG P w K mg base X0 (k + 1) f (PySem.W.fnOf name qual params body sc dV kV doc pm an cdv ct) ps sp := by
  intro A o z H us vs Q E hg room e0 rv bd hs
  have count := len _ _ _ _ hs
  have kz : K.In z.heap := e0.mod.kin.keeps fun b u q => (e0.bs b u q).1
  have free : z.heap.NoLimit := e0.mod.nolimit.keeps fun b u q => (e0.bs b u q).1
  refine codeAny_call_function room.depth (kz _ _ lk) rfl S.co S.gen rfl (PySem.W.codeRec_of kz hc) (bd _ _ _ _ (wpAny_newFunctionEnv_cells S.kind (fun y hy => ?_) fun en he z1 x => ?_))
  · have hp : y.1 ∈ ps := (List.of_mem_zip (show (y.1, y.2) ∈ ps.zip us from hy)).1
    exact (S.par y.1 hp).imp id fun q => ⟨q, PySem.W.cellsFrom_some _ _ _ (.inl q)⟩
  · subst he
    obtain ⟨t, ht, hq⟩ := go A o z H vs Q E hg (room.deeper _) hs
    have I := inv_start (CX := X0) (E := E) S room.hd e0 count rv x
    refine ⟨free.keeps x.toInCall.keep, codeAny_func (wpAny_mono (ht.run [] z1 (start N vs) H _ I hq) (fun fl z2 h2 => ?_) fun _ _ q => q)⟩
    have out : ∀ {σ2 : L2.St} {H2 : Hp} {v : V} {u : Value}, RelV v u → Q v H2 → Inv (cxOf X0 P w K mg base N qual sc f cdv A o z H E) [] σ2 H2 z2 → CE o P w H z Q u z2 := fun {σ2 H2 v u} r q J => ⟨v, H2, J.os, J.bare, J.base, J.hok, r, q⟩
    cases fl with
    | brk => exact False.elim h2.choose_spec.choose_spec.2
    | cont => exact False.elim h2.choose_spec.choose_spec.2
    | next =>
      obtain ⟨σ2, H2, J, q⟩ := h2
      exact out (v := .non) rfl q J
    | ret u =>
      obtain ⟨v, σ2, H2, J, r, q⟩ := h2
      exact out r q J
/-- what is tracked at the law's call: the table and the script -/
def hpOf (K : PySem.W.Frag) (T a : Addr) (o : Obj) (u : HO) : Hp := fun b => if b = T then some (.tbl #[]) else if (b == a && (K.lookup a).isNone) = true then some (.frz o u) else none
theorem hp_tab {T a : Addr} {o : Obj} {u : HO} : hpOf K T a o u T = some (.tbl #[]) := if_pos rfl
theorem hp_off {T a b : Addr} {o : Obj} {u : HO} (h1 : b ≠ T) (h2 : b = a → K.lookup a ≠ none) : hpOf K T a o u b = none := by
  unfold hpOf
  rw [if_neg h1]
  refine if_neg fun q => ?_
  rw [Bool.and_eq_true] at q
  refine h2 (eq_of_beq q.1) ?_
  have q2 := q.2
  cases e : K.lookup a with
  | none => rfl
  | some _ => rw [e] at q2; cases q2
theorem hp_on {T a b : Addr} {o : Obj} {u x : HO} (h : hpOf K T a o u b = some x) : (b = T ∧ x = .tbl #[]) ∨ (b = a ∧ K.lookup a = none ∧ x = .frz o u) := by
  unfold hpOf at h
  split at h
  · exact .inl ⟨by assumption, (Option.some.inj h).symm⟩
  · split at h
    · rename_i q
      rw [Bool.and_eq_true] at q
      refine .inr ⟨eq_of_beq q.1, ?_, (Option.some.inj h).symm⟩
      have q2 := q.2
      cases e : K.lookup a with
      | none => rfl
      | some _ => rw [e] at q2; cases q2
    · cases h
/-- the call at the row's head -/
theorem callG {mb : Str → Option Value} {c T fa a : Addr} {fd : FuncData} {x : Str} {z : Shared} {vs : List Value} {ns : List Int} (kz : K.In z.heap) (hm : z.heap.Ns mainGlobals mg) (hb : z.heap.Ns builtinsNs mb) (hbb : ∀ x : Str, x ≠ "__name__" → mb x = bootBuiltins x) (free : z.heap.NoLimit) (gens : z.gens = #[])
    (tab : z.heap.get? T = some { cls := .none, data := .fields #[] }) (kT : K.lookup T = none) (code : PySem.W.CodeHd z.heap c T)
    (bmod : ∃ (m : Addr) (ob : Obj), mg "__builtins__" = some (.ref m) ∧ m ≠ builtinsNs ∧ z.heap.get? m = some ob ∧ ob.cls = .type "module" ∧ ob.dict = some builtinsNs ∧ ob.data = .plain)
    (ha : z.heap.get? a = some { cls := .type "list", data := .seq vs.toArray }) (hint : IntsAre vs ns) (few : ns.length ≤ sizeLine) (room : Room k callerA)
    (F : ∀ base : Heap, K.In base → base.Ns mainGlobals mg → LamX.TabB base mg c T → FnG P w K mg base X0 k fa fd [x] sp) (bd : ∀ (s : Shared) (u : Value), BindsTo s fd ⟨[u], []⟩ [(x, u)])
    (hs : ∀ H : Hp, H T = some (.tbl #[]) → SqL K H a (ns.map V.int) → sp [.ref a] H (fun v _ => v = .bl true) fun _ _ _ => False) (noX : ∀ H e z', X0 [] H z (fun _ _ _ => False) e z' → False) :
    codeAny (model P w) callerA (.call (.ref fa) ⟨[.ref a], []⟩) (fun r z' => r = .ok (.ret (.bool true)) ∧ OldK z.heap z'.heap ∧ z'.os = z.os ∧ AllBare z'.gens) z := by
  have rv := vals_ints hint
  have size : vs.toArray.size ≤ sizeLine := by rw [List.size_toArray, hint.length]; exact few
  have aT : a ≠ T := fun q => by
    rw [q, tab] at ha
    cases ha
  generalize hH : hpOf K T a { cls := .type "list", data := .seq vs.toArray } (.lst (ns.map V.int)) = H
  have hT : H T = some (.tbl #[]) := by rw [← hH]; exact hp_tab
  have off : ∀ {b : Addr}, b ≠ T → (b = a → K.lookup a ≠ none) → H b = none := fun h1 h2 => by rw [← hH]; exact hp_off h1 h2
  have on : ∀ {b : Addr} {u : HO}, H b = some u → (b = T ∧ u = .tbl #[]) ∨ (b = a ∧ K.lookup a = none ∧ u = .frz { cls := .type "list", data := .seq vs.toArray } (.lst (ns.map V.int))) := fun h => by rw [← hH] at h; exact hp_on h
  have hS : SqL K H a (ns.map V.int) := by
    cases e : K.lookup a with
    | none =>
      refine .inl (.inr ⟨{ cls := .type "list", data := .seq vs.toArray }, ?_⟩)
      rw [← hH]
      unfold hpOf
      rw [if_neg aT, if_pos (by rw [e]; simp)]
    | some o =>
      have q := kz a o e
      rw [ha] at q
      cases q
      exact .inr ⟨_, vs.toArray, _, e, rfl, rfl, rfl, size, by simpa using rv⟩
  have ok : HOk P w H z.heap := fun b u q => by
    rcases on q with ⟨rfl, rfl⟩ | ⟨rfl, _, rfl⟩
    · exact tab
    · exact ⟨ha, by rw [List.length_map]; exact few, vs, _, rv, ha⟩
  have seen : ∀ {b : Addr} {o : Obj}, z.heap.get? b = some o → (∀ xs n, o.data ≠ .seq xs n) → o.data ≠ .fields #[] → (hidT z.heap H).get? b = some o := fun {b o} q n1 n2 => hidT_get q (off (fun e => by
      rw [e, tab] at q
      cases q
      exact n2 rfl) fun e => by
      rw [e, ha] at q
      cases q
      exact absurd rfl (n1 _ _))
  have nsOf : ∀ {b : Addr} {m : Str → Option Value}, z.heap.Ns b m → (hidT z.heap H).Ns b m := fun {b m} ⟨o, es, ep, q, dd, rest⟩ => ⟨o, es, ep, seen q (fun xs n e => by rw [dd] at e; cases e) (fun e => by rw [dd] at e; cases e), dd, rest⟩
  have kB : K.In (hidT z.heap H) := fun b o q => hidT_get (kz b o q) (off (fun e => by rw [e, kT] at q; cases q) fun e n => by rw [e, n] at q; cases q)
  have md : L2.Mod K mg (hidT z.heap H) := ⟨kB, nsOf hm, ⟨mb, nsOf hb, hbb⟩, free.imp fun mc q => ⟨nsOf q.1, q.2⟩⟩
  have gT : mainGlobals ≠ T := fun e => by
    obtain ⟨o, es, ep, q, dd, _⟩ := hm
    rw [e, tab] at q
    cases q
    cases dd
  have tb : LamX.TabB (hidT z.heap H) mg c T := by
    refine ⟨?_, ?_, gT⟩
    · obtain ⟨o, us, fl, tf, fg, tg, inF, tx, tt, q, r1, r2, r3, rest⟩ := code
      refine ⟨o, us, fl, tf, fg, tg, inF, tx, tt, seen q (fun xs n e => ?_) (fun e => ?_), r1, r2, r3, rest⟩
      · rw [r2] at e
        cases e
      · rw [r2] at e
        cases e
        simp at r3
    · obtain ⟨m, ob, b1, b2, b3, b4, b5, b6⟩ := bmod
      have mG : m ≠ mainGlobals := fun e => by
        obtain ⟨o, es, ep, q, dd, _⟩ := hm
        rw [← e, b3] at q
        cases q
        rw [b6] at dd
        cases dd
      have mT : m ≠ T := fun e => by
        rw [e, tab] at b3
        cases b3
        cases b6
      exact ⟨m, ob, b1, b2, mG, mT, seen b3 (fun xs n e => by rw [b6] at e; cases e) (fun e => by rw [b6] at e; cases e), b4, b5, b6⟩
  have e0 : Env0 P w K mg (hidT z.heap H) callerA [] z H := { frames := rfl, mod := md, bs := fun b o q => of_hidT q, bsz := Nat.le_of_eq (hidT_size _ _), funs := trivial, frf := fun b q => (by cases q), hok := ok, bare := .of_eq gens }
  refine codeAny_mono (F _ kB (nsOf hm) tb callerA [] z H [.ref a] [.ref a] _ _ rfl room e0 (.cons rfl .nil) (bd z (.ref a)) (hs H hT hS)) fun r z' h => ?_
  match r, h with
  | .error e, h => exact (noX H e z' h).elim
  | .ok .next, h => exact False.elim h
  | .ok .brk, h => exact False.elim h
  | .ok .cont, h => exact False.elim h
  | .ok (.ret u), h =>
    obtain ⟨v, H', os, bare, un, ok', r', q⟩ := h
    have q : v = .bl true := q
    subst q
    obtain rfl : u = Value.bool true := r'
    have kept : ∀ b o, b ≠ T → z.heap.get? b = some o → z'.heap.get? b = some o := fun b o n q => by
      cases e : H b with
      | none => exact un.keep b o q e (fun m => by cases m) (by simp)
      | some u =>
        rcases on e with ⟨e1, _⟩ | ⟨_, _, e2⟩
        · exact absurd e1 n
        · rw [e2] at e
          obtain ⟨g1, _⟩ := ok b _ e
          obtain ⟨g2, _⟩ := ok' b _ (un.frzs b _ _ e)
          rw [q] at g1
          cases g1
          exact g2
    obtain ⟨more, hmore⟩ := un.tbls T #[] hT
    have grown := ok' T _ hmore
    refine ⟨rfl, ⟨fun b o q => ?_, fun b o q => ?_⟩, os, bare⟩
    · by_cases n : b = T
      · subst n
        rw [tab] at q
        cases q
        refine .inr (.inl ⟨((code).tab tab).isCodeTable, rfl, #[], more, rfl, ?_⟩)
        exact grown
      · exact .inl (kept b o n q)
    · by_cases n : b = T
      · subst n
        exact ⟨_, grown⟩
      · exact ⟨o, kept b o n q⟩
end
end PI
set_option Elab.async false
set_option linter.all false
set_option maxRecDepth 100000
set_option maxHeartbeats 4000000
/-! PI24: the law's own frame. -/
namespace PI
open PySem PySem.Spec PyProof.Rows L2
def lawQ : Str := ("law" : Str) ++ ".<locals>." ++ "<lambda>"
/-- the law's promise: at each script that is told of, the answer is True -/
def spLaw (K : PySem.W.Frag) (A : Addr) (ok : List Int → Prop) : Sp := fun vs H Q _ => ∃ a ns, vs = [.ref a] ∧ ok ns ∧ SqL K H a (ns.map V.int) ∧ H A = some (.tbl #[]) ∧ ∀ H', Q (.bl true) H'
section
variable {P : Pg} {pr : Program} {w : World} {K : PySem.W.Frag} {mg : Str → Option Value} {base : Heap}
theorem pss_kf {X : Cx} {ss : List Stmt} {t : TS} (h : PSs X ss t) : PSs X ss (fun D σ H => KF X.K H → t D σ H) := ⟨fun pins s σ H D I q => h.run pins s σ H D I (q (kfI I))⟩
theorem law_fn {F : FnI} {d : Nat} {c A f : Addr} {ok : List Int → Prop} (hps : F.ps = [("script" : Str)]) (hm : ∀ m, MO P pr w K mg base m) (wf : Wf P K mg) (hx : EXH P pr w K mg base) (TB : LamX.TabB base mg c A)
    {oc : Value} {od : Option Addr} {name : Str} {params : Arguments} {dV kV doc pm : Value} {an : Option Addr} {ct : Value} {osl : Array (Option Value)}
    (lk : K.lookup f = some ⟨oc, od, .func (PySem.W.fnOf name "law" params F.body F.sc dV kV doc pm an (.ref c) ct), osl⟩) (hcd : PySem.W.codeIn K (.ref c) "law" = true) (S : FnScope F.N F.ps F.sc)
    (run : ∀ ns, ok ns → ∃ n ρ' st', exSs n P d ⟨F.N, F.sc, F.cells, Option.none, some (A, lawQ)⟩ F.body (ρ0 [.scr ns] (F.N.length - 1)) [.tab A lawQ] = .ok (.rt (.bl true) .sh, ρ') st') :
    FnG pr w K mg base (L2.CX pr w) (d + 1) f (PySem.W.fnOf name "law" params F.body F.sc dV kV doc pm an (.ref c) ct) [("script" : Str)] (spLaw K A ok) := by
  rw [← hps]
  refine fnG_of lk hcd S (fun vs H Q E ⟨a, ns, h, _⟩ => by rw [h, hps]; rfl) fun A' outer s H vs Q E hgd hr q => ?_
  obtain ⟨a, ns, rfl, hok, hS, hA, hQ⟩ := q
  have cx : Cxt P (cxOf (L2.CX pr w) pr w K mg base F.N "law" F.sc f (.ref c) A' outer s H E) d ⟨F.N, F.sc, F.cells, Option.none, some (A, lawQ)⟩ (fun cls dd _ H' => E cls dd H') :=
    { N := rfl, sc := rfl, nd := S.nd, calm := rfl, room := hr, tk := takes_of rfl rfl rfl rfl, po := passes_of rfl, fn := fun x _ _ => .inl rfl, wf := wf, tp := fun A1 q1 h => (by cases h; exact ⟨c, rfl, TB, rfl⟩), ind := fun _ _ _ _ _ h => h, gd := fun _ => hgd }
  obtain ⟨n, ρ', st', he⟩ := run ns hok
  have sa := SA.all (X := cxOf (L2.CX pr w) pr w K mg base F.N "law" F.sc f (.ref c) A' outer s H E) hx cx n fun m _ => hm m
  refine ⟨_, pss_kf (sa.B F.body), fun kf => ?_⟩
  have kf : KF K H := kf
  have r0 : Rl K mg (fun _ => False) H [A] [A] H [] [] [.tab A lawQ] :=
    { len := rfl, slot := fun i s e => by simp at e, dis := fun i j a h => absurd h ow_nil, own := fun i a h => absurd h ow_nil, pre := List.prefix_refl _, lnd := by simp, lmo := fun _ _ h => h, lnew := fun a h n => absurd h n, sto := rfl,
      cel := fun l cc b e1 e2 => by
        cases l with
        | zero =>
          cases e1
          cases e2
          refine ⟨rfl, #[], hA, True.intro, fun pos cv h => ?_⟩
          have z : codeAmong pos [] = some cv := h
          simp [codeAmong] at z
        | succ l => simp at e1
      kf := kf, mt := fun a h => h.elim, base := fun a o e _ => e, nt := fun _ _ _ _ _ h => h.elim }
  have rep : RepL K mg (wo (fun _ => False) [A] H [] []) [.scr ns] [.ref a] := .cons (by
    unfold Rep
    refine ⟨a, rfl, hS, fun (m : Mt (fun _ => False) [A] [] [] a) => ?_⟩
    rcases mt_nil.mp m with m | m
    · exact m
    · have e : a = A := by simpa using m
      subst e
      rcases hS with (hS | ⟨o, hS⟩) | ⟨o, its, k, hk, _⟩
      · rw [hA] at hS; cases hS
      · rw [hA] at hS; cases hS
      · rw [kf a o hk] at hA; cases hA) .nil
  obtain ⟨r1, l1⟩ := Rl.start (N := F.N) r0 rep rfl
  refine ⟨fun _ => False, H, [A], [A], _, [.tab A lawQ], wo (fun _ => False) [A] H [] [], r1, l1, ?_⟩
  show Out (exSs n P d ⟨F.N, F.sc, F.cells, Option.none, some (A, lawQ)⟩ F.body (ρ0 [.scr ns] (F.N.length - 1)) [.tab A lawQ]) _ _
  rw [he]
  refine ⟨by simp, fun v L' H' rr ll rv _ => ?_⟩
  have e : v = .bl true := by
    unfold RV Rep at rv
    exact rv
  rw [e]
  exact hQ H'
end
end PI
set_option Elab.async false
set_option linter.all false
set_option maxRecDepth 100000
set_option maxHeartbeats 4000000
/-! PI25: from the law's frame to the row. -/
namespace PI
open PySem PySem.Spec PyProof.Rows L2
/-- what the written part says of the law's code object and its table -/
structure LawC (K : PySem.W.Frag) (c A : Addr) : Prop where
  ex : ∃ (dd : Option Addr) (vs : Array Value) (sl : Array (Option Value)) (file : Str) (flags text : Int) (inF : Bool) (tf tg tt : Tok), K.lookup c = some ⟨.type "code", dd, .fields vs, sl⟩ ∧ vs[11]? = some (.ref A) ∧ vs.getD 11 .none = .ref A ∧ vs.getD 18 .none = .str file tf ∧
    vs.getD 7 .none = .int flags tg ∧ vs.getD 9 .none = .bool inF ∧ vs.getD 10 .none = .int text tt ∧ c ≠ A
  free : K.lookup A = none
theorem cx_false {P : Program} {w : World} (H : Hp) (s : Shared) (e : Value) (s' : Shared) (h : L2.CX P w [] H s (fun _ _ _ => False) e s') : False := by
  obtain ⟨_, _, _, _, _, _, _, _, _, _, _, _, z⟩ := h
  exact z
/-- what is known of the law's def at the row's head -/
def LawAtG (l : PySem.W.OpenLaw) (w : World) (K : PySem.W.Frag) (X0 : CXT) (k n : Nat) (x : Str) (mg : Str → Option Value) (fa : Addr) (h : Heap) : Prop :=
  ∃ (fd : FuncData) (c T : Addr) (sp : Sp), h.get? T = some { cls := .none, data := .fields #[] } ∧ K.lookup T = none ∧ PySem.W.CodeHd h c T ∧ (∀ (s : Shared) (u : Value), BindsTo s fd ⟨[u], []⟩ [(x, u)]) ∧
    (∀ (H : Hp) (a : Addr) (ns : List Int), ns.length ≤ n → (∀ z ∈ ns, Builtin.Int.intBits z ≤ 1048576) → H T = some (.tbl #[]) → SqL K H a (ns.map V.int) → sp [.ref a] H (fun v _ => v = .bl true) fun _ _ _ => False) ∧
    ∀ base : Heap, K.In base → base.Ns mainGlobals mg → LamX.TabB base mg c T → FnG l.prog w K mg base X0 k fa fd [x] sp
theorem walk_G {l : PySem.W.OpenLaw} {n k : Nat} {q : Program} {loose : List Str} {XP : (Str → Option Value) → Heap → Prop} {YP : World → Heap → Prop} {d : DefRec} {K : Params → PySem.W.Frag} {X0 : World → CXT} {x : Str} (hn : l.most = some n) (hz : n ≤ sizeLine) (hd : d.params.defaults = []) (room : Room k callerA)
    (rec : ((recsOf q).any fun e => e.name == d.name) = true) (kin : ∀ (w : World) (h : Heap), YP w h → (K w.params).In h)
    (F : ∀ (w : World) (mg : Str → Option Value) (fa : Addr) (h : Heap), YP w h → (K w.params).In h → h.Ns mainGlobals mg → mg d.name = some (.ref fa) → LamX.OwnTab (K w.params) fa h → LawAtG l w (K w.params) (X0 w) k n x mg fa h)
    (noX : ∀ (w : World) (H : Hp) (s : Shared) (e : Value) (s' : Shared), X0 w [] H s (fun _ _ _ => False) e s' → False) : PySem.W.WalkO q loose XP YP l.row.toRowW d [] (fun f vs => PySem.call f vs) :=
  Att.attach_callB hn hd fun w s0 z mg mb fa o pm cd doc a vs ns G Y ho _ hcd hmg hobj hints hlen hbits hg => by
    have kz := kin w _ Y
    have own : LamX.OwnTab (K w.params) fa z.heap := fun c T o1 f1 e1 d1 us sl q1 q2 q3 q4 q5 => by
      obtain ⟨r, rm, rn⟩ := List.any_eq_true.mp rec
      obtain ⟨_, _, _, _, _, t1, t2, t3, t4, _, ⟨⟨_, _, g1, _, g3, g4⟩, tab⟩⟩ := G.T.tab r rm
      rw [beq_iff_eq.mp rn, hmg] at t1
      cases t1
      rw [kz _ _ q1] at t2
      cases t2
      rw [q2] at t3
      cases t3
      rw [q3] at t4
      cases t4
      rw [kz _ _ q4] at g1
      cases g1
      cases g3
      rw [q5] at g4
      cases g4
      exact tab
    obtain ⟨fd, c, T, sp, e1, e2, e3, e4, e5, e6⟩ := F w mg fa _ Y kz G.T.g hmg own
    exact callG kz G.T.g G.T.b G.T.builtins G.T.nolimit hg e1 e2 e3 G.T.bmain hobj hints (Nat.le_trans hlen hz) room e6 e4 (fun H h1 h2 => e5 H a ns hlen hbits h1 h2) fun H e s' => noX w H z e s'
theorem law_at {l : PySem.W.OpenLaw} {P : Pg} {w : World} {K : PySem.W.Frag} {mg : Str → Option Value} {h : Heap} {F : FnI} {d N : Nat} {c A fa : Addr} (hps : F.ps = [("script" : Str)]) (KX : K.In h) (own : LamX.OwnTab K fa h) (lc : LawC K c A)
    (wf : Wf P K mg) (hf : ∀ x F, P.fns.lookup x = some F → FnW K mg x F) (he : ∀ c k, P.exc.lookup c = some k → k = 1 ∧ ExW1 K mg c) (hr : RefW P K mg)
    {oc : Value} {od : Option Addr} {name : Str} {params : Arguments} {dV kV doc pm : Value} {an : Option Addr} {ct : Value} {osl : Array (Option Value)}
    (lk : K.lookup fa = some ⟨oc, od, .func (PySem.W.fnOf name "law" params F.body F.sc dV kV doc pm an (.ref c) ct), osl⟩) (hcd : PySem.W.codeIn K (.ref c) "law" = true) (S : FnScope F.N F.ps F.sc)
    (hb : ∀ (s : Shared) (u : Value), BindsTo s (PySem.W.fnOf name "law" params F.body F.sc dV kV doc pm an (.ref c) ct) ⟨[u], []⟩ [(("script" : Str), u)])
    (run : ∀ ns : List Int, ns.length ≤ N → (∀ z ∈ ns, Builtin.Int.intBits z ≤ 1048576) → ∃ n ρ' st', exSs n P d ⟨F.N, F.sc, F.cells, none, some (A, lawQ)⟩ F.body (ρ0 [.scr ns] (F.N.length - 1)) [.tab A lawQ] = .ok (.rt (.bl true) .sh, ρ') st') :
    LawAtG l w K (L2.CX l.prog w) (d + 1) N "script" mg fa h := by
  obtain ⟨⟨dd, vs, sl, file, flags, text, inF, tf, tg, tt, e1, e2, e3, e4, e5, e6, e7, e8⟩, hA⟩ := lc
  refine ⟨_, c, A, spLaw K A fun ns => ns.length ≤ N ∧ ∀ z ∈ ns, Builtin.Int.intBits z ≤ 1048576, own c A _ _ _ _ _ _ lk rfl rfl e1 e2, hA, ⟨_, vs, file, tf, flags, tg, inF, text, tt, KX _ _ e1, rfl, rfl, e2, e3, e4, e5, e6, e7, e8⟩, hb, fun H a ns h1 h2 h3 h4 => ⟨a, ns, rfl, ⟨h1, h2⟩, h4, h3, fun _ => rfl⟩, fun base hK hB hT => ?_⟩
  have hx : EXH P l.prog w K mg base := exh_of he
  exact law_fn hps (mo_all hf wf hx hr) wf hx hT lk hcd S fun ns ⟨h1, h2⟩ => run ns h1 h2
end PI
set_option Elab.async false
set_option linter.all false
set_option maxRecDepth 100000
set_option maxHeartbeats 4000000
/-! PZ1: the written part's facts. -/
namespace PI
open PySem PySem.Spec PyProof.Rows L2
/-- the j-th statement of a class -/
def clsM (s : Stmt) (j : Nat) : Stmt := match s with
  | .ClassDef _ _ _ b _ _ _ _ _ _ _ => b.getD j (.Pass ⟨0, 0, 0, 0⟩)
  | _ => .Pass ⟨0, 0, 0, 0⟩
def AllP {β : Type} (p : Str → β → Prop) : List (Str × β) → Prop
  | [] => True
  | (x, d) :: r => p x d ∧ AllP p r
theorem all_lk {β : Type} {p : Str → β → Prop} : ∀ {l : List (Str × β)}, AllP p l → ∀ x d, l.lookup x = some d → p x d
  | [], _, x, d, h => by cases h
  | (y, e) :: r, h, x, d, hl => by
    rw [List.lookup_cons] at hl
    cases hxy : (x == y) with
    | true =>
      rw [hxy] at hl
      cases hl
      rw [eq_of_beq hxy]
      exact h.1
    | false =>
      rw [hxy] at hl
      exact all_lk h.2 x d hl
def AllN (p : Str → Prop) : List Str → Prop
  | [] => True
  | x :: r => p x ∧ AllN p r
theorem all_nm {p : Str → Prop} : ∀ {l : List Str}, AllN p l → ∀ x ∈ l, p x
  | [], _, x, h => by cases h
  | y :: r, h, x, hx => by
    rcases List.mem_cons.mp hx with rfl | m
    · exact h.1
    · exact all_nm h.2 x m
section
variable {K : PySem.W.Frag} {h : Heap} {mg : Str → Option Value}
theorem exm_same {C : Addr} (h1 : PySem.W.subIn K (.ref C) (.type "BaseException") = some true) (h2 : PySem.W.isClsIn K C = true) (h3 : PySem.W.typeIn K (.ref C) = some (.type "type")) {S : Addr} {b : Bool} (h4 : PySem.W.subIn K (.ref S) (.ref C) = some b) : PySem.W.exmOne K (.ref S) (.ref C) = some b := by
  have e1 : (PySem.W.subIn K (.ref C) (.type "BaseException") == some true) = true := by rw [h1] <;> rfl
  have e2 : ((PySem.W.clsIn K C).isSome && PySem.W.typeIn K (.ref C) == some (.type "type")) = true := by
    have h2' : (PySem.W.clsIn K C).isSome = true := h2
    rw [h2', h3] <;> rfl
  show (if (PySem.W.subIn K (.ref C) (.type "BaseException") == some true) = true then (if ((PySem.W.clsIn K C).isSome && PySem.W.typeIn K (.ref C) == some (.type "type")) = true then PySem.W.subIn K (.ref S) (.ref C) else none) else none) = some b
  rw [if_pos e1, if_pos e2]
  exact h4
/-- a def stands in the written part -/
structure At (K : PySem.W.Frag) (mg : Str → Option Value) (x : Str) (st : Stmt) : Prop where
  ex : ∃ f oc od kV doc pm an cdv ct osl, mg x = some (.ref f) ∧ PySem.W.keepIn K (.ref f) = true ∧ K.lookup f = some ⟨oc, od, .func (PySem.W.fnOf x x (defArgs st) (defBody st) (defScope st) .none kV doc pm an cdv ct), osl⟩ ∧ PySem.W.codeIn K cdv x = true
theorem at_mk {x : Str} {st : Stmt} {f : Addr} {oc : Value} {od an : Option Addr} {osl : Array (Option Value)} {kV doc pm cdv ct : Value} (X : K.In h) (G : h.Ns mainGlobals mg) (a : PySem.W.nsIn K mainGlobals x = some (some (.ref f)))
    (l : K.lookup f = some ⟨oc, od, .func (PySem.W.fnOf x x (defArgs st) (defBody st) (defScope st) .none kV doc pm an cdv ct), osl⟩) (c : PySem.W.codeIn K cdv x = true) (k : PySem.W.keepIn K (.ref f) = true) : At K mg x st := ⟨f, oc, od, kV, doc, pm, an, cdv, ct, osl, PySem.W.mg_of X G a, k, l, c⟩
theorem At.fnw {x : Str} {st : Stmt} {ps N : List Str} {cells : List Str} (a : At K mg x st) (S : FnScope N ps (defScope st)) (hb : ∀ (kV doc pm : Value) (an : Option Addr) (cdv ct : Value) (us : List Value), us.length = ps.length → bindArgs (PySem.W.fnOf x x (defArgs st) (defBody st) (defScope st) .none kV doc pm an cdv ct) ⟨us, []⟩ = pure (ps.zip us)) : FnW K mg x ⟨ps, N, defScope st, cells, defBody st⟩ := by
  obtain ⟨f, oc, od, kV, doc, pm, an, cdv, ct, osl, m, k, l, c⟩ := a.ex
  exact ⟨⟨f, m, k, oc, od, x, x, _, _, kV, doc, pm, an, cdv, ct, osl, l, c, .all (hb kV doc pm an cdv ct)⟩, S⟩
theorem At.key {x : Str} {st : Stmt} (a : At K mg x st) : ∃ f, mg x = some (.ref f) ∧ PySem.W.keepIn K (.ref f) = true := by
  obtain ⟨f, oc, od, kV, doc, pm, an, cdv, ct, osl, m, k, l, c⟩ := a.ex
  exact ⟨f, m, k⟩
theorem glb_int {x : Str} {i : Int} {t : Tok} (X : K.In h) (G : h.Ns mainGlobals mg) (a : PySem.W.nsIn K mainGlobals x = some (some (.int i t))) : ∃ v u, mg x = some u ∧ RelV v u ∧ ∀ W : Wo, (∀ a o, K.lookup a = some o → ¬ W.M a) → Rep K mg W (.int i) v := ⟨.int i, .int i t, PySem.W.mg_of X G a, ⟨t, rfl⟩, fun W _ => by unfold Rep; rfl⟩
theorem glb_str {x : Str} {i : Str} {t : Tok} (X : K.In h) (G : h.Ns mainGlobals mg) (a : PySem.W.nsIn K mainGlobals x = some (some (.str i t))) : ∃ v u, mg x = some u ∧ RelV v u ∧ ∀ W : Wo, (∀ a o, K.lookup a = some o → ¬ W.M a) → Rep K mg W (.str i) v := ⟨.str i, .str i t, PySem.W.mg_of X G a, ⟨t, rfl⟩, fun W _ => by unfold Rep; rfl⟩
/-- an exception class whose __init__ is FoldError's -/
structure XC (K : PySem.W.Frag) (mg : Str → Option Value) (c : Str) (C : Addr) : Prop where
  m : mg c = some (.ref C)
  ox : OexC K C
  xf : XfC K C
  i : PySem.W.isClsIn K C = true
  s : PySem.W.subIn K (.ref C) (.ref C) = some true
theorem xc_mk {c : Str} {C : Addr} {nm q : Str} {N : Addr} {bs bm : List Value} {sn : List Str} {sub : List Value} {ab : Bool} {col : Option Bool} {dd : Option Addr} {m0 m1 m2 m3 m5 : Option Value} (X : K.In h) (G : h.Ns mainGlobals mg)
    (aC : PySem.W.nsIn K mainGlobals c = some (some (.ref C))) (xL : K.lookup C = some (excClassObj nm q C N bs bm true sn sub ab col dd m0 m1 m2 m3 m5 "ValueError.__new__")) (hb : PySem.HandSPX.refsVE bm = true)
    (sa : PySem.W.findIn K (.ref C) "__setattr__" = some (some (.builtin "object.__setattr__"))) (ga : PySem.W.findIn K (.ref C) "__getattribute__" = some (some (.builtin "BaseException.__getattribute__"))) (gg : PySem.W.findIn K (.ref C) "__getattr__" = some none)
    (kC : PySem.W.keepIn K (.ref C) = true) (eC : PySem.W.subIn K (.ref C) (.type "BaseException") = some true) (tC : PySem.W.typeIn K (.ref C) = some (.type "type")) (hC : PySem.W.hasDictIn K C = true) (iC : PySem.W.isClsIn K C = true) (sC : PySem.W.subIn K (.ref C) (.ref C) = some true) : XC K mg c C :=
  ⟨PySem.W.mg_of X G aC, ⟨⟨nm, q, N, bs, bm, sn, sub, ab, col, dd, m0, m1, m2, m3, m5, xL, hb⟩, sa, eC, tC, kC⟩, ⟨ga, gg, eC, hC⟩, iC, sC⟩
theorem XC.em {c : Str} {C S : Addr} {b : Bool} (x : XC K mg c C) (h4 : PySem.W.subIn K (.ref S) (.ref C) = some b) : PySem.W.exmOne K (.ref S) (.ref C) = some b := exm_same x.ox.exC x.i x.ox.tyC h4
theorem XC.same {c : Str} {C : Addr} (x : XC K mg c C) : ∀ C1 C2, mg c = some (.ref C1) → mg c = some (.ref C2) → PySem.W.exmOne K (.ref C1) (.ref C2) = some (decide (c = c)) := fun C1 C2 e1 e2 => by
  cases e1.symm.trans x.m
  cases e2.symm.trans x.m
  rw [decide_eq_true rfl]
  exact x.em x.s
theorem XC.diff {c c' : Str} {C C' : Addr} (x : XC K mg c C) (y : XC K mg c' C') (hs : PySem.W.subIn K (.ref C) (.ref C') = some false) (hn : decide (c' = c) = false) : ∀ C1 C2, mg c = some (.ref C1) → mg c' = some (.ref C2) → PySem.W.exmOne K (.ref C1) (.ref C2) = some (decide (c' = c)) := fun C1 C2 e1 e2 => by
  cases e1.symm.trans x.m
  cases e2.symm.trans y.m
  rw [hn]
  exact y.em hs
/-- both parameters are given, the second has a default -/
theorem binds_dflt {fd : FuncData} {ps : List Str} {T : Addr} {o : Obj} {its : Array Value} {n : Nat} (lT : K.lookup T = some o) (oT : o.data = .seq its n)
    (hb : ∀ us : List Value, us.length = ps.length → ∃ k, bindArgs fd ⟨us, []⟩ = seqItems? (.ref T) >>= k ∧ k (some its) = pure (ps.zip us)) : Binds K fd ps [] := fun s us X hl => by
  rw [List.append_nil] at hl ⊢
  obtain ⟨k, e1, e2⟩ := hb us hl
  refine L2.BindsTo.of_looks fun M => ?_
  rw [e1]
  exact L2.looks_items X lT oT (.of_pure e2)
end
end PI
set_option Elab.async false
set_option linter.all false
set_option maxRecDepth 100000
set_option maxHeartbeats 4000000
/-! PJ1: terms without names and positions, and what they do; no fuel. -/
namespace PI
open PySem PySem.Spec PyProof.Rows L2

inductive Tg where
  | nm (i : Nat)
  | tup (ts : List Tg)
mutual
inductive Tm where
  | slot (i : Nat)
  | val (d : D)
  | bin (op : Operator) (a b : Tm)
  | neg (a : Tm)
  | nt (a : Tm)
  | bop (op : BoolOp) (ts : List Tm)
  | cmp (a : Tm) (os : List CmpOp) (ts : List Tm)
  | ite (c : Ts) (a b : Tm)
  | abs
  | sl (o lo hi : Tm)
  | rv (o : Tm)
  | sub (o i : Tm)
  | lst (ts : List Tm)
  | tup (ts : List Tm)
  | star (t : Tm)
  | comp (tg : Tg) (it : It) (ifs : List Ts) (elt : Tm) (own : List Nat)
  | call (x : Str) (ts : List Tm)
  | callv (i : Nat) (ts : List Tm)
  | blt (x : Str) (ts : List Tm)
  | isi (t : Tm) (tys : List String)
  | join (o e : Tm)
  | mth (m : Str) (o e : Tm)
  | rg (x : Str) (a b : Tm)
  | rfs (b : Tm)
  | dct0
inductive Ts where
  | nt (a : Ts)
  | bop (op : BoolOp) (ts : List Ts)
  | ite (c a b : Ts)
  | cmp (a : Tm) (os : List CmpOp) (ts : List Tm)
  | of (t : Tm)
inductive It where
  | rng1 (a : Tm)
  | rng2 (a b : Tm)
  | enum (a : Tm)
  | of (t : Tm)
end
inductive Cm where
  | ps | bk | ct
  | ret0
  | ret (e : Tm)
  | ite (c : Ts) (a b : List Cm)
  | wh (c : Ts) (b : List Cm)
  | fr (tg : Tg) (it : It) (b : List Cm)
  | raise (cls : Str) (k : Nat) (ts : List Tm)
  | app (j : Nat) (e : Tm)
  | ex (e : Tm)
  | asn (i : Nat) (cell : Bool) (e : Tm)
  | sasn (j : Nat) (i e : Tm)
  | asnB (i j : Nat) (e : Tm)
  | asn2 (i j : Nat) (e1 e2 : Tm)
  | asnT (tg : Tg) (e : Tm)
  | asn3 (i j l : Nat) (ts : List Tm)
  | ext (j : Nat) (e : Tm)
  | aug (op : Operator) (i : Nat) (e : Tm)
  | fz (is : List Nat) (c : Cm)

/-- where a term runs: the program, its calls by depth, the law's code table -/
structure En where
  P : Pg
  call : Nat → Str → List D → M DK
  top : Option (Addr × Str)

def Tm.isAbs : Tm → Bool
  | .abs => true
  | _ => false
def Tm.isStar : Tm → Bool
  | .star _ => true
  | _ => false
def optI : Bool → D → Option (Option Int)
  | true, _ => some none
  | false, d => (intOf? d).map some
def hasFn (P : Pg) (g : Str) : Bool := (P.fns.lookup g).isSome
mutual
def runTg : Tg → D → Kd → List Sl → Option (List Sl)
  | .nm i, d, k, ρ => (slotOf d k).map fun s => ρ.set i s
  | .tup ts, d, _, ρ => (match d with
    | .tup ds => runTgs ts ds ρ
    | .lst ds => runTgs ts ds ρ
    | _ => none)
def runTgs : List Tg → List D → List Sl → Option (List Sl)
  | t :: ts, d :: ds, ρ => (match runTg t d .sh ρ with
    | some ρ' => runTgs ts ds ρ'
    | none => none)
  | [], [], ρ => some ρ
  | _, _, _ => none
end
def noOwI (ρ : List Sl) (own : List Nat) : Bool := own.all fun i => match ρ[i]? with
  | some (.ow _) => false
  | _ => true
def frzI (ρ : List Sl) (i : Nat) : List Sl := match ρ[i]? with
  | some (.ow d) => ρ.set i (.im d)
  | _ => ρ
def fzI (is : List Nat) (ρ : List Sl) : List Sl := is.foldl frzI ρ
def subD (x y : DK) : M DK := match x.1, y.1 with
  | .obj l, y => fun st => (match st[l]? with
    | some (.box d) => M.opt ((ixD d y).map fun z => (z, .sh)) st
    | _ => .no)
  | x, y => .opt ((ixD x y).map fun z => (z, .sh))
def refEnd (hds : List (Str × Str × Nat)) (m : M DK) (top : Option (Addr × Str)) : M DK := fun (st : Store) => match (st[0]? : Option Cell), top with
    | some (Cell.tab A q), some (A', q') => if A = A' ∧ q = q' then (match m st with
      | .ok _ st' => .ok (.tup [.str "", .non], .sh) st'
      | .ex e st' => (match pickEx e hds with
        | some v => .ok (v, .sh) st'
        | none => .no)
      | .no => .no) else .no
    | _, _ => .no
def itR1 (x : DK) : M (List D × Kd) := match x.1 with
  | .int j => if in62 j then .ret (rngD 0 j.toNat, .sh) else .no
  | _ => .no
def itR2 (x y : DK) : M (List D × Kd) := match x.1, y.1 with
  | .int i, .int j => if in62 i && in62 j then .ret (rngD i (j - i).toNat, .sh) else .no
  | _, _ => .no
def itE (x : DK) : M (List D × Kd) := match x.1 with
  | .lst xs => .ret (enumD 0 xs, x.2)
  | .tup xs => .ret (enumD 0 xs, .sh)
  | .str s => .ret (enumD 0 (signsD s), .sh)
  | _ => .no
def itO (x : DK) : M (List D × Kd) := match x.1 with
  | .lst xs => .ret (xs, x.2)
  | .tup xs => .ret (xs, .sh)
  | .str s => .ret (signsD s, .sh)
  | .dct ks _ => .ret (ks, x.2)
  | _ => .no
def joinD (a : Str) (y : DK) : M DK := match y.1 with
  | .lst ys => (match mapO strOf? ys with
    | some zs => if (zs.map (·.length)).sum + zs.length * a.length ≤ lim then .ret (.str (Txt.join a zs), .sh) else .no
    | none => .no)
  | _ => .no
def st1 (y : DK) : M D := match strong [y] with
  | some [z] => .ret z
  | _ => .no
def starX (x : DK) : M (List D) := match x.1 with
  | .lst xs => .ret xs
  | .tup xs => .ret xs
  | _ => .no
def fnX (P : Pg) : Option DK → M Str
  | some (.fn g, _) => if hasFn P g then .ret g else .no
  | _ => .no
def rgI : D → D → Option (Int × Int)
  | .int i, .int j => some (i, j)
  | _, _ => none
def stopB : BoolOp → Bool → Bool
  | .And, false => true
  | .Or, true => true
  | _, _ => false
mutual
def runE (E : En) (d : Nat) : Tm → List Sl → M DK
  | .slot i, ρ => .opt ((ρ[i]?).bind Sl.get)
  | .val v, _ => .ret (v, .sh)
  | .bin op a b, ρ => .bnd (runE E d a ρ) fun x => .bnd (runE E d b ρ) fun y => .opt (opD op x.1 y.1)
  | .neg a, ρ => .bnd (runE E d a ρ) fun x => .opt ((intOf? x.1).map fun i => (.int (-i), .sh))
  | .nt a, ρ => .bnd (runE E d a ρ) fun x => .opt ((tru x.1).map fun b => (.bl (!b), .sh))
  | .bop op ts, ρ => runB E d op ts ρ
  | .cmp a os ts, ρ => .bnd (runE E d a ρ) fun x => .bnd (runC E d x.1 os ts ρ) fun b => .ret (.bl b, .sh)
  | .ite c a b, ρ => .bnd (runT E d c ρ) fun t => if t then runE E d a ρ else runE E d b ρ
  | .abs, _ => .ret (.non, .sh)
  | .sl o lo hi, ρ => .bnd (runE E d o ρ) fun x => .bnd (.bnd (runE E d lo ρ) fun y => .opt (optI lo.isAbs y.1)) fun l => .bnd (.bnd (runE E d hi ρ) fun y => .opt (optI hi.isAbs y.1)) fun h => .opt (slD x.1 l h)
  | .rv o, ρ => .bnd (runE E d o ρ) fun x => .opt (revD x.1)
  | .sub o i, ρ => .bnd (runE E d o ρ) fun x => .bnd (runE E d i ρ) fun y => subD x y
  | .lst ts, ρ => .bnd (runL E d ts ρ) fun xs => if xs.length ≤ lim then .ret (.lst xs, .fr) else .no
  | .tup ts, ρ => .bnd (runL E d ts ρ) fun xs => if xs.length ≤ lim then .ret (.tup xs, .sh) else .no
  | .dct0, _ => .ret (.dct [] [], .fr)
  | .star _, _ => .no
  | .comp tg it ifs elt own, ρ => if noOwI ρ own then
      .bnd (runI E d it ρ) fun items => M.calm (.bnd (compL (fun x => match runTg tg x .sh (wipeR ρ own) with
          | some ρ' => .bnd (runTs E d .And ifs ρ') fun b => if b then .bnd (runE E d elt ρ') fun y => .bnd (st1 y) fun z => .ret (some z) else .ret none
          | none => .no) items.1) fun ys => if ys.length ≤ lim then .ret (.lst ys, .fr) else .no)
      else .no
  | .call x ts, ρ => .bnd (runL E d ts ρ) fun xs => E.call d x xs
  | .callv i ts, ρ => .bnd (fnX E.P ((ρ[i]?).bind Sl.get)) fun g => .bnd (runL E d ts ρ) fun xs => E.call d g xs
  | .blt x ts, ρ => .bnd (runW E d ts ρ) fun xs => .opt (bltD x xs)
  | .isi t tys, ρ => .bnd (runE E d t ρ) fun v => .opt ((isiAny v.1 tys).map fun b => (.bl b, .sh))
  | .join o e, ρ => .bnd (runE E d o ρ) fun x => (match x.1 with
      | .str a => .bnd (runE E d e ρ) fun y => joinD a y
      | _ => .no)
  | .mth m o e, ρ => .bnd (runE E d o ρ) fun x => if mthT m x.1 then .bnd (runE E d e ρ) fun y => .opt (mthD m x.1 y.1) else .no
  | .rg x a b, ρ => .bnd (.bnd (runE E d a ρ) fun u => .bnd (runE E d b ρ) fun v => .opt (rgI u.1 v.1)) fun q => .opt (rngV x q)
  | .rfs b, ρ => (match d with
      | d' + 2 => refEnd E.P.hds (runE E d' b (noOwn ρ)) E.top
      | _ => .no)
def runT (E : En) (d : Nat) : Ts → List Sl → M Bool
  | .nt a, ρ => .bnd (runT E d a ρ) fun b => .ret (!b)
  | .bop op ts, ρ => runTs E d op ts ρ
  | .ite c a b, ρ => .bnd (runT E d c ρ) fun t => if t then runT E d a ρ else runT E d b ρ
  | .cmp a os ts, ρ => .bnd (runE E d a ρ) fun x => runC E d x.1 os ts ρ
  | .of t, ρ => .bnd (runE E d t ρ) fun x => .opt (tru x.1)
def runI (E : En) (d : Nat) : It → List Sl → M (List D × Kd)
  | .rng1 a, ρ => .bnd (runE E d a ρ) fun x => itR1 x
  | .rng2 a b, ρ => .bnd (runE E d a ρ) fun x => .bnd (runE E d b ρ) fun y => itR2 x y
  | .enum a, ρ => .bnd (runE E d a ρ) fun x => itE x
  | .of t, ρ => .bnd (runE E d t ρ) fun x => itO x
def runL (E : En) (d : Nat) : List Tm → List Sl → M (List D)
  | [], _ => .ret []
  | .star t :: ts, ρ => .bnd (runE E d t ρ) fun x => .bnd (starX x) fun xs => .bnd (runL E d ts ρ) fun ys => .ret (xs ++ ys)
  | t :: ts, ρ => .bnd (runE E d t ρ) fun x => .bnd (runL E d ts ρ) fun ys => .bnd (st1 x) fun z => .ret (z :: ys)
def runW (E : En) (d : Nat) : List Tm → List Sl → M (List D)
  | [], _ => .ret []
  | t :: ts, ρ => .bnd (runE E d t ρ) fun x => .bnd (runW E d ts ρ) fun ys => .ret (x.1 :: ys)
def runK (E : En) (d : Nat) : List Tm → List Sl → M (List DK)
  | [], _ => .ret []
  | t :: ts, ρ => .bnd (runE E d t ρ) fun x => .bnd (runK E d ts ρ) fun ys => if isWk x.2 then .no else .ret (x :: ys)
def runB (E : En) (d : Nat) (op : BoolOp) : List Tm → List Sl → M DK
  | [], _ => .no
  | t :: ts, ρ => .bnd (runE E d t ρ) fun x => if ts.isEmpty then .ret x else .bnd (.opt (tru x.1)) fun b => if stopB op b then .ret x else runB E d op ts ρ
def runC (E : En) (d : Nat) (x : D) : List CmpOp → List Tm → List Sl → M Bool
  | os, [], _ => .no
  | [], _, _ => .no
  | o :: os, t :: ts, ρ => .bnd (runE E d t ρ) fun y => .bnd (.opt (cmpD o x y.1)) fun b => if os.isEmpty && ts.isEmpty then .ret b else if b then runC E d y.1 os ts ρ else .ret false
def runTs (E : En) (d : Nat) (op : BoolOp) : List Ts → List Sl → M Bool
  | [], _ => .ret (match op with | .And => true | .Or => false)
  | t :: ts, ρ => .bnd (runT E d t ρ) fun b => if stopB op b then .ret b else runTs E d op ts ρ
end

/-! ### statements -/
def whN (c : List Sl → M Bool) (b : List Sl → M (Fl × List Sl)) : Nat → List Sl → M (Fl × List Sl)
  | 0, _ => .no
  | n + 1, ρ => .bnd (c ρ) fun t => if t then .bnd (b ρ) fun q => (match q.1 with
      | .nx => whN c b n q.2
      | .ct => whN c b n q.2
      | .bk => .ret (.nx, q.2)
      | .rt r k => .ret (.rt r k, q.2)) else .ret (.nx, ρ)
open Classical in
noncomputable def whL (c : List Sl → M Bool) (b : List Sl → M (Fl × List Sl)) (ρ : List Sl) : M (Fl × List Sl) := fun st =>
  if h : ∃ n, whN c b n ρ st ≠ .no then whN c b (Classical.choose h) ρ st else .no
def rtK : Kd → Kd
  | .sh => .sh
  | _ => .fr
def forB (f : D → List Sl → M (Fl × List Sl)) (items : List D × Kd) (ρ : List Sl) : M (Fl × List Sl) := match items.2 with
  | .wk => .no
  | _ => forL f items.1 ρ
def raiseD (d : Nat) (cls : Str) (k : Nat) (m : M (List D)) : M (Fl × List Sl) := match d with
  | _ + 2 => .bnd m fun vs => (match exFs k vs with
    | some fs => fun st => .ex ⟨cls, fs⟩ st
    | none => .no)
  | _ => .no
def appD (j : Nat) (m : M DK) (ρ : List Sl) : M (Fl × List Sl) := match ρ[j]? with
  | some (.ow (.lst xs)) => .bnd m fun v => .bnd (st1 v) fun z => if xs.length < lim then .ret (.nx, ρ.set j (.ow (.lst (xs ++ [z])))) else .no
  | some (.im (.obj l)) => isLst l <| .bnd m fun v => .bnd (st1 v) fun z => fun st => (match st[l]? with
    | some (.box (.lst xs)) => if xs.length < lim then .ok (.nx, ρ) (st.set l (.lst (xs ++ [z]))) else .no
    | _ => .no)
  | _ => .no
def setI (i : Nat) (cell : Bool) (v : DK) (ρ : List Sl) : M (Fl × List Sl) := match v, cell with
  | (.lst xs, .fr), true => fun st => .ok (.nx, ρ.set i (.im (.obj st.length))) (st ++ [.lst xs])
  | (.dct ks vs, .fr), true => fun st => .ok (.nx, ρ.set i (.im (.obj st.length))) (st ++ [.dct ks vs])
  | (d, k), _ => (match slotOf d k with
    | some s => .ret (.nx, ρ.set i s)
    | none => .no)
def sasnD (j : Nat) (z : D) (m : M DK) (ρ : List Sl) : M (Fl × List Sl) := match ρ[j]? with
  | some (.im (.obj l)) => .bnd m fun y => .bnd (st1 y) fun q => fun st => (match st[l]? with
    | some (.box b) => (match setAt b q z with
      | some b' => .ok (.nx, ρ) (st.set l (.box b'))
      | none => .no)
    | _ => .no)
  | some (.ow b) => .bnd m fun y => .bnd (st1 y) fun q => .opt ((setAt b q z).map fun b' => (.nx, ρ.set j (.ow b')))
  | _ => .no
def asnBD (i j : Nat) (v : DK) (ρ : List Sl) : M (Fl × List Sl) := match v.2 with
  | .sh => .ret (.nx, (ρ.set i (.im v.1)).set j (.im v.1))
  | _ => .no
def asn2D (i j : Nat) (vs : List DK) (ρ : List Sl) : M (Fl × List Sl) := match vs with
  | [v, w] => (match slotOf v.1 v.2, slotOf w.1 w.2 with
    | some s, some t => .ret (.nx, (ρ.set i s).set j t)
    | _, _ => .no)
  | _ => .no
def asn3D (i j l : Nat) (vs : List DK) (ρ : List Sl) : M (Fl × List Sl) := match vs with
  | [u, v, w] => (match slotOf u.1 u.2, slotOf v.1 v.2, slotOf w.1 w.2 with
    | some s, some t, some r => .ret (.nx, ((ρ.set i s).set j t).set l r)
    | _, _, _ => .no)
  | _ => .no
def extD (j : Nat) (m : M DK) (ρ : List Sl) : M (Fl × List Sl) := match ρ[j]? with
  | some (.ow (.lst xs)) => .bnd m fun v => (match v.1 with
    | .lst ys => if xs.length + ys.length ≤ lim then .ret (.nx, ρ.set j (.ow (.lst (xs ++ ys)))) else .no
    | _ => .no)
  | _ => .no
def asnTD (tg : Tg) (v : DK) (ρ : List Sl) : M (Fl × List Sl) := match v.2 with
  | .wk => .no
  | k => .opt ((runTg tg v.1 k ρ).map fun ρ' => (.nx, ρ'))
def augD (op : Operator) (i : Nat) (m : M DK) (ρ : List Sl) : M (Fl × List Sl) := match ρ[i]? with
  | some (.im (.int a)) => .bnd m fun v => (match augI op a v.1 with
    | some r => .ret (.nx, ρ.set i (.im r))
    | none => .no)
  | some (.im (.str a)) => .bnd m fun v => (match op, v.1 with
    | .Add, .str b => if a.length + b.length ≤ lim then .ret (.nx, ρ.set i (.im (.str (a ++ b)))) else .no
    | _, _ => .no)
  | _ => .no
mutual
noncomputable def runS (E : En) (d : Nat) : Cm → List Sl → M (Fl × List Sl)
  | .ps, ρ => .ret (.nx, ρ)
  | .bk, ρ => .ret (.bk, ρ)
  | .ct, ρ => .ret (.ct, ρ)
  | .ret0, ρ => .ret (.rt .non .sh, ρ)
  | .ret e, ρ => .bnd (runE E d e ρ) fun x => .ret (.rt x.1 (rtK x.2), ρ)
  | .ite c a b, ρ => .bnd (runT E d c ρ) fun t => if t then runSs E d a ρ else runSs E d b ρ
  | .wh c b, ρ => whL (fun ρ => runT E d c ρ) (fun ρ => runSs E d b ρ) ρ
  | .fr tg it b, ρ => .bnd (runI E d it ρ) fun items => forB (fun x ρ => match runTg tg x .sh ρ with
      | some ρ' => runSs E d b ρ'
      | none => .no) items ρ
  | .raise cls k ts, ρ => raiseD d cls k (runL E d ts ρ)
  | .app j e, ρ => appD j (runE E d e ρ) ρ
  | .ex e, ρ => .bnd (runE E d e ρ) fun _ => .ret (.nx, ρ)
  | .asn i cell e, ρ => .bnd (runE E d e ρ) fun v => setI i cell v ρ
  | .sasn j i e, ρ => .bnd (runE E d e ρ) fun v => .bnd (st1 v) fun z => sasnD j z (runE E d i ρ) ρ
  | .asnB i j e, ρ => .bnd (runE E d e ρ) fun v => asnBD i j v ρ
  | .asn2 i j e1 e2, ρ => .bnd (.bnd (runE E d e1 ρ) fun v => .bnd (runE E d e2 ρ) fun w => pr2 v w) fun vs => asn2D i j vs ρ
  | .asn3 i j l ts, ρ => .bnd (runK E d ts ρ) fun vs => asn3D i j l vs ρ
  | .ext j e, ρ => extD j (runE E d e ρ) ρ
  | .asnT tg e, ρ => .bnd (runE E d e ρ) fun v => asnTD tg v ρ
  | .aug op i e, ρ => augD op i (runE E d e ρ) ρ
  | .fz is c, ρ => runS E d c (fzI is ρ)
noncomputable def runSs (E : En) (d : Nat) : List Cm → List Sl → M (Fl × List Sl)
  | [], ρ => .ret (.nx, ρ)
  | c :: cs, ρ => .bnd (runS E d c ρ) fun q => (match q.1 with
    | .nx => runSs E d cs q.2
    | _ => .ret q)
end
def endF (q : Fl × List Sl) : M DK := match q.1 with
  | .nx => .ret (.non, .sh)
  | .rt r k => if isWk k then .no else .ret (r, k)
  | _ => .no

/-! ### what a fuelled run comes to -/
def Lm {α : Type} (s : Nat → R α) (r : R α) : Prop := r = .no ∨ ∃ N, ∀ n, N ≤ n → s n = r
def LM {α : Type} (s : Nat → M α) (m : M α) : Prop := ∀ st, Lm (fun n => s n st) (m st)
section
variable {α β : Type}
theorem LM.const (m : M α) : LM (fun _ => m) m := fun _ => .inr ⟨0, fun _ _ => rfl⟩
theorem LM.no (s : Nat → M α) : LM s .no := fun _ => .inl rfl
theorem Lm.ev {s s' : Nat → R α} {r : R α} (h : Lm s' r) (N : Nat) (e : ∀ n, N ≤ n → s n = s' n) : Lm s r := by
  rcases h with h | ⟨M, h⟩
  · exact .inl h
  · exact .inr ⟨max N M, fun n hn => by rw [e n (by omega), h n (by omega)]⟩
theorem LM.ev {s s' : Nat → M α} {m : M α} (h : LM s' m) (N : Nat) (e : ∀ n, N ≤ n → s n = s' n) : LM s m := fun st => (h st).ev N fun n hn => by rw [e n hn]
theorem LM.sh {s : Nat → M α} {m : M α} (h : LM (fun n => s (n + 1)) m) : LM s m := fun st => by
  rcases h st with h | ⟨N, h⟩
  · exact .inl h
  · exact .inr ⟨N + 1, fun n hn => by
      obtain ⟨k, rfl⟩ : ∃ k, n = k + 1 := ⟨n - 1, by omega⟩
      exact h k (by omega)⟩
theorem LM.bnd {s : Nat → M α} {m : M α} {f : Nat → α → M β} {g : α → M β} (h : LM s m) (hf : ∀ a, LM (fun n => f n a) (g a)) : LM (fun n => .bnd (s n) (f n)) (.bnd m g) := fun st => by
  rcases h st with e | ⟨N, e⟩
  · left
    show (match m st with | .ok a st' => g a st' | .ex e st' => .ex e st' | .no => .no) = _
    rw [e]
  · cases hm : m st with
    | no => left; show (match m st with | .ok a st' => g a st' | .ex e st' => .ex e st' | .no => .no) = _; rw [hm]
    | ex x st' =>
      right
      refine ⟨N, fun n hn => ?_⟩
      show (match s n st with | .ok a st' => f n a st' | .ex e st' => .ex e st' | .no => .no) = (match m st with | .ok a st' => g a st' | .ex e st' => .ex e st' | .no => .no)
      rw [show s n st = m st from e n hn, hm]
    | ok a st' =>
      rcases hf a st' with e2 | ⟨N2, e2⟩
      · left; show (match m st with | .ok a st' => g a st' | .ex e st' => .ex e st' | .no => .no) = _; rw [hm]; exact e2
      · right
        refine ⟨max N N2, fun n hn => ?_⟩
        show (match s n st with | .ok a st' => f n a st' | .ex e st' => .ex e st' | .no => .no) = (match m st with | .ok a st' => g a st' | .ex e st' => .ex e st' | .no => .no)
        rw [show s n st = m st from e n (by omega), hm]
        exact e2 n (by omega)
theorem LM.ite {c : Prop} [Decidable c] {s s' : Nat → M α} {m m' : M α} (h : c → LM s m) (h' : ¬ c → LM s' m') : LM (fun n => if c then s n else s' n) (if c then m else m') := by
  by_cases e : c
  · simp only [e, if_true]; exact h e
  · simp only [e, if_false]; exact h' e
end
end PI
set_option Elab.async false
set_option linter.all false
set_option maxRecDepth 100000
set_option maxHeartbeats 4000000
/-! PJ2: from the program's text to terms. -/
namespace PI
open PySem PySem.Spec PyProof.Rows L2

mutual
def cT : Nat → Ct → Expr → Option Tg
  | 0, _, _ => none
  | n + 1, C, t => match t with
    | .Name x _ => if okName x && locB C.sc x && stB C x then (sIdx C.N x).map .nm else none
    | .Tuple ts _ _ => if plainT ts then (cTs n C ts).map .tup else none
    | _ => none
termination_by structural n => n
def cTs : Nat → Ct → List Expr → Option (List Tg)
  | 0, _, _ => none
  | _ + 1, _, [] => some []
  | n + 1, C, t :: ts => (cT n C t).bind fun a => (cTs n C ts).map fun b => a :: b
termination_by structural n => n
end
def cName (P : Pg) (C : Ct) (x : Str) : Option Tm :=
  if okName x then
    if visB C.sc x then (sIdx C.N x).map .slot
    else if gloB C.sc x then (match P.glb.lookup x with
      | some d => some (.val d)
      | none => (match P.fns.lookup x with
        | some _ => some (.val (.fn x))
        | none => none))
    else none
  else none
def cConst : Const → Option Tm
  | .none => some (.val .non)
  | .bool b => some (.val (.bl b))
  | .int i => some (.val (.int i))
  | .str s => some (.val (.str s))
  | _ => none
def oneG : List Comprehension → Option (Expr × Expr × List Expr)
  | [⟨tg, it, ifs, as⟩] => if as = 0 then some (tg, it, ifs) else none
  | _ => none
theorem oneG_ok {gs : List Comprehension} {r : Expr × Expr × List Expr} (h : oneG gs = some r) : gs = [⟨r.1, r.2.1, r.2.2, 0⟩] := by
  unfold oneG at h
  split at h
  · split at h
    · rename_i e
      cases h
      rw [e]
    · cases h
  · cases h
def isRev : Option Expr → Option Expr → Expr → Bool
  | none, none, .UnaryOp .USub (.Constant (.int i) _ _) _ => decide (i = 1)
  | _, _, _ => false
theorem isRev_ok {lo hi : Option Expr} {st : Expr} (h : isRev lo hi st = true) : lo = none ∧ hi = none ∧ ∃ j p q, st = .UnaryOp .USub (.Constant (.int 1) j p) q := by
  unfold isRev at h
  split at h
  · rw [decide_eq_true_eq] at h
    exact ⟨rfl, rfl, _, _, _, by rw [h]⟩
  · cases h
def compC (C : Ct) (scope : Scope) : Ct := ⟨C.N, relC scope C.sc, [], some scope, none⟩
mutual
def cE : Nat → Pg → Ct → Expr → Option Tm
  | 0, _, _, _ => none
  | n + 1, P, C, e => match e with
    | .Name x _ => cName P C x
    | .Constant c _ _ => cConst c
    | .BinOp a op b _ => (cE n P C a).bind fun x => (cE n P C b).map fun y => .bin op x y
    | .UnaryOp op a _ => (match op with
      | .USub => (cE n P C a).map .neg
      | .Not => (cE n P C a).map .nt
      | _ => none)
    | .BoolOp op vs _ => (cL n P C vs).map (.bop op)
    | .Compare a ops cs _ => if noSet cs && ops.length == cs.length then (cE n P C a).bind fun x => (cL n P C cs).map fun ys => .cmp x ops ys else none
    | .IfExp c a b _ => (cTe n P C c).bind fun x => (cE n P C a).bind fun y => (cE n P C b).map fun z => .ite x y z
    | .Subscript o (.Slice lo hi none _) _ => (cE n P C o).bind fun x => (cO n P C lo).bind fun l => (cO n P C hi).map fun h => .sl x l h
    | .Subscript o (.Slice lo hi (some st) _) _ => if isRev lo hi st then (cE n P C o).map .rv else none
    | .Subscript o i _ => (cE n P C o).bind fun x => (cE n P C i).map fun y => .sub x y
    | .List es _ => (cL n P C es).map .lst
    | .Tuple es _ _ => (cL n P C es).map .tup
    | .Dict [] [] _ => some .dct0
    | .ListComp elt gs scope _ => (oneG gs).bind fun g => if blkC C.N C.sc scope (ownOf C.N scope) then
        (cI n P C g.1 g.2.1).bind fun i => (cT n (compC C scope) g.1).bind fun t => (cIfs n P (compC C scope) g.2.2).bind fun fs => (cE n P (compC C scope) elt).map fun e => .comp t i fs e ((ownOf C.N scope).map (·.2))
      else none
    | .Call f as [] pos => if lineOk f pos then cCall n P C f as else none
    | _ => none
termination_by structural n => n
def cO : Nat → Pg → Ct → Option Expr → Option Tm
  | 0, _, _, _ => none
  | _ + 1, _, _, none => some .abs
  | n + 1, P, C, some e => (cE n P C e).bind fun t => if t.isAbs then none else some t
termination_by structural n => n
def cL : Nat → Pg → Ct → List Expr → Option (List Tm)
  | 0, _, _, _ => none
  | _ + 1, _, _, [] => some []
  | n + 1, P, C, e :: es => (match e with
    | .Starred e' _ => (cE n P C e').map Tm.star
    | e => (cE n P C e).bind fun t => if t.isStar then none else some t).bind fun x => (cL n P C es).map fun ys => x :: ys
termination_by structural n => n
def cTe : Nat → Pg → Ct → Expr → Option Ts
  | 0, _, _, _ => none
  | n + 1, P, C, e => match e with
    | .UnaryOp .Not a _ => (cTe n P C a).map .nt
    | .BoolOp op vs _ => (cTs' n P C vs).map (.bop op)
    | .IfExp c a b _ => (cTe n P C c).bind fun x => (cTe n P C a).bind fun y => (cTe n P C b).map fun z => .ite x y z
    | .Compare a ops cs _ => if noSet cs && ops.length == cs.length then (cE n P C a).bind fun x => (cL n P C cs).map fun ys => .cmp x ops ys else none
    | e => (cE n P C e).map .of
termination_by structural n => n
def cTs' : Nat → Pg → Ct → List Expr → Option (List Ts)
  | 0, _, _, _ => none
  | _ + 1, _, _, [] => some []
  | n + 1, P, C, e :: es => (cTe n P C e).bind fun x => (cTs' n P C es).map fun ys => x :: ys
termination_by structural n => n
def cIfs : Nat → Pg → Ct → List Expr → Option (List Ts)
  | 0, _, _, _ => none
  | _ + 1, _, _, [] => some []
  | n + 1, P, C, [e] => (cTe n P C e).map fun x => [x]
  | _ + 1, _, _, _ => none
termination_by structural n => n
def cI : Nat → Pg → Ct → Expr → Expr → Option It
  | 0, _, _, _, _ => none
  | n + 1, P, C, tg, e => match e with
    | .Call (.Name f p) as [] p2 => if f = "range" && gloB C.sc f && plainName P f then (match as with
        | [a] => if notStar a then (cE n P C a).map .rng1 else none
        | [a, b] => if notStar a && notStar b then (cE n P C a).bind fun x => (cE n P C b).map fun y => .rng2 x y else none
        | _ => none)
      else if f = "enumerate" && gloB C.sc f && plainName P f then (match tg, as with
        | .Tuple _ _ _, [a] => if notStar a then (cE n P C a).map .enum else none
        | _, _ => none)
      else (cE n P C (.Call (.Name f p) as [] p2)).map .of
    | e => (cE n P C e).map .of
termination_by structural n => n
def cCall : Nat → Pg → Ct → Expr → List Expr → Option Tm
  | 0, _, _, _, _ => none
  | n + 1, P, C, f, as => match f with
    | .Name x _ => if okName x then (
        if visB C.sc x then (if noStar as && !as.isEmpty then (sIdx C.N x).bind fun i => (cL n P C as).map fun ts => .callv i ts else none)
        else if gloB C.sc x then (match P.fns.lookup x with
          | some _ => if noStar as then (cL n P C as).map (.call x) else none
          | none => if x = P.ref then (match lamArg as with
              | some (b, lsc) => if LamX.lamSB C.sc lsc && C.blk.isNone then (cE n P ⟨C.N, lsc, [], some lsc, none⟩ b).map .rfs else none
              | none => none)
            else if x = "isinstance" && plainName P x then (match as with
              | [e, ts] => if notStar e then (match tyList C ts with
                | some tn => (cE n P C e).map fun t => .isi t tn
                | none => none) else none
              | _ => none)
            else if (bltT x || bltB x || bltR C x) && plainName P x && noStar as then (match rngArg P C x as with
              | some [a] => (cE n P C a).map fun t => .rg x (.val (.int 0)) t
              | some [a, b] => (cE n P C a).bind fun u => (cE n P C b).map fun t => .rg x u t
              | some _ => none
              | none => (cL n P C as).map (.blt x))
            else none)
        else none) else none
    | .Attribute o m _ => if m = "join" && notCall o then (match as with
          | [e] => if notStar e then (cE n P C o).bind fun x => (cE n P C e).map fun y => .join x y else none
          | _ => none)
        else if mthB m && notCall o then (match as with
          | [e] => if notStar e then (cE n P C o).bind fun x => (cE n P C e).map fun y => .mth m x y else none
          | _ => none)
        else none
    | _ => none
termination_by structural n => n
end
/-- the slots of names, once each -/
def dd : List Nat → List Nat
  | [] => []
  | i :: r => if r.contains i then dd r else i :: dd r
def fzC (N : List Str) (xs : List Str) (c : Cm) : Cm := match dd (xs.filterMap (sIdx N)) with
  | [] => c
  | is => .fz is c
mutual
def cS : Nat → Pg → Ct → Stmt → Option Cm
  | 0, _, _, _ => none
  | n + 1, P, C, s => (cQ n P C s).map (fzC C.N (fzS s))
termination_by structural n => n
def cQ : Nat → Pg → Ct → Stmt → Option Cm
  | 0, _, _, _ => none
  | n + 1, P, C, s => match s with
    | .Pass _ => some .ps
    | .Break _ => some .bk
    | .Continue _ => some .ct
    | .Return none _ => some .ret0
    | .Return (some e) _ => (cE n P C e).map .ret
    | .If c a b _ => (cTe n P C c).bind fun x => (cSs n P C a).bind fun y => (cSs n P C b).map fun z => .ite x y z
    | .While c b [] _ => (cTe n P C c).bind fun x => (cSs n P C b).map fun y => .wh x y
    | .For tg it b [] _ => (cI n P C tg it).bind fun i => (cT n C tg).bind fun t => (cSs n P C b).map fun y => .fr t i y
    | .Raise (some (.Call (.Name c _) es [] _)) none _ => if gloB C.sc c && okName c && noStar es then (match P.exc.lookup c with
        | some k => (cL n P C es).map (.raise c k)
        | none => none) else none
    | .Expr (.Constant (.str _) _ _) _ => some .ps
    | .Expr (.Call (.Attribute (.Name x _) m ap) [e] [] pos) _ => if okName x && visB C.sc x && (decide (m = "extend") && (ap.endLine == pos.line) && notStar e) then (sIdx C.N x).bind fun j => (cE n P C e).map (.ext j) else if okName x && visB C.sc x && (decide (m = "append") && (ap.endLine == pos.line) && notStar e) then (sIdx C.N x).bind fun j => (cE n P C e).map (.app j) else none
    | .Expr (.Call (.Name f p) as [] p2) _ => (cE n P C (.Call (.Name f p) as [] p2)).map .ex
    | .Assign [.Name x _] e _ => if okName x && locB C.sc x && stB C x then (sIdx C.N x).bind fun i => (cE n P C e).map (.asn i (C.cells.contains x)) else none
    | .Assign [.Subscript (.Name x _) i _] e _ => if okName x && visB C.sc x && notSlice i then (sIdx C.N x).bind fun j => (cE n P C i).bind fun y => (cE n P C e).map (.sasn j y) else none
    | .Assign [.Name x _, .Name y _] e _ => if okName x && locB C.sc x && stB C x && (okName y && locB C.sc y && stB C y) then (sIdx C.N x).bind fun i => (sIdx C.N y).bind fun j => (cE n P C e).map (.asnB i j) else none
    | .Assign [.Tuple [.Name x px, .Name y py] a b] (.Tuple [e1, e2] c d') _ => if notStar e1 && notStar e2 && okT C x && okT C y && (par2 C x px y py e1 e2 || seq2 C x y) then (sIdx C.N x).bind fun i => (sIdx C.N y).bind fun j => (cE n P C e1).bind fun u => (cE n P C e2).map (.asn2 i j u) else none
    | .Assign [.Tuple [.Name x px, .Name y py, .Name z pz] a b] (.Tuple [e1, e2, e3] c d') _ => if noStar [e1, e2, e3] && (okT C x && okT C y && okT C z) && (par3 C x px y py z pz [e1, e2, e3] || seq3 C x y z) then (sIdx C.N x).bind fun i => (sIdx C.N y).bind fun j => (sIdx C.N z).bind fun l => (cE n P C e1).bind fun u => (cE n P C e2).bind fun v => (cE n P C e3).map fun w => .asn3 i j l [u, v, w] else none
    | .Assign [.Tuple ts a b] e _ => if notTup e then (cT n C (.Tuple ts a b)).bind fun t => (cE n P C e).map (.asnT t) else none
    | .AugAssign (.Name x _) op e _ => if okName x && locB C.sc x && stB C x then (sIdx C.N x).bind fun i => (cE n P C e).map (.aug op i) else none
    | _ => none
termination_by structural n => n
def cSs : Nat → Pg → Ct → List Stmt → Option (List Cm)
  | 0, _, _, _ => none
  | _ + 1, _, _, [] => some []
  | n + 1, P, C, s :: ss => (cS n P C s).bind fun x => (cSs n P C ss).map fun ys => x :: ys
termination_by structural n => n
end
end PI
set_option Elab.async false
set_option linter.all false
set_option maxRecDepth 100000
set_option maxHeartbeats 4000000
/-! PJ3: terms do what the text does. -/
namespace PI
open PySem PySem.Spec PyProof.Rows L2
section
variable {α β : Type}
theorem LM.comp {s : Nat → M α} {f : Nat → D → M (Option α)} {g : D → M (Option α)} : True := trivial
theorem LM.compL {f : Nat → D → M (Option D)} {g : D → M (Option D)} (h : ∀ x, LM (fun n => f n x) (g x)) : ∀ xs, LM (fun n => compL (f n) xs) (compL g xs)
  | [] => LM.const _
  | x :: r => LM.bnd (h x) fun o => LM.bnd (LM.compL h r) fun ys => LM.const _
theorem LM.forL {f : Nat → D → List Sl → M (Fl × List Sl)} {g : D → List Sl → M (Fl × List Sl)} (h : ∀ x ρ, LM (fun n => f n x ρ) (g x ρ)) : ∀ xs ρ, LM (fun n => forL (f n) xs ρ) (forL g xs ρ)
  | [], ρ => LM.const _
  | x :: r, ρ => LM.bnd (h x ρ) fun q => by
    obtain ⟨fl, ρ'⟩ := q
    cases fl with
    | nx => exact LM.forL h r ρ'
    | ct => exact LM.forL h r ρ'
    | bk => exact LM.const _
    | rt r k => exact LM.const _
theorem LM.one {s : Nat → M α} {m : M α} (h : LM s m) {T : M α → M β} (F : Store → R α → R β) (e : ∀ m st, T m st = F st (m st)) (z : ∀ st, F st R.no = R.no) : LM (fun n => T (s n)) (T m) := fun st => by
  rw [e m st]
  rcases h st with e1 | ⟨N, e1⟩
  · left; rw [e1]; exact z st
  · right
    exact ⟨N, fun n hn => by
      show T (s n) st = _
      rw [e (s n) st, show s n st = m st from e1 n hn]⟩
theorem LM.calm {s : Nat → M α} {m : M α} (h : LM s m) : LM (fun n => M.calm (s n)) (M.calm m) :=
  h.one (T := M.calm) (fun _ r => match r with | .ex _ _ => R.no | r => r) (fun _ _ => rfl) fun _ => rfl
theorem LM.isLst {l : Nat} {s : Nat → M α} {m : M α} (h : LM s m) : LM (fun n => isLst l (s n)) (isLst l m) :=
  h.one (T := PI.isLst l) (fun st r => match st[l]? with | some (.box (.lst _)) => r | _ => R.no) (fun _ _ => rfl) fun st => by
    split <;> rfl
theorem LM.refEnd {hds top} {s : Nat → M DK} {m : M DK} (h : LM s m) : LM (fun n => refEnd hds (s n) top) (refEnd hds m top) :=
  h.one (T := fun m => PI.refEnd hds m top) (fun st r => match (st[0]? : Option Cell), top with
    | some (Cell.tab A q), some (A', q') => if A = A' ∧ q = q' then (match r with
      | .ok _ st' => .ok (.tup [.str "", .non], .sh) st'
      | .ex e st' => (match pickEx e hds with
        | some v => .ok (v, .sh) st'
        | none => .no)
      | .no => .no) else .no
    | _, _ => .no) (fun _ _ => rfl) fun st => by
    split
    · split <;> rfl
    · rfl
theorem bnd_st1 {y : DK} {f : D → M α} : (match strong [y] with | some [z] => f z | _ => .no) = M.bnd (st1 y) f := by
  unfold st1
  cases h : strong [y] with
  | none => rfl
  | some l =>
    cases l with
    | nil => rfl
    | cons z r => cases r <;> rfl
theorem bnd_ret {a : α} {f : α → M β} : M.bnd (M.ret a) f = f a := rfl
end
section
variable {C : Ct} {ρ : List Sl}
/-! targets -/
theorem tg_ok : ∀ k, (∀ C t tg, cT k C t = some tg → ∀ n, k ≤ n → ∀ d kd ρ, asT n C t d kd ρ = runTg tg d kd ρ) ∧ (∀ C ts tgs, cTs k C ts = some tgs → ∀ n, k ≤ n → ∀ ds ρ, (if ts.length = ds.length then asT.asL n C ts ds ρ else none) = runTgs tgs ds ρ) := by
  intro k
  induction k with
  | zero => exact ⟨fun C t tg h => (by cases h), fun C ts tgs h => (by cases h)⟩
  | succ k ih =>
    refine ⟨fun C t tg h n hn d kd ρ => ?_, fun C ts tgs h n hn ds ρ => ?_⟩
    · obtain ⟨m, rfl⟩ : ∃ m, n = m + 1 := ⟨n - 1, by omega⟩
      unfold cT at h
      unfold asT
      split at h
      · rename_i x p
        split at h
        · rename_i hc
          cases hs : sIdx C.N x with
          | none => rw [hs] at h; cases h
          | some i =>
            rw [hs] at h; cases h
            simp only [hc, if_true]
            unfold runTg
            try rw [hs]
            cases slotOf d kd <;> rfl
        · cases h
      · rename_i ts a b
        split at h
        · rename_i hp
          cases hs : cTs k C ts with
          | none => rw [hs] at h; cases h
          | some tgs =>
            rw [hs] at h; cases h
            unfold runTg
            cases d with
            | tup ds =>
              have e := ih.2 C ts tgs hs m (by omega) ds ρ
              dsimp only
              rw [← e]
              by_cases hl : ts.length = ds.length <;> simp [hp, hl]
            | lst ds =>
              have e := ih.2 C ts tgs hs m (by omega) ds ρ
              dsimp only
              rw [← e]
              by_cases hl : ts.length = ds.length <;> simp [hp, hl]
            | _ => rfl
        · cases h
      · cases h
    · obtain ⟨m, rfl⟩ : ∃ m, n = m + 1 := ⟨n - 1, by omega⟩
      unfold cTs at h
      cases ts with
      | nil =>
        cases h
        cases ds with
        | nil => unfold asT.asL runTgs; rfl
        | cons _ _ => unfold runTgs; rfl
      | cons t ts =>
        dsimp only at h
        cases h1 : cT k C t with
        | none => rw [h1] at h; cases h
        | some a =>
          rw [h1] at h
          cases h2 : cTs k C ts with
          | none => rw [h2] at h; cases h
          | some b =>
            rw [h2] at h; cases h
            cases ds with
            | nil => unfold runTgs; rfl
            | cons x ds =>
              unfold asT.asL runTgs
              rw [ih.1 C t a h1 m (by omega) x .sh ρ]
              have e := fun ρ' => ih.2 C ts b h2 m (by omega) ds ρ'
              by_cases hl : ts.length = ds.length
              · simp only [hl, if_true] at e
                simp only [List.length_cons, hl, if_true]
                cases runTg a x .sh ρ with
                | none => rfl
                | some ρ' => exact e ρ'
              · simp only [hl, if_false] at e
                simp only [List.length_cons, Nat.add_right_cancel_iff, hl, if_false]
                cases runTg a x .sh ρ with
                | none => rfl
                | some ρ' => exact e ρ'
theorem noOw_I (own : List (Str × Nat)) : noOw ρ own = noOwI ρ (own.map (·.2)) := by
  unfold noOw noOwI
  rw [List.all_map]
  rfl
theorem frz_I (x : Str) : freeze N x ρ = match sIdx N x with | some i => frzI ρ i | none => ρ := by
  unfold freeze frzI
  cases sIdx N x <;> rfl
end
/-! freezing -/
def frzS : Sl → Sl
  | .ow d => .im d
  | s => s
theorem frzI_get (ρ : List Sl) (i j : Nat) : (frzI ρ i)[j]? = if j = i then (ρ[j]?).map frzS else ρ[j]? := by
  unfold frzI
  by_cases hij : j = i
  · subst hij
    simp only [if_true]
    cases e : ρ[j]? with
    | none => simp [e]
    | some s =>
      have hj : j < ρ.length := by
        rcases Nat.lt_or_ge j ρ.length with h | h
        · exact h
        · rw [List.getElem?_eq_none h] at e; cases e
      cases s with
      | ow d => simp [List.getElem?_set, hj, frzS]
      | im d => simp [e, frzS]
      | un => simp [e, frzS]
  · simp only [hij, if_false]
    cases e : ρ[i]? with
    | none => rfl
    | some s =>
      cases s with
      | ow d => simp [List.getElem?_set, Ne.symm hij]
      | im d => rfl
      | un => rfl
theorem frzS_idem (o : Option Sl) : (o.map frzS).map frzS = o.map frzS := by
  cases o with
  | none => rfl
  | some s => cases s <;> rfl
theorem fzI_get : ∀ (is : List Nat) (ρ : List Sl) (j : Nat), (fzI is ρ)[j]? = if j ∈ is then (ρ[j]?).map frzS else ρ[j]?
  | [], ρ, j => by simp [fzI]
  | i :: r, ρ, j => by
    show (fzI r (frzI ρ i))[j]? = _
    rw [fzI_get r (frzI ρ i) j, frzI_get]
    by_cases h2 : j = i
    · subst h2
      simp only [if_true, frzS_idem, List.mem_cons, true_or]
      split <;> rfl
    · simp only [h2, if_false, List.mem_cons, false_or]
theorem mem_dd : ∀ (is : List Nat) (j : Nat), j ∈ dd is ↔ j ∈ is
  | [], j => Iff.rfl
  | i :: r, j => by
    unfold dd
    by_cases h : r.contains i = true
    · rw [if_pos h, mem_dd r j]
      constructor
      · exact List.mem_cons_of_mem _
      · intro m
        rcases List.mem_cons.mp m with e | m
        · subst e; simpa using h
        · exact m
    · rw [if_neg h]
      simp only [List.mem_cons, mem_dd r j]
theorem fzI_dd (is : List Nat) (ρ : List Sl) : fzI (dd is) ρ = fzI is ρ := by
  apply List.ext_getElem?
  intro j
  rw [fzI_get, fzI_get]
  simp only [mem_dd]
theorem freezes_I (N : List Str) : ∀ (xs : List Str) (ρ : List Sl), freezes N xs ρ = fzI (xs.filterMap (sIdx N)) ρ
  | [], ρ => rfl
  | x :: r, ρ => by
    show freezes N r (freeze N x ρ) = _
    rw [freezes_I N r, frz_I, List.filterMap_cons]
    cases sIdx N x <;> rfl

/-! ### expressions -/
structure OkP (P : Pg) (E : En) : Prop where
  pe : E.P = P
  call : ∀ d x as, LM (fun n => callF n P d x as) (E.call d x as)
def TopOk (C : Ct) (E : En) : Prop := C.blk = none → C.top = E.top
structure SN (P : Pg) (E : En) (k : Nat) : Prop where
  ex : ∀ C d e t, TopOk C E → cE k P C e = some t → ∀ ρ, LM (fun n => evE n P d C e ρ) (runE E d t ρ)
  O : ∀ C d e t, TopOk C E → cO k P C e = some t → ∀ ρ, LM (fun n => evO n P d C e ρ) (.bnd (runE E d t ρ) fun y => .opt (optI t.isAbs y.1))
  L : ∀ C d es ts, TopOk C E → cL k P C es = some ts → ∀ ρ, LM (fun n => evL n P d C es ρ) (runL E d ts ρ)
  W : ∀ C d es ts, TopOk C E → cL k P C es = some ts → ∀ ρ, LM (fun n => evW n P d C es ρ) (runW E d ts ρ)
  B : ∀ C d op es ts, TopOk C E → cL k P C es = some ts → ∀ ρ, LM (fun n => evB n P d C op es ρ) (runB E d op ts ρ)
  Co : ∀ C d x os es ts, TopOk C E → os.length = es.length → cL k P C es = some ts → ∀ ρ, LM (fun n => evC n P d C x os es ρ) (runC E d x os ts ρ)
  T : ∀ C d e t, TopOk C E → cTe k P C e = some t → ∀ ρ, LM (fun n => evT n P d C e ρ) (runT E d t ρ)
  Ts : ∀ C d op es ts, TopOk C E → cTs' k P C es = some ts → ∀ ρ, LM (fun n => evTs n P d C op es ρ) (runTs E d op ts ρ)
  Ifs : ∀ C d es ts, TopOk C E → cIfs k P C es = some ts → ∀ ρ, LM (fun n => evIfs n P d C es ρ) (runTs E d .And ts ρ)
  I : ∀ C d tg e t, TopOk C E → cI k P C tg e = some t → ∀ ρ, LM (fun n => evI n P d C tg e ρ) (runI E d t ρ)
  Ca : ∀ C d f as t, TopOk C E → cCall k P C f as = some t → ∀ ρ, LM (fun n => evCall n P d C f as ρ) (runE E d t ρ)
theorem mapS {α β : Type} {o : Option α} {f : α → β} {b : β} (h : o.map f = some b) : ∃ a, o = some a ∧ b = f a := by
  cases o with
  | none => cases h
  | some a => cases h; exact ⟨a, rfl, rfl⟩
theorem bindS {α β : Type} {o : Option α} {f : α → Option β} {b : β} (h : o.bind f = some b) : ∃ a, o = some a ∧ f a = some b := by
  cases o with
  | none => cases h
  | some a => exact ⟨a, rfl, h⟩
section
variable {P : Pg} {E : En} {k : Nat}
theorem runL_cons (d : Nat) (t : Tm) (ts : List Tm) (ρ : List Sl) (h : t.isStar = false) : runL E d (t :: ts) ρ = .bnd (runE E d t ρ) fun x => .bnd (runL E d ts ρ) fun ys => .bnd (st1 x) fun z => .ret (z :: ys) := by
  cases t <;> first | rfl | cases h
theorem sn_name {C : Ct} {x : Str} {t : Tm} {p : Pos} (h : cName P C x = some t) (d : Nat) (ρ : List Sl) : M.opt (evName P C x ρ) = runE E d t ρ := by
  unfold cName at h
  unfold evName
  split at h
  · rename_i h1
    rw [if_pos h1]
    split at h
    · rename_i h2
      rw [if_pos h2]
      obtain ⟨i, e, rfl⟩ := mapS h
      unfold rdName runE
      rw [e]
    · rename_i h2
      rw [if_neg h2]
      split at h
      · rename_i h3
        rw [if_pos h3]
        split at h
        · rename_i e; cases h; try rw [e]
          unfold runE; rfl
        · rename_i e
          try rw [e]
          split at h
          · rename_i e2; cases h; try rw [e2]
            unfold runE; rfl
          · cases h
      · cases h
  · cases h
end
end PI
set_option Elab.async false
set_option linter.all false
set_option maxRecDepth 100000
set_option maxHeartbeats 4000000
/-! PJ4: terms do what the text does: expressions. -/
namespace PI
open PySem PySem.Spec PyProof.Rows L2
section
variable {P : Pg} {E : En} {k : Nat}
theorem topc {C : Ct} {scope : Scope} : TopOk (compC C scope) E := fun h => by cases h
theorem sn_E (ih : SN P E k) (ok : OkP P E) : ∀ C d e t, TopOk C E → cE (k + 1) P C e = some t → ∀ ρ, LM (fun n => evE n P d C e ρ) (runE E d t ρ) := by
  intro C d e t ht h ρ
  apply LM.sh
  unfold cE at h
  cases e with
  | Name x p =>
    show LM (fun n => M.opt (evName P C x ρ)) _
    rw [sn_name (p := p) h d ρ]
    exact LM.const _
  | Constant c j p =>
    dsimp only at h
    cases c with
    | none => cases h; exact LM.const _
    | bool b => cases h; exact LM.const _
    | int b => cases h; exact LM.const _
    | str b => cases h; exact LM.const _
    | _ => cases h
  | BinOp a op b p =>
    obtain ⟨x, hx, h⟩ := bindS h
    obtain ⟨y, hy, rfl⟩ := mapS h
    unfold runE
    exact LM.bnd (ih.ex C d a x ht hx ρ) fun u => LM.bnd (ih.ex C d b y ht hy ρ) fun v => LM.const _
  | UnaryOp op a p =>
    cases op with
    | USub =>
      obtain ⟨x, hx, rfl⟩ := mapS h
      unfold runE
      exact LM.bnd (ih.ex C d a x ht hx ρ) fun u => LM.const _
    | Not =>
      obtain ⟨x, hx, rfl⟩ := mapS h
      unfold runE
      exact LM.bnd (ih.ex C d a x ht hx ρ) fun u => LM.const _
    | _ => cases h
  | BoolOp op vs p =>
    obtain ⟨x, hx, rfl⟩ := mapS h
    unfold runE
    exact ih.B C d op vs x ht hx ρ
  | Compare a ops cs p =>
    dsimp only at h
    split at h
    · rename_i hc
      rw [Bool.and_eq_true] at hc
      obtain ⟨x, hx, h⟩ := bindS h
      obtain ⟨y, hy, rfl⟩ := mapS h
      unfold runE
      show LM (fun n => if noSet cs then (M.bnd (evE n P d C a ρ) fun x => M.bnd (evC n P d C x.1 ops cs ρ) fun b => M.ret ((D.bl b, Kd.sh) : DK)) else M.no) _
      simp only [hc.1, if_true]
      exact LM.bnd (ih.ex C d a x ht hx ρ) fun u => LM.bnd (ih.Co C d u.1 ops cs y ht (by simpa using hc.2) hy ρ) fun v => LM.const _
    · cases h
  | IfExp c a b p =>
    obtain ⟨x, hx, h⟩ := bindS h
    obtain ⟨y, hy, h⟩ := bindS h
    obtain ⟨z, hz, rfl⟩ := mapS h
    unfold runE
    exact LM.bnd (ih.T C d c x ht hx ρ) fun u => LM.ite (fun _ => ih.ex C d a y ht hy ρ) fun _ => ih.ex C d b z ht hz ρ
  | List es p =>
    obtain ⟨x, hx, rfl⟩ := mapS h
    unfold runE
    exact LM.bnd (ih.L C d es x ht hx ρ) fun u => LM.const _
  | Tuple es j p =>
    obtain ⟨x, hx, rfl⟩ := mapS h
    unfold runE
    exact LM.bnd (ih.L C d es x ht hx ρ) fun u => LM.const _
  | Dict ks vs p =>
    cases ks with
    | nil =>
      cases vs with
      | nil => cases h; exact LM.const _
      | cons _ _ => cases h
    | cons _ _ => cases h
  | Call f as kw p =>
    cases kw with
    | cons _ _ => cases h
    | nil =>
      dsimp only at h
      split at h
      · rename_i hl
        show LM (fun n => if lineOk f p then evCall n P d C f as ρ else .no) _
        simp only [hl, if_true]
        exact ih.Ca C d f as t ht h ρ
      · cases h
  | Subscript o i p =>
    have gen : ∀ (o i : Expr) (t : Tm), (∀ n, evE (n + 1) P d C (.Subscript o i p) ρ = .bnd (evE n P d C o ρ) fun x => .bnd (evE n P d C i ρ) fun y => subD x y) → ((cE k P C o).bind fun x => (cE k P C i).map fun y => Tm.sub x y) = some t → LM (fun n => evE (n + 1) P d C (.Subscript o i p) ρ) (runE E d t ρ) := by
      intro o i t e h
      simp only [e]
      obtain ⟨x, hx, h⟩ := bindS h
      obtain ⟨y, hy, rfl⟩ := mapS h
      unfold runE
      exact LM.bnd (ih.ex C d o x ht hx ρ) fun u => LM.bnd (ih.ex C d i y ht hy ρ) fun v => LM.const _
    cases i with
    | Slice lo hi st p2 =>
      cases st with
      | none =>
        obtain ⟨x, hx, h⟩ := bindS h
        obtain ⟨y, hy, h⟩ := bindS h
        obtain ⟨z, hz, rfl⟩ := mapS h
        unfold runE
        exact LM.bnd (ih.ex C d o x ht hx ρ) fun u => LM.bnd (ih.O C d lo y ht hy ρ) fun l => LM.bnd (ih.O C d hi z ht hz ρ) fun l => LM.const _
      | some st =>
        dsimp only at h
        split at h
        · rename_i hr
          obtain ⟨rfl, rfl, j, q, r, rfl⟩ := isRev_ok hr
          obtain ⟨x, hx, rfl⟩ := mapS h
          unfold runE
          show LM (fun n => if (1 : Int) = 1 then (M.bnd (evE n P d C o ρ) fun x => .opt (revD x.1)) else M.no) _
          simp only [if_true]
          exact LM.bnd (ih.ex C d o x ht hx ρ) fun u => LM.const _
        · cases h
    | _ => exact gen o _ t (fun n => rfl) h
  | ListComp elt gs scope p =>
    dsimp only at h
    obtain ⟨r, hg, h2⟩ := bindS h
    clear h
    obtain ⟨tg, it, ifs⟩ := r
    have e := oneG_ok hg
    dsimp only at e h2
    subst e
    have h := h2
    clear h2
    split at h
    · rename_i hb
      obtain ⟨i, hi, h⟩ := bindS h
      obtain ⟨t, htg, h⟩ := bindS h
      obtain ⟨fs, hf, h⟩ := bindS h
      obtain ⟨e, he, rfl⟩ := mapS h
      unfold runE
      show LM (fun n => if blkC C.N C.sc scope (ownOf C.N scope) && noOw ρ (ownOf C.N scope) then
        (M.bnd (evI n P d C tg it ρ) fun items => M.calm (.bnd (compL (fun x => match asT n (compC C scope) tg x .sh (wipeR ρ ((ownOf C.N scope).map (·.2))) with
          | some ρ' => .bnd (evIfs n P d (compC C scope) ifs ρ') fun b => if b then .bnd (evE n P d (compC C scope) elt ρ') fun y => (match strong [y] with
            | some [z] => .ret (some z)
            | _ => .no) else .ret none
          | none => .no) items.1) fun ys => if ys.length ≤ lim then .ret (D.lst ys, Kd.fr) else .no))
      else M.no) _
      rw [noOw_I]
      simp only [hb, Bool.true_and]
      refine LM.ite (fun _ => LM.bnd (ih.I C d tg it i ht hi ρ) fun items => LM.calm (LM.bnd (LM.compL (fun x => ?_) items.1) fun ys => LM.const _)) fun _ => LM.const _
      refine LM.ev (s' := fun n => match runTg t x .sh (wipeR ρ ((ownOf C.N scope).map (·.2))) with
          | some ρ' => .bnd (evIfs n P d (compC C scope) ifs ρ') fun b => if b then .bnd (evE n P d (compC C scope) elt ρ') fun y => (match strong [y] with
            | some [z] => .ret (some z)
            | _ => .no) else .ret none
          | none => .no) ?_ k fun n hn => by rw [(tg_ok k).1 _ _ _ htg n hn]
      cases runTg t x .sh (wipeR ρ ((ownOf C.N scope).map (·.2))) with
      | none => exact LM.const _
      | some ρ' =>
        refine LM.bnd (ih.Ifs _ d ifs fs topc hf ρ') fun b => LM.ite (fun _ => LM.bnd (ih.ex _ d elt e topc he ρ') fun y => ?_) fun _ => LM.const _
        exact LM.ev (s' := fun _ => M.bnd (st1 y) fun z => M.ret (some z)) (LM.const _) 0 fun n _ => bnd_st1 (f := fun z => M.ret (some z))
    · cases h
  | _ => cases h
theorem sn_O (ih : SN P E k) : ∀ C d e t, TopOk C E → cO (k + 1) P C e = some t → ∀ ρ, LM (fun n => evO n P d C e ρ) (.bnd (runE E d t ρ) fun y => .opt (optI t.isAbs y.1)) := by
  intro C d e t ht h ρ
  apply LM.sh
  unfold cO at h
  cases e with
  | none => cases h; exact LM.const _
  | some e =>
    obtain ⟨x, hx, h⟩ := bindS h
    split at h
    · cases h
    · rename_i hb
      cases h
      refine LM.bnd (ih.ex C d e _ ht hx ρ) fun u => ?_
      rw [show t.isAbs = false by simpa using hb]
      exact LM.const _
theorem cL_cons {C : Ct} {e : Expr} {es : List Expr} {ts : List Tm} (h : cL (k + 1) P C (e :: es) = some ts) : ∃ t ts', ts = t :: ts' ∧ cL k P C es = some ts' ∧ ((∃ e' p t', e = .Starred e' p ∧ cE k P C e' = some t' ∧ t = .star t') ∨ (notStar e = true ∧ cE k P C e = some t ∧ t.isStar = false)) := by
  unfold cL at h
  obtain ⟨t, h1, h⟩ := bindS h
  obtain ⟨ts', h2, rfl⟩ := mapS h
  refine ⟨t, ts', rfl, h2, ?_⟩
  have gen : (notStar e = true) → ((cE k P C e).bind fun t => if t.isStar then none else some t) = some t → notStar e = true ∧ cE k P C e = some t ∧ t.isStar = false := fun ns h1 => by
    obtain ⟨u, h3, h4⟩ := bindS h1
    split at h4
    · cases h4
    · rename_i hs
      cases h4
      exact ⟨ns, h3, by simpa using hs⟩
  cases e with
  | Starred e' p =>
    obtain ⟨t', h3, rfl⟩ := mapS h1
    exact .inl ⟨e', p, t', rfl, h3, rfl⟩
  | _ => exact .inr (gen rfl h1)
theorem notStar_evL {d n : Nat} {C : Ct} {e : Expr} {es : List Expr} {ρ : List Sl} (h : notStar e = true) : evL (n + 1) P d C (e :: es) ρ = .bnd (evE n P d C e ρ) fun x => .bnd (evL n P d C es ρ) fun ys => .bnd (st1 x) fun z => .ret (z :: ys) := by
  have gen : (M.bnd (evE n P d C e ρ) fun x => M.bnd (evL n P d C es ρ) fun ys => (match strong [x] with
      | some [z] => M.ret (z :: ys)
      | _ => M.no)) = .bnd (evE n P d C e ρ) fun x => .bnd (evL n P d C es ρ) fun ys => .bnd (st1 x) fun z => .ret (z :: ys) := by
    congr 1; funext x; congr 1; funext ys
    exact bnd_st1 (f := fun z => M.ret (z :: ys))
  cases e with
  | Starred e' p => cases h
  | _ => exact gen
theorem sn_L (ih : SN P E k) : ∀ C d es ts, TopOk C E → cL (k + 1) P C es = some ts → ∀ ρ, LM (fun n => evL n P d C es ρ) (runL E d ts ρ) := by
  intro C d es ts ht h ρ
  apply LM.sh
  cases es with
  | nil => cases h; exact LM.const _
  | cons e es =>
    obtain ⟨t, ts', rfl, h2, h3⟩ := cL_cons h
    rcases h3 with ⟨e', p, t', rfl, h4, rfl⟩ | ⟨hn, h4, hs⟩
    · unfold runL
      refine LM.bnd (ih.ex C d e' t' ht h4 ρ) fun x => ?_
      obtain ⟨v, kd⟩ := x
      cases v with
      | lst xs =>
        show LM (fun n => M.bnd (evL n P d C es ρ) fun ys => M.ret (xs ++ ys)) (M.bnd (runL E d ts' ρ) fun ys => M.ret (xs ++ ys))
        exact LM.bnd (ih.L C d es ts' ht h2 ρ) fun ys => LM.const _
      | tup xs =>
        show LM (fun n => M.bnd (evL n P d C es ρ) fun ys => M.ret (xs ++ ys)) (M.bnd (runL E d ts' ρ) fun ys => M.ret (xs ++ ys))
        exact LM.bnd (ih.L C d es ts' ht h2 ρ) fun ys => LM.const _
      | _ => exact LM.const _
    · rw [runL_cons d t ts' ρ hs]
      simp only [notStar_evL hn]
      exact LM.bnd (ih.ex C d e t ht h4 ρ) fun x => LM.bnd (ih.L C d es ts' ht h2 ρ) fun ys => LM.const _
theorem sn_el (ih : SN P E k) {C : Ct} {e : Expr} {es : List Expr} {ts : List Tm} (ht : TopOk C E) (h : cL (k + 1) P C (e :: es) = some ts) : ∃ t ts', ts = t :: ts' ∧ cL k P C es = some ts' ∧ ∀ d ρ, LM (fun n => evE n P d C e ρ) (runE E d t ρ) := by
  obtain ⟨t, ts', rfl, h2, h3⟩ := cL_cons h
  refine ⟨t, ts', rfl, h2, fun d ρ => ?_⟩
  rcases h3 with ⟨e', p, t', rfl, h4, rfl⟩ | ⟨hn, h4, hs⟩
  · unfold runE
    exact LM.no _
  · exact ih.ex C d e t ht h4 ρ
theorem sn_W (ih : SN P E k) : ∀ C d es ts, TopOk C E → cL (k + 1) P C es = some ts → ∀ ρ, LM (fun n => evW n P d C es ρ) (runW E d ts ρ) := by
  intro C d es ts ht h ρ
  apply LM.sh
  cases es with
  | nil => cases h; exact LM.const _
  | cons e es =>
    obtain ⟨t, ts', rfl, h2, h3⟩ := sn_el ih ht h
    unfold runW
    exact LM.bnd (h3 d ρ) fun x => LM.bnd (ih.W C d es ts' ht h2 ρ) fun ys => LM.const _
theorem cL_nil {C : Ct} {es : List Expr} (h : cL k P C es = some []) : es = [] := by
  cases k with
  | zero => cases h
  | succ k =>
    cases es with
    | nil => rfl
    | cons e es => obtain ⟨t, ts', e, _⟩ := cL_cons h; cases e
theorem cL_cons' {C : Ct} {es : List Expr} {t : Tm} {ts : List Tm} (h : cL k P C es = some (t :: ts)) : ∃ e es', es = e :: es' := by
  cases k with
  | zero => cases h
  | succ k =>
    cases es with
    | nil => cases h
    | cons e es => exact ⟨e, es, rfl⟩
theorem sn_B (ih : SN P E k) : ∀ C d op es ts, TopOk C E → cL (k + 1) P C es = some ts → ∀ ρ, LM (fun n => evB n P d C op es ρ) (runB E d op ts ρ) := by
  intro C d op es ts ht h ρ
  apply LM.sh
  cases es with
  | nil => cases h; exact LM.const _
  | cons e es =>
    obtain ⟨t, ts', rfl, h2, h3⟩ := sn_el ih ht h
    unfold runB
    cases es with
    | nil =>
      have : ts' = [] := by
        cases ts' with
        | nil => rfl
        | cons _ _ => obtain ⟨_, _, e⟩ := cL_cons' h2; cases e
      subst this
      intro st
      have e : ∀ m : M DK, (M.bnd m fun x => if ([] : List Tm).isEmpty = true then M.ret x else M.bnd (.opt (tru x.1)) fun b => if stopB op b then .ret x else runB E d op [] ρ) = m := fun m => by
        funext st
        simp only [List.isEmpty_nil, if_true]
        unfold M.bnd
        cases m st <;> rfl
      rw [e]
      exact h3 d ρ st
    | cons e2 es =>
      refine LM.bnd (h3 d ρ) fun x => ?_
      have : ts'.isEmpty = false := by
        cases ts' with
        | nil => cases cL_nil h2
        | cons _ _ => rfl
      rw [this]
      simp only [Bool.false_eq_true, if_false]
      refine LM.bnd (LM.const _) fun b => ?_
      have r := ih.B C d op (e2 :: es) ts' ht h2 ρ
      cases op <;> cases b <;> first | exact LM.const _ | exact r
theorem sn_Co (ih : SN P E k) : ∀ C d x os es ts, TopOk C E → os.length = es.length → cL (k + 1) P C es = some ts → ∀ ρ, LM (fun n => evC n P d C x os es ρ) (runC E d x os ts ρ) := by
  intro C d x os es ts ht hl h ρ
  apply LM.sh
  cases es with
  | nil => cases h; cases os <;> (unfold runC; exact LM.no _)
  | cons e es =>
    obtain ⟨t, ts', rfl, h2, h3⟩ := sn_el ih ht h
    cases os with
    | nil => cases hl
    | cons o os =>
      have hl' : os.length = es.length := by simpa using hl
      unfold runC
      cases es with
      | nil =>
        cases os with
        | cons _ _ => cases hl'
        | nil =>
          have : ts' = [] := by
            cases ts' with
            | nil => rfl
            | cons _ _ => obtain ⟨_, _, e⟩ := cL_cons' h2; cases e
          subst this
          refine LM.bnd (h3 d ρ) fun y => ?_
          intro st
          right
          refine ⟨0, fun n _ => ?_⟩
          show M.opt (cmpD o x y.1) st = M.bnd (M.opt (cmpD o x y.1)) (fun b => M.ret b) st
          unfold M.bnd
          cases M.opt (cmpD o x y.1) st <;> rfl
      | cons e2 es =>
        cases os with
        | nil => cases hl'
        | cons o2 os =>
          refine LM.bnd (h3 d ρ) fun y => LM.bnd (LM.const _) fun b => ?_
          simp only [List.isEmpty_cons, Bool.false_and, Bool.false_eq_true, if_false]
          exact LM.ite (fun _ => ih.Co C d y.1 _ _ ts' ht hl' h2 ρ) fun _ => LM.const _
theorem sn_T (ih : SN P E k) : ∀ C d e t, TopOk C E → cTe (k + 1) P C e = some t → ∀ ρ, LM (fun n => evT n P d C e ρ) (runT E d t ρ) := by
  intro C d e t ht h ρ
  apply LM.sh
  have gen : ((cE k P C e).map Ts.of = some t) → (∀ n, evT (n + 1) P d C e ρ = .bnd (evE n P d C e ρ) fun x => .opt (tru x.1)) → LM (fun n => evT (n + 1) P d C e ρ) (runT E d t ρ) := by
    intro h e'
    obtain ⟨x, hx, rfl⟩ := mapS h
    simp only [e']
    unfold runT
    exact LM.bnd (ih.ex C d e x ht hx ρ) fun u => LM.const _
  unfold cTe at h
  cases e with
  | UnaryOp op a p =>
    cases op with
    | Not =>
      obtain ⟨x, hx, rfl⟩ := mapS h
      unfold runT
      exact LM.bnd (ih.T C d a x ht hx ρ) fun u => LM.const _
    | _ => exact gen h fun n => rfl
  | BoolOp op vs p =>
    obtain ⟨x, hx, rfl⟩ := mapS h
    unfold runT
    exact ih.Ts C d op vs x ht hx ρ
  | IfExp c a b p =>
    obtain ⟨x, hx, h⟩ := bindS h
    obtain ⟨y, hy, h⟩ := bindS h
    obtain ⟨z, hz, rfl⟩ := mapS h
    unfold runT
    exact LM.bnd (ih.T C d c x ht hx ρ) fun u => LM.ite (fun _ => ih.T C d a y ht hy ρ) fun _ => ih.T C d b z ht hz ρ
  | Compare a ops cs p =>
    dsimp only at h
    split at h
    · rename_i hc
      rw [Bool.and_eq_true] at hc
      obtain ⟨x, hx, h⟩ := bindS h
      obtain ⟨y, hy, rfl⟩ := mapS h
      unfold runT
      show LM (fun n => if noSet cs then (M.bnd (evE n P d C a ρ) fun x => evC n P d C x.1 ops cs ρ) else M.no) _
      simp only [hc.1, if_true]
      exact LM.bnd (ih.ex C d a x ht hx ρ) fun u => ih.Co C d u.1 ops cs y ht (by simpa using hc.2) hy ρ
    · cases h
  | _ => exact gen h fun n => rfl
theorem sn_Ts (ih : SN P E k) : ∀ C d op es ts, TopOk C E → cTs' (k + 1) P C es = some ts → ∀ ρ, LM (fun n => evTs n P d C op es ρ) (runTs E d op ts ρ) := by
  intro C d op es ts ht h ρ
  apply LM.sh
  unfold cTs' at h
  cases es with
  | nil => cases h; unfold runTs; exact LM.const _
  | cons e es =>
    obtain ⟨t, h1, h⟩ := bindS h
    obtain ⟨ts', h2, rfl⟩ := mapS h
    unfold runTs
    refine LM.bnd (ih.T C d e t ht h1 ρ) fun b => ?_
    have r := ih.Ts C d op es ts' ht h2 ρ
    cases op <;> cases b <;> first | exact LM.const _ | exact r
theorem sn_Ifs (ih : SN P E k) : ∀ C d es ts, TopOk C E → cIfs (k + 1) P C es = some ts → ∀ ρ, LM (fun n => evIfs n P d C es ρ) (runTs E d .And ts ρ) := by
  intro C d es ts ht h ρ
  apply LM.sh
  unfold cIfs at h
  cases es with
  | nil => cases h; unfold runTs; exact LM.const _
  | cons e es =>
    cases es with
    | cons _ _ => cases h
    | nil =>
      obtain ⟨t, h1, rfl⟩ := mapS h
      unfold runTs
      intro st
      have e : ∀ m : M Bool, (M.bnd m fun b => if stopB .And b then M.ret b else runTs E d .And [] ρ) = m := fun m => by
        funext st
        unfold M.bnd
        cases m st with
        | ok a st' => cases a <;> (unfold runTs; rfl)
        | _ => rfl
      rw [e]
      exact ih.T C d _ t ht h1 ρ st
theorem sn_I (ih : SN P E k) : ∀ C d tg e t, TopOk C E → cI (k + 1) P C tg e = some t → ∀ ρ, LM (fun n => evI n P d C tg e ρ) (runI E d t ρ) := by
  intro C d tg e t ht h ρ
  apply LM.sh
  have gen : ((cE k P C e).map It.of = some t) → (∀ n, evI (n + 1) P d C tg e ρ = .bnd (evE n P d C e ρ) itO) → LM (fun n => evI (n + 1) P d C tg e ρ) (runI E d t ρ) := by
    intro h e'
    obtain ⟨x, hx, rfl⟩ := mapS h
    simp only [e']
    unfold runI
    exact LM.bnd (ih.ex C d e x ht hx ρ) fun u => LM.const _
  unfold cI at h
  cases e with
  | Call fn as kw p =>
    cases fn with
    | Name f p1 =>
      cases kw with
      | cons _ _ => exact gen h fun n => rfl
      | nil =>
        dsimp only at h
        by_cases h1 : (f = "range" && gloB C.sc f && plainName P f) = true
        · have e1 : ∀ n, evI (n + 1) P d C tg (.Call (.Name f p1) as [] p) ρ = (if (f = "range" && gloB C.sc f && plainName P f) = true then (match as with
            | [a] => if notStar a then M.bnd (evE n P d C a ρ) itR1 else M.no
            | [a, b] => if notStar a && notStar b then M.bnd (evE n P d C a ρ) fun x => M.bnd (evE n P d C b ρ) fun y => itR2 x y else M.no
            | _ => M.no) else evI (n + 1) P d C tg (.Call (.Name f p1) as [] p) ρ) := fun n => by
            rw [if_pos h1]
            show (if (f = "range" && gloB C.sc f && plainName P f) = true then _ else _) = _
            rw [if_pos h1]
            rcases as with _ | ⟨a, _ | ⟨b, _ | ⟨c, as⟩⟩⟩ <;> rfl
          rw [if_pos h1] at h
          conv at e1 => intro n; rhs; rw [if_pos h1]
          cases as with
          | nil => cases h
          | cons a as =>
            cases as with
            | nil =>
              dsimp only at h
              split at h
              · rename_i hs
                obtain ⟨x, hx, rfl⟩ := mapS h
                simp only [e1, hs, if_true]
                unfold runI
                exact LM.bnd (ih.ex C d a x ht hx ρ) fun u => LM.const _
              · cases h
            | cons b as =>
              cases as with
              | cons _ _ => cases h
              | nil =>
                dsimp only at h
                split at h
                · rename_i hs
                  obtain ⟨x, hx, h⟩ := bindS h
                  obtain ⟨y, hy, rfl⟩ := mapS h
                  simp only [e1, hs, if_true]
                  unfold runI
                  exact LM.bnd (ih.ex C d a x ht hx ρ) fun u => LM.bnd (ih.ex C d b y ht hy ρ) fun u => LM.const _
                · cases h
        · rw [if_neg h1] at h
          by_cases h2 : (f = "enumerate" && gloB C.sc f && plainName P f) = true
          · rw [if_pos h2] at h
            cases tg with
            | Tuple ts a1 b1 =>
              cases as with
              | nil => cases h
              | cons a as =>
                cases as with
                | cons _ _ => cases h
                | nil =>
                  have e1 : ∀ n, evI (n + 1) P d C (.Tuple ts a1 b1) (.Call (.Name f p1) [a] [] p) ρ = if notStar a then M.bnd (evE n P d C a ρ) itE else M.no := fun n => by
                    show (if (f = "range" && gloB C.sc f && plainName P f) = true then _ else (if (f = "enumerate" && gloB C.sc f && plainName P f) = true then _ else _)) = _
                    rw [if_neg h1, if_pos h2]
                    rfl
                  dsimp only at h
                  split at h
                  · rename_i hs
                    obtain ⟨x, hx, rfl⟩ := mapS h
                    simp only [e1, hs, if_true]
                    unfold runI
                    exact LM.bnd (ih.ex C d a x ht hx ρ) fun u => LM.const _
                  · cases h
            | _ => cases h
          · rw [if_neg h2] at h
            refine gen h fun n => ?_
            show (if (f = "range" && gloB C.sc f && plainName P f) = true then _ else (if (f = "enumerate" && gloB C.sc f && plainName P f) = true then _ else _)) = _
            rw [if_neg h1, if_neg h2]
            rfl
    | _ => exact gen h fun n => rfl
  | _ => exact gen h fun n => rfl
end
end PI
set_option Elab.async false
set_option linter.all false
set_option maxRecDepth 100000
set_option maxHeartbeats 4000000
/-! PJ5: terms do what the text does: calls, statements, defs. -/
namespace PI
open PySem PySem.Spec PyProof.Rows L2
section
variable {P : Pg} {E : En} {k : Nat}
theorem sn_Ca (ih : SN P E k) (ok : OkP P E) : ∀ C d f as t, TopOk C E → cCall (k + 1) P C f as = some t → ∀ ρ, LM (fun n => evCall n P d C f as ρ) (runE E d t ρ) := by
  intro C d f as t ht h ρ
  apply LM.sh
  unfold cCall at h
  cases f with
  | Name x p =>
    dsimp only at h
    split at h
    · rename_i h1
      have e0 : ∀ n, evCall (n + 1) P d C (.Name x p) as ρ = (if visB C.sc x then (match (generalizing := false) rdName C x ρ with
          | some (.fn g, _) => if noStar as && (!as.isEmpty && (P.fns.lookup g).isSome) then M.bnd (evL n P d C as ρ) fun xs => callF n P d g xs else M.no
          | _ => M.no)
        else if gloB C.sc x then (match (generalizing := false) P.fns.lookup x with
          | some _ => if noStar as then M.bnd (evL n P d C as ρ) fun xs => callF n P d x xs else M.no
          | none => if x = P.ref then (match (generalizing := false) lamArg as with
              | some (b, lsc) => if LamX.lamSB C.sc lsc then evRef n P d ⟨C.N, lsc, [], some lsc, C.top⟩ b ρ else M.no
              | none => M.no)
            else if x = "isinstance" && plainName P x then (match (generalizing := false) as with
              | [e, ts] => if notStar e then (match (generalizing := false) tyList C ts with
                | some tn => M.bnd (evE n P d C e ρ) fun v => .opt ((isiAny v.1 tn).map fun b => (D.bl b, Kd.sh))
                | none => M.no) else M.no
              | _ => M.no)
            else if (bltT x || bltB x || bltR C x) && plainName P x && noStar as then (match (generalizing := false) rngArg P C x as with
              | some rs => M.bnd (evRg n P d C rs ρ) fun q => .opt (rngV x q)
              | none => M.bnd (evW n P d C as ρ) fun xs => .opt (bltD x xs))
            else M.no)
        else M.no) := fun n => by
        show (if okName x = true then _ else _) = _
        rw [if_pos h1]
        try rfl
      simp only [e0]
      split at h
      · rename_i h2
        simp only [h2, if_true]
        split at h
        · rename_i h3
          rw [Bool.and_eq_true] at h3
          obtain ⟨i, hi, h⟩ := bindS h
          obtain ⟨ts, hts, rfl⟩ := mapS h
          unfold runE
          have er : rdName C x ρ = (ρ[i]?).bind Sl.get := by unfold rdName; rw [hi]
          rw [er]
          cases hg : (ρ[i]?).bind Sl.get with
          | none => exact LM.no _
          | some v =>
            obtain ⟨v, kd⟩ := v
            cases v with
            | fn g =>
              dsimp only
              unfold fnX
              rw [ok.pe]
              unfold hasFn
              by_cases hf : (P.fns.lookup g).isSome = true
              · simp only [hf, h3.1, h3.2, Bool.and_self, if_true]
                show LM _ (M.bnd (runL E d ts ρ) fun xs => E.call d g xs)
                exact LM.bnd (ih.L C d as ts ht hts ρ) fun xs => ok.call d g xs
              · simp only [hf, Bool.and_false, Bool.false_eq_true, if_false]
                exact LM.no _
            | _ => exact LM.no _
        · cases h
      · rename_i h2
        (try simp only [h2, if_false]); (try simp only [Bool.false_eq_true, if_false])
        split at h
        · rename_i h3
          simp only [h3, if_true]
          split at h
          · rename_i F hF
            try simp only [hF]
            split at h
            · rename_i h4
              obtain ⟨ts, hts, rfl⟩ := mapS h
              simp only [h4, if_true]
              unfold runE
              exact LM.bnd (ih.L C d as ts ht hts ρ) fun xs => ok.call d x xs
            · cases h
          · rename_i hF
            try simp only [hF]
            split at h
            · rename_i h4
              simp only [h4, if_true]
              split at h
              · rename_i b lsc hb
                try rw [hb]
                (try dsimp only)
                split at h
                · rename_i h5
                  rw [Bool.and_eq_true] at h5
                  obtain ⟨t', ht', rfl⟩ := mapS h
                  (try simp only [h5.1, if_true])
                  unfold runE
                  apply LM.sh
                  cases d with
                  | zero => exact LM.no _
                  | succ d =>
                  cases d with
                  | zero => exact LM.no _
                  | succ d =>
                  have et : C.top = E.top := ht (by simpa using h5.2)
                  have e1 : ∀ n, evRef (n + 1) P (d + 2) ⟨C.N, lsc, [], some lsc, C.top⟩ b ρ = refEnd E.P.hds (evE n P d ⟨C.N, lsc, [], some lsc, none⟩ b (noOwn ρ)) E.top := fun n => by
                    rw [ok.pe, ← et]
                    rfl
                  simp only [e1]
                  exact LM.refEnd (ih.ex _ d b t' (fun h => by cases h) ht' _)
                · cases h
              · cases h
            · rename_i h4
              simp only [h4, if_false]
              split at h
              · rename_i h5
                simp only [h5, if_true]
                split at h
                · rename_i e ts
                  split at h
                  · rename_i h6
                    simp only [h6, if_true]
                    split at h
                    · rename_i tn htn
                      try rw [htn]
                      obtain ⟨x', hx', rfl⟩ := mapS h
                      unfold runE
                      exact LM.bnd (ih.ex C d e x' ht hx' ρ) fun v => LM.const _
                    · cases h
                  · cases h
                · cases h
              · rename_i h5
                simp only [h5, if_false]
                split at h
                · rename_i h6
                  simp only [h6, if_true]
                  split at h
                  · rename_i a ha
                    try simp only [ha]
                    obtain ⟨t', ht', rfl⟩ := mapS h
                    unfold runE
                    refine LM.bnd ?_ fun q => LM.const _
                    apply LM.sh
                    show LM (fun n => M.bnd (evE n P d C a ρ) fun x => M.opt ((intOf? x.1).map fun j => (0, j))) (M.bnd (runE E d t' ρ) fun v => .opt (rgI (.int 0) v.1))
                    refine LM.bnd (ih.ex C d a t' ht ht' ρ) fun v => ?_
                    obtain ⟨v, kd⟩ := v
                    cases v <;> exact LM.const _
                  · rename_i a b ha
                    try simp only [ha]
                    obtain ⟨u', hu', h⟩ := bindS h
                    obtain ⟨t', ht', rfl⟩ := mapS h
                    unfold runE
                    refine LM.bnd ?_ fun q => LM.const _
                    apply LM.sh
                    show LM (fun n => M.bnd (evE n P d C a ρ) fun x => M.bnd (evE n P d C b ρ) fun y => M.opt (match x.1, y.1 with
                      | .int i, .int j => some (i, j)
                      | _, _ => none)) (M.bnd (runE E d u' ρ) fun u => M.bnd (runE E d t' ρ) fun v => .opt (rgI u.1 v.1))
                    refine LM.bnd (ih.ex C d a u' ht hu' ρ) fun u => LM.bnd (ih.ex C d b t' ht ht' ρ) fun v => ?_
                    obtain ⟨u, kd⟩ := u
                    obtain ⟨v, kd2⟩ := v
                    cases u <;> cases v <;> exact LM.const _
                  · cases h
                  · rename_i ha
                    try simp only [ha]
                    obtain ⟨ts, hts, rfl⟩ := mapS h
                    unfold runE
                    exact LM.bnd (ih.W C d as ts ht hts ρ) fun xs => LM.const _
                · cases h
        · cases h
    · cases h
  | Attribute o m p =>
    dsimp only at h
    split at h
    · rename_i h1
      cases as with
      | nil => cases h
      | cons e as =>
      cases as with
      | cons _ _ => cases h
      | nil =>
        dsimp only at h
        split at h
        · rename_i h2
          obtain ⟨x, hx, h⟩ := bindS h
          obtain ⟨y, hy, rfl⟩ := mapS h
          have e0 : ∀ n, evCall (n + 1) P d C (.Attribute o m p) [e] ρ = M.bnd (evE n P d C o ρ) fun x => (match x.1 with
              | .str a => M.bnd (evE n P d C e ρ) fun y => joinD a y
              | _ => M.no) := fun n => by
            show (if (m = "join" && notCall o) = true then (if notStar e = true then _ else _) else _) = _
            rw [if_pos h1, if_pos h2]
            rfl
          simp only [e0]
          unfold runE
          refine LM.bnd (ih.ex C d o x ht hx ρ) fun u => ?_
          obtain ⟨v, kd⟩ := u
          cases v with
          | str a => exact LM.bnd (ih.ex C d e y ht hy ρ) fun u => LM.const _
          | _ => exact LM.no _
        · cases h
    · rename_i h1
      split at h
      · rename_i h3
        cases as with
        | nil => cases h
        | cons e as =>
        cases as with
        | cons _ _ => cases h
        | nil =>
          dsimp only at h
          split at h
          · rename_i h2
            obtain ⟨x, hx, h⟩ := bindS h
            obtain ⟨y, hy, rfl⟩ := mapS h
            have e0 : ∀ n, evCall (n + 1) P d C (.Attribute o m p) [e] ρ = M.bnd (evE n P d C o ρ) fun x => if mthT m x.1 then M.bnd (evE n P d C e ρ) fun y => .opt (mthD m x.1 y.1) else .no := fun n => by
              show (if (m = "join" && notCall o) = true then _ else if (mthB m && notCall o) = true then (if notStar e = true then _ else _) else _) = _
              rw [if_neg h1, if_pos h3, if_pos h2]
            simp only [e0]
            unfold runE
            exact LM.bnd (ih.ex C d o x ht hx ρ) fun u => LM.ite (fun _ => LM.bnd (ih.ex C d e y ht hy ρ) fun u => LM.const _) fun _ => LM.const _
          · cases h
      · cases h
  | _ => cases h
theorem sn_all (ok : OkP P E) : ∀ k, SN P E k := by
  intro k
  induction k with
  | zero =>
    exact ⟨fun _ _ _ _ _ h => (by cases h), fun _ _ _ _ _ h => (by cases h), fun _ _ _ _ _ h => (by cases h), fun _ _ _ _ _ h => (by cases h), fun _ _ _ _ _ _ h => (by cases h), fun _ _ _ _ _ _ _ _ h => (by cases h), fun _ _ _ _ _ h => (by cases h), fun _ _ _ _ _ _ h => (by cases h), fun _ _ _ _ _ h => (by cases h), fun _ _ _ _ _ _ h => (by cases h), fun _ _ _ _ _ _ h => (by cases h)⟩
  | succ k ih => exact ⟨sn_E ih ok, sn_O ih, sn_L ih, sn_W ih, sn_B ih, sn_Co ih, sn_T ih, sn_Ts ih, sn_Ifs ih, sn_I ih, sn_Ca ih ok⟩
end
end PI
set_option Elab.async false
set_option linter.all false
set_option maxRecDepth 100000
set_option maxHeartbeats 4000000
/-! PJ6: terms do what the text does: statements, defs. -/
namespace PI
open PySem PySem.Spec PyProof.Rows L2
section
variable {c : List Sl → M Bool} {b : List Sl → M (Fl × List Sl)}
def whK (f : List Sl → M (Fl × List Sl)) (q : Fl × List Sl) : M (Fl × List Sl) := match q.1 with
  | .nx => f q.2
  | .ct => f q.2
  | .bk => .ret (.nx, q.2)
  | .rt r k => .ret (.rt r k, q.2)
theorem whN_succ (n : Nat) (ρ : List Sl) : whN c b (n + 1) ρ = .bnd (c ρ) fun t => if t then .bnd (b ρ) (whK (whN c b n)) else .ret (.nx, ρ) := rfl
theorem whN_mono : ∀ (n : Nat) (ρ : List Sl) (st : Store), whN c b n ρ st ≠ .no → whN c b (n + 1) ρ st = whN c b n ρ st
  | 0, ρ, st, h => absurd rfl h
  | n + 1, ρ, st, h => by
    rw [whN_succ n] at h
    rw [whN_succ (n + 1), whN_succ n]
    unfold M.bnd at h ⊢
    cases e : c ρ st with
    | no => rw [e] at h
    | ex x s => rfl
    | ok t s =>
      rw [e] at h
      dsimp only at h ⊢
      cases t with
      | false => rfl
      | true =>
        simp only [if_true] at h ⊢
        cases e2 : b ρ s with
        | no => rw [e2] at h
        | ex x s => rfl
        | ok q s2 =>
          rw [e2] at h
          obtain ⟨fl, ρ'⟩ := q
          cases fl with
          | nx => exact whN_mono n ρ' s2 h
          | ct => exact whN_mono n ρ' s2 h
          | bk => rfl
          | rt r k => rfl
theorem whN_le {n m : Nat} {ρ : List Sl} {st : Store} (hl : n ≤ m) (h : whN c b n ρ st ≠ .no) : whN c b m ρ st = whN c b n ρ st := by
  induction hl with
  | refl => rfl
  | step hl ih => rw [whN_mono _ ρ st (by rw [ih]; exact h), ih]
theorem whL_of {n : Nat} {ρ : List Sl} {st : Store} (h : whN c b n ρ st ≠ .no) : whL c b ρ st = whN c b n ρ st := by
  have hx : ∃ n, whN c b n ρ st ≠ .no := ⟨n, h⟩
  have e : whL c b ρ st = whN c b (Classical.choose hx) ρ st := by
    unfold whL
    rw [dif_pos hx]
  have h1 := Classical.choose_spec hx
  rw [e]
  rcases Nat.le_total n (Classical.choose hx) with l | l
  · exact whN_le l h
  · exact (whN_le l h1).symm
theorem whL_no {ρ : List Sl} {st : Store} (h : ∀ n, whN c b n ρ st = .no) : whL c b ρ st = .no := by
  unfold whL
  rw [dif_neg]
  exact fun ⟨n, h1⟩ => h1 (h n)
theorem whL_ex (ρ : List Sl) (st : Store) : ∃ n, whL c b ρ st = whN c b n ρ st := by
  by_cases h : ∃ n, whN c b n ρ st ≠ .no
  · obtain ⟨n, h⟩ := h
    exact ⟨n, whL_of h⟩
  · exact ⟨0, whL_no fun n => Classical.byContradiction fun h1 => h ⟨n, h1⟩⟩
theorem whK_eq {q : Fl × List Sl} {s2 : Store} (n : Nat) (h : whK (whN c b n) q s2 ≠ .no) : whK (whL c b) q s2 = whK (whN c b n) q s2 := by
  obtain ⟨fl, ρ'⟩ := q
  cases fl with
  | nx => exact whL_of (n := n) h
  | ct => exact whL_of (n := n) h
  | bk => rfl
  | rt r k => rfl
theorem whK_ex (q : Fl × List Sl) (s2 : Store) : ∃ n, whK (whL c b) q s2 = whK (whN c b n) q s2 := by
  obtain ⟨fl, ρ'⟩ := q
  cases fl with
  | nx => exact whL_ex ρ' s2
  | ct => exact whL_ex ρ' s2
  | bk => exact ⟨0, rfl⟩
  | rt r k => exact ⟨0, rfl⟩
theorem whL_eq (ρ : List Sl) : whL c b ρ = .bnd (c ρ) fun t => if t then .bnd (b ρ) (whK (whL c b)) else .ret (.nx, ρ) := by
  funext st
  obtain ⟨n, hn⟩ := whL_ex (c := c) (b := b) ρ st
  have left : ∀ n, whN c b (n + 1) ρ st ≠ .no → whL c b ρ st = whN c b (n + 1) ρ st := fun n h => whL_of h
  -- what the right side is
  have right : ∃ m, (M.bnd (c ρ) fun t => if t then .bnd (b ρ) (whK (whL c b)) else .ret (.nx, ρ)) st = whN c b (m + 1) ρ st := by
    simp only [whN_succ]
    unfold M.bnd
    cases e : c ρ st with
    | no => exact ⟨0, rfl⟩
    | ex x s => exact ⟨0, rfl⟩
    | ok t s =>
      cases t with
      | false => exact ⟨0, rfl⟩
      | true =>
        simp only [if_true]
        cases e2 : b ρ s with
        | no => exact ⟨0, rfl⟩
        | ex x s => exact ⟨0, rfl⟩
        | ok q s2 => exact whK_ex q s2
  obtain ⟨m, hm⟩ := right
  rw [hm]
  by_cases h : whN c b (m + 1) ρ st = .no
  · rw [h]
    -- then the left side is none too
    rw [h] at hm
    rw [hn]
    cases n with
    | zero => rfl
    | succ n =>
      by_cases h2 : whN c b (n + 1) ρ st = .no
      · exact h2
      · exfalso
        apply h2
        rw [whN_succ n]
        unfold M.bnd at hm ⊢
        have h3 := h2
        rw [whN_succ n] at h3
        unfold M.bnd at h3
        cases e : c ρ st with
        | no => rfl
        | ex x s => rw [e] at hm; cases hm
        | ok t s =>
          rw [e] at hm h3
          dsimp only at hm h3 ⊢
          cases t with
          | false => cases hm
          | true =>
            simp only [if_true] at hm h3 ⊢
            cases e2 : b ρ s with
            | no => rfl
            | ex x s => rw [e2] at hm; cases hm
            | ok q s2 =>
              rw [e2] at hm h3
              dsimp only at hm h3 ⊢
              rw [whK_eq n h3] at hm
              exact hm
  · exact left m h
end
section
variable {P : Pg} {E : En} {k : Nat}
theorem LM.wh {C : Ct} {d : Nat} {c : Expr} {b : List Stmt} {cm : List Sl → M Bool} {bm : List Sl → M (Fl × List Sl)} (hc : ∀ ρ, LM (fun n => evT n P d C c ρ) (cm ρ)) (hb : ∀ ρ, LM (fun n => exSs n P d C b ρ) (bm ρ)) (ρ : List Sl) : LM (fun n => exW n P d C c b ρ) (whL cm bm ρ) := by
  have all : ∀ j ρ, LM (fun n => exW n P d C c b ρ) (whN cm bm j ρ) := by
    intro j
    induction j with
    | zero => exact fun ρ => LM.no _
    | succ j ih =>
      intro ρ
      apply LM.sh
      rw [whN_succ]
      refine LM.bnd (hc ρ) fun t => LM.ite (fun _ => LM.bnd (hb ρ) fun q => ?_) fun _ => LM.const _
      obtain ⟨fl, ρ'⟩ := q
      cases fl with
      | nx => exact ih ρ'
      | ct => exact ih ρ'
      | bk => exact LM.const _
      | rt r k => exact LM.const _
  intro st
  obtain ⟨n, hn⟩ := whL_ex (c := cm) (b := bm) ρ st
  rw [hn]
  exact all n ρ st
structure ST (P : Pg) (E : En) (k : Nat) : Prop where
  S : ∀ C d s c, TopOk C E → cS k P C s = some c → ∀ ρ, LM (fun n => exS n P d C s ρ) (runS E d c ρ)
  Q : ∀ C d s c, TopOk C E → cQ k P C s = some c → ∀ ρ, LM (fun n => exQ n P d C s ρ) (runS E d c ρ)
  Ss : ∀ C d s c, TopOk C E → cSs k P C s = some c → ∀ ρ, LM (fun n => exSs n P d C s ρ) (runSs E d c ρ)
theorem st_S (ih : ST P E k) : ∀ C d s c, TopOk C E → cS (k + 1) P C s = some c → ∀ ρ, LM (fun n => exS n P d C s ρ) (runS E d c ρ) := by
  intro C d s c ht h ρ
  apply LM.sh
  unfold cS at h
  obtain ⟨x, hx, rfl⟩ := mapS h
  show LM (fun n => exQ n P d C s (freezes C.N (fzS s) ρ)) _
  have e : runS E d (fzC C.N (fzS s) x) ρ = runS E d x (fzI (dd ((fzS s).filterMap (sIdx C.N))) ρ) := by
    unfold fzC
    cases dd ((fzS s).filterMap (sIdx C.N)) with
    | nil => rfl
    | cons i is => rfl
  rw [e, fzI_dd, ← freezes_I]
  exact ih.Q C d s x ht hx _
theorem st_Ss (ih : ST P E k) : ∀ C d s c, TopOk C E → cSs (k + 1) P C s = some c → ∀ ρ, LM (fun n => exSs n P d C s ρ) (runSs E d c ρ) := by
  intro C d s c ht h ρ
  apply LM.sh
  unfold cSs at h
  cases s with
  | nil => cases h; unfold runSs; exact LM.const _
  | cons s ss =>
    obtain ⟨x, hx, h⟩ := bindS h
    obtain ⟨y, hy, rfl⟩ := mapS h
    unfold runSs
    refine LM.bnd (ih.S C d s x ht hx ρ) fun q => ?_
    obtain ⟨fl, ρ'⟩ := q
    cases fl with
    | nx => exact ih.Ss C d ss y ht hy ρ'
    | _ => exact LM.const _
end
end PI
set_option Elab.async false
set_option linter.all false
set_option maxRecDepth 100000
set_option maxHeartbeats 4000000
/-! PJ7: terms do what the text does: statements, defs. -/
namespace PI
open PySem PySem.Spec PyProof.Rows L2
section
variable {P : Pg} {E : En} {k : Nat}
theorem exQ_tup {n d : Nat} {C : Ct} {ts : List Expr} {a : Nat} {b : Pos} {e : Expr} {pos : Pos} (hn : notTup e = true) (ρ : List Sl) : exQ (n + 1) P d C (.Assign [.Tuple ts a b] e pos) ρ = .bnd (evE n P d C e ρ) fun v => (match v.2 with
    | .wk => .no
    | k' => .opt ((asT n C (.Tuple ts a b) v.1 k' ρ).map fun ρ' => (.nx, ρ'))) := by
  have ev : exQ (n + 1) P d C (.Assign [.Tuple ts a b] e pos) ρ = if notTup e = true then .bnd (evE n P d C e ρ) fun v => (match v.2 with
            | .wk => .no
            | k' => .opt ((asT n C (.Tuple ts a b) v.1 k' ρ).map fun ρ' => (.nx, ρ'))) else .no := by
    unfold exQ
    split <;> first | rfl | skip
    all_goals first | (rename_i h; cases h; done) | skip
    all_goals first | (rename_i h; cases h; cases hn; done) | skip
    all_goals first
      | (rename_i h; cases h; rfl; done)
      | (exfalso; rename_i ha hb hc; first | exact ha _ _ _ _ _ rfl | exact hb _ _ _ _ _ rfl | exact hc _ _ _ _ _ rfl)
  rw [ev, if_pos hn]
theorem kn_nil {d : Nat} {C : Ct} {ρ : List Sl} : LM (fun n => evK n P d C [] ρ) (runK E d [] ρ) := by
  apply LM.sh
  exact LM.const _
theorem kn_cons {d : Nat} {C : Ct} {ρ : List Sl} {e : Expr} {es : List Expr} {t : Tm} {ts : List Tm} (h : LM (fun n => evE n P d C e ρ) (runE E d t ρ)) (hs : LM (fun n => evK n P d C es ρ) (runK E d ts ρ)) : LM (fun n => evK n P d C (e :: es) ρ) (runK E d (t :: ts) ρ) := by
  apply LM.sh
  unfold runK
  exact LM.bnd h fun x => LM.bnd hs fun ys => LM.const _
theorem asT_nm {n : Nat} {C : Ct} {x : Str} {p : Pos} {i : Nat} (h : okT C x = true) (hi : sIdx C.N x = some i) (dv : D) (kd : Kd) (ρ : List Sl) : asT (n + 1) C (.Name x p) dv kd ρ = (slotOf dv kd).map fun s => ρ.set i s := by
  unfold okT at h
  rw [Bool.and_eq_true] at h
  unfold asT
  dsimp only
  rw [if_pos h.1, hi]
  cases slotOf dv kd <;> rfl
theorem st_Q (ok : OkP P E) (ih : ST P E k) : ∀ C d s c, TopOk C E → cQ (k + 1) P C s = some c → ∀ ρ, LM (fun n => exQ n P d C s ρ) (runS E d c ρ) := by
  intro C d s c ht h ρ
  have sn := sn_all ok k
  apply LM.sh
  unfold cQ at h
  split at h
  · cases h; exact LM.const _
  · cases h; exact LM.const _
  · cases h; exact LM.const _
  · cases h; exact LM.const _
  · -- return e
    rename_i e p
    obtain ⟨x, hx, rfl⟩ := mapS h
    unfold runS
    refine LM.bnd (sn.ex C d e x ht hx ρ) fun u => ?_
    obtain ⟨v, kd⟩ := u
    cases kd <;> exact LM.const _
  · -- if
    rename_i t a b p
    obtain ⟨x, hx, h⟩ := bindS h
    obtain ⟨y, hy, h⟩ := bindS h
    obtain ⟨z, hz, rfl⟩ := mapS h
    unfold runS
    exact LM.bnd (sn.T C d t x ht hx ρ) fun u => LM.ite (fun _ => ih.Ss C d a y ht hy ρ) fun _ => ih.Ss C d b z ht hz ρ
  · -- while
    rename_i t b p
    obtain ⟨x, hx, h⟩ := bindS h
    obtain ⟨y, hy, rfl⟩ := mapS h
    unfold runS
    exact LM.wh (fun ρ => sn.T C d t x ht hx ρ) (fun ρ => ih.Ss C d b y ht hy ρ) ρ
  · -- for
    rename_i tg it b p
    obtain ⟨i, hi, h⟩ := bindS h
    obtain ⟨t, htg, h⟩ := bindS h
    obtain ⟨y, hy, rfl⟩ := mapS h
    unfold runS
    refine LM.bnd (sn.I C d tg it i ht hi ρ) fun items => ?_
    have main : LM (fun n => forL (fun x ρ => match asT n C tg x .sh ρ with
        | some ρ' => exSs n P d C b ρ'
        | none => .no) items.1 ρ) (forL (fun x ρ => match runTg t x .sh ρ with
        | some ρ' => runSs E d y ρ'
        | none => .no) items.1 ρ) := by
      refine LM.forL (fun x ρ => ?_) items.1 ρ
      refine LM.ev (s' := fun n => match runTg t x .sh ρ with
        | some ρ' => exSs n P d C b ρ'
        | none => .no) ?_ k fun n hn => by rw [(tg_ok k).1 _ _ _ htg n hn]
      cases runTg t x .sh ρ with
      | none => exact LM.const _
      | some ρ' => exact ih.Ss C d b y ht hy ρ'
    obtain ⟨xs, kd⟩ := items
    cases kd with
    | wk => exact LM.const _
    | sh => exact main
    | fr => exact main
  · -- raise
    rename_i cl q es p2 p
    split at h
    · rename_i hc
      split at h
      · rename_i kk hk
        obtain ⟨ts, hts, rfl⟩ := mapS h
        unfold runS raiseD
        cases d with
        | zero => exact LM.no _
        | succ d =>
        cases d with
        | zero => exact LM.no _
        | succ d =>
          have ev : ∀ n, exQ (n + 1) P (d + 2) C (.Raise (some (.Call (.Name cl q) es [] p2)) none p) ρ = .bnd (evL n P (d + 2) C es ρ) fun vs => (match exFs kk vs with
                | some fs => fun st => .ex ⟨cl, fs⟩ st
                | none => .no) := fun n => by
              show (if (gloB C.sc cl && okName cl && noStar es) = true then (match d + 2, P.exc.lookup cl with
                  | _ + 2, some k => _
                  | _, _ => _) else _) = _
              rw [if_pos hc, hk]
              try rfl
          simp only [ev]
          exact LM.bnd (sn.L C (d + 2) es ts ht hts ρ) fun vs => LM.const _
      · cases h
    · cases h
  · cases h; exact LM.const _
  · -- append
    rename_i x q m ap e p2 p
    split at h
    · rename_i hc
      obtain ⟨j, hj, h⟩ := bindS h
      obtain ⟨y, hy, rfl⟩ := mapS h
      unfold runS
      have ev : ∀ n, exQ (n + 1) P d C (.Expr (.Call (.Attribute (.Name x q) m ap) [e] [] p2) p) ρ = extD j (evE n P d C e ρ) ρ := fun n => by
        show (if (okName x && visB C.sc x && (decide (m = "extend") && (ap.endLine == p2.line) && notStar e)) = true then _ else _) = _
        rw [if_pos hc, hj]
        rfl
      simp only [ev]
      have hm := sn.ex C d e y ht hy ρ
      unfold extD
      cases ρ[j]? with
      | none => exact LM.no _
      | some s =>
        cases s with
        | un => exact LM.no _
        | im dd => exact LM.no _
        | ow dd =>
          cases dd with
          | lst xs => exact LM.bnd hm fun v => LM.const _
          | _ => exact LM.no _
    rename_i hne
    split at h
    · rename_i hc
      obtain ⟨j, hj, h⟩ := bindS h
      obtain ⟨y, hy, rfl⟩ := mapS h
      unfold runS
      have ev : ∀ n, exQ (n + 1) P d C (.Expr (.Call (.Attribute (.Name x q) m ap) [e] [] p2) p) ρ = appD j (evE n P d C e ρ) ρ := fun n => by
        show (if (okName x && visB C.sc x && (decide (m = "extend") && (ap.endLine == p2.line) && notStar e)) = true then _ else if (okName x && visB C.sc x && (decide (m = "append") && (ap.endLine == p2.line) && notStar e)) = true then _ else _) = _
        rw [if_neg hne, if_pos hc, hj]
        dsimp only
        unfold appD
        cases ρ[j]? with
        | none => rfl
        | some s =>
          cases s with
          | un => rfl
          | im dd =>
            cases dd with
            | obj l =>
              show isLst l _ = isLst l _
              congr 1
              show M.bnd _ _ = M.bnd _ _
              congr 1
              funext v
              exact bnd_st1 (f := fun z => fun st => (match st[l]? with
                | some (.box (.lst xs)) => if xs.length < lim then R.ok (Fl.nx, ρ) (st.set l (.lst (xs ++ [z]))) else .no
                | _ => .no))
            | _ => rfl
          | ow dd =>
            cases dd with
            | lst xs =>
              show M.bnd _ _ = M.bnd _ _
              congr 1
              funext v
              exact bnd_st1 (f := fun z => if xs.length < lim then M.ret (Fl.nx, ρ.set j (.ow (.lst (xs ++ [z])))) else M.no)
            | _ => rfl
      simp only [ev]
      have hm := sn.ex C d e y ht hy ρ
      unfold appD
      cases ρ[j]? with
      | none => exact LM.no _
      | some s =>
        cases s with
        | un => exact LM.no _
        | im dd =>
          cases dd with
          | obj l => exact LM.isLst (LM.bnd hm fun v => LM.const _)
          | _ => exact LM.no _
        | ow dd =>
          cases dd with
          | lst xs => exact LM.bnd hm fun v => LM.const _
          | _ => exact LM.no _
    · cases h
  · -- a call
    rename_i f q as p2 p
    obtain ⟨y, hy, rfl⟩ := mapS h
    unfold runS
    exact LM.bnd (sn.ex C d _ y ht hy ρ) fun v => LM.const _
  · -- name = e
    rename_i x q e p
    split at h
    · rename_i hc
      obtain ⟨i, hi, h⟩ := bindS h
      obtain ⟨y, hy, rfl⟩ := mapS h
      unfold runS
      have ev : ∀ n, exQ (n + 1) P d C (.Assign [.Name x q] e p) ρ = .bnd (evE n P d C e ρ) fun v => setI i (C.cells.contains x) v ρ := fun n => by
        show (if (okName x && locB C.sc x && stB C x) = true then _ else _) = _
        rw [if_pos hc, hi]
        rfl
      simp only [ev]
      exact LM.bnd (sn.ex C d e y ht hy ρ) fun v => LM.const _
    · cases h
  · -- name[i] = e
    rename_i x q i p1 e p
    split at h
    · rename_i hc
      obtain ⟨j, hj, h⟩ := bindS h
      obtain ⟨y, hy, h⟩ := bindS h
      obtain ⟨z, hz, rfl⟩ := mapS h
      unfold runS
      have hc' : (okName x && visB C.sc x && notSlice i && (sIdx C.N x).isSome) = true := by rw [hc, hj]; rfl
      have ev : ∀ n, exQ (n + 1) P d C (.Assign [.Subscript (.Name x q) i p1] e p) ρ = .bnd (evE n P d C e ρ) fun v => .bnd (st1 v) fun z => sasnD j z (evE n P d C i ρ) ρ := fun n => by
        show (if (okName x && visB C.sc x && notSlice i && (sIdx C.N x).isSome) = true then _ else _) = _
        rw [if_pos hc']
        show M.bnd _ _ = M.bnd _ _
        congr 1
        funext v
        rw [hj]
        unfold st1
        cases hst : strong [v] with
        | none => rfl
        | some l =>
          cases l with
          | nil => rfl
          | cons u r =>
            cases r with
            | cons _ _ => rfl
            | nil =>
              show _ = sasnD j u (evE n P d C i ρ) ρ
              unfold sasnD
              dsimp only
              rcases ρ[j]? with _ | _ | dd | dd
              · rfl
              · rfl
              · cases dd <;> first | rfl | skip
                dsimp only
                congr 1
                funext y
                exact bnd_st1 (f := fun q => fun (st : Store) => (match (st[_]? : Option Cell) with
                  | some (.box b) => (match setAt b q u with
                    | some b' => R.ok (Fl.nx, ρ) (st.set _ (.box b'))
                    | none => .no)
                  | _ => .no))
              · dsimp only
                congr 1
                funext y
                exact bnd_st1 (f := fun q => M.opt ((setAt dd q u).map fun b' => (Fl.nx, ρ.set j (.ow b'))))
      simp only [ev]
      refine LM.bnd (sn.ex C d e z ht hz ρ) fun v => LM.bnd (LM.const _) fun u => ?_
      have hm := sn.ex C d i y ht hy ρ
      unfold sasnD
      cases ρ[j]? with
      | none => exact LM.no _
      | some s =>
        cases s with
        | un => exact LM.no _
        | im dd =>
          cases dd with
          | obj l => exact LM.bnd hm fun v => LM.const _
          | _ => exact LM.no _
        | ow dd => exact LM.bnd hm fun v => LM.const _
    · cases h
  · -- x = y = e
    rename_i x q y q2 e p
    split at h
    · rename_i hc
      obtain ⟨i, hi, h⟩ := bindS h
      obtain ⟨j, hj, h⟩ := bindS h
      obtain ⟨z, hz, rfl⟩ := mapS h
      unfold runS
      have ev : ∀ n, exQ (n + 1) P d C (.Assign [.Name x q, .Name y q2] e p) ρ = .bnd (evE n P d C e ρ) fun v => asnBD i j v ρ := fun n => by
        show (if (okName x && locB C.sc x && stB C x && (okName y && locB C.sc y && stB C y)) = true then _ else _) = _
        rw [if_pos hc, hi, hj]
        rfl
      simp only [ev]
      exact LM.bnd (sn.ex C d e z ht hz ρ) fun v => LM.const _
    · cases h
  · -- x, y = e1, e2
    rename_i x px y py a b e1 e2 c' d' p
    split at h
    · rename_i hc
      rw [Bool.and_eq_true] at hc
      obtain ⟨hc, hps⟩ := hc
      obtain ⟨i, hi, h⟩ := bindS h
      obtain ⟨j, hj, h⟩ := bindS h
      obtain ⟨u, hu, h⟩ := bindS h
      obtain ⟨w, hw, rfl⟩ := mapS h
      unfold runS
      have hk : ∀ n vs, (M.opt ((asK (n + 1) C [.Name x px, .Name y py] vs ρ).map fun ρ' => (Fl.nx, ρ'))) = asn2D i j vs ρ := fun n vs => by
        have hx : (okName x && locB C.sc x && stB C x) = true := by
          rw [Bool.and_eq_true, Bool.and_eq_true] at hc
          have := hc.1.2
          unfold okT at this
          rw [Bool.and_eq_true] at this
          exact this.1
        have hy : (okName y && locB C.sc y && stB C y) = true := by
          rw [Bool.and_eq_true, Bool.and_eq_true] at hc
          have := hc.2
          unfold okT at this
          rw [Bool.and_eq_true] at this
          exact this.1
        have e1 : ∀ dv kd ρ, asT (n + 1) C (.Name x px) dv kd ρ = (slotOf dv kd).map fun s => ρ.set i s := fun dv kd ρ => by
          unfold asT
          dsimp only
          rw [if_pos hx, hi]
          cases slotOf dv kd <;> rfl
        have e2 : ∀ dv kd ρ, asT (n + 1) C (.Name y py) dv kd ρ = (slotOf dv kd).map fun s => ρ.set j s := fun dv kd ρ => by
          unfold asT
          dsimp only
          rw [if_pos hy, hj]
          cases slotOf dv kd <;> rfl
        unfold asn2D
        rcases vs with _ | ⟨v, _ | ⟨w, _ | ⟨z, vs⟩⟩⟩
        · rfl
        · simp only [asK, e1]
          cases slotOf v.1 v.2 <;> rfl
        · simp only [asK, e1, e2]
          cases slotOf v.1 v.2 with
          | none => rfl
          | some s =>
            simp only [Option.map_some, e2]
            cases slotOf w.1 w.2 <;> rfl
        · simp only [asK, e1, e2]
          cases slotOf v.1 v.2 with
          | none => rfl
          | some s =>
            simp only [Option.map_some, e2]
            cases slotOf w.1 w.2 <;> rfl
      have ev : ∀ n, exQ (n + 2) P d C (.Assign [.Tuple [.Name x px, .Name y py] a b] (.Tuple [e1, e2] c' d') p) ρ = .bnd (.bnd (evE (n + 1) P d C e1 ρ) fun v => .bnd (evE (n + 1) P d C e2 ρ) fun w => pr2 v w) fun vs => asn2D i j vs ρ := fun n => by
        show (if (notStar e1 && notStar e2 && okT C x && okT C y) = true then (
            if par2 C x px y py e1 e2 = true then M.bnd (M.bnd (evE (n + 1) P d C e1 ρ) fun v => M.bnd (evE (n + 1) P d C e2 ρ) fun w => pr2 v w) fun vs => M.opt ((asK (n + 1) C [.Name x px, .Name y py] vs ρ).map fun ρ' => (Fl.nx, ρ'))
            else if seq2 C x y = true then M.bnd (M.bnd (evE (n + 1) P d C e1 ρ) fun v => M.bnd (evE (n + 1) P d C e2 ρ) fun w => pr2 v w) fun vs => M.opt ((asK (n + 1) C [.Name x px, .Name y py] vs ρ).map fun ρ' => (Fl.nx, ρ'))
            else M.no) else M.no) = _
        rw [if_pos hc]
        simp only [hk]
        rcases (Bool.or_eq_true _ _).mp hps with h1 | h1
        · rw [if_pos h1]
        · by_cases h2 : par2 C x px y py e1 e2 = true
          · rw [if_pos h2]
          · rw [if_neg h2, if_pos h1]
      apply LM.sh
      simp only [ev]
      have s1 : LM (fun n => evE (n + 1) P d C e1 ρ) (runE E d u ρ) := fun st => by
        rcases sn.ex C d e1 u ht hu ρ st with h | ⟨N, h⟩
        · exact .inl h
        · exact .inr ⟨N, fun n hn => h (n + 1) (by omega)⟩
      have s2 : LM (fun n => evE (n + 1) P d C e2 ρ) (runE E d w ρ) := fun st => by
        rcases sn.ex C d e2 w ht hw ρ st with h | ⟨N, h⟩
        · exact .inl h
        · exact .inr ⟨N, fun n hn => h (n + 1) (by omega)⟩
      exact LM.bnd (LM.bnd s1 fun v => LM.bnd s2 fun w => LM.const _) fun vs => LM.const _
    · cases h
  · -- x, y, z = e1, e2, e3
    rename_i x px y py z pz a b e1 e2 e3 c' d' p
    split at h
    · rename_i hc
      have hc0 := hc
      rw [Bool.and_eq_true, Bool.and_eq_true, Bool.and_eq_true, Bool.and_eq_true] at hc
      obtain ⟨⟨_, ⟨ox, oy⟩, oz⟩, _⟩ := hc
      obtain ⟨i, hi, h⟩ := bindS h
      obtain ⟨j, hj, h⟩ := bindS h
      obtain ⟨l, hl, h⟩ := bindS h
      obtain ⟨u, hu, h⟩ := bindS h
      obtain ⟨v, hv, h⟩ := bindS h
      obtain ⟨w, hw, rfl⟩ := mapS h
      unfold runS
      have hk : ∀ n vs, (M.opt ((asK (n + 1) C [.Name x px, .Name y py, .Name z pz] vs ρ).map fun ρ' => (Fl.nx, ρ'))) = asn3D i j l vs ρ := fun n vs => by
        unfold asn3D
        rcases vs with _ | ⟨v1, _ | ⟨v2, _ | ⟨v3, _ | ⟨v4, vs⟩⟩⟩⟩
        · rfl
        · simp only [asK, asT_nm ox hi]
          cases slotOf v1.1 v1.2 <;> rfl
        · simp only [asK, asT_nm ox hi]
          cases slotOf v1.1 v1.2 with
          | none => rfl
          | some s =>
            simp only [Option.map_some, asT_nm oy hj]
            cases slotOf v2.1 v2.2 <;> rfl
        · simp only [asK, asT_nm ox hi]
          cases slotOf v1.1 v1.2 with
          | none => rfl
          | some s =>
            simp only [Option.map_some, asT_nm oy hj]
            cases slotOf v2.1 v2.2 with
            | none => rfl
            | some s =>
              simp only [Option.map_some, asT_nm oz hl]
              cases slotOf v3.1 v3.2 <;> rfl
        · simp only [asK, asT_nm ox hi]
          cases slotOf v1.1 v1.2 with
          | none => rfl
          | some s =>
            simp only [Option.map_some, asT_nm oy hj]
            cases slotOf v2.1 v2.2 with
            | none => rfl
            | some s =>
              simp only [Option.map_some, asT_nm oz hl]
              cases slotOf v3.1 v3.2 <;> rfl
      have ev : ∀ n, exQ (n + 2) P d C (.Assign [.Tuple [.Name x px, .Name y py, .Name z pz] a b] (.Tuple [e1, e2, e3] c' d') p) ρ = .bnd (evK (n + 1) P d C [e1, e2, e3] ρ) fun vs => asn3D i j l vs ρ := fun n => by
        show (if (noStar [e1, e2, e3] && (okT C x && okT C y && okT C z) && (par3 C x px y py z pz [e1, e2, e3] || seq3 C x y z)) = true then M.bnd (evK (n + 1) P d C [e1, e2, e3] ρ) fun vs => M.opt ((asK (n + 1) C [.Name x px, .Name y py, .Name z pz] vs ρ).map fun ρ' => (Fl.nx, ρ')) else M.no) = _
        rw [if_pos hc0]
        simp only [hk]
      apply LM.sh
      simp only [ev]
      have s1 : LM (fun n => evK (n + 1) P d C [e1, e2, e3] ρ) (runK E d [u, v, w] ρ) := fun st => by
        rcases kn_cons (sn.ex C d e1 u ht hu ρ) (kn_cons (sn.ex C d e2 v ht hv ρ) (kn_cons (sn.ex C d e3 w ht hw ρ) kn_nil)) st with h | ⟨N, h⟩
        · exact .inl h
        · exact .inr ⟨N, fun n hn => h (n + 1) (by omega)⟩
      exact LM.bnd s1 fun vs => LM.const _
    · cases h
  · -- a tuple of targets
    rename_i ts a b e p _ _
    split at h
    · rename_i hn
      obtain ⟨t, htg, h⟩ := bindS h
      obtain ⟨y, hy, rfl⟩ := mapS h
      unfold runS
      simp only [exQ_tup hn]
      refine LM.bnd (sn.ex C d e y ht hy ρ) fun v => ?_
      obtain ⟨v, kd⟩ := v
      have e : ∀ kd n, k ≤ n → asT n C (.Tuple ts a b) v kd ρ = runTg t v kd ρ := fun kd n hn => (tg_ok k).1 _ _ _ htg n hn v kd ρ
      cases kd with
      | wk => exact LM.no _
      | sh => exact LM.ev (LM.const _) k fun n hn => by dsimp only; rw [e _ n hn]; rfl
      | fr => exact LM.ev (LM.const _) k fun n hn => by dsimp only; rw [e _ n hn]; rfl
    · cases h
  · -- name op= e
    rename_i x q op e p
    split at h
    · rename_i hc
      obtain ⟨i, hi, h⟩ := bindS h
      obtain ⟨y, hy, rfl⟩ := mapS h
      unfold runS
      have ev : ∀ n, exQ (n + 1) P d C (.AugAssign (.Name x q) op e p) ρ = augD op i (evE n P d C e ρ) ρ := fun n => by
        show (if (okName x && locB C.sc x && stB C x) = true then _ else _) = _
        rw [if_pos hc, hi]
        rfl
      simp only [ev]
      have hm := sn.ex C d e y ht hy ρ
      unfold augD
      cases ρ[i]? with
      | none => exact LM.no _
      | some s =>
        cases s with
        | un => exact LM.no _
        | ow _ => exact LM.no _
        | im dd =>
          cases dd with
          | int a => exact LM.bnd hm fun v => LM.const _
          | str a => exact LM.bnd hm fun v => LM.const _
          | _ => exact LM.no _
    · cases h
  · cases h
theorem st_all (ok : OkP P E) : ∀ k, ST P E k := by
  intro k
  induction k with
  | zero => exact ⟨fun _ _ _ _ _ h => (by cases h), fun _ _ _ _ _ h => (by cases h), fun _ _ _ _ _ h => (by cases h)⟩
  | succ k ih => exact ⟨st_S ih, st_Q ok ih, st_Ss ih⟩
end
end PI
set_option Elab.async false
set_option linter.all false
set_option maxRecDepth 100000
set_option maxHeartbeats 4000000
/-! PJ8: calls without fuel. -/
namespace PI
open PySem PySem.Spec PyProof.Rows L2
section
variable {P : Pg}
open Classical in
/-- what a call comes to -/
noncomputable def callL (P : Pg) (d : Nat) (x : Str) (as : List D) : M DK := fun st =>
  if h : ∃ r : R DK, r ≠ .no ∧ ∃ N, ∀ n, N ≤ n → callF n P d x as st = r then Classical.choose h else .no
theorem callL_LM (d : Nat) (x : Str) (as : List D) : LM (fun n => callF n P d x as) (callL P d x as) := fun st => by
  unfold callL
  by_cases h : ∃ r : R DK, r ≠ .no ∧ ∃ N, ∀ n, N ≤ n → callF n P d x as st = r
  · rw [dif_pos h]
    exact .inr (Classical.choose_spec h).2
  · rw [dif_neg h]
    exact .inl rfl
theorem callL_of {d : Nat} {x : Str} {as : List D} {m : M DK} (h : LM (fun n => callF n P d x as) m) {st : Store} (hn : m st ≠ .no) : callL P d x as st = m st := by
  rcases h st with e | ⟨N, e⟩
  · exact absurd e hn
  · have hx : ∃ r : R DK, r ≠ .no ∧ ∃ N, ∀ n, N ≤ n → callF n P d x as st = r := ⟨_, hn, N, e⟩
    unfold callL
    rw [dif_pos hx]
    obtain ⟨_, N2, e2⟩ := Classical.choose_spec hx
    rw [← e2 (max N N2) (by omega), ← e (max N N2) (by omega)]
noncomputable def enL (P : Pg) (top : Option (Addr × Str)) : En := ⟨P, callL P, top⟩
theorem ok_enL (P : Pg) (top : Option (Addr × Str)) : OkP P (enL P top) := ⟨rfl, fun d x as => callL_LM d x as⟩
theorem LM.box {as : List D} {s : Nat → M DK} {m : M DK} (h : LM s m) : LM (fun n => box as (s n)) (box as m) := fun st => by
  unfold PI.box
  by_cases hb : noObjL as = true
  · simp only [hb, if_true]
    rcases h [] with e | ⟨N, e⟩
    · left; rw [e]
    · right; exact ⟨N, fun n hn => by dsimp only; rw [show s n [] = m [] from e n hn]⟩
  · simp only [hb, if_false]
    exact h st
/-- a def's body as terms -/
noncomputable def runF (P : Pg) (d k : Nat) (cs : List Cm) (as : List D) : M DK :=
  box as (.bnd (runSs (enL P none) d cs (as.map .im ++ List.replicate k .un)) endF)
theorem runF_LM {d kk : Nat} {x : Str} {F : FnI} {cs : List Cm} {as : List D} (hF : P.fns.lookup x = some F) (hc : cSs kk P ⟨F.N, F.sc, F.cells, none, none⟩ F.body = some cs) (hl : as.length = F.ps.length) :
    LM (fun n => callF n P (d + 1) x as) (runF P d (F.N.length - F.ps.length) cs as) := by
  apply LM.sh
  have e : ∀ n, callF (n + 1) P (d + 1) x as = box as (.bnd (exSs n P d ⟨F.N, F.sc, F.cells, none, none⟩ F.body (as.map .im ++ List.replicate (F.N.length - as.length) .un)) fun q => match q.1 with
          | .nx => .ret (.non, .sh)
          | .rt r k => if isWk k then .no else .ret (r, k)
          | _ => .no) := fun n => by
    show (match P.fns.lookup x with | some F => _ | none => _) = _
    rw [hF]
    dsimp only
    rw [if_pos hl]
    try rfl
  simp only [e]
  unfold runF
  rw [hl]
  refine LM.box (LM.bnd ((st_all (ok_enL P none) kk).Ss _ d F.body cs (fun _ => rfl) hc _) fun q => ?_)
  obtain ⟨fl, ρ'⟩ := q
  cases fl <;> exact LM.const _
theorem callL_eq {d kk : Nat} {x : Str} {F : FnI} {cs : List Cm} {as : List D} (hF : P.fns.lookup x = some F) (hc : cSs kk P ⟨F.N, F.sc, F.cells, none, none⟩ F.body = some cs) (hl : as.length = F.ps.length) {st : Store} {r : R DK}
    (h : runF P d (F.N.length - F.ps.length) cs as st = r) (hn : r ≠ .no) : callL P (d + 1) x as st = r := by
  rw [callL_of (runF_LM hF hc hl) (by rw [h]; exact hn), h]
/-- the law's own run -/
theorem law_run {d kk : Nat} {F : FnI} {cs : List Cm} {A : Addr} {q : Str} {ρ ρ' : List Sl} {st st' : Store} {r : Fl} (hc : cSs kk P ⟨F.N, F.sc, F.cells, none, some (A, q)⟩ F.body = some cs)
    (h : runSs (enL P (some (A, q))) d cs ρ st = .ok (r, ρ') st') : ∃ n, exSs n P d ⟨F.N, F.sc, F.cells, none, some (A, q)⟩ F.body ρ st = .ok (r, ρ') st' := by
  rcases (st_all (ok_enL P (some (A, q))) kk).Ss _ d F.body cs (fun _ => rfl) hc ρ st with e | ⟨N, e⟩
  · rw [h] at e; cases e
  · exact ⟨N, (e N (Nat.le_refl N)).trans h⟩
end
end PI
set_option Elab.async false
set_option linter.all false
set_option maxRecDepth 100000
set_option maxHeartbeats 4000000
/-! PW1: walking over terms. -/
namespace PI
open PySem PySem.Spec PyProof.Rows L2
/-- what holds behind a run, or where it raises -/
@[irreducible] def wp {α : Type} (m : M α) (Q : α → Store → Prop) (X : Ex → Store → Prop) (st : Store) : Prop := match m st with
  | .ok a s => Q a s
  | .ex e s => X e s
  | .no => False
def M.thr {α : Type} (e : Ex) : M α := fun st => .ex e st
section
variable {α β : Type} {Q : α → Store → Prop} {X : Ex → Store → Prop} {st : Store}
theorem wp_ret (a : α) : wp (M.ret a) Q X st = Q a st := by unfold wp; rfl
theorem wp_thr (e : Ex) : wp (M.thr e : M α) Q X st = X e st := by unfold wp; rfl
theorem wp_bnd (m : M β) (f : β → M α) : wp (M.bnd m f) Q X st = wp m (fun a s => wp (f a) Q X s) X st := by
  unfold wp M.bnd
  cases m st <;> rfl
theorem wp_calm (m : M α) : wp (M.calm m) Q X st = wp m Q (fun _ _ => False) st := by
  unfold wp M.calm
  cases m st <;> rfl
theorem wp_ite {c : Prop} [Decidable c] (m m' : M α) : wp (if c then m else m') Q X st = ((c → wp m Q X st) ∧ (¬ c → wp m' Q X st)) := by
  by_cases h : c <;> simp [h]
theorem wp_congr {m m' : M α} (h : m = m') : wp m Q X st = wp m' Q X st := by rw [h]
theorem wp_mono {m : M α} {Q' : α → Store → Prop} {X' : Ex → Store → Prop} (h : wp m Q X st) (hq : ∀ a s, Q a s → Q' a s) (hx : ∀ e s, X e s → X' e s) : wp m Q' X' st := by
  unfold wp at *
  cases e : m st <;> rw [e] at h
  · exact hq _ _ h
  · exact hx _ _ h
  · exact h
theorem bnd_ret' (a : β) (f : β → M α) : M.bnd (M.ret a) f = f a := rfl
theorem bnd_thr (e : Ex) (f : β → M α) : M.bnd (M.thr e) f = M.thr e := rfl
theorem bnd_bnd {γ : Type} (m : M γ) (g : γ → M β) (f : β → M α) : M.bnd (M.bnd m g) f = M.bnd m fun x => M.bnd (g x) f := by
  funext st
  unfold M.bnd
  cases m st <;> rfl
theorem bnd_congr {m m' : M β} (f : β → M α) (h : m = m') : M.bnd m f = M.bnd m' f := by rw [h]
theorem bnd_ite {c : Prop} [Decidable c] (m m' : M β) (f : β → M α) : M.bnd (if c then m else m') f = if c then M.bnd m f else M.bnd m' f := by
  by_cases h : c <;> simp [h]
theorem opt_some (a : α) : M.opt (some a) = M.ret a := rfl
theorem calm_ret (a : α) : M.calm (M.ret a) = M.ret a := rfl
theorem wp_ok {m : M α} (h : wp m Q X st) (hx : ∀ e s, X e s → False) : ∃ a s, m st = .ok a s ∧ Q a s := by
  unfold wp at h
  cases e : m st with
  | ok a s => rw [e] at h; exact ⟨a, s, rfl, h⟩
  | ex a s => rw [e] at h; exact (hx _ _ h).elim
  | no => rw [e] at h; exact h.elim
end
/-! ### calls -/
/-- a def of the program, by its terms -/
structure IsD (P : Pg) (x : Str) (np k : Nat) (cs : List Cm) : Prop where
  ex : ∃ F kk, P.fns.lookup x = some F ∧ F.ps.length = np ∧ F.N.length - F.ps.length = k ∧ cSs kk P ⟨F.N, F.sc, F.cells, none, none⟩ F.body = some cs
section
variable {P : Pg} {x : Str} {np k d : Nat} {cs : List Cm} {as : List D}
noncomputable abbrev body (P : Pg) (d k : Nat) (cs : List Cm) (as : List D) : M DK := .bnd (runSs (enL P none) d cs (as.map .im ++ List.replicate k .un)) endF
theorem IsD.st (h : IsD P x np k cs) (hl : as.length = np) (ho : noObjL as = false) {st : Store} {Q : DK → Store → Prop} {X : Ex → Store → Prop} (w : wp (body P d k cs as) Q X st) : wp (callL P (d + 1) x as) Q X st := by
  obtain ⟨F, kk, h1, h2, h3, h4⟩ := h.ex
  have e : callL P (d + 1) x as st = body P d k cs as st := by
    have hn : body P d k cs as st ≠ .no := by
      unfold wp at w
      intro z
      rw [z] at w
      exact w
    refine callL_eq h1 h4 (hl.trans h2.symm) ?_ hn
    unfold runF box
    rw [h3, ho]
    rfl
  unfold wp at *
  rw [e]
  exact w
theorem IsD.pure (h : IsD P x np k cs) (hl : as.length = np) (ho : noObjL as = true) {v : DK} (hv : v.1.noObj = true) (w : wp (body P d k cs as) (fun r _ => r = v) (fun _ _ => False) []) : callL P (d + 1) x as = M.ret v := by
  obtain ⟨F, kk, h1, h2, h3, h4⟩ := h.ex
  funext st
  obtain ⟨a, s, e, rfl⟩ := wp_ok w fun _ _ h => h
  refine callL_eq h1 h4 (hl.trans h2.symm) ?_ (by intro z; cases z)
  unfold runF box
  rw [h3, ho]
  show (match body P d k cs as [] with | .ok r _ => _ | .ex e _ => _ | .no => _) = _
  rw [e]
  show (if a.1.noObj = true then R.ok a st else R.no) = R.ok a st
  rw [if_pos hv]
theorem IsD.thr (h : IsD P x np k cs) (hl : as.length = np) (ho : noObjL as = true) {v : Ex} (hv : exOk v = true) (w : wp (body P d k cs as) (fun _ _ => False) (fun r _ => r = v) []) : callL P (d + 1) x as = M.thr v := by
  obtain ⟨F, kk, h1, h2, h3, h4⟩ := h.ex
  funext st
  have e : ∃ s, body P d k cs as [] = .ex v s := by
    unfold wp at w
    cases e : body P d k cs as [] with
    | ok a s => rw [e] at w; exact w.elim
    | ex a s => rw [e] at w; rw [show a = v from w]; exact ⟨s, rfl⟩
    | no => rw [e] at w; exact w.elim
  obtain ⟨s, e⟩ := e
  refine callL_eq h1 h4 (hl.trans h2.symm) ?_ (by intro z; cases z)
  unfold runF box
  rw [h3, ho]
  show (match body P d k cs as [] with | .ok r _ => _ | .ex e _ => _ | .no => _) = _
  rw [e]
  show (if exOk v = true then R.ex v st else R.no) = R.ex v st
  rw [if_pos hv]
end
/-! ### slots and targets -/
theorem sl_get_im (d : D) : Sl.get (.im d) = some (d, .sh) := rfl
theorem sl_get_ow (d : D) : Sl.get (.ow d) = some (d, .wk) := rfl
theorem g0 {α : Type} (s : α) (r : List α) : (s :: r)[0]? = some s := rfl
theorem gS {α : Type} (s : α) (r : List α) (n : Nat) : (s :: r)[n + 1]? = r[n]? := rfl
theorem s0 {α : Type} (s t : α) (r : List α) : (s :: r).set 0 t = t :: r := rfl
theorem sS {α : Type} (s t : α) (r : List α) (n : Nat) : (s :: r).set (n + 1) t = s :: r.set n t := rfl
theorem fz_nil (ρ : List Sl) : fzI [] ρ = ρ := rfl
theorem fz_cons (i : Nat) (is : List Nat) (ρ : List Sl) : fzI (i :: is) ρ = fzI is (frzI ρ i) := rfl
theorem frz_im (s : Sl) (r : List Sl) : frzI (s :: r) 0 = frzS s :: r := by
  cases s <;> rfl
theorem frz_S (s : Sl) (r : List Sl) (n : Nat) : frzI (s :: r) (n + 1) = s :: frzI r n := by
  unfold frzI
  rw [gS]
  cases h : r[n]? with
  | none => rfl
  | some t => cases t <;> rfl
theorem frzS_im (d : D) : frzS (.im d) = .im d := rfl
theorem frzS_ow (d : D) : frzS (.ow d) = .im d := rfl
theorem frzS_un : frzS .un = .un := rfl
theorem slotOf_fr (d : D) : slotOf d .fr = some (.ow d) := rfl
theorem slotOf_sh (d : D) : slotOf d .sh = some (.im d) := rfl
theorem wipe_nil (ρ : List Sl) : wipeR ρ [] = ρ := rfl
theorem wipe_cons (ρ : List Sl) (i : Nat) (r : List Nat) : wipeR ρ (i :: r) = (wipeR ρ r).set i .un := rfl
theorem noOw_nil (ρ : List Sl) : noOwI ρ [] = true := rfl
def isOw : Option Sl → Bool
  | some (.ow _) => true
  | _ => false
theorem noOw_cons (ρ : List Sl) (i : Nat) (r : List Nat) : noOwI ρ (i :: r) = (!(isOw ρ[i]?) && noOwI ρ r) := by
  unfold noOwI
  rw [List.all_cons]
  congr 1
  cases ρ[i]? with
  | none => rfl
  | some s => cases s <;> rfl
theorem isOw_im (d : D) : isOw (some (.im d)) = false := rfl
theorem isOw_un : isOw (some .un) = false := rfl
theorem st1_sh (d : D) : st1 (d, .sh) = M.ret d := rfl
theorem st1_fr (d : D) : st1 (d, .fr) = M.ret d := rfl
theorem setI_sh (i : Nat) (c : Bool) (d : D) (ρ : List Sl) : setI i c (d, .sh) ρ = M.ret (.nx, ρ.set i (.im d)) := by
  unfold setI
  cases d <;> cases c <;> rfl
theorem setI_fr (i : Nat) (d : D) (ρ : List Sl) : setI i false (d, .fr) ρ = M.ret (.nx, ρ.set i (.ow d)) := by
  unfold setI
  cases d <;> rfl
theorem setI_cell (i : Nat) (xs : List D) (ρ : List Sl) : setI i true (.lst xs, .fr) ρ = fun st => .ok (.nx, ρ.set i (.im (.obj st.length))) (st ++ [.lst xs]) := rfl
theorem endF_nx (ρ : List Sl) : endF (.nx, ρ) = M.ret (.non, .sh) := rfl
theorem endF_sh (d : D) (ρ : List Sl) : endF (.rt d .sh, ρ) = M.ret (d, .sh) := rfl
theorem endF_fr (d : D) (ρ : List Sl) : endF (.rt d .fr, ρ) = M.ret (d, .fr) := rfl
theorem rtK_sh : rtK .sh = .sh := rfl
theorem rtK_fr : rtK .fr = .fr := rfl
theorem rtK_wk : rtK .wk = .fr := rfl
/-! ### the run -/
theorem en_call (t : Option (Addr × Str)) : (enL P t).call = callL P := rfl
theorem en_P (t : Option (Addr × Str)) : (enL P t).P = P := rfl
theorem en_top (t : Option (Addr × Str)) : (enL P t).top = t := rfl
noncomputable def nextC (E : En) (d : Nat) (cs : List Cm) (q : Fl × List Sl) : M (Fl × List Sl) := match q.1 with
    | .nx => runSs E d cs q.2
    | _ => .ret q
theorem runSs_cons (E : En) (d : Nat) (c : Cm) (cs : List Cm) (ρ : List Sl) : runSs E d (c :: cs) ρ = .bnd (runS E d c ρ) (nextC E d cs) := rfl
theorem runSs_nil (E : En) (d : Nat) (ρ : List Sl) : runSs E d [] ρ = .ret (.nx, ρ) := rfl
theorem next_nx (E : En) (d : Nat) (cs : List Cm) (ρ : List Sl) : nextC E d cs (.nx, ρ) = runSs E d cs ρ := rfl
theorem next_rt (E : En) (d : Nat) (cs : List Cm) (ρ : List Sl) (v : D) (k : Kd) : nextC E d cs (.rt v k, ρ) = .ret (.rt v k, ρ) := rfl
theorem next_bk (E : En) (d : Nat) (cs : List Cm) (ρ : List Sl) : nextC E d cs (.bk, ρ) = .ret (.bk, ρ) := rfl
theorem next_ct (E : En) (d : Nat) (cs : List Cm) (ρ : List Sl) : nextC E d cs (.ct, ρ) = .ret (.ct, ρ) := rfl
theorem forB_sh (f : D → List Sl → M (Fl × List Sl)) (xs : List D) (ρ : List Sl) : forB f (xs, .sh) ρ = forL f xs ρ := rfl
theorem forB_fr (f : D → List Sl → M (Fl × List Sl)) (xs : List D) (ρ : List Sl) : forB f (xs, .fr) ρ = forL f xs ρ := rfl
/-! ### the run by constructors -/
section
variable (E : En) (d : Nat) (ρ : List Sl)
def stepC (E : En) (d : Nat) (tg : Tg) (ifs : List Ts) (elt : Tm) (ρ : List Sl) (x : D) : M (Option D) := match runTg tg x .sh ρ with
  | some ρ' => .bnd (runTs E d .And ifs ρ') fun b => if b then .bnd (runE E d elt ρ') fun y => .bnd (st1 y) fun z => .ret (some z) else .ret none
  | none => .no
def endC (ys : List D) : M DK := if ys.length ≤ lim then .ret (.lst ys, .fr) else .no
noncomputable def stepF (E : En) (d : Nat) (tg : Tg) (b : List Cm) (x : D) (ρ : List Sl) : M (Fl × List Sl) := match runTg tg x .sh ρ with
  | some ρ' => runSs E d b ρ'
  | none => .no
def endT (xs : List D) : M DK := if xs.length ≤ lim then .ret (.tup xs, .sh) else .no
theorem rE_slot (i : Nat) : runE E d (.slot i) ρ = .opt ((ρ[i]?).bind Sl.get) := rfl
theorem rE_val (v : D) : runE E d (.val v) ρ = .ret (v, .sh) := rfl
theorem rE_bin (op : Operator) (a b : Tm) : runE E d (.bin op a b) ρ = .bnd (runE E d a ρ) fun x => .bnd (runE E d b ρ) fun y => .opt (opD op x.1 y.1) := rfl
theorem rE_neg (a : Tm) : runE E d (.neg a) ρ = .bnd (runE E d a ρ) fun x => .opt ((intOf? x.1).map fun i => (.int (-i), .sh)) := rfl
theorem rE_nt (a : Tm) : runE E d (.nt a) ρ = .bnd (runE E d a ρ) fun x => .opt ((tru x.1).map fun b => (.bl (!b), .sh)) := rfl
theorem rE_bop (op : BoolOp) (ts : List Tm) : runE E d (.bop op ts) ρ = runB E d op ts ρ := rfl
theorem rE_cmp (a : Tm) (os : List CmpOp) (ts : List Tm) : runE E d (.cmp a os ts) ρ = .bnd (runE E d a ρ) fun x => .bnd (runC E d x.1 os ts ρ) fun b => .ret (.bl b, .sh) := rfl
theorem rE_ite (c : Ts) (a b : Tm) : runE E d (.ite c a b) ρ = .bnd (runT E d c ρ) fun t => if t then runE E d a ρ else runE E d b ρ := rfl
theorem rE_abs : runE E d .abs ρ = .ret (.non, .sh) := rfl
theorem rE_sl (o lo hi : Tm) : runE E d (.sl o lo hi) ρ = .bnd (runE E d o ρ) fun x => .bnd (.bnd (runE E d lo ρ) fun y => .opt (optI lo.isAbs y.1)) fun l => .bnd (.bnd (runE E d hi ρ) fun y => .opt (optI hi.isAbs y.1)) fun h => .opt (slD x.1 l h) := rfl
theorem rE_rv (o : Tm) : runE E d (.rv o) ρ = .bnd (runE E d o ρ) fun x => .opt (revD x.1) := rfl
theorem rE_sub (o i : Tm) : runE E d (.sub o i) ρ = .bnd (runE E d o ρ) fun x => .bnd (runE E d i ρ) fun y => subD x y := rfl
theorem rE_dct0 : runE E d .dct0 ρ = .ret (.dct [] [], .fr) := rfl
theorem rE_lst (ts : List Tm) : runE E d (.lst ts) ρ = .bnd (runL E d ts ρ) endC := rfl
theorem rE_tup (ts : List Tm) : runE E d (.tup ts) ρ = .bnd (runL E d ts ρ) endT := rfl
theorem rE_comp (tg : Tg) (it : It) (ifs : List Ts) (elt : Tm) (own : List Nat) : runE E d (.comp tg it ifs elt own) ρ = if noOwI ρ own then .bnd (runI E d it ρ) fun items => M.calm (.bnd (compL (stepC E d tg ifs elt (wipeR ρ own)) items.1) endC) else .no := rfl
theorem rE_call (x : Str) (ts : List Tm) : runE E d (.call x ts) ρ = .bnd (runL E d ts ρ) fun xs => E.call d x xs := rfl
theorem rE_callv (i : Nat) (ts : List Tm) : runE E d (.callv i ts) ρ = .bnd (fnX E.P ((ρ[i]?).bind Sl.get)) fun g => .bnd (runL E d ts ρ) fun xs => E.call d g xs := rfl
theorem rE_blt (x : Str) (ts : List Tm) : runE E d (.blt x ts) ρ = .bnd (runW E d ts ρ) fun xs => .opt (bltD x xs) := rfl
theorem rE_isi (t : Tm) (tys : List String) : runE E d (.isi t tys) ρ = .bnd (runE E d t ρ) fun v => .opt ((isiAny v.1 tys).map fun b => (.bl b, .sh)) := rfl
def joinK (x : DK) (m : M DK) : M DK := match x.1 with
  | .str a => .bnd m fun y => joinD a y
  | _ => .no
theorem rE_join (o e : Tm) : runE E d (.join o e) ρ = .bnd (runE E d o ρ) fun x => joinK x (runE E d e ρ) := by
  show M.bnd _ _ = M.bnd _ _
  congr 1
theorem joinK_str (a : Str) (k : Kd) (m : M DK) : joinK (.str a, k) m = .bnd m fun y => joinD a y := rfl
def mthK (m : Str) (x : DK) (q : M DK) : M DK := if mthT m x.1 then .bnd q fun y => .opt (mthD m x.1 y.1) else .no
theorem rE_mth (m : Str) (o e : Tm) : runE E d (.mth m o e) ρ = .bnd (runE E d o ρ) fun x => mthK m x (runE E d e ρ) := rfl
theorem mthK_index (xs : List D) (k : Kd) (q : M DK) : mthK "index" (.lst xs, k) q = .bnd q fun y => .opt ((idxD y.1 xs).map fun j => (.int (j : Nat), .sh)) := rfl
theorem mthK_count (xs : List D) (k : Kd) (q : M DK) : mthK "count" (.lst xs, k) q = .bnd q fun y => .opt ((cntD y.1 xs).map fun j => (.int (j : Nat), .sh)) := rfl
theorem mthK_split (a : Str) (k : Kd) (q : M DK) : mthK "split" (.str a, k) q = .bnd q fun y => .opt (mthD "split" (.str a) y.1) := rfl
theorem rE_rg (x : Str) (a b : Tm) : runE E d (.rg x a b) ρ = .bnd (.bnd (runE E d a ρ) fun u => .bnd (runE E d b ρ) fun v => .opt (rgI u.1 v.1)) fun q => .opt (rngV x q) := rfl
theorem rgI_int (i j : Int) : rgI (.int i) (.int j) = some (i, j) := rfl
theorem rgV_list (i j : Int) (h : 0 ≤ i ∧ i ≤ 16777216 ∧ 0 ≤ j ∧ j ≤ 16777216) : rngV "list" (i, j) = some (.lst (rngD i (j - i).toNat), .fr) := by
  unfold rngV
  rw [if_pos h, if_pos rfl]
theorem rgV_tuple (i j : Int) (h : 0 ≤ i ∧ i ≤ 16777216 ∧ 0 ≤ j ∧ j ≤ 16777216) : rngV "tuple" (i, j) = some (.tup (rngD i (j - i).toNat), .sh) := by
  unfold rngV
  rw [if_pos h, if_neg (by decide)]
theorem rK_nil : runK E d [] ρ = .ret [] := rfl
theorem rK_cons (t : Tm) (ts : List Tm) : runK E d (t :: ts) ρ = .bnd (runE E d t ρ) fun x => .bnd (runK E d ts ρ) fun ys => if isWk x.2 then .no else .ret (x :: ys) := rfl
theorem rE_rfs (b : Tm) : runE E (d + 2) (.rfs b) ρ = refEnd E.P.hds (runE E d b (noOwn ρ)) E.top := rfl
theorem rT_nt (a : Ts) : runT E d (.nt a) ρ = .bnd (runT E d a ρ) fun b => .ret (!b) := rfl
theorem rT_bop (op : BoolOp) (ts : List Ts) : runT E d (.bop op ts) ρ = runTs E d op ts ρ := rfl
theorem rT_ite (c a b : Ts) : runT E d (.ite c a b) ρ = .bnd (runT E d c ρ) fun t => if t then runT E d a ρ else runT E d b ρ := rfl
theorem rT_cmp (a : Tm) (os : List CmpOp) (ts : List Tm) : runT E d (.cmp a os ts) ρ = .bnd (runE E d a ρ) fun x => runC E d x.1 os ts ρ := rfl
theorem rT_of (t : Tm) : runT E d (.of t) ρ = .bnd (runE E d t ρ) fun x => .opt (tru x.1) := rfl
theorem rI_rng1 (a : Tm) : runI E d (.rng1 a) ρ = .bnd (runE E d a ρ) fun x => itR1 x := rfl
theorem rI_rng2 (a b : Tm) : runI E d (.rng2 a b) ρ = .bnd (runE E d a ρ) fun x => .bnd (runE E d b ρ) fun y => itR2 x y := rfl
theorem rI_enum (a : Tm) : runI E d (.enum a) ρ = .bnd (runE E d a ρ) fun x => itE x := rfl
theorem rI_of (t : Tm) : runI E d (.of t) ρ = .bnd (runE E d t ρ) fun x => itO x := rfl
theorem rL_nil : runL E d [] ρ = .ret [] := rfl
theorem rL_star (t : Tm) (ts : List Tm) : runL E d (.star t :: ts) ρ = .bnd (runE E d t ρ) fun x => .bnd (starX x) fun xs => .bnd (runL E d ts ρ) fun ys => .ret (xs ++ ys) := rfl
theorem rL_slot (i : Nat) (ts : List Tm) : runL E d (.slot i :: ts) ρ = .bnd (runE E d (.slot i) ρ) fun x => .bnd (runL E d ts ρ) fun ys => .bnd (st1 x) fun z => .ret (z :: ys) := rfl
theorem rL_val (v : D) (ts : List Tm) : runL E d (.val v :: ts) ρ = .bnd (runE E d (.val v) ρ) fun x => .bnd (runL E d ts ρ) fun ys => .bnd (st1 x) fun z => .ret (z :: ys) := rfl
theorem rL_bin (op : Operator) (a b : Tm) (ts : List Tm) : runL E d (.bin op a b :: ts) ρ = .bnd (runE E d (.bin op a b) ρ) fun x => .bnd (runL E d ts ρ) fun ys => .bnd (st1 x) fun z => .ret (z :: ys) := rfl
theorem rL_neg (a : Tm) (ts : List Tm) : runL E d (.neg a :: ts) ρ = .bnd (runE E d (.neg a) ρ) fun x => .bnd (runL E d ts ρ) fun ys => .bnd (st1 x) fun z => .ret (z :: ys) := rfl
theorem rL_nt (a : Tm) (ts : List Tm) : runL E d (.nt a :: ts) ρ = .bnd (runE E d (.nt a) ρ) fun x => .bnd (runL E d ts ρ) fun ys => .bnd (st1 x) fun z => .ret (z :: ys) := rfl
theorem rL_bop (op : BoolOp) (us : List Tm) (ts : List Tm) : runL E d (.bop op us :: ts) ρ = .bnd (runE E d (.bop op us) ρ) fun x => .bnd (runL E d ts ρ) fun ys => .bnd (st1 x) fun z => .ret (z :: ys) := rfl
theorem rL_cmp (a : Tm) (os : List CmpOp) (us : List Tm) (ts : List Tm) : runL E d (.cmp a os us :: ts) ρ = .bnd (runE E d (.cmp a os us) ρ) fun x => .bnd (runL E d ts ρ) fun ys => .bnd (st1 x) fun z => .ret (z :: ys) := rfl
theorem rL_ite (c : Ts) (a b : Tm) (ts : List Tm) : runL E d (.ite c a b :: ts) ρ = .bnd (runE E d (.ite c a b) ρ) fun x => .bnd (runL E d ts ρ) fun ys => .bnd (st1 x) fun z => .ret (z :: ys) := rfl
theorem rL_sl (o lo hi : Tm) (ts : List Tm) : runL E d (.sl o lo hi :: ts) ρ = .bnd (runE E d (.sl o lo hi) ρ) fun x => .bnd (runL E d ts ρ) fun ys => .bnd (st1 x) fun z => .ret (z :: ys) := rfl
theorem rL_rv (o : Tm) (ts : List Tm) : runL E d (.rv o :: ts) ρ = .bnd (runE E d (.rv o) ρ) fun x => .bnd (runL E d ts ρ) fun ys => .bnd (st1 x) fun z => .ret (z :: ys) := rfl
theorem rL_sub (o i : Tm) (ts : List Tm) : runL E d (.sub o i :: ts) ρ = .bnd (runE E d (.sub o i) ρ) fun x => .bnd (runL E d ts ρ) fun ys => .bnd (st1 x) fun z => .ret (z :: ys) := rfl
theorem rL_lst (us : List Tm) (ts : List Tm) : runL E d (.lst us :: ts) ρ = .bnd (runE E d (.lst us) ρ) fun x => .bnd (runL E d ts ρ) fun ys => .bnd (st1 x) fun z => .ret (z :: ys) := rfl
theorem rL_dct0 (ts : List Tm) : runL E d (.dct0 :: ts) ρ = .bnd (runE E d .dct0 ρ) fun x => .bnd (runL E d ts ρ) fun ys => .bnd (st1 x) fun z => .ret (z :: ys) := rfl
theorem rL_tup (us : List Tm) (ts : List Tm) : runL E d (.tup us :: ts) ρ = .bnd (runE E d (.tup us) ρ) fun x => .bnd (runL E d ts ρ) fun ys => .bnd (st1 x) fun z => .ret (z :: ys) := rfl
theorem rL_comp (tg : Tg) (it : It) (ifs : List Ts) (elt : Tm) (own : List Nat) (ts : List Tm) : runL E d (.comp tg it ifs elt own :: ts) ρ = .bnd (runE E d (.comp tg it ifs elt own) ρ) fun x => .bnd (runL E d ts ρ) fun ys => .bnd (st1 x) fun z => .ret (z :: ys) := rfl
theorem rL_call (x : Str) (us : List Tm) (ts : List Tm) : runL E d (.call x us :: ts) ρ = .bnd (runE E d (.call x us) ρ) fun x => .bnd (runL E d ts ρ) fun ys => .bnd (st1 x) fun z => .ret (z :: ys) := rfl
theorem rL_callv (i : Nat) (us : List Tm) (ts : List Tm) : runL E d (.callv i us :: ts) ρ = .bnd (runE E d (.callv i us) ρ) fun x => .bnd (runL E d ts ρ) fun ys => .bnd (st1 x) fun z => .ret (z :: ys) := rfl
theorem rL_blt (x : Str) (us : List Tm) (ts : List Tm) : runL E d (.blt x us :: ts) ρ = .bnd (runE E d (.blt x us) ρ) fun x => .bnd (runL E d ts ρ) fun ys => .bnd (st1 x) fun z => .ret (z :: ys) := rfl
theorem rL_isi (t : Tm) (tys : List String) (ts : List Tm) : runL E d (.isi t tys :: ts) ρ = .bnd (runE E d (.isi t tys) ρ) fun x => .bnd (runL E d ts ρ) fun ys => .bnd (st1 x) fun z => .ret (z :: ys) := rfl
theorem rL_join (o e : Tm) (ts : List Tm) : runL E d (.join o e :: ts) ρ = .bnd (runE E d (.join o e) ρ) fun x => .bnd (runL E d ts ρ) fun ys => .bnd (st1 x) fun z => .ret (z :: ys) := rfl
theorem rL_mth (m : Str) (o e : Tm) (ts : List Tm) : runL E d (.mth m o e :: ts) ρ = .bnd (runE E d (.mth m o e) ρ) fun x => .bnd (runL E d ts ρ) fun ys => .bnd (st1 x) fun z => .ret (z :: ys) := rfl
theorem rL_rg (x : Str) (a b : Tm) (ts : List Tm) : runL E d (.rg x a b :: ts) ρ = .bnd (runE E d (.rg x a b) ρ) fun x => .bnd (runL E d ts ρ) fun ys => .bnd (st1 x) fun z => .ret (z :: ys) := rfl
theorem rL_rfs (b : Tm) (ts : List Tm) : runL E d (.rfs b :: ts) ρ = .bnd (runE E d (.rfs b) ρ) fun x => .bnd (runL E d ts ρ) fun ys => .bnd (st1 x) fun z => .ret (z :: ys) := rfl
theorem rW_nil : runW E d [] ρ = .ret [] := rfl
theorem rW_cons (t : Tm) (ts : List Tm) : runW E d (t :: ts) ρ = .bnd (runE E d t ρ) fun x => .bnd (runW E d ts ρ) fun ys => .ret (x.1 :: ys) := rfl
theorem tg_nm (i : Nat) (d : D) (k : Kd) (ρ : List Sl) : runTg (.nm i) d k ρ = (slotOf d k).map fun s => ρ.set i s := rfl
theorem tg_tup (ts : List Tg) (ds : List D) (k : Kd) (ρ : List Sl) : runTg (.tup ts) (.tup ds) k ρ = runTgs ts ds ρ := rfl
theorem tg_lst (ts : List Tg) (ds : List D) (k : Kd) (ρ : List Sl) : runTg (.tup ts) (.lst ds) k ρ = runTgs ts ds ρ := rfl
theorem tgs_nil (ρ : List Sl) : runTgs [] [] ρ = some ρ := rfl
theorem tgs_cons (t : Tg) (ts : List Tg) (d : D) (ds : List D) (ρ : List Sl) : runTgs (t :: ts) (d :: ds) ρ = (runTg t d .sh ρ).bind fun ρ' => runTgs ts ds ρ' := by
  show (match runTg t d .sh ρ with | some ρ' => _ | none => _) = _
  cases runTg t d .sh ρ <;> rfl
theorem stepF_tup (ts : List Tg) (b : List Cm) (ds : List D) : stepF E d (.tup ts) b (.tup ds) ρ = (match runTgs ts ds ρ with
  | some ρ' => runSs E d b ρ'
  | none => .no) := rfl
theorem stepC_tup (ts : List Tg) (ifs : List Ts) (elt : Tm) (ds : List D) : stepC E d (.tup ts) ifs elt ρ (.tup ds) = (match runTgs ts ds ρ with
  | some ρ' => .bnd (runTs E d .And ifs ρ') fun b => if b then .bnd (runE E d elt ρ') fun y => .bnd (st1 y) fun z => .ret (some z) else .ret none
  | none => .no) := rfl
theorem rS_ps : runS E d .ps ρ = .ret (.nx, ρ) := rfl
theorem rS_bk : runS E d .bk ρ = .ret (.bk, ρ) := rfl
theorem rS_ct : runS E d .ct ρ = .ret (.ct, ρ) := rfl
theorem rS_ret0 : runS E d .ret0 ρ = .ret (.rt .non .sh, ρ) := rfl
theorem rS_ret (e : Tm) : runS E d (.ret e) ρ = .bnd (runE E d e ρ) fun x => .ret (.rt x.1 (rtK x.2), ρ) := rfl
theorem rS_ite (c : Ts) (a b : List Cm) : runS E d (.ite c a b) ρ = .bnd (runT E d c ρ) fun t => if t then runSs E d a ρ else runSs E d b ρ := rfl
theorem rS_wh (c : Ts) (b : List Cm) : runS E d (.wh c b) ρ = whL (runT E d c) (runSs E d b) ρ := rfl
theorem rS_fr (tg : Tg) (it : It) (b : List Cm) : runS E d (.fr tg it b) ρ = .bnd (runI E d it ρ) fun items => forB (stepF E d tg b) items ρ := rfl
theorem rS_raise (cls : Str) (k : Nat) (ts : List Tm) : runS E d (.raise cls k ts) ρ = raiseD d cls k (runL E d ts ρ) := rfl
theorem rS_app (j : Nat) (e : Tm) : runS E d (.app j e) ρ = appD j (runE E d e ρ) ρ := rfl
theorem rS_ex (e : Tm) : runS E d (.ex e) ρ = .bnd (runE E d e ρ) fun _ => .ret (.nx, ρ) := rfl
theorem rS_asn (i : Nat) (cell : Bool) (e : Tm) : runS E d (.asn i cell e) ρ = .bnd (runE E d e ρ) fun v => setI i cell v ρ := rfl
theorem rS_sasn (j : Nat) (i e : Tm) : runS E d (.sasn j i e) ρ = .bnd (runE E d e ρ) fun v => .bnd (st1 v) fun z => sasnD j z (runE E d i ρ) ρ := rfl
theorem asnB_sh (i j : Nat) (v : D) (ρ : List Sl) : asnBD i j (v, .sh) ρ = .ret (.nx, (ρ.set i (.im v)).set j (.im v)) := rfl
theorem rS_asnB (i j : Nat) (e : Tm) : runS E d (.asnB i j e) ρ = .bnd (runE E d e ρ) fun v => asnBD i j v ρ := rfl
theorem rS_asn2 (i j : Nat) (e1 e2 : Tm) : runS E d (.asn2 i j e1 e2) ρ = .bnd (.bnd (runE E d e1 ρ) fun v => .bnd (runE E d e2 ρ) fun w => pr2 v w) fun vs => asn2D i j vs ρ := rfl
theorem rS_asn3 (i j l : Nat) (ts : List Tm) : runS E d (.asn3 i j l ts) ρ = .bnd (runK E d ts ρ) fun vs => asn3D i j l vs ρ := rfl
theorem rS_ext (j : Nat) (e : Tm) : runS E d (.ext j e) ρ = extD j (runE E d e ρ) ρ := rfl
theorem rS_asnT (tg : Tg) (e : Tm) : runS E d (.asnT tg e) ρ = .bnd (runE E d e ρ) fun v => asnTD tg v ρ := rfl
theorem rS_aug (op : Operator) (i : Nat) (e : Tm) : runS E d (.aug op i e) ρ = augD op i (runE E d e ρ) ρ := rfl
theorem rS_fz (is : List Nat) (c : Cm) : runS E d (.fz is c) ρ = runS E d c (fzI is ρ) := rfl
end
theorem endC_le (ys : List D) (h : ys.length ≤ lim) : endC ys = .ret (.lst ys, .fr) := by unfold endC; rw [if_pos h]
theorem endT_le (ys : List D) (h : ys.length ≤ lim) : endT ys = .ret (.tup ys, .sh) := by unfold endT; rw [if_pos h]
theorem endC_0 : endC [] = .ret (.lst [], .fr) := rfl
theorem endC_1 (a : D) : endC [a] = .ret (.lst [a], .fr) := rfl
theorem endC_2 (a b : D) : endC [a, b] = .ret (.lst [a, b], .fr) := rfl
theorem endC_3 (a b c : D) : endC [a, b, c] = .ret (.lst [a, b, c], .fr) := rfl
theorem endC_4 (a b c e : D) : endC [a, b, c, e] = .ret (.lst [a, b, c, e], .fr) := rfl
theorem endC_5 (a b c e f : D) : endC [a, b, c, e, f] = .ret (.lst [a, b, c, e, f], .fr) := rfl
theorem endC_6 (a b c e f g : D) : endC [a, b, c, e, f, g] = .ret (.lst [a, b, c, e, f, g], .fr) := rfl
theorem endC_7 (a b c e f g h : D) : endC [a, b, c, e, f, g, h] = .ret (.lst [a, b, c, e, f, g, h], .fr) := rfl
theorem endC_8 (a b c e f g h i : D) : endC [a, b, c, e, f, g, h, i] = .ret (.lst [a, b, c, e, f, g, h, i], .fr) := rfl
theorem endT_0 : endT [] = .ret (.tup [], .sh) := rfl
theorem endT_1 (a : D) : endT [a] = .ret (.tup [a], .sh) := rfl
theorem endT_2 (a b : D) : endT [a, b] = .ret (.tup [a, b], .sh) := rfl
theorem endT_3 (a b c : D) : endT [a, b, c] = .ret (.tup [a, b, c], .sh) := rfl
theorem endT_4 (a b c e : D) : endT [a, b, c, e] = .ret (.tup [a, b, c, e], .sh) := rfl
theorem endT_5 (a b c e f : D) : endT [a, b, c, e, f] = .ret (.tup [a, b, c, e, f], .sh) := rfl
theorem endT_6 (a b c e f g : D) : endT [a, b, c, e, f, g] = .ret (.tup [a, b, c, e, f, g], .sh) := rfl
/-- one turn of a comprehension -/
theorem stepC_nm (E : En) (d i : Nat) (ifs : List Ts) (elt : Tm) (ρ : List Sl) (x : D) : stepC E d (.nm i) ifs elt ρ x = .bnd (runTs E d .And ifs (ρ.set i (.im x))) fun b => if b then .bnd (runE E d elt (ρ.set i (.im x))) fun y => .bnd (st1 y) fun z => .ret (some z) else .ret none := rfl
theorem stepF_nm (E : En) (d i : Nat) (b : List Cm) (x : D) (ρ : List Sl) : stepF E d (.nm i) b x ρ = runSs E d b (ρ.set i (.im x)) := rfl
/-! ### the store -/
def subO (l : Nat) (y : D) : M DK := fun st => (match st[l]? with
    | some (.box d) => M.opt ((ixD d y).map fun z => (z, .sh)) st
    | _ => .no)
theorem subD_obj (l : Nat) (k : Kd) (y : D) (k' : Kd) : subD (.obj l, k) (y, k') = subO l y := by cases y <;> rfl
theorem ixD_l (xs : List D) (i : Int) : ixD (.lst xs) (.int i) = atI xs i := rfl
theorem ixD_d (ks vs : List D) (k : D) : ixD (.dct ks vs) k = getD ks vs k := by cases k <;> rfl
section
variable {α : Type} {X : Ex → Store → Prop} {st : Store}
theorem wp_subO {Q : DK → Store → Prop} (l : Nat) (y : D) : wp (subO l y) Q X st = (match st[l]? with
    | some (.box d) => (match ixD d y with
      | some z => Q (z, .sh) st
      | none => False)
    | _ => False) := by
  unfold wp subO
  cases st[l]? with
  | none => rfl
  | some c =>
    cases c with
    | tab _ _ => rfl
    | box d =>
      dsimp only
      cases ixD d y <;> rfl

theorem setAt_l (xs : List D) (q : Int) (z : D) : setAt (.lst xs) (.int q) z = (ixN xs.length q).map fun m => .lst (xs.set m z) := rfl
theorem setAt_d (ks vs : List D) (k z : D) : setAt (.dct ks vs) k z = (putD ks vs k z).map fun p => .dct p.1 p.2 := by cases k <;> rfl
def setO (l : Nat) (q : D) (z : D) (ρ : List Sl) : M (Fl × List Sl) := fun st => (match st[l]? with
      | some (.box b) => (match setAt b q z with
        | some b' => .ok (.nx, ρ) (st.set l (.box b'))
        | none => .no)
      | _ => .no)
theorem wp_setO {Q : Fl × List Sl → Store → Prop} (l : Nat) (q : D) (z : D) (ρ : List Sl) : wp (setO l q z ρ) Q X st = (match st[l]? with
    | some (.box b) => (match setAt b q z with
      | some b' => Q (.nx, ρ) (st.set l (.box b'))
      | none => False)
    | _ => False) := by
  unfold wp setO
  cases st[l]? with
  | none => rfl
  | some c =>
    cases c with
    | tab _ _ => rfl
    | box d =>
      dsimp only
      cases setAt d q z <;> rfl
def setOK (l : Nat) (z : D) (ρ : List Sl) (y : DK) : M (Fl × List Sl) := .bnd (st1 y) fun q => setO l q z ρ
theorem setOK_int (l : Nat) (z : D) (ρ : List Sl) (q : D) : setOK l z ρ (q, .sh) = setO l q z ρ := rfl
def setLK (j : Nat) (b : D) (z : D) (ρ : List Sl) (y : DK) : M (Fl × List Sl) := .bnd (st1 y) fun q => .opt ((setAt b q z).map fun b' => (.nx, ρ.set j (.ow b')))
theorem setLK_int (j : Nat) (b : D) (z : D) (ρ : List Sl) (q : D) : setLK j b z ρ (q, .sh) = .opt ((setAt b q z).map fun b' => (.nx, ρ.set j (.ow b'))) := rfl
def sasnK (o : Option Sl) (j : Nat) (z : D) (m : M DK) (ρ : List Sl) : M (Fl × List Sl) := match o with
  | some (.im (.obj l)) => .bnd m (setOK l z ρ)
  | some (.ow b) => .bnd m (setLK j b z ρ)
  | _ => .no
theorem sasn_K (j : Nat) (z : D) (m : M DK) (ρ : List Sl) : sasnD j z m ρ = sasnK (ρ[j]?) j z m ρ := by
  unfold sasnD sasnK
  rcases ρ[j]? with _ | _ | d | d <;> first | rfl | (cases d <;> rfl)
theorem sasnK_obj (l j : Nat) (z : D) (m : M DK) (ρ : List Sl) : sasnK (some (.im (.obj l))) j z m ρ = .bnd m (setOK l z ρ) := rfl
theorem sasnK_ow (b : D) (j : Nat) (z : D) (m : M DK) (ρ : List Sl) : sasnK (some (.ow b)) j z m ρ = .bnd m (setLK j b z ρ) := rfl
theorem wp_cellD {Q : Fl × List Sl → Store → Prop} (i : Nat) (ks vs : List D) (ρ : List Sl) : wp (setI i true (.dct ks vs, .fr) ρ) Q X st = Q (.nx, ρ.set i (.im (.obj st.length))) (st ++ [.dct ks vs]) := by unfold wp; rfl
theorem wp_cell {Q : Fl × List Sl → Store → Prop} (i : Nat) (xs : List D) (ρ : List Sl) : wp (setI i true (.lst xs, .fr) ρ) Q X st = Q (.nx, ρ.set i (.im (.obj st.length))) (st ++ [.lst xs]) := by unfold wp; rfl
end
end PI
set_option Elab.async false
set_option linter.all false
set_option maxRecDepth 100000
set_option maxHeartbeats 4000000
/-! PW2: operators, built-ins, loops. -/
namespace PI
open PySem PySem.Spec PyProof.Rows L2
/-! ### operators -/
theorem opd_add (i j : Int) : opD .Add (.int i) (.int j) = some (.int (i + j), .sh) := rfl
theorem opd_sub (i j : Int) : opD .Sub (.int i) (.int j) = some (.int (i - j), .sh) := rfl
theorem opd_mul (i j : Int) (h : small64 i = true ∨ small64 j = true) : opD .Mult (.int i) (.int j) = some (.int (i * j), .sh) := by
  unfold opD
  dsimp only
  rw [if_pos]
  rw [Bool.or_eq_true]
  exact h
theorem opd_mod (i j : Int) (h : j ≠ 0) : opD .Mod (.int i) (.int j) = some (.int (i.fmod j), .sh) := by
  unfold opD
  dsimp only
  rw [if_pos h]
theorem opd_fdiv (i j : Int) (h : j ≠ 0) (h2 : j.natAbs < 1073741824) : opD .FloorDiv (.int i) (.int j) = some (.int (i.fdiv j), .sh) := by
  unfold opD
  dsimp only
  rw [if_pos ⟨h, h2⟩]
theorem opd_pow (i j : Int) (h : 0 ≤ j ∧ j ≤ 1000 ∧ i.natAbs < 2 ^ 64) : opD .Pow (.int i) (.int j) = some (.int (i ^ j.toNat), .sh) := by
  unfold opD
  dsimp only
  rw [if_pos h]
theorem opd_addL (a b : List D) (h : a.length + b.length ≤ lim) : opD .Add (.lst a) (.lst b) = some (.lst (a ++ b), .fr) := by
  unfold opD
  dsimp only
  rw [if_pos h]
theorem opd_addT (a b : List D) (h : a.length + b.length ≤ lim) : opD .Add (.tup a) (.tup b) = some (.tup (a ++ b), .sh) := by
  unfold opD
  dsimp only
  rw [if_pos h]
theorem opd_addS (a b : List Nat) (h : a.length + b.length ≤ lim) : opD .Add (.str (SX.S a)) (.str (SX.S b)) = some (.str (SX.S (a ++ b)), .sh) := by
  unfold opD
  dsimp only
  rw [if_pos (by rw [SX.S_len, SX.S_len]; exact h), SX.S_cat]
theorem tru_bl (b : Bool) : tru (.bl b) = some b := rfl
theorem tru_int (i : Int) : tru (.int i) = some (i != 0) := rfl
theorem tru_tup (xs : List D) : tru (.tup xs) = some (!xs.isEmpty) := rfl
theorem tru_lst (xs : List D) : tru (.lst xs) = some (!xs.isEmpty) := rfl
theorem tru_non : tru .non = some false := rfl
theorem int_some (i : Int) : intOf? (.int i) = some i := rfl
theorem cmp_lt (i j : Int) : cmpD .Lt (.int i) (.int j) = some (decide (i < j)) := rfl
theorem cmp_le (i j : Int) : cmpD .LtE (.int i) (.int j) = some (decide (i ≤ j)) := rfl
theorem cmp_gt (i j : Int) : cmpD .Gt (.int i) (.int j) = some (decide (j < i)) := rfl
theorem cmp_ge (i j : Int) : cmpD .GtE (.int i) (.int j) = some (decide (j ≤ i)) := rfl
theorem cmp_eq (a b : D) : cmpD .Eq a b = eqD a b := by cases a <;> cases b <;> rfl
theorem cmp_ne (a b : D) : cmpD .NotEq a b = (eqD a b).map (!·) := by cases a <;> cases b <;> rfl
theorem cmp_in (a b : D) : cmpD .In a b = inD a b := by cases a <;> cases b <;> rfl
theorem cmp_nin (a b : D) : cmpD .NotIn a b = (inD a b).map (!·) := by cases a <;> cases b <;> rfl
theorem cmp_is (a : D) : cmpD .Is a .non = some a.isNon := by cases a <;> rfl
theorem cmp_isnot (a : D) : cmpD .IsNot a .non = some (!a.isNon) := by cases a <;> rfl
theorem cmp_isB (a b : Bool) : cmpD .Is (.bl a) (.bl b) = some (decide (a = b)) := rfl
theorem cmp_isnotB (a b : Bool) : cmpD .IsNot (.bl a) (.bl b) = some (!decide (a = b)) := rfl
theorem isNon_int (i : Int) : D.isNon (.int i) = false := rfl
theorem isNon_bl (i : Bool) : D.isNon (.bl i) = false := rfl
theorem isNon_str (i : Str) : D.isNon (.str i) = false := rfl
theorem isNon_tup (i : List D) : D.isNon (.tup i) = false := rfl
theorem isNon_lst (i : List D) : D.isNon (.lst i) = false := rfl
theorem isNon_non : D.isNon .non = true := rfl
theorem eqD_of {a b : D} (ha : cmpOk a = true) (hb : cmpOk b = true) : eqD a b = some (PyData.eqv a.py b.py) := by
  unfold eqD
  rw [ha, hb]
  rfl
theorem cmpOk_int (i : Int) : cmpOk (.int i) = true := rfl
theorem cmpOk_bl (i : Bool) : cmpOk (.bl i) = true := rfl
theorem cmpOk_non : cmpOk .non = true := rfl
theorem eqD_int (i j : Int) : eqD (.int i) (.int j) = some (i == j) := by
  rw [eqD_of rfl rfl]
  simp only [D.py, PyData.eqv]
theorem eqD_bl (i j : Bool) : eqD (.bl i) (.bl j) = some (i == j) := by
  rw [eqD_of rfl rfl]
  simp only [D.py, PyData.eqv]
/-! ### data by their order -/
theorem blw_sorted (xs : List D) (h : srtB xs = true) : bltD "sorted" [.lst xs] = some (.lst (sortD xs), .fr) := by
  unfold bltD
  rw [if_neg (by decide), if_neg (by decide), if_neg (by decide), if_neg (by decide), if_neg (by decide), if_neg (by decide), if_neg (by decide), if_neg (by decide), if_neg (by decide), if_pos rfl]
  dsimp only
  rw [if_pos h]
theorem blw_sortedT (xs : List D) (h : srtB xs = true) : bltD "sorted" [.tup xs] = some (.lst (sortD xs), .fr) := by
  unfold bltD
  rw [if_neg (by decide), if_neg (by decide), if_neg (by decide), if_neg (by decide), if_neg (by decide), if_neg (by decide), if_neg (by decide), if_neg (by decide), if_neg (by decide), if_pos rfl]
  dsimp only
  rw [if_pos h]
theorem blw_sum (xs : List D) (ns : List Int) (h : mapO intOf? xs = some ns) : bltD "sum" [.lst xs] = some (.int ns.sum, .sh) := by
  unfold bltD
  rw [if_neg (by decide), if_neg (by decide), if_neg (by decide), if_neg (by decide), if_neg (by decide), if_neg (by decide), if_neg (by decide), if_neg (by decide), if_neg (by decide), if_neg (by decide), if_pos rfl]
  dsimp only
  rw [h]
  rfl
theorem blw_repr (xs : List D) : bltD "repr" [.tup xs] = (repD (.tup xs)).map fun z => (.str z, .sh) := by
  unfold bltD
  rw [if_neg (by decide), if_neg (by decide), if_neg (by decide), if_neg (by decide), if_neg (by decide), if_neg (by decide), if_neg (by decide), if_neg (by decide), if_neg (by decide), if_neg (by decide), if_neg (by decide), if_pos rfl]
theorem blw_maxL (xs : List D) : bltD "max" [.lst xs] = (maxL xs).map fun d => (d, .sh) := by
  unfold bltD
  rw [if_neg (by decide), if_neg (by decide), if_neg (by decide), if_neg (by decide), if_neg (by decide), if_neg (by decide), if_neg (by decide), if_pos rfl]
theorem blw_maxT (xs : List D) : bltD "max" [.tup xs] = (maxL xs).map fun d => (d, .sh) := by
  unfold bltD
  rw [if_neg (by decide), if_neg (by decide), if_neg (by decide), if_neg (by decide), if_neg (by decide), if_neg (by decide), if_neg (by decide), if_pos rfl]
theorem blw_minL (xs : List D) : bltD "min" [.lst xs] = (minL xs).map fun d => (d, .sh) := by
  unfold bltD
  rw [if_neg (by decide), if_neg (by decide), if_neg (by decide), if_neg (by decide), if_neg (by decide), if_neg (by decide), if_neg (by decide), if_neg (by decide), if_pos rfl]
theorem blw_minT (xs : List D) : bltD "min" [.tup xs] = (minL xs).map fun d => (d, .sh) := by
  unfold bltD
  rw [if_neg (by decide), if_neg (by decide), if_neg (by decide), if_neg (by decide), if_neg (by decide), if_neg (by decide), if_neg (by decide), if_neg (by decide), if_pos rfl]
/-! ### subscripts -/
theorem sub_l (xs : List D) (k : Kd) (i : Int) (k' : Kd) : subD (.lst xs, k) (.int i, k') = .opt ((atI xs i).map fun z => (z, .sh)) := rfl
theorem sub_t (xs : List D) (k : Kd) (i : Int) (k' : Kd) : subD (.tup xs, k) (.int i, k') = .opt ((atI xs i).map fun z => (z, .sh)) := rfl
theorem sub_d (ks vs : List D) (k : Kd) (y : D) (k' : Kd) : subD (.dct ks vs, k) (y, k') = .opt ((getD ks vs y).map fun z => (z, .sh)) := by cases y <;> rfl
theorem inD_d (ks vs : List D) (k : D) : inD k (.dct ks vs) = hasD ks k := by cases k <;> rfl
theorem sub_scr (ns : List Int) (k : Kd) (i : Int) (k' : Kd) : subD (.scr ns, k) (.int i, k') = .opt (((atI ns i).map .int).map fun z => (z, .sh)) := rfl
theorem at_0 {α : Type} (x : α) (r : List α) : atI (x :: r) 0 = some x := by
  unfold atI ixN
  simp
theorem at_1 {α : Type} (x y : α) (r : List α) : atI (x :: y :: r) 1 = some y := by
  unfold atI ixN
  rw [if_pos (by decide), if_pos (by simp only [List.length_cons]; omega)]
  rfl
theorem at_2 {α : Type} (x y z : α) (r : List α) : atI (x :: y :: z :: r) 2 = some z := by
  unfold atI ixN
  rw [if_pos (by decide), if_pos (by simp only [List.length_cons]; omega)]
  rfl
theorem at_3 {α : Type} (x y z u : α) (r : List α) : atI (x :: y :: z :: u :: r) 3 = some u := by
  unfold atI ixN
  rw [if_pos (by decide), if_pos (by simp only [List.length_cons]; omega)]
  rfl
theorem ix_0 (n : Nat) : ixN (n + 1) 0 = some 0 := by
  unfold ixN
  rw [if_pos (by decide), if_pos (by omega)]
  rfl
theorem ix_1 (n : Nat) : ixN (n + 1 + 1) 1 = some 1 := by
  unfold ixN
  rw [if_pos (by decide), if_pos (by omega)]
  rfl
theorem ix_2 (n : Nat) : ixN (n + 1 + 1 + 1) 2 = some 2 := by
  unfold ixN
  rw [if_pos (by decide), if_pos (by omega)]
  rfl
theorem ix_3 (n : Nat) : ixN (n + 1 + 1 + 1 + 1) 3 = some 3 := by
  unfold ixN
  rw [if_pos (by decide), if_pos (by omega)]
  rfl
theorem at_nat {α : Type} (xs : List α) (i : Int) (h0 : 0 ≤ i) (h : i < xs.length) : atI xs i = xs[i.toNat]? := by
  unfold atI ixN
  rw [if_pos h0, if_pos h]
  rfl
theorem at_get {α : Type} (xs : List α) (i : Int) (h0 : 0 ≤ i) (h : i.toNat < xs.length) : atI xs i = some xs[i.toNat] := by
  rw [at_nat xs i h0 (by omega), List.getElem?_eq_getElem h]
theorem at_map {α β : Type} (f : α → β) (xs : List α) (i : Int) : atI (xs.map f) i = (atI xs i).map f := by
  unfold atI
  rw [List.length_map]
  cases ixN xs.length i with
  | none => rfl
  | some j => show (xs.map f)[j]? = _; rw [List.getElem?_map]; rfl
theorem sub_s (a : List Nat) (k : Kd) (i : Int) (k' : Kd) (h : a.length ≤ lim) : subD (.str (SX.S a), k) (.int i, k') = .opt (((atI a i).map fun c => D.str (SX.S [c])).map fun z => (z, .sh)) := by
  show M.opt ((ixD (.str (SX.S a)) (.int i)).map _) = _
  unfold ixD
  dsimp only
  rw [if_pos (by rw [SX.S_len]; exact h)]
/-! ### built-ins -/
theorem blw_len (a : D) : bltD "len" [a] = (lenD a).map fun n => (.int n, .sh) := by
  unfold bltD
  rw [if_pos rfl]
  dsimp only
  cases lenD a <;> rfl
theorem blw_int (i : Int) : bltD "int" [.int i] = some (.int i, .sh) := by
  unfold bltD
  rw [if_neg (by decide), if_pos rfl]
theorem blw_list (xs : List D) : bltD "list" [.lst xs] = some (.lst xs, .fr) := by
  unfold bltD
  rw [if_neg (by decide), if_neg (by decide), if_pos rfl]
theorem blw_listT (xs : List D) : bltD "list" [.tup xs] = some (.lst xs, .fr) := by
  unfold bltD
  rw [if_neg (by decide), if_neg (by decide), if_pos rfl]
theorem blw_tup (xs : List D) : bltD "tuple" [.lst xs] = some (.tup xs, .sh) := by
  unfold bltD
  rw [if_neg (by decide), if_neg (by decide), if_neg (by decide), if_pos rfl]
theorem blw_tupT (xs : List D) : bltD "tuple" [.tup xs] = some (.tup xs, .sh) := by
  unfold bltD
  rw [if_neg (by decide), if_neg (by decide), if_neg (by decide), if_pos rfl]
theorem blw_all (xs : List D) : bltD "all" [.lst xs] = (allB xs).map fun b => (.bl b, .sh) := by
  unfold bltD
  rw [if_neg (by decide), if_neg (by decide), if_neg (by decide), if_neg (by decide), if_neg (by decide), if_pos rfl]
theorem blw_any (xs : List D) : bltD "any" [.lst xs] = (anyB xs).map fun b => (.bl b, .sh) := by
  unfold bltD
  rw [if_neg (by decide), if_neg (by decide), if_neg (by decide), if_neg (by decide), if_neg (by decide), if_neg (by decide), if_pos rfl]
theorem blw_abs (i : Int) : bltD "abs" [.int i] = some (.int (if i < 0 then -i else i), .sh) := by
  unfold bltD
  rw [if_neg (by decide), if_neg (by decide), if_neg (by decide), if_neg (by decide), if_pos rfl]
theorem blw_max (i j : Int) : bltD "max" [.int i, .int j] = some (.int (if j > i then j else i), .sh) := by
  unfold bltD
  rw [if_neg (by decide), if_neg (by decide), if_neg (by decide), if_neg (by decide), if_neg (by decide), if_neg (by decide), if_neg (by decide), if_pos rfl]
theorem blw_min (i j : Int) : bltD "min" [.int i, .int j] = some (.int (if j < i then j else i), .sh) := by
  unfold bltD
  rw [if_neg (by decide), if_neg (by decide), if_neg (by decide), if_neg (by decide), if_neg (by decide), if_neg (by decide), if_neg (by decide), if_neg (by decide), if_pos rfl]
theorem len_l (xs : List D) : lenD (.lst xs) = some xs.length := rfl
theorem len_t (xs : List D) : lenD (.tup xs) = some xs.length := rfl
theorem len_d (ks vs : List D) : lenD (.dct ks vs) = some ks.length := rfl
theorem len_scr (xs : List Int) : lenD (.scr xs) = some xs.length := rfl
theorem len_s (a : List Nat) (h : a.length ≤ lim) : lenD (.str (SX.S a)) = some a.length := by
  unfold lenD
  dsimp only
  rw [SX.S_len, if_pos h]
theorem mapO_bl (bs : List Bool) : mapO blOf? (bs.map .bl) = some bs := by
  induction bs with
  | nil => rfl
  | cons b r ih =>
    simp only [List.map_cons, mapO, ih]
    rfl
theorem all_bl {α : Type} (f : α → Bool) (l : List α) : allB (l.map fun a => .bl (f a)) = some (l.all f) := by
  unfold allB
  rw [show (l.map fun a => D.bl (f a)) = (l.map f).map .bl by rw [List.map_map]; rfl, mapO_bl]
  simp
theorem any_bl {α : Type} (f : α → Bool) (l : List α) : anyB (l.map fun a => .bl (f a)) = some (l.any f) := by
  unfold anyB
  rw [show (l.map fun a => D.bl (f a)) = (l.map f).map .bl by rw [List.map_map]; rfl, mapO_bl]
  simp
/-! ### isinstance -/
theorem isi_non_listtuple : isiAny .non ["list", "tuple"] = some false := by decide
theorem isi_non_tuplelist : isiAny .non ["tuple", "list"] = some false := by decide
theorem isi_non_int : isiAny .non ["int"] = some false := by decide
theorem isi_non_bool : isiAny .non ["bool"] = some false := by decide
theorem isi_non_str : isiAny .non ["str"] = some false := by decide
theorem isi_non_tuple : isiAny .non ["tuple"] = some false := by decide
theorem isi_non_list : isiAny .non ["list"] = some false := by decide
theorem isi_non_dict : isiAny .non ["dict"] = some false := by decide
theorem isi_non_intstr : isiAny .non ["int", "str"] = some false := by decide
theorem isi_bl_listtuple (b : Bool) : isiAny (.bl b) ["list", "tuple"] = some false := rfl
theorem isi_bl_tuplelist (b : Bool) : isiAny (.bl b) ["tuple", "list"] = some false := rfl
theorem isi_bl_int (b : Bool) : isiAny (.bl b) ["int"] = some true := rfl
theorem isi_bl_bool (b : Bool) : isiAny (.bl b) ["bool"] = some true := rfl
theorem isi_bl_str (b : Bool) : isiAny (.bl b) ["str"] = some false := rfl
theorem isi_bl_tuple (b : Bool) : isiAny (.bl b) ["tuple"] = some false := rfl
theorem isi_bl_list (b : Bool) : isiAny (.bl b) ["list"] = some false := rfl
theorem isi_bl_dict (b : Bool) : isiAny (.bl b) ["dict"] = some false := rfl
theorem isi_bl_intstr (b : Bool) : isiAny (.bl b) ["int", "str"] = some true := rfl
theorem isi_int_listtuple (i : Int) : isiAny (.int i) ["list", "tuple"] = some false := rfl
theorem isi_int_tuplelist (i : Int) : isiAny (.int i) ["tuple", "list"] = some false := rfl
theorem isi_int_int (i : Int) : isiAny (.int i) ["int"] = some true := rfl
theorem isi_int_bool (i : Int) : isiAny (.int i) ["bool"] = some false := rfl
theorem isi_int_str (i : Int) : isiAny (.int i) ["str"] = some false := rfl
theorem isi_int_tuple (i : Int) : isiAny (.int i) ["tuple"] = some false := rfl
theorem isi_int_list (i : Int) : isiAny (.int i) ["list"] = some false := rfl
theorem isi_int_dict (i : Int) : isiAny (.int i) ["dict"] = some false := rfl
theorem isi_int_intstr (i : Int) : isiAny (.int i) ["int", "str"] = some true := rfl
theorem isi_str_listtuple (s : Str) : isiAny (.str s) ["list", "tuple"] = some false := rfl
theorem isi_str_tuplelist (s : Str) : isiAny (.str s) ["tuple", "list"] = some false := rfl
theorem isi_str_int (s : Str) : isiAny (.str s) ["int"] = some false := rfl
theorem isi_str_bool (s : Str) : isiAny (.str s) ["bool"] = some false := rfl
theorem isi_str_str (s : Str) : isiAny (.str s) ["str"] = some true := rfl
theorem isi_str_tuple (s : Str) : isiAny (.str s) ["tuple"] = some false := rfl
theorem isi_str_list (s : Str) : isiAny (.str s) ["list"] = some false := rfl
theorem isi_str_dict (s : Str) : isiAny (.str s) ["dict"] = some false := rfl
theorem isi_str_intstr (s : Str) : isiAny (.str s) ["int", "str"] = some true := rfl
theorem isi_tup_listtuple (xs : List D) : isiAny (.tup xs) ["list", "tuple"] = some true := rfl
theorem isi_tup_tuplelist (xs : List D) : isiAny (.tup xs) ["tuple", "list"] = some true := rfl
theorem isi_tup_int (xs : List D) : isiAny (.tup xs) ["int"] = some false := rfl
theorem isi_tup_bool (xs : List D) : isiAny (.tup xs) ["bool"] = some false := rfl
theorem isi_tup_str (xs : List D) : isiAny (.tup xs) ["str"] = some false := rfl
theorem isi_tup_tuple (xs : List D) : isiAny (.tup xs) ["tuple"] = some true := rfl
theorem isi_tup_list (xs : List D) : isiAny (.tup xs) ["list"] = some false := rfl
theorem isi_tup_dict (xs : List D) : isiAny (.tup xs) ["dict"] = some false := rfl
theorem isi_tup_intstr (xs : List D) : isiAny (.tup xs) ["int", "str"] = some false := rfl
theorem isi_lst_listtuple (xs : List D) : isiAny (.lst xs) ["list", "tuple"] = some true := rfl
theorem isi_lst_tuplelist (xs : List D) : isiAny (.lst xs) ["tuple", "list"] = some true := rfl
theorem isi_lst_int (xs : List D) : isiAny (.lst xs) ["int"] = some false := rfl
theorem isi_lst_bool (xs : List D) : isiAny (.lst xs) ["bool"] = some false := rfl
theorem isi_lst_str (xs : List D) : isiAny (.lst xs) ["str"] = some false := rfl
theorem isi_lst_tuple (xs : List D) : isiAny (.lst xs) ["tuple"] = some false := rfl
theorem isi_lst_list (xs : List D) : isiAny (.lst xs) ["list"] = some true := rfl
theorem isi_lst_dict (xs : List D) : isiAny (.lst xs) ["dict"] = some false := rfl
theorem isi_lst_intstr (xs : List D) : isiAny (.lst xs) ["int", "str"] = some false := rfl
/-! ### slices -/
theorem sl_l (xs : List D) (lo hi : Option Int) : slD (.lst xs) lo hi = some (.lst (cutL xs lo hi), .fr) := rfl
theorem sl_t (xs : List D) (lo hi : Option Int) : slD (.tup xs) lo hi = some (.tup (cutL xs lo hi), .sh) := rfl
theorem sl_s (a : List Nat) (lo hi : Option Int) (h : a.length ≤ lim) : slD (.str (SX.S a)) lo hi = some (.str (SX.S (cutL a lo hi)), .sh) := by
  unfold slD
  dsimp only
  rw [if_pos (by rw [SX.S_len]; exact h)]
  rfl
theorem rv_l (xs : List D) : revD (.lst xs) = some (.lst xs.reverse, .fr) := rfl
theorem rv_s (a : List Nat) (h : a.length ≤ lim) : revD (.str (SX.S a)) = some (.str (SX.S a.reverse), .sh) := by
  unfold revD
  dsimp only
  rw [if_pos (by rw [SX.S_len]; exact h)]
theorem cut_map {α β : Type} (f : α → β) (xs : List α) (lo hi : Option Int) : cutL (xs.map f) lo hi = (cutL xs lo hi).map f := by
  unfold cutL
  rw [List.length_map, ← List.map_drop, ← List.map_take]
theorem cut_from {α : Type} (xs : List α) (i : Int) (h0 : 0 ≤ i) : cutL xs (some i) none = xs.drop i.toNat := by
  unfold cutL HT.sIx
  dsimp only
  rw [if_neg (by omega)]
  have : (List.drop (min i.toNat xs.length) xs) = xs.drop i.toNat := by
    rcases Nat.le_total i.toNat xs.length with h | h
    · rw [Nat.min_eq_left h]
    · rw [Nat.min_eq_right h, List.drop_eq_nil_of_le h, List.drop_eq_nil_of_le (Nat.le_refl _)]
  rw [this]
  apply List.take_of_length_le
  rw [List.length_drop]
  omega
theorem cut_to {α : Type} (xs : List α) (i : Int) (h0 : 0 ≤ i) : cutL xs none (some i) = xs.take i.toNat := by
  unfold cutL HT.sIx
  dsimp only
  rw [if_neg (by omega), List.drop_zero, Nat.sub_zero]
  rcases Nat.le_total i.toNat xs.length with h | h
  · rw [Nat.min_eq_left h]
  · rw [Nat.min_eq_right h, List.take_of_length_le h, List.take_of_length_le (Nat.le_refl _)]
/-! ### what is walked -/
theorem aug_add (a b : Int) : augI .Add a (.int b) = some (.int (a + b)) := rfl
theorem aug_sub (a b : Int) : augI .Sub a (.int b) = some (.int (a - b)) := rfl
theorem small64_lit {b : Int} (h : -18446744073709551616 < b ∧ b < 18446744073709551616) : small64 b = true := by
  unfold small64
  exact decide_eq_true (by omega)
theorem aug_mul (a b : Int) (h : -18446744073709551616 < b ∧ b < 18446744073709551616) : augI .Mult a (.int b) = some (.int (a * b)) := by
  show (if (small64 a || small64 b) = true then some (D.int (a * b)) else none) = _
  rw [small64_lit h, Bool.or_true, if_pos rfl]
theorem aug_mul2 (a : Int) : augI .Mult a (.int 2) = some (.int (a * 2)) := aug_mul a 2 (by omega)
theorem aug_div (a b : Int) (h : 0 < b ∧ b < 1073741824) : augI .FloorDiv a (.int b) = some (.int (a / b)) := by
  show (if 0 < b ∧ b < 1073741824 then some (D.int (a / b)) else none) = _
  rw [if_pos h]
theorem aug_div2 (a : Int) : augI .FloorDiv a (.int 2) = some (.int (a / 2)) := aug_div a 2 (by omega)
theorem aug_div4 (a : Int) : augI .FloorDiv a (.int 4) = some (.int (a / 4)) := aug_div a 4 (by omega)
theorem itO_l (xs : List D) (k : Kd) : itO (.lst xs, k) = .ret (xs, k) := rfl
theorem itO_t (xs : List D) (k : Kd) : itO (.tup xs, k) = .ret (xs, .sh) := rfl
theorem itO_d (ks vs : List D) (k : Kd) : itO (.dct ks vs, k) = .ret (ks, k) := rfl
theorem itO_s (a : List Nat) (k : Kd) : itO (.str (SX.S a), k) = .ret (a.map fun c => D.str (SX.S [c]), .sh) := rfl
theorem itE_l (xs : List D) (k : Kd) : itE (.lst xs, k) = .ret (enumD 0 xs, k) := rfl
theorem itE_s (a : List Nat) (k : Kd) : itE (.str (SX.S a), k) = .ret (enumD 0 (a.map fun c => D.str (SX.S [c])), .sh) := rfl
theorem itE_t (xs : List D) (k : Kd) : itE (.tup xs, k) = .ret (enumD 0 xs, .sh) := rfl
/-- the numbers from lo, so many -/
def iota (lo : Int) (n : Nat) : List Int := (List.range n).map fun (i : Nat) => lo + (i : Int)
theorem rng_iota : ∀ (lo : Int) (n : Nat), rngD lo n = (iota lo n).map .int
  | lo, 0 => rfl
  | lo, n + 1 => by
    unfold rngD
    rw [rng_iota (lo + 1) n]
    unfold iota
    rw [List.range_succ_eq_map]
    simp only [List.map_cons, List.map_map]
    congr 1
    · simp
    · apply List.map_congr_left
      intro i _
      simp only [Function.comp]
      congr 1
      omega
theorem itR1_int (j : Int) (k : Kd) (h : in62 j = true) : itR1 (.int j, k) = .ret ((iota 0 j.toNat).map .int, .sh) := by
  unfold itR1
  dsimp only
  rw [if_pos h, rng_iota]
theorem itR2_int (i j : Int) (k k' : Kd) (h : in62 i = true) (h' : in62 j = true) : itR2 (.int i, k) (.int j, k') = .ret ((iota i (j - i).toNat).map .int, .sh) := by
  unfold itR2
  dsimp only
  rw [h, h', rng_iota]
  rfl
theorem mem_iota {lo : Int} {n : Nat} {i : Int} : i ∈ iota lo n ↔ lo ≤ i ∧ i < lo + n := by
  unfold iota
  rw [List.mem_map]
  constructor
  · rintro ⟨k, hk, rfl⟩
    rw [List.mem_range] at hk
    omega
  · intro h
    exact ⟨(i - lo).toNat, by rw [List.mem_range]; omega, by omega⟩
/-! ### loops -/
section
variable {α β : Type}
theorem comp_map (e : α → D) (g : α → D) {F : D → M (Option D)} (l : List α) (h : ∀ a ∈ l, F (e a) = .ret (some (g a))) : compL F (l.map e) = .ret (l.map g) := by
  induction l with
  | nil => rfl
  | cons x r ih =>
    show M.bnd (F (e x)) _ = _
    rw [h x (by simp), bnd_ret', ih fun a m => h a (by simp [m])]
    rfl
theorem comp_fm (e : α → D) (g : α → Option D) {F : D → M (Option D)} (l : List α) (h : ∀ a ∈ l, F (e a) = .ret (g a)) : compL F (l.map e) = .ret (l.filterMap g) := by
  induction l with
  | nil => rfl
  | cons x r ih =>
    show M.bnd (F (e x)) _ = _
    rw [h x (by simp), bnd_ret', ih fun a m => h a (by simp [m]), bnd_ret', List.filterMap_cons]
    cases g x <;> rfl
theorem comp_flt (e : α → D) (p : α → Bool) (g : α → D) {F : D → M (Option D)} (l : List α) (h : ∀ a ∈ l, F (e a) = .ret (if p a then some (g a) else none)) : compL F (l.map e) = .ret ((l.filter p).map g) := by
  rw [comp_fm e (fun a => if p a then some (g a) else none) l h]
  congr 1
  induction l with
  | nil => rfl
  | cons x r ih =>
    rw [List.filterMap_cons, List.filter_cons]
    cases p x
    · exact ih fun a m => h a (by simp [m])
    · simp only [if_true, List.map_cons]
      rw [ih fun a m => h a (by simp [m])]
/-- a loop that stores a state -/
theorem for_fold {σ : Type} (e : α → D) (enc : σ → List Sl) (g : σ → α → σ) {F : D → List Sl → M (Fl × List Sl)} : ∀ (l : List α) (s : σ), (∀ a ∈ l, ∀ s, F (e a) (enc s) = .ret (.nx, enc (g s a))) → forL F (l.map e) (enc s) = .ret (.nx, enc (l.foldl g s))
  | [], s, _ => rfl
  | x :: r, s, h => by
    show M.bnd (F (e x) (enc s)) _ = _
    rw [h x (by simp) s, bnd_ret']
    exact for_fold e enc g r (g s x) fun a m s => h a (by simp [m]) s
/-- a loop that leaves at the first that is so -/
theorem for_first (e : α → D) {F : D → List Sl → M (Fl × List Sl)} (I : List Sl → Prop) (p : α → Bool) (v : α → D) (k : Kd) : ∀ (l : List α) (ρ : List Sl), I ρ → (∀ a ∈ l, ∀ ρ, I ρ → ∃ ρ', F (e a) ρ = .ret (if p a then (.rt (v a) k, ρ') else (.nx, ρ')) ∧ (p a = false → I ρ')) →
    ∃ ρ', forL F (l.map e) ρ = .ret (match l.find? p with | some a => (.rt (v a) k, ρ') | none => (.nx, ρ')) ∧ (l.find? p = none → I ρ')
  | [], ρ, hi, _ => ⟨ρ, rfl, fun _ => hi⟩
  | x :: r, ρ, hi, h => by
    obtain ⟨ρ1, h1, h2⟩ := h x (by simp) ρ hi
    show ∃ ρ', M.bnd (F (e x) ρ) _ = _ ∧ _
    rw [h1, bnd_ret', List.find?_cons]
    cases hp : p x with
    | true => exact ⟨ρ1, rfl, fun z => by cases z⟩
    | false => exact for_first e I p v k r ρ1 (h2 hp) fun a m ρ i => h a (by simp [m]) ρ i
/-- a loop by what holds -/
theorem for_wp (e : α → D) {F : D → List Sl → M (Fl × List Sl)} {Q : Fl × List Sl → Store → Prop} {X : Ex → Store → Prop} (I : List α → List Sl → Store → Prop) : ∀ (l : List α) (ρ : List Sl) (st : Store), I l ρ st →
    (∀ a r ρ st, I (a :: r) ρ st → wp (F (e a) ρ) (fun q s => match q.1 with | .nx => I r q.2 s | .ct => I r q.2 s | .bk => Q (.nx, q.2) s | .rt v k => Q (.rt v k, q.2) s) X st) → (∀ ρ st, I [] ρ st → Q (.nx, ρ) st) → wp (forL F (l.map e) ρ) Q X st
  | [], ρ, st, hi, _, hz => by
    show wp (M.ret (.nx, ρ)) Q X st
    rw [wp_ret]
    exact hz ρ st hi
  | x :: r, ρ, st, hi, h, hz => by
    show wp (M.bnd (F (e x) ρ) _) Q X st
    rw [wp_bnd]
    refine wp_mono (h x r ρ st hi) (fun q s hq => ?_) fun _ _ h => h
    obtain ⟨fl, ρ'⟩ := q
    cases fl with
    | nx => exact for_wp e I r ρ' s hq h hz
    | ct => exact for_wp e I r ρ' s hq h hz
    | bk =>
      show wp (M.ret (.nx, ρ')) Q X s
      rw [wp_ret]
      exact hq
    | rt v k =>
      show wp (M.ret (.rt v k, ρ')) Q X s
      rw [wp_ret]
      exact hq
end
end PI
set_option Elab.async false
set_option linter.all false
set_option maxRecDepth 100000
set_option maxHeartbeats 4000000
/-! PW3: more of the walk. -/
namespace PI
open PySem PySem.Spec PyProof.Rows L2
/-- a list or a tuple -/
def sq : Bool → List D → D
  | true, xs => .tup xs
  | false, xs => .lst xs
theorem in_sign (c : Nat) (a : List Nat) : inD (.str (SX.S [c])) (.str (SX.S a)) = some (decide (c ∈ a)) := by
  unfold inD
  dsimp only
  rw [SX.in_one]
theorem enum_map {α : Type} (f : α → D) : ∀ (l : List α) (i : Nat), enumD i (l.map f) = (l.zipIdx i).map fun p => .tup [.int p.2, f p.1]
  | [], i => rfl
  | x :: r, i => by
    rw [List.map_cons, List.zipIdx_cons, List.map_cons, ← enum_map f r (i + 1)]
    rfl
theorem noObj_map {α : Type} {f : α → D} {l : List α} (h : ∀ a ∈ l, (f a).noObj = true) : noObjL (l.map f) = true := by
  induction l with
  | nil => rfl
  | cons x r ih =>
    show ((f x).noObj && noObjL (r.map f)) = true
    rw [h x (by simp), ih fun a m => h a (by simp [m])]
    rfl
theorem noObj_lst (xs : List D) : (D.lst xs).noObj = noObjL xs := by unfold D.noObj; rfl
theorem noObj_tup (xs : List D) : (D.tup xs).noObj = noObjL xs := by unfold D.noObj; rfl
theorem noObj_int (i : Int) : (D.int i).noObj = true := by unfold D.noObj; rfl
theorem noObj_bl (i : Bool) : (D.bl i).noObj = true := by unfold D.noObj; rfl
theorem noObj_str (i : Str) : (D.str i).noObj = true := by unfold D.noObj; rfl
theorem noObj_non : (D.non).noObj = true := by unfold D.noObj; rfl
theorem noObj_scr (ns : List Int) : (D.scr ns).noObj = true := by unfold D.noObj; rfl
theorem noObj_obj (l : Nat) : (D.obj l).noObj = false := by unfold D.noObj; rfl
theorem noObjL_nil : noObjL [] = true := by unfold noObjL; rfl
theorem noObjL_cons (x : D) (r : List D) : noObjL (x :: r) = (x.noObj && noObjL r) := by rw [noObjL]
theorem noObjL_app (a b : List D) : noObjL (a ++ b) = (noObjL a && noObjL b) := by
  induction a with
  | nil => rw [noObjL_nil]; rfl
  | cons x r ih => rw [List.cons_append, noObjL_cons, noObjL_cons, ih, Bool.and_assoc]
theorem stop_or (b : Bool) : stopB .Or b = b := by cases b <;> rfl
theorem stop_and (b : Bool) : stopB .And b = !b := by cases b <;> rfl
theorem raise_2 (d : Nat) (c : Str) (k : Nat) (m : M (List D)) : raiseD (d + 2) c k m = .bnd m fun vs => (match exFs k vs with
    | some fs => M.thr ⟨c, fs⟩
    | none => .no) := rfl
theorem exFs_1 (v : D) : exFs 1 [v] = some [(("value" : Str), v)] := rfl
theorem exFs_2 (v w : D) : exFs 2 [v, w] = some [(("limit" : Str), w), (("what" : Str), v), (("value" : Str), v)] := rfl
theorem rTs_nilA (E : En) (d : Nat) (ρ : List Sl) : runTs E d .And [] ρ = .ret true := rfl
theorem rTs_nilO (E : En) (d : Nat) (ρ : List Sl) : runTs E d .Or [] ρ = .ret false := rfl
theorem rTs_one (E : En) (d : Nat) (op : BoolOp) (t : Ts) (ρ : List Sl) : runTs E d op [t] ρ = runT E d t ρ := by
  funext st
  show M.bnd (runT E d t ρ) (fun b => if stopB op b then M.ret b else runTs E d op [] ρ) st = _
  unfold M.bnd
  cases h : runT E d t ρ st with
  | ok b s => cases op <;> cases b <;> rfl
  | ex e s => rfl
  | no => rfl
theorem rTs_two (E : En) (d : Nat) (op : BoolOp) (t u : Ts) (ts : List Ts) (ρ : List Sl) : runTs E d op (t :: u :: ts) ρ = .bnd (runT E d t ρ) fun b => if stopB op b then .ret b else runTs E d op (u :: ts) ρ := rfl
theorem rB_one (E : En) (d : Nat) (op : BoolOp) (t : PI.Tm) (ρ : List Sl) : runB E d op [t] ρ = runE E d t ρ := by
  funext st
  show M.bnd (runE E d t ρ) (fun b => if ([] : List PI.Tm).isEmpty then M.ret b else _) st = _
  unfold M.bnd
  cases h : runE E d t ρ st <;> rfl
theorem rB_two (E : En) (d : Nat) (op : BoolOp) (t u : PI.Tm) (ts : List PI.Tm) (ρ : List Sl) : runB E d op (t :: u :: ts) ρ = .bnd (runE E d t ρ) fun x => .bnd (.opt (tru x.1)) fun b => if stopB op b then .ret x else runB E d op (u :: ts) ρ := rfl
theorem rC_one (E : En) (d : Nat) (x : D) (o : CmpOp) (t : PI.Tm) (ρ : List Sl) : runC E d x [o] [t] ρ = .bnd (runE E d t ρ) fun y => .opt (cmpD o x y.1) := by
  funext st
  show M.bnd (runE E d t ρ) (fun y => M.bnd (.opt (cmpD o x y.1)) fun b => M.ret b) st = _
  unfold M.bnd
  cases h : runE E d t ρ st with
  | ok b s =>
    dsimp only
    cases hh : M.opt (cmpD o x b.1) s <;> rfl
  | ex e s => rfl
  | no => rfl
theorem rC_two (E : En) (d : Nat) (x : D) (o o2 : CmpOp) (os : List CmpOp) (t u : PI.Tm) (ts : List PI.Tm) (ρ : List Sl) : runC E d x (o :: o2 :: os) (t :: u :: ts) ρ = .bnd (runE E d t ρ) fun y => .bnd (.opt (cmpD o x y.1)) fun b => if b then runC E d y.1 (o2 :: os) (u :: ts) ρ else .ret false := rfl
theorem comp_if {α : Type} (e : α → D) (p : α → Bool) (g : α → D) {F : D → M (Option D)} (l : List α) (h : ∀ a ∈ l, F (e a) = if p a = true then .ret (some (g a)) else .ret none) : compL F (l.map e) = .ret ((l.filter p).map g) := by
  refine comp_flt e p g l fun a m => ?_
  rw [h a m]
  cases p a <;> rfl
end PI
set_option Elab.async false
set_option linter.all false
set_option maxRecDepth 100000
set_option maxHeartbeats 4000000
/-! PW4: equality of data. -/
namespace PI
open PySem PySem.Spec PyProof.Rows L2
/-- plain, and so deep at most -/
structure Ok (n : Nat) (d : D) : Prop where
  pl : d.pl = true
  dp : d.py.depth ≤ n
theorem Ok.mono {n m : Nat} {d : D} (h : Ok n d) (l : n ≤ m) : Ok m d := ⟨h.pl, Nat.le_trans h.dp l⟩
theorem Ok.cmp {n : Nat} {d : D} (h : Ok n d) (l : n ≤ 60) : cmpOk d = true := by
  unfold cmpOk
  rw [h.pl, decide_eq_true (Nat.le_trans h.dp l)]
  rfl
theorem ok_int (i : Int) : Ok 1 (.int i) := ⟨by unfold D.pl; rfl, by show PyData.depth (.int i) ≤ 1; simp [PyData.depth]⟩
theorem ok_bl (i : Bool) : Ok 1 (.bl i) := ⟨by unfold D.pl; rfl, by show PyData.depth (.bool i) ≤ 1; simp [PyData.depth]⟩
theorem ok_non : Ok 1 .non := ⟨by unfold D.pl; rfl, by show PyData.depth .none ≤ 1; simp [PyData.depth]⟩
theorem ok_str (s : Str) (h : PyData.strOk s = true) : Ok 1 (.str s) := ⟨by unfold D.pl; exact h, by show PyData.depth (.str s) ≤ 1; simp [PyData.depth]⟩
theorem pl_all : ∀ {xs : List D}, (∀ x ∈ xs, x.pl = true) → plL xs = true
  | [], _ => by unfold plL; rfl
  | x :: r, h => by
    unfold plL
    rw [h x (by simp), pl_all fun y m => h y (by simp [m])]
    rfl
theorem dp_all {n : Nat} : ∀ {xs : List D}, (∀ x ∈ xs, x.py.depth ≤ n) → PyData.depthAll (pyL xs) ≤ n
  | [], _ => by unfold pyL; simp [PyData.depthAll]
  | x :: r, h => by
    unfold pyL
    simp only [PyData.depthAll]
    exact Nat.max_le.mpr ⟨h x (by simp), dp_all fun y m => h y (by simp [m])⟩
theorem ok_lst {n : Nat} {xs : List D} (h : ∀ x ∈ xs, Ok n x) : Ok (n + 1) (.lst xs) := by
  refine ⟨?_, ?_⟩
  · unfold D.pl; exact pl_all fun x m => (h x m).pl
  · show PyData.depth (.list (pyL xs)) ≤ n + 1
    have := dp_all fun x m => (h x m).dp
    simp only [PyData.depth]
    omega
theorem ok_tup {n : Nat} {xs : List D} (h : ∀ x ∈ xs, Ok n x) : Ok (n + 1) (.tup xs) := by
  refine ⟨?_, ?_⟩
  · unfold D.pl; exact pl_all fun x m => (h x m).pl
  · show PyData.depth (.tuple (pyL xs)) ≤ n + 1
    have := dp_all fun x m => (h x m).dp
    simp only [PyData.depth]
    omega
theorem pyL_mapf {α : Type} (f : α → D) : ∀ l : List α, pyL (l.map f) = l.map fun a => (f a).py
  | [] => by unfold pyL; rfl
  | x :: r => by
    show pyL (f x :: r.map f) = _
    unfold pyL
    rw [pyL_mapf f r]
    rfl
theorem eqvAll_map {α : Type} [DecidableEq α] (f : α → D) (h : ∀ a b, PyData.eqv (f a).py (f b).py = decide (a = b)) : ∀ l m : List α, PyData.eqvAll (pyL (l.map f)) (pyL (m.map f)) = decide (l = m)
  | [], [] => by simp [pyL, PyData.eqvAll]
  | [], b :: m => by simp [pyL, PyData.eqvAll]
  | a :: l, [] => by simp [pyL, PyData.eqvAll]
  | a :: l, b :: m => by
    show PyData.eqvAll (pyL (f a :: l.map f)) (pyL (f b :: m.map f)) = _
    unfold pyL
    simp only [PyData.eqvAll]
    rw [h a b, eqvAll_map f h l m]
    by_cases h1 : a = b <;> by_cases h2 : l = m <;> simp [h1, h2]
theorem eqD_lst {α : Type} [DecidableEq α] (f : α → D) (n : Nat) (ok : ∀ a, Ok n (f a)) (hn : n ≤ 59) (h : ∀ a b, PyData.eqv (f a).py (f b).py = decide (a = b)) (l m : List α) : eqD (.lst (l.map f)) (.lst (m.map f)) = some (decide (l = m)) := by
  have k : ∀ l : List α, cmpOk (.lst (l.map f)) = true := fun l => (ok_lst fun x hx => by
    obtain ⟨a, _, rfl⟩ := List.mem_map.mp hx
    exact ok a).cmp (by omega)
  rw [eqD_of (k l) (k m)]
  show some (PyData.eqv (.list (pyL (l.map f))) (.list (pyL (m.map f)))) = _
  simp only [PyData.eqv]
  rw [eqvAll_map f h]
theorem eqD_tup {α : Type} [DecidableEq α] (f : α → D) (n : Nat) (ok : ∀ a, Ok n (f a)) (hn : n ≤ 59) (h : ∀ a b, PyData.eqv (f a).py (f b).py = decide (a = b)) (l m : List α) : eqD (.tup (l.map f)) (.tup (m.map f)) = some (decide (l = m)) := by
  have k : ∀ l : List α, cmpOk (.tup (l.map f)) = true := fun l => (ok_tup fun x hx => by
    obtain ⟨a, _, rfl⟩ := List.mem_map.mp hx
    exact ok a).cmp (by omega)
  rw [eqD_of (k l) (k m)]
  show some (PyData.eqv (.tuple (pyL (l.map f))) (.tuple (pyL (m.map f)))) = _
  simp only [PyData.eqv]
  rw [eqvAll_map f h]
theorem eqv_int (a b : Int) : PyData.eqv (D.int a).py (D.int b).py = decide (a = b) := by
  show PyData.eqv (.int a) (.int b) = _
  simp only [PyData.eqv]
  rfl
theorem eqv_S (a b : List Nat) : PyData.eqv (D.str (SX.S a)).py (D.str (SX.S b)).py = decide (a = b) := by
  show PyData.eqv (.str (SX.S a)) (.str (SX.S b)) = _
  simp only [PyData.eqv]
  exact SX.S_beq_eq
theorem eqD_ints (l m : List Int) : eqD (.lst (l.map .int)) (.lst (m.map .int)) = some (decide (l = m)) := eqD_lst .int 1 ok_int (by decide) eqv_int l m
theorem eqD_intT (l m : List Int) : eqD (.tup (l.map .int)) (.tup (m.map .int)) = some (decide (l = m)) := eqD_tup .int 1 ok_int (by decide) eqv_int l m
/-- against an empty one -/
theorem eqD_lnil (xs : List D) (n : Nat) (hn : n ≤ 59) (ok : ∀ x ∈ xs, Ok n x) : eqD (.lst xs) (.lst []) = some xs.isEmpty := by
  rw [eqD_of ((ok_lst ok).cmp (by omega)) (by decide)]
  show some (PyData.eqv (.list (pyL xs)) (.list (pyL []))) = _
  simp only [PyData.eqv]
  cases xs <;> simp [pyL, PyData.eqvAll]
theorem eqD_tnil (xs : List D) (n : Nat) (hn : n ≤ 59) (ok : ∀ x ∈ xs, Ok n x) : eqD (.tup xs) (.tup []) = some xs.isEmpty := by
  rw [eqD_of ((ok_tup ok).cmp (by omega)) (by decide)]
  show some (PyData.eqv (.tuple (pyL xs)) (.tuple (pyL []))) = _
  simp only [PyData.eqv]
  cases xs <;> simp [pyL, PyData.eqvAll]
/-! a value is itself -/
mutual
theorem eqv_refl : ∀ d : D, d.pl = true → PyData.eqv d.py d.py = true
  | .non, _ => by unfold D.py; simp [PyData.eqv]
  | .bl b, _ => by unfold D.py; simp [PyData.eqv]
  | .int i, _ => by unfold D.py; simp [PyData.eqv]
  | .str s, _ => by unfold D.py; simp [PyData.eqv]
  | .tup xs, h => by
    unfold D.py
    simp only [PyData.eqv]
    unfold D.pl at h
    exact eqvL_refl xs h
  | .lst xs, h => by
    unfold D.py
    simp only [PyData.eqv]
    unfold D.pl at h
    exact eqvL_refl xs h
  | .dct _ _, h => by unfold D.pl at h; cases h
  | .fn _, h => by unfold D.pl at h; cases h
  | .obj _, h => by unfold D.pl at h; cases h
  | .scr _, h => by unfold D.pl at h; cases h
theorem eqvL_refl : ∀ xs : List D, plL xs = true → PyData.eqvAll (pyL xs) (pyL xs) = true
  | [], _ => by unfold pyL; simp [PyData.eqvAll]
  | x :: r, h => by
    unfold plL at h
    rw [Bool.and_eq_true] at h
    unfold pyL
    simp only [PyData.eqvAll]
    rw [eqv_refl x h.1, eqvL_refl r h.2]
    rfl
end
theorem eqD_refl {d : D} {n : Nat} (h : Ok n d) (hn : n ≤ 60) : eqD d d = some true := by
  rw [eqD_of (h.cmp hn) (h.cmp hn), eqv_refl d h.pl]
end PI
set_option Elab.async false
set_option linter.all false
set_option maxRecDepth 100000
set_option maxHeartbeats 4000000
/-! PW5: loops that fill a list; the law's own helpers. -/
namespace PI
open PySem PySem.Spec PyProof.Rows L2
section
variable {α : Type}
theorem for_filter (e : α → D) (p : α → Bool) (g : α → D) (enc : List D → Sl → List Sl) (c : α → Sl) {F : D → List Sl → M (Fl × List Sl)} : ∀ (l : List α) (acc : List D) (s : Sl), acc.length + l.length ≤ lim →
    (∀ a ∈ l, ∀ acc s, acc.length < lim → F (e a) (enc acc s) = .ret (.nx, enc (if p a then acc ++ [g a] else acc) (c a))) → ∃ s', forL F (l.map e) (enc acc s) = .ret (.nx, enc (acc ++ (l.filter p).map g) s')
  | [], acc, s, _, _ => ⟨s, by simp; rfl⟩
  | x :: r, acc, s, hl, h => by
    have hl' : acc.length + (r.length + 1) ≤ lim := hl
    obtain ⟨s', hs⟩ := for_filter e p g enc c r (if p x then acc ++ [g x] else acc) (c x) (by split <;> (try rw [List.length_append, List.length_singleton]) <;> omega) fun a m => h a (by simp [m])
    refine ⟨s', ?_⟩
    show M.bnd (F (e x) (enc acc s)) _ = _
    rw [h x (by simp) acc s (by omega), bnd_ret']
    show forL F (r.map e) _ = _
    rw [hs, List.filter_cons]
    cases p x <;> simp
theorem comp_wp_acc (e : α → D) {F : D → M (Option D)} {Q : List D → Store → Prop} {X : Ex → Store → Prop} (I : List α → List D → Store → Prop)
    (h : ∀ a r acc st, I (a :: r) acc st → wp (F (e a)) (fun o s => match o with | some y => I r (acc ++ [y]) s | none => I r acc s) X st) (hz : ∀ acc st, I [] acc st → Q acc st) : ∀ (l : List α) (acc : List D) (st : Store), I l acc st → wp (compL F (l.map e)) (fun ys s => Q (acc ++ ys) s) X st
  | [], acc, st, hi => by
    show wp (M.ret []) _ X st
    rw [wp_ret, List.append_nil]
    exact hz acc st hi
  | x :: r, acc, st, hi => by
    show wp (M.bnd (F (e x)) _) _ X st
    rw [wp_bnd]
    refine wp_mono (h x r acc st hi) (fun o s ho => ?_) fun _ _ h => h
    rw [wp_bnd]
    cases o with
    | none =>
      refine wp_mono (comp_wp_acc e I h hz r acc s ho) (fun ys s hq => ?_) fun _ _ h => h
      rw [wp_ret]
      exact hq
    | some y =>
      refine wp_mono (comp_wp_acc e I h hz r (acc ++ [y]) s ho) (fun ys s hq => ?_) fun _ _ h => h
      rw [List.append_assoc] at hq
      rw [wp_ret]
      exact hq
/-- a comprehension whose elements draw -/
theorem comp_wp (e : α → D) {F : D → M (Option D)} {Q : List D → Store → Prop} {X : Ex → Store → Prop} (I : List α → List D → Store → Prop) (l : List α) (st : Store) (hi : I l [] st)
    (h : ∀ a r acc st, I (a :: r) acc st → wp (F (e a)) (fun o s => match o with | some y => I r (acc ++ [y]) s | none => I r acc s) X st) (hz : ∀ acc st, I [] acc st → Q acc st) : wp (compL F (l.map e)) Q X st :=
  comp_wp_acc e I h hz l [] st hi
theorem iota_len (lo : Int) (n : Nat) : (iota lo n).length = n := by
  unfold iota
  rw [List.length_map, List.length_range]
theorem filter_le {p : α → Bool} (l : List α) : (l.filter p).length ≤ l.length := List.length_filter_le p l
end
theorem in62_of {i : Int} (h : -(2 ^ 62) ≤ i) (h2 : i < 2 ^ 62) : in62 i = true := decide_eq_true ⟨h, h2⟩
theorem small_of {i : Int} (h : -(2 ^ 64) < i) (h2 : i < 2 ^ 64) : small64 i = true := decide_eq_true ⟨h, h2⟩
theorem small_lit2 : small64 2 = true := by decide
end PI
set_option Elab.async false
set_option linter.all false
set_option maxRecDepth 100000
set_option maxHeartbeats 4000000
open PySem PySem.Spec PyProof.Rows L2 PI
open Lean Parser Tactic in
local macro_rules | `(tactic| push_cast [$as,*] $[$l:location]?) => `(tactic| simp (implicitDefEqProofs := false) only [rI_rng1, rI_rng2, rI_enum, rI_of, rE_slot, rE_val, rE_bin, rE_neg, rE_nt, rE_bop, rE_cmp, rE_ite, rE_abs, rE_sl, rE_rv, rE_sub, rE_lst, rE_dct0, rE_tup, rE_comp, rE_call, rE_callv, rE_blt, rE_isi, rE_join, rE_mth, mthK_index, mthK_count, mthK_split, rE_rg, rgI_int, rK_nil, rK_cons, rE_rfs, rT_nt, rT_bop, rT_ite, rT_cmp, rT_of, endC_0, endC_1, endC_2, endC_3, endC_4, endC_5, endC_6, endC_7, endC_8, endT_0, endT_1, endT_2, endT_3, endT_4, endT_5, endT_6, joinK_str, rL_nil, rL_star, rL_slot, rL_val, rL_bin, rL_neg, rL_nt, rL_bop, rL_cmp, rL_ite, rL_sl, rL_rv, rL_sub, rL_lst, rL_dct0, rL_tup, rL_comp, rL_call, rL_callv, rL_blt, rL_isi, rL_join, rL_mth, rL_rg, rL_rfs, rW_nil, rW_cons, rTs_nilA, rTs_nilO, rTs_one, rTs_two, rB_one, rB_two, rC_one, rC_two, bnd_ret', bnd_thr, bnd_bnd, opt_some, wp_ret, wp_thr, wp_bnd, wp_calm, calm_ret, g0, gS, s0, sS, fz_nil, fz_cons, frz_im, frz_S, frzS_im, frzS_ow, frzS_un, sl_get_im, sl_get_ow, Option.bind_some, Option.map_some, slotOf_fr, slotOf_sh, wipe_nil, wipe_cons, noOw_nil, noOw_cons, isOw_im, isOw_un, st1_sh, st1_fr, en_call, en_P, en_top, opd_add, opd_sub, tru_bl, tru_int, tru_tup, tru_lst, tru_non, int_some, cmp_lt, cmp_le, cmp_gt, cmp_ge, cmp_eq, cmp_ne, cmp_in, cmp_nin, cmp_is, cmp_isnot, cmp_isB, cmp_isnotB, isNon_int, isNon_bl, isNon_str, isNon_tup, isNon_lst, isNon_non, eqD_int, eqD_bl, sub_l, sub_t, sub_scr, sub_d, ixD_l, ixD_d, inD_d, subD_obj, wp_subO, at_0, at_1, at_2, at_3, ix_0, ix_1, ix_2, ix_3, blw_len, blw_int, blw_list, blw_listT, blw_tup, blw_tupT, blw_all, blw_any, blw_abs, blw_max, blw_min, len_l, len_t, len_scr, len_d, all_bl, any_bl, sl_l, sl_t, rv_l, itO_l, itO_d, itO_t, itO_s, itE_l, itE_t, itE_s, tg_nm, tg_tup, tg_lst, tgs_nil, tgs_cons, stepF_tup, stepC_tup, stepC_nm, stop_or, stop_and, raise_2, exFs_1, exFs_2, decide_eq_true_eq, decide_true, decide_false, beq_self_eq_true, optI, Tm.isAbs, starX, if_true, if_false, ite_true, ite_false, Bool.not_true, Bool.not_false, Bool.and_true, Bool.true_and, Bool.and_self, Bool.or_false, Bool.false_or, Bool.or_true, Bool.true_or, Bool.false_eq_true, List.isEmpty_nil, List.isEmpty_cons, Bool.and_false, Bool.false_and, List.map_cons, List.map_nil, List.cons_append, List.nil_append, List.length_cons, List.length_nil, List.replicate, reduceIte, isi_non_listtuple, isi_non_tuplelist, isi_non_int, isi_non_bool, isi_non_str, isi_non_tuple, isi_non_list, isi_non_dict, isi_non_intstr, isi_bl_listtuple, isi_bl_tuplelist, isi_bl_int, isi_bl_bool, isi_bl_str, isi_bl_tuple, isi_bl_list, isi_bl_dict, isi_bl_intstr, isi_int_listtuple, isi_int_tuplelist, isi_int_int, isi_int_bool, isi_int_str, isi_int_tuple, isi_int_list, isi_int_dict, isi_int_intstr, isi_str_listtuple, isi_str_tuplelist, isi_str_int, isi_str_bool, isi_str_str, isi_str_tuple, isi_str_list, isi_str_dict, isi_str_intstr, isi_tup_listtuple, isi_tup_tuplelist, isi_tup_int, isi_tup_bool, isi_tup_str, isi_tup_tuple, isi_tup_list, isi_tup_dict, isi_tup_intstr, isi_lst_listtuple, isi_lst_tuplelist, isi_lst_int, isi_lst_bool, isi_lst_str, isi_lst_tuple, isi_lst_list, isi_lst_dict, isi_lst_intstr, rS_ps, rS_bk, rS_ct, rS_ret0, rS_ret, rS_ite, rS_wh, rS_fr, rS_raise, rS_app, rS_ex, rS_asn, rS_sasn, rS_asnB, asnB_sh, rS_asn2, rS_asn3, rS_ext, rS_asnT, rS_aug, rS_fz, runSs_cons, runSs_nil, next_nx, next_rt, next_bk, next_ct, setI_sh, setI_fr, endF_nx, endF_sh, endF_fr, rtK_sh, rtK_fr, rtK_wk, forB_sh, forB_fr, appD, sasn_K, sasnK_obj, sasnK_ow, setOK_int, setLK_int, wp_setO, wp_cell, wp_cellD, setAt_l, setAt_d, augD, aug_add, aug_sub, aug_mul2, aug_div2, aug_div4, stepF_nm, asn2D, asn3D, extD, pr2, isWk, asnTD, $as,*] $[$l:location]?)
/-! PW6: the laws' own helpers. -/
namespace PI
open PySem PySem.Spec PyProof.Rows L2
def tTaken : List Cm := [
  .ite (.cmp (.sub (.slot 0) (.val (.int (3)))) [.Gt] [(.val (.int (0)))]) [
    .asn 3 false (.bin .Mod (.blt "int" [(.sub (.slot 0) (.val (.int (3))))]) (.slot 1)),
    .sasn 0 (.val (.int (3))) (.bin .FloorDiv (.sub (.slot 0) (.val (.int (3)))) (.slot 1)),
    .ret (.slot 3)] [],
  .sasn 0 (.val (.int (1))) (.bin .Add (.sub (.slot 0) (.val (.int (1)))) (.val (.int (1)))),
  .ite (.cmp (.sub (.slot 0) (.val (.int (1)))) [.Gt] [(.blt "len" [(.sub (.slot 0) (.val (.int (0))))])]) [
    .sasn 0 (.val (.int (2))) (.bin .Mod (.blt "int" [(.bin .Add (.bin .Mult (.sub (.slot 0) (.val (.int (2)))) (.val (.int (48271)))) (.val (.int (11))))]) (.val (.int (2147483647)))),
    .ret (.bin .Mod (.blt "int" [(.bin .FloorDiv (.sub (.slot 0) (.val (.int (2)))) (.val (.int (7))))]) (.slot 1))] [],
  .asn 2 false (.sub (.sub (.slot 0) (.val (.int (0)))) (.bin .Sub (.sub (.slot 0) (.val (.int (1)))) (.val (.int (1))))),
  .sasn 0 (.val (.int (2))) (.bin .Mod (.blt "int" [(.bin .Add (.bin .Add (.bin .Mult (.sub (.slot 0) (.val (.int (2)))) (.val (.int (48271)))) (.slot 2)) (.val (.int (11))))]) (.val (.int (2147483647)))),
  .ite (.cmp (.slot 2) [.GtE] [(.bin .Pow (.val (.int (10))) (.val (.int (18))))]) [
    .sasn 0 (.val (.int (3))) (.bin .FloorDiv (.slot 2) (.slot 1))] [],
  .ret (.bin .Mod (.blt "int" [(.slot 2)]) (.slot 1))]
def tPick : List Cm := [
  .fz [0] (.ret (.sub (.slot 1) (.call "_law_taken" [(.slot 0), (.blt "len" [(.slot 1)])])))]
def tAlike : List Cm := [
  .ite (.of (.isi (.slot 1) ["tuple", "list"])) [
    .ite (.bop .Or [(.nt (.of (.isi (.slot 0) ["tuple", "list"]))), (.cmp (.isi (.slot 0) ["list"]) [.NotEq] [(.isi (.slot 1) ["list"])])]) [
      .ret (.val (.bl false))] [],
    .ite (.cmp (.blt "len" [(.slot 0)]) [.NotEq] [(.blt "len" [(.slot 1)])]) [
      .ret (.val (.bl false))] [],
    .fz [2] (.ret (.cmp (.comp (.nm 2) (.rng1 (.blt "len" [(.slot 1)])) [(.nt (.of (.call "_law_alike" [(.sub (.slot 0) (.slot 2)), (.sub (.slot 1) (.slot 2))])))] (.slot 2) [2]) [.Eq] [(.lst [])]))] [],
  .ite (.of (.isi (.slot 1) ["dict"])) [
    .ite (.bop .Or [(.nt (.of (.isi (.slot 0) ["dict"]))), (.cmp (.blt "list" [(.slot 0)]) [.NotEq] [(.blt "list" [(.slot 1)])])]) [
      .ret (.val (.bl false))] [],
    .fz [3] (.ret (.cmp (.comp (.nm 3) (.of (.slot 1)) [(.nt (.of (.call "_law_alike" [(.sub (.slot 0) (.slot 3)), (.sub (.slot 1) (.slot 3))])))] (.slot 3) [3]) [.Eq] [(.lst [])]))] [],
  .ite (.bop .Or [(.cmp (.slot 1) [.Is] [(.val .non)]), (.of (.isi (.slot 1) ["str"]))]) [
    .ret (.bop .And [(.cmp (.slot 0) [.Eq] [(.slot 1)]), (.cmp (.isi (.slot 0) ["str"]) [.Eq] [(.isi (.slot 1) ["str"])])])] [],
  .ret (.bop .And [(.isi (.slot 0) ["int"]), (.cmp (.isi (.slot 0) ["bool"]) [.Eq] [(.isi (.slot 1) ["bool"])]), (.cmp (.slot 0) [.Eq] [(.slot 1)])])]
/-- where the draws stand -/
def Dr (A : Addr) (q : Str) (ns : List Int) (st : Store) : Prop := ∃ a b c : Int, 0 ≤ a ∧ st = [.tab A q, .lst [.scr ns, .int a, .int b, .int c]]
section
variable {P : Pg} {A : Addr} {q : Str} {ns : List Int} {X : Ex → Store → Prop} {st : Store} {d : Nat}
theorem w_taken (D1 : IsD P "_law_taken" 2 2 tTaken) {Q : DK → Store → Prop} (many : Int) (h1 : 1 ≤ many) (h2 : many < 1073741824) (hd : Dr A q ns st) (hq : ∀ v st', 0 ≤ v → v < many → Dr A q ns st' → Q (.int v, .sh) st') : wp (callL P (d + 1) "_law_taken" [.obj 1, .int many]) Q X st := by
  refine D1.st rfl rfl ?_
  obtain ⟨a, b, c, ha, rfl⟩ := hd
  unfold tTaken body
  have hne : many ≠ 0 := by omega
  have hnb : many.natAbs < 1073741824 := by omega
  have md := fun i => opd_mod i many hne
  have fd := fun i => opd_fdiv i many hne hnb
  have mb : ∀ i : Int, 0 ≤ i.fmod many ∧ i.fmod many < many := fun i => ⟨Int.fmod_nonneg_of_pos _ (by omega), Int.fmod_lt_of_pos _ (by omega)⟩
  have m2 := fun i => opd_mod i 2147483647 (by decide)
  have f7 := fun i => opd_fdiv i 7 (by decide) (by decide)
  have mu := fun i => opd_mul i 48271 (Or.inr (by decide))
  have pw := opd_pow 10 18 (by decide)
  by_cases hc : 0 < c
  · push_cast [hc, md, fd]
    exact hq _ _ (mb c).1 (mb c).2 ⟨a, b, _, ha, rfl⟩
  · by_cases hl : ((ns.length : Nat) : Int) < a + 1
    · push_cast [hc, hl, md, fd, m2, f7, mu]
      exact hq _ _ (mb _).1 (mb _).2 ⟨_, _, c, by omega, rfl⟩
    · have hx : atI ns (a + 1 - 1) = some (ns[a.toNat]'(by omega)) := by
        rw [show a + 1 - 1 = a by omega]
        exact at_get ns a ha (by omega)
      by_cases hg : (10 : Int) ^ (18 : Int).toNat ≤ ns[a.toNat]'(by omega)
      · push_cast [hc, hl, md, fd, m2, f7, mu, hx, pw, hg]
        exact hq _ _ (mb _).1 (mb _).2 ⟨_, _, _, by omega, rfl⟩
      · push_cast [hc, hl, md, fd, m2, f7, mu, hx, pw, hg]
        exact hq _ _ (mb _).1 (mb _).2 ⟨_, _, _, by omega, rfl⟩
theorem w_pick (D1 : IsD P "_law_taken" 2 2 tTaken) (D2 : IsD P "_law_pick" 2 0 tPick) {Q : DK → Store → Prop} (xs : List D) (h1 : 1 ≤ xs.length) (h2 : xs.length < 1073741824) (hd : Dr A q ns st) (hq : ∀ (v : Nat) (x : D) st', xs[v]? = some x → Dr A q ns st' → Q (x, .sh) st') : wp (callL P (d + 2) "_law_pick" [.obj 1, .lst xs]) Q X st := by
  refine D2.st rfl rfl ?_
  unfold tPick body
  push_cast []
  refine w_taken D1 xs.length (by omega) (by omega) hd fun v st' hv0 hv hd' => ?_
  have hx := at_get xs v hv0 (by omega)
  push_cast [hx]
  exact hq v.toNat _ _ (List.getElem?_eq_getElem (by omega)) hd'
/-- data that are compared place by place -/
inductive Al : Nat → D → Prop
  | non (n : Nat) : Al n .non
  | bl (n : Nat) (b : Bool) : Al n (.bl b)
  | int (n : Nat) (i : Int) : Al n (.int i)
  | str (n : Nat) (s : Str) (h : PyData.strOk s = true) : Al n (.str s)
  | tup (n : Nat) (xs : List D) (h : ∀ x ∈ xs, Al n x) (hl : xs.length ≤ 1000000) : Al (n + 1) (.tup xs)
  | lst (n : Nat) (xs : List D) (h : ∀ x ∈ xs, Al n x) (hl : xs.length ≤ 1000000) : Al (n + 1) (.lst xs)
theorem Al.noObj : ∀ {n : Nat} {x : D}, Al n x → x.noObj = true := by
  intro n x h
  induction h with
  | tup n xs h hl ih =>
    rw [noObj_tup]
    clear hl h
    induction xs with
    | nil => rfl
    | cons y r ihr => rw [noObjL_cons, ih y (by simp), ihr fun z hz => ih z (by simp [hz])]; rfl
  | lst n xs h hl ih =>
    rw [noObj_lst]
    clear hl h
    induction xs with
    | nil => rfl
    | cons y r ihr => rw [noObjL_cons, ih y (by simp), ihr fun z hz => ih z (by simp [hz])]; rfl
  | _ => rfl
theorem filt_false {α : Type} (l : List α) : l.filter (fun _ => false) = [] := by simp
theorem w_alike (D1 : IsD P "_law_alike" 2 2 tAlike) : ∀ (n : Nat) (x : D), Al n x → ∀ d, callL P (d + n + 1) "_law_alike" [x, x] = M.ret (.bl true, .sh) := by
  intro n x h
  induction h with
  | non n =>
    intro d
    refine D1.pure rfl rfl rfl ?_
    unfold tAlike body
    have er := eqD_refl ok_non (by decide)
    push_cast [er]
  | bl n b =>
    intro d
    refine D1.pure rfl rfl rfl ?_
    unfold tAlike body
    push_cast []
  | int n i =>
    intro d
    refine D1.pure rfl rfl rfl ?_
    unfold tAlike body
    push_cast []
  | str n s hs =>
    intro d
    refine D1.pure rfl rfl rfl ?_
    unfold tAlike body
    have er := eqD_refl (ok_str s hs) (by decide)
    push_cast [er]
  | tup n xs h hl ih =>
    intro d
    have hno := (Al.tup n xs h hl).noObj
    refine D1.pure rfl (by simp only [noObjL_cons, noObjL_nil, hno, Bool.and_true]) rfl ?_
    unfold tAlike body
    push_cast [itR1_int _ _ (in62_of (show -(2 ^ 62) ≤ ((xs.length : Nat) : Int) by omega) (by omega)), Int.toNat_natCast]
    rw [comp_if D.int (fun _ => false) D.int (iota 0 xs.length) (fun j hj => by
        rw [mem_iota] at hj
        have hx := at_get xs j hj.1 (by omega)
        have e := ih (xs[j.toNat]'(by omega)) (List.getElem_mem _) d
        rw [show d + n + 1 = d + (n + 1) by omega] at e
        push_cast [hx, e])]
    have e0 : eqD (.lst []) (.lst []) = some true := rfl
    push_cast [filt_false, e0]
  | lst n xs h hl ih =>
    intro d
    have hno := (Al.lst n xs h hl).noObj
    refine D1.pure rfl (by simp only [noObjL_cons, noObjL_nil, hno, Bool.and_true]) rfl ?_
    unfold tAlike body
    push_cast [itR1_int _ _ (in62_of (show -(2 ^ 62) ≤ ((xs.length : Nat) : Int) by omega) (by omega)), Int.toNat_natCast]
    rw [comp_if D.int (fun _ => false) D.int (iota 0 xs.length) (fun j hj => by
        rw [mem_iota] at hj
        have hx := at_get xs j hj.1 (by omega)
        have e := ih (xs[j.toNat]'(by omega)) (List.getElem_mem _) d
        rw [show d + n + 1 = d + (n + 1) by omega] at e
        push_cast [hx, e])]
    have e0 : eqD (.lst []) (.lst []) = some true := rfl
    push_cast [filt_false, e0]
/-! ### refused calls -/
theorem wp_ref {Q : DK → Store → Prop} {hds : List (Str × Str × Nat)} {m : M DK} {e : Ex} {v : D} (hd : Dr A q ns st) (hm : wp m (fun _ _ => False) (fun e' s => e' = e ∧ Dr A q ns s) st) (hp : pickEx e hds = some v) (hq : ∀ st', Dr A q ns st' → Q (v, .sh) st') : wp (refEnd hds m (some (A, q))) Q X st := by
  obtain ⟨a, b, c, ha, rfl⟩ := hd
  unfold wp refEnd
  simp only [g0, and_self, if_true]
  unfold wp at hm
  cases h : m [.tab A q, .lst [.scr ns, .int a, .int b, .int c]] with
  | ok a s => rw [h] at hm; exact hm.elim
  | no => rw [h] at hm; exact hm.elim
  | ex e' s =>
    rw [h] at hm
    obtain ⟨rfl, hs⟩ := hm
    simp only [hp]
    exact hq s hs
end
end PI
set_option Elab.async false
set_option linter.all false
set_option maxRecDepth 100000
set_option maxHeartbeats 4000000
/-! PW7: sorted data. -/
namespace PI
open PySem PySem.Spec PyProof.Rows L2
theorem dataLe_eq (x y : D) : PySem.W.dataLe false D.py x y = !PySem.W.dataLt y.py x.py := rfl
theorem sortD_perm (l : List D) : (sortD l).Perm l := List.mergeSort_perm _ _
theorem sortD_pw (l : List D) : (sortD l).Pairwise fun a b => PySem.W.dataLe false D.py a b = true := by
  unfold sortD PySem.W.dataLe
  have T := PySem.W.sortLe_total (listOrd itemOrd) false fun b : D => PySem.W.keyToks b.py
  refine List.pairwise_mergeSort (fun a b c h1 h2 => T.trans a b c h1 h2) (fun a b => ?_) l
  rw [Bool.or_eq_true]
  exact T.total a b
/-- sorted, told by a list that is in order -/
theorem sort_of {α : Type} (e : α → D) {l m : List α} (hp : m.Perm l) (hs : m.Pairwise fun a b => PySem.W.dataLt (e b).py (e a).py = false) (an : ∀ a ∈ l, ∀ b ∈ l, PySem.W.dataLt (e a).py (e b).py = false → PySem.W.dataLt (e b).py (e a).py = false → e a = e b) : sortD (l.map e) = m.map e := by
  refine List.Perm.eq_of_pairwise (le := fun a b => PySem.W.dataLe false D.py a b = true) ?_ (sortD_pw _) ?_ ((sortD_perm _).trans (hp.map e).symm)
  · intro a b ha hb h1 h2
    have ha' := (sortD_perm _).mem_iff.mp ha
    obtain ⟨x, hx, rfl⟩ := List.mem_map.mp ha'
    obtain ⟨y, hy, rfl⟩ := List.mem_map.mp hb
    rw [dataLe_eq, Bool.not_eq_true'] at h1 h2
    exact an x hx y (hp.mem_iff.mp hy) h2 h1
  · rw [List.pairwise_map]
    exact hs.imp fun h => by rw [dataLe_eq, h]; rfl
theorem srtB_of {xs : List D} (h1 : ∀ x ∈ xs, Ok 60 x) (h2 : ∀ x ∈ xs, ∀ y ∈ xs, PySem.W.alike x.py y.py = true) (h3 : (∀ x ∈ xs, tup1 x.py = true) ∨ ∀ x ∈ xs, noTN x.py = true) (hl : xs.length ≤ lim) : srtB xs = true := by
  unfold srtB alkB
  rw [Bool.and_eq_true, Bool.and_eq_true, Bool.or_eq_true, List.all_eq_true, List.all_eq_true, List.all_eq_true]
  refine ⟨⟨fun x hx => ?_, h3⟩, decide_eq_true hl⟩
  rw [Bool.and_eq_true, Bool.and_eq_true, List.all_eq_true]
  exact ⟨⟨(h1 x hx).pl, decide_eq_true (h1 x hx).dp⟩, fun y hy => h2 x hx y hy⟩
theorem srtB_str {α : Type} (f : α → Str) (l : List α) (h : ∀ a ∈ l, PyData.strOk (f a) = true) (hl : l.length ≤ lim) : srtB (l.map fun a => .str (f a)) = true := by
  refine srtB_of (fun x hx => ?_) (fun x hx y hy => ?_) (.inr fun x hx => ?_) (by rw [List.length_map]; exact hl)
  · obtain ⟨a, ha, rfl⟩ := List.mem_map.mp hx
    exact (ok_str _ (h a ha)).mono (by decide)
  · obtain ⟨a, _, rfl⟩ := List.mem_map.mp hx
    obtain ⟨b, _, rfl⟩ := List.mem_map.mp hy
    rfl
  · obtain ⟨a, _, rfl⟩ := List.mem_map.mp hx
    rfl
theorem srtB_int (l : List Int) (hl : l.length ≤ lim) : srtB (l.map .int) = true := by
  refine srtB_of (fun x hx => ?_) (fun x hx y hy => ?_) (.inr fun x hx => ?_) (by rw [List.length_map]; exact hl)
  · obtain ⟨a, ha, rfl⟩ := List.mem_map.mp hx
    exact (ok_int _).mono (by decide)
  · obtain ⟨a, _, rfl⟩ := List.mem_map.mp hx
    obtain ⟨b, _, rfl⟩ := List.mem_map.mp hy
    rfl
  · obtain ⟨a, _, rfl⟩ := List.mem_map.mp hx
    rfl
theorem lt_S (a b : List Nat) : PySem.W.dataLt (D.str (SX.S a)).py (D.str (SX.S b)).py = decide (a < b) := by
  show PySem.W.dataLt (.str (SX.S a)) (.str (SX.S b)) = _
  rw [PySem.W.dataLt_str]
theorem lt_int (a b : Int) : PySem.W.dataLt (D.int a).py (D.int b).py = decide (a < b) := PySem.W.dataLt_int a b
/-! ### loops over a list that is split -/
theorem enumD_app : ∀ (a b : List D) (i : Nat), enumD i (a ++ b) = enumD i a ++ enumD (i + a.length) b
  | [], b, i => rfl
  | x :: a, b, i => by
    show _ :: enumD (i + 1) (a ++ b) = _ :: (enumD (i + 1) a ++ _)
    rw [enumD_app a b (i + 1), show i + 1 + a.length = i + (x :: a).length by simp only [List.length_cons]; omega]
theorem mem_enumD : ∀ {l : List D} {i : Nat} {y : D}, y ∈ enumD i l → ∃ j x, l[j]? = some x ∧ y = .tup [.int ((i + j : Nat) : Int), x]
  | [], i, y, h => by unfold enumD at h; cases h
  | x :: l, i, y, h => by
    unfold enumD at h
    rcases List.mem_cons.mp h with h | h
    · exact ⟨0, x, rfl, h⟩
    · obtain ⟨j, z, h1, h2⟩ := mem_enumD h
      exact ⟨j + 1, z, h1, by rw [h2, show i + 1 + j = i + (j + 1) by omega]⟩
theorem for_pre {F : D → List Sl → M (Fl × List Sl)} (I : List Sl → Prop) {r : List D} : ∀ (l : List D) (ρ : List Sl), I ρ → (∀ x ∈ l, ∀ ρ, I ρ → ∃ ρ', F x ρ = .ret (.nx, ρ') ∧ I ρ') → ∃ ρ', I ρ' ∧ forL F (l ++ r) ρ = forL F r ρ'
  | [], ρ, hi, _ => ⟨ρ, hi, rfl⟩
  | x :: l, ρ, hi, h => by
    obtain ⟨ρ1, h1, h2⟩ := h x (by simp) ρ hi
    obtain ⟨ρ2, h3, h4⟩ := for_pre I (r := r) l ρ1 h2 fun y hy => h y (by simp [hy])
    refine ⟨ρ2, h3, ?_⟩
    show M.bnd (F x ρ) _ = _
    rw [h1, bnd_ret']
    exact h4
theorem for_one {F : D → List Sl → M (Fl × List Sl)} {x : D} {ρ : List Sl} {e : Ex} (h : F x ρ = .thr e) : forL F [x] ρ = .thr e := by
  show M.bnd (F x ρ) _ = _
  rw [h]
  rfl
/-! ### what a lambda sees -/
def noS : Sl → Sl
  | .ow _ => .un
  | s => s
theorem noOwn_nil : noOwn [] = [] := rfl
theorem noOwn_cons (s : Sl) (r : List Sl) : noOwn (s :: r) = noS s :: noOwn r := by cases s <;> rfl
theorem noS_im (d : D) : noS (.im d) = .im d := rfl
theorem noS_un : noS .un = .un := rfl
theorem noS_ow (d : D) : noS (.ow d) = .un := rfl
theorem rep_S (c : Nat) (n : Nat) : repS (SX.S [c]) n = SX.S (List.replicate n c) := by
  unfold repS
  rcases n with _ | _ | n
  · rfl
  · rfl
  · rw [if_neg (by omega), if_neg]
    · congr 1
      have : ∀ (k : Nat) (acc : Array Nat), (List.replicate k (SX.S [c]).cps).foldl (· ++ ·) acc = acc ++ (List.replicate k c).toArray := by
        intro k
        induction k with
        | zero => intro acc; simp
        | succ k ih =>
          intro acc
          rw [List.replicate_succ, List.foldl_cons, ih, List.replicate_succ, List.toArray_cons]
          simp
      rw [Int.toNat_natCast, this]
      simp
    · rw [SX.S_len]
      simp
      omega
theorem opd_mulS (c : Nat) (n : Int) (h0 : 0 ≤ n) (h : n ≤ 1000) : opD .Mult (.str (SX.S [c])) (.int n) = some (.str (SX.S (List.replicate n.toNat c)), .sh) := by
  unfold opD
  dsimp only
  rw [if_pos ⟨by rw [SX.S_len]; simp, by omega, h⟩]
  have := rep_S c n.toNat
  rw [Int.toNat_of_nonneg h0] at this
  rw [this]
end PI
set_option maxRecDepth 100000
namespace K44
open PySem PySem.Spec PyProof.Rows L2 PI
def topS (i : Nat) : Stmt := PySem.Challenge.pw_netsfolded_k44_whole_curves.main.body.getD i (.Pass ⟨0, 0, 0, 0⟩)
def fis_integer : FnI := ⟨["thing"], ["thing"], defScope (topS 1), [], defBody (topS 1)⟩
def fis_within : FnI := ⟨["thing", "least", "most"], ["thing", "least", "most"], defScope (topS 2), [], defBody (topS 2)⟩
def fis_tuple_of : FnI := ⟨["thing", "many"], ["thing", "many"], defScope (topS 3), [], defBody (topS 3)⟩
def fcheck_level : FnI := ⟨["level", "most"], ["level", "most"], defScope (topS 12), [], defBody (topS 12)⟩
def fside_of : FnI := ⟨["level"], ["level", "found", "_"], defScope (topS 13), [], defBody (topS 13)⟩
def ftold_spot : FnI := ⟨["level", "number"], ["level", "number", "row", "column", "side", "rest", "_", "quarter"], defScope (topS 14), [], defBody (topS 14)⟩
def fspot_of : FnI := ⟨["level", "number"], ["level", "number", "side"], defScope (topS 15), [], defBody (topS 15)⟩
def ftold_number : FnI := ⟨["level", "spot"], ["level", "spot", "found", "side", "_", "row", "column", "quarter"], defScope (topS 16), [], defBody (topS 16)⟩
def fcheck_spot : FnI := ⟨["level", "spot"], ["level", "spot", "one"], defScope (topS 17), [], defBody (topS 17)⟩
def fnumber_at : FnI := ⟨["level", "spot"], ["level", "spot"], defScope (topS 18), [], defBody (topS 18)⟩
def fnear : FnI := ⟨["level", "spot"], ["level", "spot", "some", "side", "row", "column", "one"], defScope (topS 19), [], defBody (topS 19)⟩
def fnearest_numbers : FnI := ⟨["level", "spot"], ["level", "spot", "some"], defScope (topS 20), [], defBody (topS 20)⟩
def flongest_jump : FnI := ⟨["level"], ["level", "best", "number", "other"], defScope (topS 21), [], defBody (topS 21)⟩
def f_law_taken : FnI := ⟨["row", "many"], ["row", "many", "cell", "found"], defScope (topS 23), [], defBody (topS 23)⟩
def f_law_pick : FnI := ⟨["row", "some"], ["row", "some"], defScope (topS 24), [], defBody (topS 24)⟩
def f_law_alike : FnI := ⟨["found", "due"], ["found", "due", "k", "key"], defScope (topS 25), [], defBody (topS 25)⟩
def f_law_unlike : FnI := ⟨["things"], ["things", "found", "one"], defScope (topS 26), [], defBody (topS 26)⟩
def f_law_curve : FnI := ⟨["level"], ["level", "k", "found", "half", "first", "second", "third", "fourth", "row", "column"], defScope (topS 27), [], defBody (topS 27)⟩
def flaw : FnI := ⟨["script"], ["script", "row", "level", "side", "k", "turn", "small", "places", "number", "wrong", "ask", "much", "spot", "some", "near_v", "curve", "best", "one", "other", "there", "odd", "none", "before"], defScope (topS 29), ["row"], defBody (topS 29)⟩
def P : Pg := ⟨[("is_integer", fis_integer), ("is_within", fis_within), ("is_tuple_of", fis_tuple_of), ("check_level", fcheck_level), ("side_of", fside_of), ("told_spot", ftold_spot), ("spot_of", fspot_of), ("told_number", ftold_number), ("check_spot", fcheck_spot), ("number_at", fnumber_at), ("near", fnear), ("nearest_numbers", fnearest_numbers), ("longest_jump", flongest_jump), ("_law_taken", f_law_taken), ("_law_pick", f_law_pick), ("_law_alike", f_law_alike), ("_law_unlike", f_law_unlike), ("_law_curve", f_law_curve), ("law", flaw)],
  [("MOST_LEVEL", (.int (8))), ("FEW_LEVEL", (.int (4)))],
  [("BadLevel", 1), ("BadNumber", 1), ("BadSpot", 1)],
  "_law_refused", [("BadLevel", "level", 1), ("BadNumber", "number", 1), ("BadSpot", "spot", 1)]⟩
end K44
set_option linter.all false
set_option maxRecDepth 100000
set_option maxHeartbeats 4000000
namespace K44
open PySem PySem.Spec PyProof.Rows L2 PI
def cis_integer : List Cm := [
  .ret (.bop .And [(.isi (.slot 0) ["int"]), (.nt (.isi (.slot 0) ["bool"]))])]

def cis_within : List Cm := [
  .fz [0] (.ret (.bop .And [(.call "is_integer" [(.slot 0)]), (.cmp (.slot 1) [.LtE, .LtE] [(.slot 0), (.slot 2)])]))]

def cis_tuple_of : List Cm := [
  .ret (.bop .And [(.isi (.slot 0) ["tuple"]), (.cmp (.blt "len" [(.slot 0)]) [.Eq] [(.slot 1)])])]

def ccheck_level : List Cm := [
  .fz [0, 1] (.ite (.nt (.of (.call "is_within" [(.slot 0), (.val (.int (0))), (.slot 1)]))) [
    .fz [0] (.raise "BadLevel" 1 [(.slot 0)])] [])]

def cside_of_1 : List Cm := [
  .aug .Mult 1 (.val (.int (2)))]
def cside_of : List Cm := [
  .asn 1 false (.val (.int (1))),
  .fz [0] (.fr (.nm 2) (.rng1 (.slot 0)) cside_of_1),
  .ret (.slot 1)]

def ctold_spot_1 : List Cm := [
  .asn 7 false (.bin .Mod (.slot 5) (.val (.int (4)))),
  .aug .FloorDiv 5 (.val (.int (4))),
  .ite (.cmp (.slot 7) [.Eq] [(.val (.int (0)))]) [
    .fz [2, 3] (.asn2 2 3 (.slot 3) (.slot 2))] [
    .ite (.cmp (.slot 7) [.Eq] [(.val (.int (1)))]) [
      .aug .Add 2 (.slot 4)] [
      .ite (.cmp (.slot 7) [.Eq] [(.val (.int (2)))]) [
        .fz [2, 3] (.asn2 2 3 (.bin .Add (.slot 2) (.slot 4)) (.bin .Add (.slot 3) (.slot 4)))] [
        .fz [2, 3] (.asn2 2 3 (.bin .Sub (.bin .Sub (.slot 4) (.val (.int (1)))) (.slot 3)) (.bin .Sub (.bin .Sub (.bin .Mult (.val (.int (2))) (.slot 4)) (.val (.int (1)))) (.slot 2)))]]],
  .aug .Mult 4 (.val (.int (2)))]
def ctold_spot : List Cm := [
  .asnB 2 3 (.val (.int (0))),
  .asn 4 false (.val (.int (1))),
  .fz [1] (.asn 5 false (.slot 1)),
  .fz [0] (.fr (.nm 6) (.rng1 (.slot 0)) ctold_spot_1),
  .fz [2, 3] (.ret (.tup [(.slot 2), (.slot 3)]))]

def cspot_of : List Cm := [
  .fz [0] (.ex (.call "check_level" [(.slot 0), (.val (.int (8)))])),
  .fz [0] (.asn 2 false (.call "side_of" [(.slot 0)])),
  .fz [1] (.ite (.nt (.of (.call "is_within" [(.slot 1), (.val (.int (0))), (.bin .Sub (.bin .Mult (.slot 2) (.slot 2)) (.val (.int (1))))]))) [
    .fz [1] (.raise "BadNumber" 1 [(.slot 1)])] []),
  .fz [0, 1] (.ret (.call "told_spot" [(.slot 0), (.slot 1)]))]

def ctold_number_1 : List Cm := [
  .aug .FloorDiv 3 (.val (.int (2))),
  .ite (.bop .And [(.cmp (.slot 5) [.Lt] [(.slot 3)]), (.cmp (.slot 6) [.Lt] [(.slot 3)])]) [
    .asn 7 false (.val (.int (0))),
    .fz [5, 6] (.asn2 5 6 (.slot 6) (.slot 5))] [
    .ite (.bop .And [(.cmp (.slot 5) [.GtE] [(.slot 3)]), (.cmp (.slot 6) [.Lt] [(.slot 3)])]) [
      .asn 7 false (.val (.int (1))),
      .aug .Sub 5 (.slot 3)] [
      .ite (.cmp (.slot 5) [.GtE] [(.slot 3)]) [
        .asn 7 false (.val (.int (2))),
        .fz [5, 6] (.asn2 5 6 (.bin .Sub (.slot 5) (.slot 3)) (.bin .Sub (.slot 6) (.slot 3)))] [
        .asn 7 false (.val (.int (3))),
        .fz [5, 6] (.asn2 5 6 (.bin .Sub (.bin .Sub (.bin .Mult (.val (.int (2))) (.slot 3)) (.val (.int (1)))) (.slot 6)) (.bin .Sub (.bin .Sub (.slot 3) (.val (.int (1)))) (.slot 5)))]]],
  .asn 2 false (.bin .Add (.bin .Mult (.val (.int (4))) (.slot 2)) (.slot 7))]
def ctold_number : List Cm := [
  .fz [1, 5, 6] (.asnT (.tup [(.nm 5), (.nm 6)]) (.slot 1)),
  .asn 2 false (.val (.int (0))),
  .fz [0] (.asn 3 false (.call "side_of" [(.slot 0)])),
  .fz [0] (.fr (.nm 4) (.rng1 (.slot 0)) ctold_number_1),
  .ret (.slot 2)]

def ccheck_spot : List Cm := [
  .fz [0] (.ex (.call "check_level" [(.slot 0), (.val (.int (8)))])),
  .fz [1, 2, 0] (.ite (.bop .Or [(.nt (.of (.call "is_tuple_of" [(.slot 1), (.val (.int (2)))]))), (.nt (.of (.blt "all" [(.comp (.nm 2) (.of (.slot 1)) [] (.call "is_within" [(.slot 2), (.val (.int (0))), (.bin .Sub (.call "side_of" [(.slot 0)]) (.val (.int (1))))]) [2])])))]) [
    .fz [1] (.raise "BadSpot" 1 [(.slot 1)])] [])]

def cnumber_at : List Cm := [
  .fz [0, 1] (.ex (.call "check_spot" [(.slot 0), (.slot 1)])),
  .fz [0, 1] (.ret (.call "told_number" [(.slot 0), (.slot 1)]))]

def cnear : List Cm := [
  .fz [1, 4, 5] (.asnT (.tup [(.nm 4), (.nm 5)]) (.slot 1)),
  .fz [4, 5] (.asn 2 false (.lst [(.tup [(.bin .Sub (.slot 4) (.val (.int (1)))), (.slot 5)]), (.tup [(.slot 4), (.bin .Sub (.slot 5) (.val (.int (1))))]), (.tup [(.slot 4), (.bin .Add (.slot 5) (.val (.int (1))))]), (.tup [(.bin .Add (.slot 4) (.val (.int (1)))), (.slot 5)])])),
  .fz [0] (.asn 3 false (.call "side_of" [(.slot 0)])),
  .fz [0, 6] (.ret (.comp (.nm 6) (.of (.slot 2)) [(.bop .And [(.cmp (.val (.int (0))) [.LtE, .Lt] [(.sub (.slot 6) (.val (.int (0)))), (.slot 3)]), (.cmp (.val (.int (0))) [.LtE, .Lt] [(.sub (.slot 6) (.val (.int (1)))), (.slot 3)])])] (.call "told_number" [(.slot 0), (.slot 6)]) [6]))]

def cnearest_numbers : List Cm := [
  .fz [0, 1] (.ex (.call "check_spot" [(.slot 0), (.slot 1)])),
  .fz [0, 1] (.asn 2 false (.call "near" [(.slot 0), (.slot 1)])),
  .ret (.ite (.of (.slot 2)) (.tup [(.blt "min" [(.slot 2)]), (.blt "max" [(.slot 2)])]) (.tup [(.val .non), (.val .non)]))]

def clongest_jump_1 : List Cm := [
  .asn 1 false (.blt "max" [(.slot 1), (.blt "abs" [(.bin .Sub (.slot 3) (.slot 2))])])]
def clongest_jump_2 : List Cm := [
  .fz [0, 2] (.fr (.nm 3) (.of (.call "near" [(.slot 0), (.call "told_spot" [(.slot 0), (.slot 2)])])) clongest_jump_1)]
def clongest_jump : List Cm := [
  .fz [0] (.ex (.call "check_level" [(.slot 0), (.val (.int (4)))])),
  .asn 1 false (.val (.int (0))),
  .fz [0] (.fr (.nm 2) (.rng1 (.bin .Mult (.call "side_of" [(.slot 0)]) (.call "side_of" [(.slot 0)]))) clongest_jump_2),
  .ret (.slot 1)]

def c_law_taken : List Cm := [
  .ite (.cmp (.sub (.slot 0) (.val (.int (3)))) [.Gt] [(.val (.int (0)))]) [
    .asn 3 false (.bin .Mod (.blt "int" [(.sub (.slot 0) (.val (.int (3))))]) (.slot 1)),
    .sasn 0 (.val (.int (3))) (.bin .FloorDiv (.sub (.slot 0) (.val (.int (3)))) (.slot 1)),
    .ret (.slot 3)] [],
  .sasn 0 (.val (.int (1))) (.bin .Add (.sub (.slot 0) (.val (.int (1)))) (.val (.int (1)))),
  .ite (.cmp (.sub (.slot 0) (.val (.int (1)))) [.Gt] [(.blt "len" [(.sub (.slot 0) (.val (.int (0))))])]) [
    .sasn 0 (.val (.int (2))) (.bin .Mod (.blt "int" [(.bin .Add (.bin .Mult (.sub (.slot 0) (.val (.int (2)))) (.val (.int (48271)))) (.val (.int (11))))]) (.val (.int (2147483647)))),
    .ret (.bin .Mod (.blt "int" [(.bin .FloorDiv (.sub (.slot 0) (.val (.int (2)))) (.val (.int (7))))]) (.slot 1))] [],
  .asn 2 false (.sub (.sub (.slot 0) (.val (.int (0)))) (.bin .Sub (.sub (.slot 0) (.val (.int (1)))) (.val (.int (1))))),
  .sasn 0 (.val (.int (2))) (.bin .Mod (.blt "int" [(.bin .Add (.bin .Add (.bin .Mult (.sub (.slot 0) (.val (.int (2)))) (.val (.int (48271)))) (.slot 2)) (.val (.int (11))))]) (.val (.int (2147483647)))),
  .ite (.cmp (.slot 2) [.GtE] [(.bin .Pow (.val (.int (10))) (.val (.int (18))))]) [
    .sasn 0 (.val (.int (3))) (.bin .FloorDiv (.slot 2) (.slot 1))] [],
  .ret (.bin .Mod (.blt "int" [(.slot 2)]) (.slot 1))]

def c_law_pick : List Cm := [
  .fz [0] (.ret (.sub (.slot 1) (.call "_law_taken" [(.slot 0), (.blt "len" [(.slot 1)])])))]

def c_law_alike : List Cm := [
  .ite (.of (.isi (.slot 1) ["tuple", "list"])) [
    .ite (.bop .Or [(.nt (.of (.isi (.slot 0) ["tuple", "list"]))), (.cmp (.isi (.slot 0) ["list"]) [.NotEq] [(.isi (.slot 1) ["list"])])]) [
      .ret (.val (.bl false))] [],
    .ite (.cmp (.blt "len" [(.slot 0)]) [.NotEq] [(.blt "len" [(.slot 1)])]) [
      .ret (.val (.bl false))] [],
    .fz [2] (.ret (.cmp (.comp (.nm 2) (.rng1 (.blt "len" [(.slot 1)])) [(.nt (.of (.call "_law_alike" [(.sub (.slot 0) (.slot 2)), (.sub (.slot 1) (.slot 2))])))] (.slot 2) [2]) [.Eq] [(.lst [])]))] [],
  .ite (.of (.isi (.slot 1) ["dict"])) [
    .ite (.bop .Or [(.nt (.of (.isi (.slot 0) ["dict"]))), (.cmp (.blt "list" [(.slot 0)]) [.NotEq] [(.blt "list" [(.slot 1)])])]) [
      .ret (.val (.bl false))] [],
    .fz [3] (.ret (.cmp (.comp (.nm 3) (.of (.slot 1)) [(.nt (.of (.call "_law_alike" [(.sub (.slot 0) (.slot 3)), (.sub (.slot 1) (.slot 3))])))] (.slot 3) [3]) [.Eq] [(.lst [])]))] [],
  .ite (.bop .Or [(.cmp (.slot 1) [.Is] [(.val .non)]), (.of (.isi (.slot 1) ["str"]))]) [
    .ret (.bop .And [(.cmp (.slot 0) [.Eq] [(.slot 1)]), (.cmp (.isi (.slot 0) ["str"]) [.Eq] [(.isi (.slot 1) ["str"])])])] [],
  .ret (.bop .And [(.isi (.slot 0) ["int"]), (.cmp (.isi (.slot 0) ["bool"]) [.Eq] [(.isi (.slot 1) ["bool"])]), (.cmp (.slot 0) [.Eq] [(.slot 1)])])]

def c_law_unlike_1 : List Cm := [
  .ite (.bop .Or [(.cmp (.slot 1) [.Eq] [(.lst [])]), (.cmp (.sub (.slot 1) (.neg (.val (.int (1))))) [.NotEq] [(.slot 2)])]) [
    .fz [2] (.app 1 (.slot 2))] []]
def c_law_unlike : List Cm := [
  .asn 1 false (.lst []),
  .fr (.nm 2) (.of (.blt "sorted" [(.blt "list" [(.slot 0)])])) c_law_unlike_1,
  .ret (.slot 1)]

def c_law_curve_1 : List Cm := [
  .fz [9, 8] (.asn 4 false (.comp (.tup [(.nm 8), (.nm 9)]) (.of (.slot 2)) [] (.tup [(.slot 9), (.slot 8)]) [8, 9])),
  .fz [9] (.asn 5 false (.comp (.tup [(.nm 8), (.nm 9)]) (.of (.slot 2)) [] (.tup [(.bin .Add (.slot 8) (.slot 3)), (.slot 9)]) [8, 9])),
  .asn 6 false (.comp (.tup [(.nm 8), (.nm 9)]) (.of (.slot 2)) [] (.tup [(.bin .Add (.slot 8) (.slot 3)), (.bin .Add (.slot 9) (.slot 3))]) [8, 9]),
  .asn 7 false (.comp (.tup [(.nm 8), (.nm 9)]) (.of (.slot 2)) [] (.tup [(.bin .Sub (.bin .Sub (.slot 3) (.val (.int (1)))) (.slot 9)), (.bin .Sub (.bin .Sub (.bin .Mult (.val (.int (2))) (.slot 3)) (.val (.int (1)))) (.slot 8))]) [8, 9]),
  .fz [2, 3] (.asn2 2 3 (.bin .Add (.bin .Add (.bin .Add (.slot 4) (.slot 5)) (.slot 6)) (.slot 7)) (.bin .Mult (.val (.int (2))) (.slot 3)))]
def c_law_curve : List Cm := [
  .fz [2, 3] (.asn2 2 3 (.lst [(.tup [(.val (.int (0))), (.val (.int (0)))])]) (.val (.int (1)))),
  .fz [0] (.fr (.nm 1) (.rng1 (.slot 0)) c_law_curve_1),
  .ret (.slot 2)]

def claw_1 : List Cm := [
  .asn 3 false (.bin .Mult (.slot 3) (.val (.int (2))))]
def claw_2 : List Cm := [
  .fz [1] (.asn 8 false (.call "_law_taken" [(.slot 1), (.bin .Mult (.slot 3) (.slot 3))])),
  .fz [2, 8] (.asn 12 false (.call "spot_of" [(.slot 2), (.slot 8)])),
  .fz [2, 12] (.ite (.bop .Or [(.cmp (.call "number_at" [(.slot 2), (.slot 12)]) [.NotEq] [(.slot 8)]), (.nt (.of (.isi (.slot 12) ["tuple"])))]) [
    .ret (.val (.bl false))] []),
  .ite (.cmp (.slot 8) [.Gt] [(.val (.int (0)))]) [
    .fz [2] (.asn 22 false (.call "spot_of" [(.slot 2), (.bin .Sub (.slot 8) (.val (.int (1))))])),
    .ite (.cmp (.bin .Add (.blt "abs" [(.bin .Sub (.sub (.slot 22) (.val (.int (0)))) (.sub (.slot 12) (.val (.int (0)))))]) (.blt "abs" [(.bin .Sub (.sub (.slot 22) (.val (.int (1)))) (.sub (.slot 12) (.val (.int (1)))))])) [.NotEq] [(.val (.int (1)))]) [
      .ret (.val (.bl false))] []] [],
  .fz [1, 3] (.asn 12 false (.tup [(.call "_law_taken" [(.slot 1), (.slot 3)]), (.call "_law_taken" [(.slot 1), (.slot 3)])])),
  .fz [2, 12] (.ite (.cmp (.call "spot_of" [(.slot 2), (.call "number_at" [(.slot 2), (.slot 12)])]) [.NotEq] [(.slot 12)]) [
    .ret (.val (.bl false))] []),
  .asn 13 false (.lst [(.tup [(.bin .Sub (.sub (.slot 12) (.val (.int (0)))) (.val (.int (1)))), (.sub (.slot 12) (.val (.int (1))))]), (.tup [(.bin .Add (.sub (.slot 12) (.val (.int (0)))) (.val (.int (1)))), (.sub (.slot 12) (.val (.int (1))))]), (.tup [(.sub (.slot 12) (.val (.int (0)))), (.bin .Sub (.sub (.slot 12) (.val (.int (1)))) (.val (.int (1))))]), (.tup [(.sub (.slot 12) (.val (.int (0)))), (.bin .Add (.sub (.slot 12) (.val (.int (1)))) (.val (.int (1))))])]),
  .fz [2, 17] (.asn 14 false (.comp (.nm 17) (.of (.slot 13)) [(.bop .And [(.cmp (.val (.int (0))) [.LtE] [(.blt "min" [(.slot 17)])]), (.cmp (.blt "max" [(.slot 17)]) [.Lt] [(.slot 3)])])] (.call "number_at" [(.slot 2), (.slot 17)]) [17])),
  .fz [2, 12] (.ite (.nt (.of (.call "_law_alike" [(.call "nearest_numbers" [(.slot 2), (.slot 12)]), (.ite (.cmp (.slot 14) [.NotEq] [(.lst [])]) (.tup [(.blt "min" [(.slot 14)]), (.blt "max" [(.slot 14)])]) (.tup [(.val .non), (.val .non)]))]))) [
    .ret (.val (.bl false))] [])]
def claw_3 : List Cm := [
  .fz [8] (.sasn 7 (.sub (.slot 15) (.slot 8)) (.slot 8))]
def claw_4 : List Cm := [
  .ite (.cmp (.slot 19) [.In] [(.slot 7)]) [
    .fz [17, 18] (.asn 16 false (.blt "max" [(.slot 16), (.blt "abs" [(.bin .Sub (.sub (.slot 7) (.slot 19)) (.sub (.slot 7) (.tup [(.slot 17), (.slot 18)])))])]))] []]
def claw_5 : List Cm := [
  .fz [18, 17] (.fr (.nm 19) (.of (.lst [(.tup [(.bin .Add (.slot 17) (.val (.int (1)))), (.slot 18)]), (.tup [(.slot 17), (.bin .Add (.slot 18) (.val (.int (1))))])])) claw_4)]
def claw_6 : List Cm := [
  .fz [2, 9] (.ite (.cmp (.blt "repr" [(.rfs (.callv 10 [(.slot 2), (.slot 9)]))]) [.NotEq] [(.blt "repr" [(.tup [(.val (.str (SX.S [115, 112, 111, 116]))), (.slot 9)])])]) [
    .ret (.val (.bl false))] [])]
def claw : List Cm := [
  .fz [0] (.asn 1 true (.lst [(.slot 0), (.val (.int (0))), (.val (.int (144))), (.val (.int (0)))])),
  .fz [1] (.asn 2 false (.call "_law_taken" [(.slot 1), (.val (.int (9)))])),
  .asn 3 false (.val (.int (1))),
  .fz [2] (.fr (.nm 4) (.rng1 (.slot 2)) claw_1),
  .fr (.nm 5) (.rng1 (.val (.int (6)))) claw_2,
  .fz [1] (.asn 6 false (.call "_law_taken" [(.slot 1), (.val (.int (4)))])),
  .fz [6, 15, 16] (.asn2 15 16 (.call "_law_curve" [(.slot 6)]) (.val (.int (0)))),
  .fz [6, 8, 15] (.ite (.bop .Or [(.cmp (.comp (.nm 8) (.rng1 (.blt "len" [(.slot 15)])) [] (.call "spot_of" [(.slot 6), (.slot 8)]) [8]) [.NotEq] [(.slot 15)]), (.cmp (.blt "len" [(.call "_law_unlike" [(.slot 15)])]) [.NotEq] [(.blt "len" [(.slot 15)])])]) [
    .ret (.val (.bl false))] []),
  .asn 7 false .dct0,
  .fr (.nm 8) (.rng1 (.blt "len" [(.slot 15)])) claw_3,
  .fz [7] (.fr (.tup [(.nm 17), (.nm 18)]) (.of (.slot 7)) claw_5),
  .fz [6, 16] (.ite (.nt (.of (.call "_law_alike" [(.call "longest_jump" [(.slot 6)]), (.slot 16)]))) [
    .ret (.val (.bl false))] []),
  .fz [1, 20, 21] (.asn2 20 21 (.call "_law_pick" [(.slot 1), (.lst [(.neg (.val (.int (1)))), (.val (.int (9))), (.val .non), (.val (.bl true))])]) (.call "_law_pick" [(.slot 1), (.lst [(.neg (.val (.int (1)))), (.bin .Mult (.slot 3) (.slot 3)), (.val .non)])])),
  .fz [21, 20] (.ite (.cmp (.blt "repr" [(.rfs (.call "spot_of" [(.slot 20), (.slot 21)]))]) [.NotEq] [(.blt "repr" [(.tup [(.val (.str (SX.S [108, 101, 118, 101, 108]))), (.slot 20)])])]) [
    .ret (.val (.bl false))] []),
  .fz [2, 21] (.ite (.cmp (.blt "repr" [(.rfs (.call "spot_of" [(.slot 2), (.slot 21)]))]) [.NotEq] [(.blt "repr" [(.tup [(.val (.str (SX.S [110, 117, 109, 98, 101, 114]))), (.slot 21)])])]) [
    .ret (.val (.bl false))] []),
  .fz [1, 3] (.asn 9 false (.call "_law_pick" [(.slot 1), (.lst [(.val .non), (.tup [(.val (.int (0)))]), (.lst [(.val (.int (0))), (.val (.int (0)))]), (.tup [(.slot 3), (.val (.int (0)))]), (.tup [(.val (.int (0))), (.neg (.val (.int (1))))]), (.tup [(.val (.int (0))), (.val .non)])])])),
  .fr (.nm 10) (.of (.lst [(.val (.fn "number_at")), (.val (.fn "nearest_numbers"))])) claw_6,
  .fz [1] (.asn 11 false (.call "_law_pick" [(.slot 1), (.lst [(.neg (.val (.int (1)))), (.val (.int (5))), (.val .non), (.val (.bl true))])])),
  .fz [11] (.ret (.cmp (.blt "repr" [(.rfs (.call "longest_jump" [(.slot 11)]))]) [.Eq] [(.blt "repr" [(.tup [(.val (.str (SX.S [108, 101, 118, 101, 108]))), (.slot 11)])])]))]

theorem dis_integer : IsD P "is_integer" 1 0 cis_integer := ⟨fis_integer, 1000, by rfl, rfl, rfl, by rfl⟩
theorem dis_within : IsD P "is_within" 3 0 cis_within := ⟨fis_within, 1000, by rfl, rfl, rfl, by rfl⟩
theorem dis_tuple_of : IsD P "is_tuple_of" 2 0 cis_tuple_of := ⟨fis_tuple_of, 1000, by rfl, rfl, rfl, by rfl⟩
theorem dcheck_level : IsD P "check_level" 2 0 ccheck_level := ⟨fcheck_level, 1000, by rfl, rfl, rfl, by rfl⟩
theorem dside_of : IsD P "side_of" 1 2 cside_of := ⟨fside_of, 1000, by rfl, rfl, rfl, by rfl⟩
theorem dtold_spot : IsD P "told_spot" 2 6 ctold_spot := ⟨ftold_spot, 1000, by rfl, rfl, rfl, by rfl⟩
theorem dspot_of : IsD P "spot_of" 2 1 cspot_of := ⟨fspot_of, 1000, by rfl, rfl, rfl, by rfl⟩
theorem dtold_number : IsD P "told_number" 2 6 ctold_number := ⟨ftold_number, 1000, by rfl, rfl, rfl, by rfl⟩
theorem dcheck_spot : IsD P "check_spot" 2 1 ccheck_spot := ⟨fcheck_spot, 1000, by rfl, rfl, rfl, by rfl⟩
theorem dnumber_at : IsD P "number_at" 2 0 cnumber_at := ⟨fnumber_at, 1000, by rfl, rfl, rfl, by rfl⟩
theorem dnear : IsD P "near" 2 5 cnear := ⟨fnear, 1000, by rfl, rfl, rfl, by rfl⟩
theorem dnearest_numbers : IsD P "nearest_numbers" 2 1 cnearest_numbers := ⟨fnearest_numbers, 1000, by rfl, rfl, rfl, by rfl⟩
theorem dlongest_jump : IsD P "longest_jump" 1 3 clongest_jump := ⟨flongest_jump, 1000, by rfl, rfl, rfl, by rfl⟩
theorem d_law_taken : IsD P "_law_taken" 2 2 c_law_taken := ⟨f_law_taken, 1000, by rfl, rfl, rfl, by rfl⟩
theorem d_law_pick : IsD P "_law_pick" 2 0 c_law_pick := ⟨f_law_pick, 1000, by rfl, rfl, rfl, by rfl⟩
theorem d_law_alike : IsD P "_law_alike" 2 2 c_law_alike := ⟨f_law_alike, 1000, by rfl, rfl, rfl, by rfl⟩
theorem d_law_unlike : IsD P "_law_unlike" 1 2 c_law_unlike := ⟨f_law_unlike, 1000, by rfl, rfl, rfl, by rfl⟩
theorem d_law_curve : IsD P "_law_curve" 1 9 c_law_curve := ⟨f_law_curve, 1000, by rfl, rfl, rfl, by rfl⟩
theorem dlaw (A : Addr) (q : Str) : cSs 1000 P ⟨flaw.N, flaw.sc, flaw.cells, none, some (A, q)⟩ flaw.body = some claw := by rfl
end K44
set_option linter.all false
set_option maxRecDepth 100000
set_option maxHeartbeats 4000000
/-! K44M: the curve: spots of numbers, numbers of spots. -/
namespace K44
abbrev Pt := Int × Int
def G (s : Int) (q : Nat) (p : Pt) : Pt := if q = 0 then (p.2, p.1) else if q = 1 then (p.1 + s, p.2) else if q = 2 then (p.1 + s, p.2 + s) else (s - 1 - p.2, 2 * s - 1 - p.1)
def Sp : Nat → Nat → Pt
  | 0, _ => (0, 0)
  | k + 1, n => G (2 ^ k) (n / 4 ^ k % 4) (Sp k n)
/-- the quarter of a spot, the spot within it -/
def Qd (s : Int) (p : Pt) : Nat := if p.1 < s ∧ p.2 < s then 0 else if s ≤ p.1 ∧ p.2 < s then 1 else if s ≤ p.1 then 2 else 3
def Qp (s : Int) (p : Pt) : Pt := if p.1 < s ∧ p.2 < s then (p.2, p.1) else if s ≤ p.1 ∧ p.2 < s then (p.1 - s, p.2) else if s ≤ p.1 then (p.1 - s, p.2 - s) else (2 * s - 1 - p.2, s - 1 - p.1)
def Nm : Nat → Pt → Nat
  | 0, _ => 0
  | k + 1, p => Qd (2 ^ k) p * 4 ^ k + Nm k (Qp (2 ^ k) p)
def In (k : Nat) (p : Pt) : Prop := 0 ≤ p.1 ∧ p.1 < 2 ^ k ∧ 0 ≤ p.2 ∧ p.2 < 2 ^ k
theorem two_pos (k : Nat) : (1 : Int) ≤ 2 ^ k := by
  have : (0 : Int) < 2 ^ k := Int.pow_pos (by decide)
  omega
theorem two_succ (k : Nat) : (2 : Int) ^ (k + 1) = 2 * 2 ^ k := by rw [Int.pow_succ]; omega
theorem G_in {k q : Nat} {p : Pt} (hq : q < 4) (h : In k p) : In (k + 1) (G (2 ^ k) q p) := by
  unfold In at *
  rw [two_succ]
  generalize (2 : Int) ^ k = s at *
  unfold G
  split
  · dsimp only; omega
  · split
    · dsimp only; omega
    · split
      · dsimp only; omega
      · dsimp only; omega
theorem Sp_in : ∀ k n, In k (Sp k n)
  | 0, n => by unfold Sp In; decide
  | k + 1, n => G_in (Nat.mod_lt _ (by decide)) (Sp_in k n)
theorem Q_G {k q : Nat} {p : Pt} (hq : q < 4) (h : In k p) : Qd (2 ^ k) (G (2 ^ k) q p) = q ∧ Qp (2 ^ k) (G (2 ^ k) q p) = p := by
  unfold In at h
  generalize (2 : Int) ^ k = s at *
  obtain ⟨a, b⟩ := p
  dsimp only at h
  unfold G Qd Qp
  have e : q = 0 ∨ q = 1 ∨ q = 2 ∨ q = 3 := by omega
  rcases e with rfl | rfl | rfl | rfl
  · simp only [if_true]
    rw [if_pos ⟨h.2.2.2, h.2.1⟩, if_pos ⟨h.2.2.2, h.2.1⟩]
    exact ⟨rfl, rfl⟩
  · simp only [Nat.one_ne_zero, if_false, if_true]
    rw [if_neg (by omega), if_pos (by omega), if_neg (by omega), if_pos (by omega)]
    exact ⟨rfl, by rw [Prod.mk.injEq]; omega⟩
  · simp only [show ¬ 2 = 0 from by decide, show ¬ 2 = 1 from by decide, if_false, if_true]
    rw [if_neg (by omega), if_neg (by omega), if_pos (by omega), if_neg (by omega), if_neg (by omega), if_pos (by omega)]
    exact ⟨rfl, by rw [Prod.mk.injEq]; omega⟩
  · simp only [show ¬ 3 = 0 from by decide, show ¬ 3 = 1 from by decide, show ¬ 3 = 2 from by decide, if_false]
    rw [if_neg (by omega), if_neg (by omega), if_neg (by omega), if_neg (by omega), if_neg (by omega), if_neg (by omega)]
    exact ⟨rfl, by rw [Prod.mk.injEq]; omega⟩
theorem G_Q {k : Nat} {p : Pt} (h : In (k + 1) p) : In k (Qp (2 ^ k) p) ∧ G (2 ^ k) (Qd (2 ^ k) p) (Qp (2 ^ k) p) = p ∧ Qd (2 ^ k) p < 4 := by
  unfold In at *
  rw [two_succ] at h
  generalize (2 : Int) ^ k = s at *
  obtain ⟨a, b⟩ := p
  dsimp only at h
  unfold G Qd Qp
  dsimp only
  by_cases h1 : a < s ∧ b < s
  · simp only [if_pos h1]
    exact ⟨by omega, by simp, by decide⟩
  · simp only [if_neg h1]
    by_cases h2 : s ≤ a ∧ b < s
    · simp only [if_pos h2, Nat.one_ne_zero, if_false, if_true]
      exact ⟨by omega, by rw [Prod.mk.injEq]; omega, by decide⟩
    · simp only [if_neg h2]
      by_cases h3 : s ≤ a
      · simp only [if_pos h3, show ¬ 2 = 0 from by decide, show ¬ 2 = 1 from by decide, if_false, if_true]
        exact ⟨by omega, by rw [Prod.mk.injEq]; omega, by decide⟩
      · simp only [if_neg h3, show ¬ 3 = 0 from by decide, show ¬ 3 = 1 from by decide, show ¬ 3 = 2 from by decide, if_false]
        exact ⟨by omega, by rw [Prod.mk.injEq]; omega, by decide⟩
theorem four_succ (k n : Nat) : n % 4 ^ (k + 1) = n / 4 ^ k % 4 * 4 ^ k + n % 4 ^ k := by
  rw [Nat.mod_pow_succ, Nat.mul_comm]
  omega
theorem Nm_succ (k : Nat) (p : Pt) : Nm (k + 1) p = Qd (2 ^ k) p * 4 ^ k + Nm k (Qp (2 ^ k) p) := rfl
theorem Nm_Sp : ∀ k n, Nm k (Sp k n) = n % 4 ^ k
  | 0, n => by unfold Nm; rw [Nat.pow_zero, Nat.mod_one]
  | k + 1, n => by
    show Nm (k + 1) (G (2 ^ k) (n / 4 ^ k % 4) (Sp k n)) = _
    unfold Nm
    obtain ⟨h1, h2⟩ := Q_G (Nat.mod_lt (n / 4 ^ k) (by decide)) (Sp_in k n)
    rw [h1, h2, Nm_Sp k n, four_succ]
theorem Nm_lt : ∀ k {p}, In k p → Nm k p < 4 ^ k
  | 0, p, h => by unfold Nm; decide
  | k + 1, p, h => by
    obtain ⟨h1, h2, h3⟩ := G_Q h
    have := Nm_lt k h1
    unfold Nm
    rw [Nat.pow_succ]
    have h4 : Qd (2 ^ k) p * 4 ^ k ≤ 3 * 4 ^ k := Nat.mul_le_mul_right _ (by omega)
    omega
/-- the spot of a number looks at its digits alone -/
theorem Sp_mod : ∀ k n m, n % 4 ^ k = m % 4 ^ k → Sp k n = Sp k m
  | 0, n, m, h => rfl
  | k + 1, n, m, h => by
    unfold Sp
    have hp : 0 < 4 ^ k := Nat.pow_pos (by decide)
    have e1 : n % 4 ^ k = m % 4 ^ k := by
      have this : (n % 4 ^ (k + 1)) % 4 ^ k = (m % 4 ^ (k + 1)) % 4 ^ k := by rw [h]
      rwa [Nat.pow_succ, Nat.mod_mul_right_mod, Nat.mod_mul_right_mod] at this
    have e2 : n / 4 ^ k % 4 = m / 4 ^ k % 4 := by
      rw [four_succ, four_succ, e1] at h
      have := Nat.add_right_cancel h
      exact Nat.eq_of_mul_eq_mul_right hp this
    rw [e2, Sp_mod k n m e1]
theorem Sp_Nm : ∀ k {p}, In k p → Sp k (Nm k p) = p
  | 0, p, h => by
    unfold In at h
    obtain ⟨a, b⟩ := p
    dsimp only at h
    unfold Sp
    rw [Prod.mk.injEq]
    omega
  | k + 1, p, h => by
    obtain ⟨h1, h2, h3⟩ := G_Q h
    have hl := Nm_lt k h1
    have hp : 0 < 4 ^ k := Nat.pow_pos (by decide)
    have e1 : Nm (k + 1) p % 4 ^ k = Nm k (Qp (2 ^ k) p) % 4 ^ k := by
      rw [Nm_succ, Nat.mul_comm, Nat.mul_add_mod]
    have e2 : Nm (k + 1) p / 4 ^ k % 4 = Qd (2 ^ k) p := by
      rw [Nm_succ, Nat.mul_comm, Nat.mul_add_div hp, Nat.div_eq_of_lt hl, Nat.add_zero, Nat.mod_eq_of_lt h3]
    show G (2 ^ k) (Nm (k + 1) p / 4 ^ k % 4) (Sp k (Nm (k + 1) p)) = p
    rw [e2, Sp_mod k _ _ e1, Sp_Nm k h1, h2]
/-! ### neighbours -/
def ab (i : Int) : Int := if i < 0 then -i else i
def Ad (p q : Pt) : Prop := ab (p.1 - q.1) + ab (p.2 - q.2) = 1
theorem G_Ad {s : Int} {q : Nat} {a b : Pt} (h : Ad a b) : Ad (G s q a) (G s q b) := by
  unfold Ad ab at *
  unfold G
  split
  · dsimp only; omega
  · split
    · dsimp only; omega
    · split
      · dsimp only; omega
      · dsimp only; omega
theorem Sp_0 : ∀ k, Sp k 0 = (0, 0)
  | 0 => rfl
  | k + 1 => by
    unfold Sp
    rw [Nat.zero_div, Nat.zero_mod, Sp_0 k]
    rfl
theorem Sp_end : ∀ k, Sp k (4 ^ k - 1) = (0, 2 ^ k - 1)
  | 0 => rfl
  | k + 1 => by
    unfold Sp
    have hp : 0 < 4 ^ k := Nat.pow_pos (by decide)
    have e0 : 4 ^ (k + 1) - 1 = 4 ^ k * 3 + (4 ^ k - 1) := by rw [Nat.pow_succ]; omega
    have e1 : (4 ^ (k + 1) - 1) / 4 ^ k % 4 = 3 := by
      rw [e0, Nat.mul_add_div hp, Nat.div_eq_of_lt (by omega)]
    have e2 : Sp k (4 ^ (k + 1) - 1) = Sp k (4 ^ k - 1) := Sp_mod k _ _ (by rw [e0, Nat.mul_add_mod])
    rw [e1, e2, Sp_end k, two_succ]
    generalize (2 : Int) ^ k = s
    unfold G
    simp only [show ¬ 3 = 0 from by decide, show ¬ 3 = 1 from by decide, show ¬ 3 = 2 from by decide, if_false]
    rw [Prod.mk.injEq]
    omega
theorem Sp_adj : ∀ k n, n + 1 < 4 ^ k → Ad (Sp k n) (Sp k (n + 1))
  | 0, n, h => by rw [Nat.pow_zero] at h; omega
  | k + 1, n, h => by
    unfold Sp
    have hp : 0 < 4 ^ k := Nat.pow_pos (by decide)
    rw [Nat.pow_succ] at h
    have hd := Nat.div_add_mod n (4 ^ k)
    have hm := Nat.mod_lt n hp
    generalize hq : n / 4 ^ k = q at *
    have hq4 : q < 4 := by
      rw [← hq]
      exact Nat.div_lt_of_lt_mul (by omega)
    by_cases e : n % 4 ^ k + 1 < 4 ^ k
    · have e1 : (n + 1) / 4 ^ k = q := by
        rw [← hd, Nat.add_assoc, Nat.mul_add_div hp, Nat.div_eq_of_lt e, Nat.add_zero]
      have e2 : Sp k (n + 1) = Sp k (n % 4 ^ k + 1) := Sp_mod k _ _ (by
        conv => lhs; rw [← hd, Nat.add_assoc, Nat.mul_add_mod])
      have e3 : Sp k n = Sp k (n % 4 ^ k) := Sp_mod k _ _ (by rw [Nat.mod_mod])
      rw [e1, e2, e3]
      exact G_Ad (Sp_adj k _ e)
    · have em : n % 4 ^ k = 4 ^ k - 1 := by omega
      have en : n + 1 = 4 ^ k * (q + 1) := by rw [Nat.mul_add]; omega
      have e1 : (n + 1) / 4 ^ k = q + 1 := by rw [en, Nat.mul_div_cancel_left _ hp]
      have e2 : Sp k (n + 1) = (0, 0) := by
        rw [← Sp_0 k]
        exact Sp_mod k _ _ (by rw [en, Nat.mul_mod_right, Nat.zero_mod])
      have e3 : Sp k n = (0, 2 ^ k - 1) := by
        rw [← Sp_end k]
        exact Sp_mod k _ _ (by rw [em, Nat.mod_eq_of_lt (by omega)])
      have hq3 : q + 1 < 4 := by
        apply Nat.lt_of_mul_lt_mul_left (a := 4 ^ k)
        omega
      rw [e1, e2, e3, Nat.mod_eq_of_lt hq4, Nat.mod_eq_of_lt hq3]
      have hs := two_pos k
      generalize (2 : Int) ^ k = s at *
      have c : q = 0 ∨ q = 1 ∨ q = 2 := by omega
      unfold Ad ab G
      rcases c with rfl | rfl | rfl
      · simp only [if_true, Nat.zero_add, Nat.one_ne_zero, if_false]
        omega
      · simp only [if_true, Nat.one_ne_zero, if_false, show ¬ 1 + 1 = 0 from by decide, show ¬ 1 + 1 = 1 from by decide, show 1 + 1 = 2 from rfl]
        simp
        omega
      · simp only [show ¬ 2 = 0 from by decide, show ¬ 2 = 1 from by decide, show 2 + 1 = 3 from rfl, show ¬ 3 = 0 from by decide, show ¬ 3 = 1 from by decide, show ¬ 3 = 2 from by decide, if_true, if_false]
        omega
end K44
set_option linter.all false
set_option maxRecDepth 100000
set_option maxHeartbeats 4000000
/-! K44N: neighbours' numbers, the longest jump. -/
namespace K44
def inB (L : Nat) (p : Pt) : Bool := (decide (0 ≤ p.1) && decide (p.1 < 2 ^ L)) && (decide (0 ≤ p.2) && decide (p.2 < 2 ^ L))
theorem inB_iff (L : Nat) (p : Pt) : inB L p = true ↔ In L p := by
  unfold inB In
  simp only [Bool.and_eq_true, decide_eq_true_eq]
  constructor
  · rintro ⟨⟨a, b⟩, c, d⟩; exact ⟨a, b, c, d⟩
  · rintro ⟨a, b, c, d⟩; exact ⟨⟨a, b⟩, c, d⟩
/-- the program's order, the law's -/
def nb (p : Pt) : List Pt := [(p.1 - 1, p.2), (p.1, p.2 - 1), (p.1, p.2 + 1), (p.1 + 1, p.2)]
def nbL (p : Pt) : List Pt := [(p.1 - 1, p.2), (p.1 + 1, p.2), (p.1, p.2 - 1), (p.1, p.2 + 1)]
def nears (L : Nat) (p : Pt) : List Int := ((nb p).filter (inB L)).map fun q => (Nm L q : Int)
def nearsL (L : Nat) (p : Pt) : List Int := ((nbL p).filter (inB L)).map fun q => (Nm L q : Int)
theorem nb_perm (p : Pt) : (nb p).Perm (nbL p) := by
  unfold nb nbL
  refine .cons _ ?_
  exact (List.perm_append_comm (l₁ := [(p.1, p.2 - 1), (p.1, p.2 + 1)]) (l₂ := [(p.1 + 1, p.2)]))
theorem nears_perm (L : Nat) (p : Pt) : (nears L p).Perm (nearsL L p) := ((nb_perm p).filter _).map _
theorem nears_len (L : Nat) (p : Pt) : (nears L p).length ≤ 4 := by
  unfold nears
  rw [List.length_map]
  exact List.length_filter_le _ _
theorem nearsL_len (L : Nat) (p : Pt) : (nearsL L p).length ≤ 4 := by
  unfold nearsL
  rw [List.length_map]
  exact List.length_filter_le _ _
def mn (x : Int) (r : List Int) : Int := r.foldl (fun a y => if y < a then y else a) x
def mx (x : Int) (r : List Int) : Int := r.foldl (fun a y => if a < y then y else a) x
theorem mn_ok : ∀ (r : List Int) (x : Int), mn x r ∈ x :: r ∧ ∀ y ∈ x :: r, mn x r ≤ y
  | [], x => by simp [mn]
  | z :: r, x => by
    show mn (if z < x then z else x) r ∈ x :: z :: r ∧ ∀ y ∈ x :: z :: r, mn (if z < x then z else x) r ≤ y
    obtain ⟨h1, h2⟩ := mn_ok r (if z < x then z else x)
    constructor
    · rcases List.mem_cons.mp h1 with h | h
      · rw [h]
        split <;> simp
      · simp [h]
    · intro y hy
      rcases List.mem_cons.mp hy with rfl | hy
      · have := h2 _ (List.mem_cons_self ..)
        split at this <;> split <;> omega
      · rcases List.mem_cons.mp hy with rfl | hy
        · have := h2 _ (List.mem_cons_self ..)
          split at this <;> split <;> omega
        · exact h2 y (List.mem_cons_of_mem _ hy)
theorem mx_ok : ∀ (r : List Int) (x : Int), mx x r ∈ x :: r ∧ ∀ y ∈ x :: r, y ≤ mx x r
  | [], x => by simp [mx]
  | z :: r, x => by
    show mx (if x < z then z else x) r ∈ x :: z :: r ∧ ∀ y ∈ x :: z :: r, y ≤ mx (if x < z then z else x) r
    obtain ⟨h1, h2⟩ := mx_ok r (if x < z then z else x)
    constructor
    · rcases List.mem_cons.mp h1 with h | h
      · rw [h]
        split <;> simp
      · simp [h]
    · intro y hy
      rcases List.mem_cons.mp hy with rfl | hy
      · have := h2 _ (List.mem_cons_self ..)
        split at this <;> split <;> omega
      · rcases List.mem_cons.mp hy with rfl | hy
        · have := h2 _ (List.mem_cons_self ..)
          split at this <;> split <;> omega
        · exact h2 y (List.mem_cons_of_mem _ hy)
theorem mn_perm {x y : Int} {r s : List Int} (h : (x :: r).Perm (y :: s)) : mn x r = mn y s := by
  obtain ⟨a1, a2⟩ := mn_ok r x
  obtain ⟨b1, b2⟩ := mn_ok s y
  exact Int.le_antisymm (a2 _ (h.mem_iff.mpr b1)) (b2 _ (h.mem_iff.mp a1))
theorem mx_perm {x y : Int} {r s : List Int} (h : (x :: r).Perm (y :: s)) : mx x r = mx y s := by
  obtain ⟨a1, a2⟩ := mx_ok r x
  obtain ⟨b1, b2⟩ := mx_ok s y
  exact Int.le_antisymm (b2 _ (h.mem_iff.mp a1)) (a2 _ (h.mem_iff.mpr b1))
/-! ### the longest jump -/
def up (b v : Int) : Int := if v > b then v else b
def jb (L n : Nat) (b : Int) : Int := (nears L (Sp L n)).foldl (fun b o => up b (ab (o - n))) b
def jN (L : Nat) : Nat → Int
  | 0 => 0
  | j + 1 => jb L j (jN L j)
def nb2 (p : Pt) : List Pt := [(p.1 + 1, p.2), (p.1, p.2 + 1)]
def lb (L n : Nat) (b : Int) : Int := (nb2 (Sp L n)).foldl (fun b q => if inB L q = true then up b (ab (Nm L q - n)) else b) b
def lN (L : Nat) : Nat → Int
  | 0 => 0
  | j + 1 => lb L j (lN L j)
theorem j_l : ∀ k < 4, jN k (4 ^ k) = lN k (4 ^ k) := by decide +kernel
/-! ### the law's own drawing -/
def cvStep (s : Int) (f : List Pt) : List Pt := f.map (fun p => (p.2, p.1)) ++ f.map (fun p => (p.1 + s, p.2)) ++ f.map (fun p => (p.1 + s, p.2 + s)) ++ f.map fun p => (s - 1 - p.2, 2 * s - 1 - p.1)
def cv : Nat → List Pt
  | 0 => [(0, 0)]
  | k + 1 => cvStep (2 ^ k) (cv k)
theorem cv_ok : ∀ k < 4, cv k = (List.range (4 ^ k)).map (Sp k) := by decide +kernel
theorem cv_nd : ∀ k < 4, (cv k).Nodup := by
  intro k hk
  rw [cv_ok k hk, List.nodup_iff_pairwise_ne, List.pairwise_map]
  refine List.Pairwise.imp_of_mem ?_ List.pairwise_lt_range
  intro a b ha hb hab e
  have h1 := Nm_Sp k a
  have h2 := Nm_Sp k b
  rw [e, h2, Nat.mod_eq_of_lt (List.mem_range.mp ha), Nat.mod_eq_of_lt (List.mem_range.mp hb)] at h1
  omega
theorem cv_len (k : Nat) (hk : k < 4) : (cv k).length = 4 ^ k := by rw [cv_ok k hk]; simp
end K44
set_option linter.all false
set_option maxRecDepth 100000
set_option maxHeartbeats 4000000
namespace K44
open PySem PySem.Spec PyProof.Rows L2 PI
theorem small_lim {n : Nat} (h : n ≤ 1000) : n ≤ lim := Nat.le_trans h (by decide)
def pd (p : Pt) : D := .tup [.int p.1, .int p.2]
theorem pd_no (p : Pt) : (pd p).noObj = true := rfl
theorem w_is_integer (d : Nat) (i : Int) : callL P (d + 1) "is_integer" [.int i] = M.ret (.bl true, .sh) := by
  refine dis_integer.pure rfl rfl rfl ?_
  unfold cis_integer body
  push_cast []
theorem w_is_within (d : Nat) (i a b : Int) : callL P (d + 2) "is_within" [.int i, .int a, .int b] = M.ret (.bl (decide (a ≤ i) && decide (i ≤ b)), .sh) := by
  refine dis_within.pure rfl rfl rfl ?_
  unfold cis_within body
  push_cast [w_is_integer d i]
  by_cases h : a ≤ i
  · push_cast [h]
  · push_cast [h]
theorem w_within_non (d : Nat) (a b : Int) : callL P (d + 2) "is_within" [.non, .int a, .int b] = M.ret (.bl false, .sh) := by
  have h : callL P (d + 1) "is_integer" [.non] = M.ret (.bl false, .sh) := by
    refine dis_integer.pure rfl rfl rfl ?_
    unfold cis_integer body
    push_cast []
  refine dis_within.pure rfl rfl rfl ?_
  unfold cis_within body
  push_cast [h]
theorem w_within_bl (d : Nat) (c : Bool) (a b : Int) : callL P (d + 2) "is_within" [.bl c, .int a, .int b] = M.ret (.bl false, .sh) := by
  have h : callL P (d + 1) "is_integer" [.bl c] = M.ret (.bl false, .sh) := by
    refine dis_integer.pure rfl rfl rfl ?_
    unfold cis_integer body
    push_cast []
  refine dis_within.pure rfl rfl rfl ?_
  unfold cis_within body
  push_cast [h]
/-! ### levels -/
def thrL (x : D) : Ex := ⟨"BadLevel", [("value", x)]⟩
theorem w_check_level (d : Nat) (L m : Nat) (h : L ≤ m) : callL P (d + 3) "check_level" [.int L, .int m] = M.ret (.non, .sh) := by
  refine dcheck_level.pure rfl rfl rfl ?_
  unfold ccheck_level body
  have h0 : (0 : Int) ≤ (L : Nat) := by omega
  have h1 : ((L : Nat) : Int) ≤ (m : Nat) := by omega
  push_cast [w_is_within d, h0, h1]
/-- no level -/
inductive BadL (m : Int) : D → Prop
  | non : BadL m .non
  | bl (b : Bool) : BadL m (.bl b)
  | int (i : Int) (h : i < 0 ∨ m < i) : BadL m (.int i)
theorem BadL.no {m : Int} {x : D} (hx : BadL m x) : x.noObj = true := by cases hx <;> rfl
theorem w_check_bad (d : Nat) (m : Int) (x : D) (hx : BadL m x) : callL P (d + 3) "check_level" [x, .int m] = M.thr (thrL x) := by
  have hxo := hx.no
  refine dcheck_level.thr rfl (by simp only [noObjL_cons, noObjL_nil, hxo, noObj_int, Bool.and_true]) (by unfold exOk thrL; simp only [List.map_cons, List.map_nil, noObjL_cons, noObjL_nil, hxo, Bool.and_true]) ?_
  unfold ccheck_level body
  cases hx with
  | non => push_cast [w_within_non d, thrL]
  | bl b => push_cast [w_within_bl d, thrL]
  | int i h =>
    have e : (decide ((0 : Int) ≤ i) && decide (i ≤ m)) = false := by
      rw [Bool.and_eq_false_iff, decide_eq_false_iff_not, decide_eq_false_iff_not]
      omega
    push_cast [w_is_within d, e, thrL]
theorem small_2 {k : Nat} (h : k ≤ 20) : (2 : Int) ^ k ≤ 1048576 := by
  have h1 : (2 : Nat) ^ k ≤ 1048576 := Nat.le_trans (Nat.pow_le_pow_right (by decide) h) (by decide)
  have h2 : (((2 : Nat) ^ k : Nat) : Int) = (2 : Int) ^ k := by simp
  omega
theorem side_turn (d : Nat) (L : Nat) (x i : Int) (s : Sl) : stepF (enL P none) d (.nm 2) cside_of_1 (.int i) [.im (.int L), .im (.int x), s] = M.ret (.nx, [.im (.int L), .im (.int (x * 2)), .im (.int i)]) := by
  push_cast [cside_of_1]
theorem w_side_of (d : Nat) (L : Nat) (hL : L ≤ 20) : callL P (d + 1) "side_of" [.int L] = M.ret (.int (2 ^ L), .sh) := by
  refine dside_of.pure rfl rfl rfl ?_
  unfold cside_of body
  push_cast [itR1_int _ _ (in62_of (show -(2 ^ 62) ≤ ((L : Nat) : Int) by omega) (by omega)), Int.toNat_natCast]
  refine for_wp D.int (fun l ρ st => ∃ (j : Nat) (s : Sl), j + l.length = L ∧ ρ = [.im (.int L), .im (.int (2 ^ j)), s]) _ _ _ ⟨0, _, by rw [iota_len]; omega, by rw [Int.pow_zero]⟩ (fun i l ρ st ⟨j, s, hl, hρ⟩ => ?_) fun ρ st ⟨j, s, hl, hρ⟩ => ?_
  · subst hρ
    rw [List.length_cons] at hl
    rw [side_turn]
    push_cast []
    exact ⟨j + 1, _, by omega, by rw [Int.pow_succ]⟩
  · subst hρ
    have : j = L := by simpa using hl
    subst this
    push_cast []
/-! ### the spot of a number -/
theorem fmod4 (m : Nat) : ((m : Nat) : Int).fmod 4 = ((m % 4 : Nat) : Int) := by rw [Int.fmod_eq_emod_of_nonneg _ (by decide)]; rfl
theorem mod4D (m : Nat) : opD .Mod (.int m) (.int 4) = some (.int ((m % 4 : Nat) : Int), .sh) := by
  show (if (4 : Int) ≠ 0 then some (D.int (((m : Nat) : Int).fmod 4), Kd.sh) else none) = _
  rw [if_pos (by decide), fmod4]
theorem div4I (m : Nat) : ((m : Nat) : Int) / 4 = ((m / 4 : Nat) : Int) := rfl
theorem lit4 : ((0 : Int) < 4 ∧ (4 : Int) < 1073741824) = True := by simp
theorem lit2 : ((0 : Int) < 2 ∧ (2 : Int) < 1073741824) = True := by simp
theorem mul2D (s : Int) : opD .Mult (.int 2) (.int s) = some (.int (2 * s), .sh) := rfl
theorem told_turn (d r : Nat) (s : Int) (p : Pt) (a b : D) (i : Int) (s6 s7 : Sl) : ∃ s7', stepF (enL P none) d (.nm 6) ctold_spot_1 (.int i) [.im a, .im b, .im (.int p.1), .im (.int p.2), .im (.int s), .im (.int ((r : Nat) : Int)), s6, s7] = M.ret (.nx, [.im a, .im b, .im (.int (G s (r % 4) p).1), .im (.int (G s (r % 4) p).2), .im (.int (s * 2)), .im (.int ((r / 4 : Nat) : Int)), .im (.int i), s7']) := by
  obtain ⟨x, y⟩ := p
  have hq : r % 4 < 4 := Nat.mod_lt _ (by decide)
  have c : r % 4 = 0 ∨ r % 4 = 1 ∨ r % 4 = 2 ∨ r % 4 = 3 := by omega
  rcases c with c | c | c | c
  · refine ⟨.im (.int 0), ?_⟩
    have hm : opD .Mod (.int r) (.int 4) = some (.int 0, .sh) := by rw [mod4D, c]; rfl
    push_cast [ctold_spot_1, hm, div4I]
    rw [c]
    rfl
  · refine ⟨.im (.int 1), ?_⟩
    have hm : opD .Mod (.int r) (.int 4) = some (.int 1, .sh) := by rw [mod4D, c]; rfl
    push_cast [ctold_spot_1, hm, div4I, show ((1 : Int) == 0) = false from rfl]
    rw [c]
    rfl
  · refine ⟨.im (.int 2), ?_⟩
    have hm : opD .Mod (.int r) (.int 4) = some (.int 2, .sh) := by rw [mod4D, c]; rfl
    push_cast [ctold_spot_1, hm, div4I, show ((2 : Int) == 0) = false from rfl, show ((2 : Int) == 1) = false from rfl]
    rw [c]
    rfl
  · refine ⟨.im (.int 3), ?_⟩
    have hm : opD .Mod (.int r) (.int 4) = some (.int 3, .sh) := by rw [mod4D, c]; rfl
    push_cast [ctold_spot_1, hm, div4I, mul2D, show ((3 : Int) == 0) = false from rfl, show ((3 : Int) == 1) = false from rfl, show ((3 : Int) == 2) = false from rfl]
    rw [c]
    rfl
theorem w_told_spot (d : Nat) (L n : Nat) (hL : L ≤ 20) : callL P (d + 1) "told_spot" [.int L, .int n] = M.ret (pd (Sp L n), .sh) := by
  refine dtold_spot.pure rfl rfl rfl ?_
  unfold ctold_spot body
  push_cast [itR1_int _ _ (in62_of (show -(2 ^ 62) ≤ ((L : Nat) : Int) by omega) (by omega)), Int.toNat_natCast]
  refine for_wp D.int (fun l ρ st => ∃ (j : Nat) (s6 s7 : Sl), j + l.length = L ∧ ρ = [.im (.int L), .im (.int n), .im (.int (Sp j n).1), .im (.int (Sp j n).2), .im (.int (2 ^ j)), .im (.int ((n / 4 ^ j : Nat) : Int)), s6, s7]) _ _ _ ⟨0, _, _, by rw [iota_len]; omega, by rw [Int.pow_zero, Nat.pow_zero, Nat.div_one]; rfl⟩ (fun i l ρ st ⟨j, s6, s7, hl, hρ⟩ => ?_) fun ρ st ⟨j, s6, s7, hl, hρ⟩ => ?_
  · subst hρ
    rw [List.length_cons] at hl
    obtain ⟨s7', e⟩ := told_turn d (n / 4 ^ j) (2 ^ j) (Sp j n) (.int L) (.int n) i s6 s7
    rw [e]
    push_cast []
    exact ⟨j + 1, _, _, by omega, by rw [Int.pow_succ, Nat.pow_succ, ← Nat.div_div_eq_div_mul]; rfl⟩
  · subst hρ
    have : j = L := by simpa using hl
    subst this
    push_cast []
    rfl
def thrN (x : D) : Ex := ⟨"BadNumber", [("value", x)]⟩
theorem c2 (k : Nat) : (((2 ^ k : Nat) : Nat) : Int) = (2 : Int) ^ k := by simp
theorem sq_4 (k : Nat) : (2 : Int) ^ k * 2 ^ k = ((4 ^ k : Nat) : Int) := by
  rw [← c2, ← Int.natCast_mul, ← Nat.mul_pow]
theorem mulD (a b : Int) (h : -18446744073709551616 < b ∧ b < 18446744073709551616) : opD .Mult (.int a) (.int b) = some (.int (a * b), .sh) := by
  show (if (small64 a || small64 b) = true then some (D.int (a * b), Kd.sh) else none) = _
  rw [small64_lit h, Bool.or_true, if_pos rfl]
theorem mul_side {L : Nat} (hL : L ≤ 20) : opD .Mult (.int (2 ^ L)) (.int (2 ^ L)) = some (.int ((4 ^ L : Nat) : Int), .sh) := by
  have h1 := small_2 hL
  have h2 := two_pos L
  rw [mulD _ _ (by omega), sq_4]
theorem w_spot_of (d : Nat) (L n : Nat) (hL : L ≤ 8) (hn : n < 4 ^ L) : callL P (d + 4) "spot_of" [.int L, .int n] = M.ret (pd (Sp L n), .sh) := by
  refine dspot_of.pure rfl rfl rfl ?_
  unfold cspot_of body
  have h0 : (0 : Int) ≤ (n : Nat) := by omega
  have h1 : ((n : Nat) : Int) ≤ ((4 ^ L : Nat) : Int) - 1 := by omega
  push_cast [show callL P (d + 3) "check_level" [.int L, .int 8] = _ from w_check_level d L 8 hL, w_side_of (d + 2) L (by omega), mul_side (show L ≤ 20 by omega), w_is_within (d + 1), h0, h1, w_told_spot (d + 2) L n (by omega)]
theorem w_spot_badL (d : Nat) (x y : D) (hx : BadL 8 x) (hy : y.noObj = true) : callL P (d + 4) "spot_of" [x, y] = M.thr (thrL x) := by
  have hxo := hx.no
  refine dspot_of.thr rfl (by simp only [noObjL_cons, noObjL_nil, hxo, hy, Bool.and_true]) (by unfold exOk thrL; simp only [List.map_cons, List.map_nil, noObjL_cons, noObjL_nil, hxo, Bool.and_true]) ?_
  unfold cspot_of body
  push_cast [w_check_bad d 8 x hx]
theorem w_spot_badN (d : Nat) (L : Nat) (hL : L ≤ 8) (x : D) (hx : BadL (((4 ^ L : Nat) : Int) - 1) x) : callL P (d + 4) "spot_of" [.int L, x] = M.thr (thrN x) := by
  have hxo := hx.no
  refine dspot_of.thr rfl (by simp only [noObjL_cons, noObjL_nil, hxo, noObj_int, Bool.and_true]) (by unfold exOk thrN; simp only [List.map_cons, List.map_nil, noObjL_cons, noObjL_nil, hxo, Bool.and_true]) ?_
  unfold cspot_of body
  cases hx with
  | non => push_cast [show callL P (d + 3) "check_level" [.int L, .int 8] = _ from w_check_level d L 8 hL, w_side_of (d + 2) L (by omega), mul_side (show L ≤ 20 by omega), w_within_non (d + 1), thrN]
  | bl b => push_cast [show callL P (d + 3) "check_level" [.int L, .int 8] = _ from w_check_level d L 8 hL, w_side_of (d + 2) L (by omega), mul_side (show L ≤ 20 by omega), w_within_bl (d + 1), thrN]
  | int i h =>
    have e : (decide ((0 : Int) ≤ i) && decide (i ≤ ((4 ^ L : Nat) : Int) - 1)) = false := by
      rw [Bool.and_eq_false_iff, decide_eq_false_iff_not, decide_eq_false_iff_not]
      omega
    push_cast [show callL P (d + 3) "check_level" [.int L, .int 8] = _ from w_check_level d L 8 hL, w_side_of (d + 2) L (by omega), mul_side (show L ≤ 20 by omega), w_is_within (d + 1), e, thrN]
end K44
set_option linter.all false
set_option maxRecDepth 100000
set_option maxHeartbeats 4000000
namespace K44
open PySem PySem.Spec PyProof.Rows L2 PI
/-! ### the number of a spot -/
theorem mul4D (f : Int) : opD .Mult (.int 4) (.int f) = some (.int (4 * f), .sh) := by
  show (if (small64 4 || small64 f) = true then some (D.int (4 * f), Kd.sh) else none) = _
  rw [small64_lit (show -18446744073709551616 < (4 : Int) ∧ (4 : Int) < 18446744073709551616 by omega), Bool.true_or, if_pos rfl]
theorem num_turn (d : Nat) (s : Int) (f : Nat) (p : Pt) (a b : D) (i : Int) (s4 s7 : Sl) : ∃ s7', stepF (enL P none) d (.nm 4) ctold_number_1 (.int i) [.im a, .im b, .im (.int (f : Nat)), .im (.int (2 * s)), s4, .im (.int p.1), .im (.int p.2), s7] = M.ret (.nx, [.im a, .im b, .im (.int ((4 * f + Qd s p : Nat) : Int)), .im (.int s), .im (.int i), .im (.int (Qp s p).1), .im (.int (Qp s p).2), s7']) := by
  obtain ⟨x, y⟩ := p
  have hs : 2 * s / 2 = s := by omega
  have hf : (4 : Int) * ((f : Nat) : Int) = ((4 * f : Nat) : Int) := by omega
  by_cases hx : x < s
  · have hx' : ¬ s ≤ x := by omega
    by_cases hy : y < s
    · refine ⟨.im (.int 0), ?_⟩
      push_cast [ctold_number_1, hs, hx, hy, mul4D, Qd, Qp, and_self]
      rfl
    · refine ⟨.im (.int 3), ?_⟩
      push_cast [ctold_number_1, hs, hx, hx', hy, mul4D, mul2D, Qd, Qp, and_false, false_and, and_true]
      rfl
  · have hx' : s ≤ x := by omega
    by_cases hy : y < s
    · refine ⟨.im (.int 1), ?_⟩
      push_cast [ctold_number_1, hs, hx, hx', hy, mul4D, Qd, Qp, and_true, true_and, false_and, and_self]
      rfl
    · refine ⟨.im (.int 2), ?_⟩
      push_cast [ctold_number_1, hs, hx, hx', hy, mul4D, Qd, Qp, and_true, and_false, true_and, false_and, and_self]
      rfl
theorem w_told_number (d : Nat) (L : Nat) (hL : L ≤ 20) (p : Pt) : callL P (d + 2) "told_number" [.int L, pd p] = M.ret (.int (Nm L p : Nat), .sh) := by
  refine dtold_number.pure rfl rfl rfl ?_
  unfold ctold_number body pd
  push_cast [w_side_of d L hL, itR1_int _ _ (in62_of (show -(2 ^ 62) ≤ ((L : Nat) : Int) by omega) (by omega)), Int.toNat_natCast]
  refine for_wp D.int (fun l ρ st => ∃ (f : Nat) (r : Pt) (s4 s7 : Sl), f * 4 ^ l.length + Nm l.length r = Nm L p ∧ ρ = [.im (.int L), .im (.tup [.int p.1, .int p.2]), .im (.int (f : Nat)), .im (.int (2 ^ l.length)), s4, .im (.int r.1), .im (.int r.2), s7]) _ _ _ ⟨0, p, _, _, by rw [iota_len]; omega, by rw [iota_len]; rfl⟩ (fun i l ρ st ⟨f, r, s4, s7, hl, hρ⟩ => ?_) fun ρ st ⟨f, r, s4, s7, hl, hρ⟩ => ?_
  · subst hρ
    obtain ⟨s7', e⟩ := num_turn (d + 1) (2 ^ l.length) f r (.int L) (.tup [.int p.1, .int p.2]) i s4 s7
    rw [List.length_cons, two_succ, e]
    rw [List.length_cons, Nm_succ, Nat.pow_succ] at hl
    push_cast []
    refine ⟨4 * f + Qd (2 ^ l.length) r, Qp (2 ^ l.length) r, _, _, ?_, rfl⟩
    have h2 : 4 * f * 4 ^ l.length = f * (4 ^ l.length * 4) := by rw [Nat.mul_comm 4 f, Nat.mul_assoc, Nat.mul_comm 4]
    rw [Nat.add_mul, h2]
    omega
  · subst hρ
    have : f = Nm L p := by
      have : f * 1 + 0 = Nm L p := hl
      omega
    subst this
    push_cast []
/-! ### spots -/
def thrS (x : D) : Ex := ⟨"BadSpot", [("value", x)]⟩
theorem w_tuple_of (d : Nat) (xs : List D) (h : noObjL xs = true) : callL P (d + 1) "is_tuple_of" [.tup xs, .int 2] = M.ret (.bl ((((xs.length : Nat) : Int)) == 2), .sh) := by
  refine dis_tuple_of.pure rfl (by simp only [noObjL_cons, noObjL_nil, noObj_tup, noObj_int, h, Bool.and_true]) rfl ?_
  unfold cis_tuple_of body
  push_cast []
theorem w_tuple_non (d : Nat) : callL P (d + 1) "is_tuple_of" [.non, .int 2] = M.ret (.bl false, .sh) := by
  refine dis_tuple_of.pure rfl rfl rfl ?_
  unfold cis_tuple_of body
  push_cast []
theorem w_tuple_lst (d : Nat) (xs : List D) (h : noObjL xs = true) : callL P (d + 1) "is_tuple_of" [.lst xs, .int 2] = M.ret (.bl false, .sh) := by
  refine dis_tuple_of.pure rfl (by simp only [noObjL_cons, noObjL_nil, noObj_lst, noObj_int, h, Bool.and_true]) rfl ?_
  unfold cis_tuple_of body
  push_cast []
theorem w_check_spot (d L : Nat) (hL : L ≤ 8) (p : Pt) (hp : In L p) : callL P (d + 4) "check_spot" [.int L, pd p] = M.ret (.non, .sh) := by
  refine dcheck_spot.pure rfl rfl rfl ?_
  unfold ccheck_spot body
  obtain ⟨h1, h2, h3, h4⟩ := hp
  have g2 : p.1 ≤ 2 ^ L - 1 := by omega
  have g4 : p.2 ≤ 2 ^ L - 1 := by omega
  have t := w_tuple_of (d + 2) [.int p.1, .int p.2] rfl
  push_cast [show callL P (d + 3) "check_level" [.int L, .int 8] = _ from w_check_level d L 8 hL, pd, t, show (((2 : Nat) : Int) == 2) = true from rfl]
  rw [show [D.int p.1, D.int p.2] = [p.1, p.2].map D.int from rfl]
  rw [comp_map D.int (fun n => .bl (decide ((0 : Int) ≤ n) && decide (n ≤ 2 ^ L - 1))) _ (fun n _ => by push_cast [w_side_of (d + 2) L (by omega), w_is_within (d + 1)])]
  push_cast [h1, g2, h3, g4, show allB [D.bl true, D.bl true] = some true from rfl]
inductive BadS (L : Nat) : D → Prop
  | non : BadS L .non
  | one (i : Int) : BadS L (.tup [.int i])
  | lst (xs : List D) (h : noObjL xs = true) : BadS L (.lst xs)
  | two (p : Pt) (h : ¬ In L p) : BadS L (.tup [.int p.1, .int p.2])
  | bad (i : Int) : BadS L (.tup [.int i, .non])
theorem BadS.no {L : Nat} {x : D} (hx : BadS L x) : x.noObj = true := by
  cases hx with
  | lst xs h => rw [noObj_lst]; exact h
  | _ => rfl
theorem w_spot_bad (d L : Nat) (hL : L ≤ 8) (x : D) (hx : BadS L x) : callL P (d + 4) "check_spot" [.int L, x] = M.thr (thrS x) := by
  have hxo := hx.no
  refine dcheck_spot.thr rfl (by simp only [noObjL_cons, noObjL_nil, hxo, noObj_int, Bool.and_true]) (by unfold exOk thrS; simp only [List.map_cons, List.map_nil, noObjL_cons, noObjL_nil, hxo, Bool.and_true]) ?_
  unfold ccheck_spot body
  have hcl : callL P (d + 3) "check_level" [.int L, .int 8] = M.ret (.non, .sh) := w_check_level d L 8 hL
  cases hx with
  | non => push_cast [hcl, w_tuple_non (d + 2), thrS]
  | one i => push_cast [hcl, w_tuple_of (d + 2) [.int i] rfl, show (((1 : Nat) : Int) == 2) = false from rfl, thrS]
  | lst xs h => push_cast [hcl, w_tuple_lst (d + 2) xs h, thrS]
  | two p h =>
    push_cast [hcl, w_tuple_of (d + 2) [.int p.1, .int p.2] rfl, show (((2 : Nat) : Int) == 2) = true from rfl]
    rw [show [D.int p.1, D.int p.2] = [p.1, p.2].map D.int from rfl]
    rw [comp_map D.int (fun n => .bl (decide ((0 : Int) ≤ n) && decide (n ≤ 2 ^ L - 1))) _ (fun n _ => by push_cast [w_side_of (d + 2) L (by omega), w_is_within (d + 1)])]
    have e : allB [D.bl (decide ((0 : Int) ≤ p.1) && decide (p.1 ≤ 2 ^ L - 1)), .bl (decide ((0 : Int) ≤ p.2) && decide (p.2 ≤ 2 ^ L - 1))] = some false := by
      show some ((decide ((0 : Int) ≤ p.1) && decide (p.1 ≤ 2 ^ L - 1)) && ((decide ((0 : Int) ≤ p.2) && decide (p.2 ≤ 2 ^ L - 1)) && true)) = some false
      congr 1
      rw [Bool.eq_false_iff]
      intro z
      simp only [Bool.and_eq_true, decide_eq_true_eq, and_true] at z
      obtain ⟨⟨z1, z2⟩, z3, z4⟩ := z
      exact h ⟨z1, by omega, z3, by omega⟩
    push_cast [e, thrS]
  | bad i =>
    push_cast [hcl, w_tuple_of (d + 2) [.int i, .non] rfl, show (((2 : Nat) : Int) == 2) = true from rfl]
    rw [show [D.int i, .non] = [some i, none].map (fun o : Option Int => match o with | some i => D.int i | none => D.non) from rfl]
    rw [comp_map (fun o : Option Int => match o with | some i => D.int i | none => D.non) (fun o => match o with | some n => .bl (decide ((0 : Int) ≤ n) && decide (n ≤ 2 ^ L - 1)) | none => .bl false) _ (fun n _ => by
      cases n with
      | some n => push_cast [w_side_of (d + 2) L (by omega), w_is_within (d + 1)]
      | none => push_cast [w_side_of (d + 2) L (by omega), w_within_non (d + 1)])]
    have e : allB [D.bl (decide ((0 : Int) ≤ i) && decide (i ≤ 2 ^ L - 1)), .bl false] = some false := by
      show some ((decide ((0 : Int) ≤ i) && decide (i ≤ 2 ^ L - 1)) && (false && true)) = some false
      rw [Bool.false_and, Bool.and_false]
    push_cast [e, thrS]
theorem w_number_at (d L : Nat) (hL : L ≤ 8) (p : Pt) (hp : In L p) : callL P (d + 5) "number_at" [.int L, pd p] = M.ret (.int (Nm L p : Nat), .sh) := by
  refine dnumber_at.pure rfl rfl rfl ?_
  unfold cnumber_at body
  push_cast [w_check_spot d L hL p hp, w_told_number (d + 2) L (show L ≤ 20 by omega) p]
theorem w_asks (d L : Nat) (hL : L ≤ 8) (x : D) (hx : BadS L x) : ∀ f ∈ ["number_at", "nearest_numbers"], callL P (d + 5) (Str.ofString f) [.int L, x] = M.thr (thrS x) := by
  have hxo := hx.no
  have h0 : noObjL [.int L, x] = true := by simp only [noObjL_cons, noObjL_nil, hxo, noObj_int, Bool.and_true]
  have he : exOk (thrS x) = true := by unfold exOk thrS; simp only [List.map_cons, List.map_nil, noObjL_cons, noObjL_nil, hxo, Bool.and_true]
  have h := w_spot_bad d L hL x hx
  intro f hf
  simp only [List.mem_cons, List.not_mem_nil, or_false] at hf
  rcases hf with rfl | rfl
  · refine dnumber_at.thr rfl h0 he ?_
    unfold cnumber_at body
    push_cast [h]
  · refine dnearest_numbers.thr rfl h0 he ?_
    unfold cnearest_numbers body
    push_cast [h]
end K44
set_option linter.all false
set_option maxRecDepth 100000
set_option maxHeartbeats 4000000
namespace K44
open PySem PySem.Spec PyProof.Rows L2 PI
theorem best_mn : ∀ (r : List Int) (x : Int), bestD (fun y a => PySem.W.dataLt y.py a.py) (.int x) (r.map .int) = .int (mn x r)
  | [], x => rfl
  | z :: r, x => by
    show bestD (fun y a => PySem.W.dataLt y.py a.py) (if PySem.W.dataLt (D.int z).py (D.int x).py then .int z else .int x) (r.map .int) = .int (mn (if z < x then z else x) r)
    rw [PI.lt_int]
    by_cases h : z < x
    · simp only [h, decide_true, if_true]
      exact best_mn r z
    · simp only [h, decide_false, if_false, Bool.false_eq_true]
      exact best_mn r x
theorem best_mx : ∀ (r : List Int) (x : Int), bestD (fun y a => PySem.W.dataLt a.py y.py) (.int x) (r.map .int) = .int (mx x r)
  | [], x => rfl
  | z :: r, x => by
    show bestD (fun y a => PySem.W.dataLt a.py y.py) (if PySem.W.dataLt (D.int x).py (D.int z).py then .int z else .int x) (r.map .int) = .int (mx (if x < z then z else x) r)
    rw [PI.lt_int]
    by_cases h : x < z
    · simp only [h, decide_true, if_true]
      exact best_mx r z
    · simp only [h, decide_false, if_false, Bool.false_eq_true]
      exact best_mx r x
theorem min_ints (x : Int) (r : List Int) (h : (x :: r).length ≤ 1000) : minL ((x :: r).map .int) = some (.int (mn x r)) := by
  have hb := srtB_int (x :: r) (small_lim h)
  show (if srtB ((x :: r).map D.int) then some (bestD _ (.int x) (r.map .int)) else none) = _
  rw [if_pos hb, best_mn]
theorem max_ints (x : Int) (r : List Int) (h : (x :: r).length ≤ 1000) : maxL ((x :: r).map .int) = some (.int (mx x r)) := by
  have hb := srtB_int (x :: r) (small_lim h)
  show (if srtB ((x :: r).map D.int) then some (bestD _ (.int x) (r.map .int)) else none) = _
  rw [if_pos hb, best_mx]
theorem w_near (d L : Nat) (hL : L ≤ 20) (p : Pt) : callL P (d + 3) "near" [.int L, pd p] = M.ret (.lst ((nears L p).map .int), .fr) := by
  refine dnear.pure rfl rfl ?_ ?_
  · show (D.lst ((nears L p).map .int)).noObj = true
    rw [noObj_lst]
    exact noObj_map fun _ _ => noObj_int _
  unfold cnear body
  push_cast [pd, w_side_of (d + 1) L hL]
  rw [show [D.tup [.int (p.1 - 1), .int p.2], .tup [.int p.1, .int (p.2 - 1)], .tup [.int p.1, .int (p.2 + 1)], .tup [.int (p.1 + 1), .int p.2]] = (nb p).map pd from rfl]
  rw [comp_if pd (inB L) (fun q => .int (Nm L q : Nat)) (nb p) (fun q _ => by
    have ht := w_told_number d L hL q
    unfold pd at ht
    unfold inB
    push_cast [pd]
    by_cases h1 : 0 ≤ q.1
    · by_cases h2 : q.1 < 2 ^ L
      · by_cases h3 : 0 ≤ q.2
        · by_cases h4 : q.2 < 2 ^ L
          · push_cast [h1, h2, h3, h4, ht]
          · push_cast [h1, h2, h3, h4]
        · push_cast [h1, h2, h3]
      · push_cast [h1, h2]
    · push_cast [h1])]
  have e : ((nb p).filter (inB L)).map (fun q => D.int (Nm L q : Nat)) = (nears L p).map D.int := by
    unfold nears
    rw [List.map_map]
    rfl
  rw [e]
  push_cast [endC_le _ (small_lim (show ((nears L p).map D.int).length ≤ 1000 by rw [List.length_map]; have := nears_len L p; omega))]
def nnD (xs : List Int) : D := match xs with
  | [] => .tup [.non, .non]
  | x :: r => .tup [.int (mn x r), .int (mx x r)]
theorem w_nearest (d L : Nat) (hL : L ≤ 8) (p : Pt) (hp : In L p) : callL P (d + 5) "nearest_numbers" [.int L, pd p] = M.ret (nnD (nears L p), .sh) := by
  have hl := nears_len L p
  refine dnearest_numbers.pure rfl rfl ?_ ?_
  · show (nnD (nears L p)).noObj = true
    cases nears L p <;> rfl
  unfold cnearest_numbers body
  push_cast [w_check_spot d L hL p hp, w_near (d + 1) L (show L ≤ 20 by omega) p]
  cases hn : nears L p with
  | nil => push_cast [nnD]
  | cons x r =>
    rw [hn] at hl
    have h1 := min_ints x r (by omega)
    have h2 := max_ints x r (by omega)
    rw [List.map_cons] at h1 h2
    push_cast [blw_minL, blw_maxL, h1, h2, nnD]
theorem nn_perm {xs ys : List Int} (h : xs.Perm ys) : nnD xs = nnD ys := by
  cases xs with
  | nil => rw [List.nil_perm.mp h]
  | cons x r =>
    cases ys with
    | nil => exact absurd h (by simp)
    | cons y s =>
      show D.tup [.int (mn x r), .int (mx x r)] = .tup [.int (mn y s), .int (mx y s)]
      rw [mn_perm h, mx_perm h]
/-! ### the longest jump -/
theorem iota_cons (lo : Int) (n : Nat) : iota lo (n + 1) = lo :: iota (lo + 1) n := by
  unfold iota
  rw [List.range_succ_eq_map, List.map_cons, List.map_map]
  congr 1
  · simp
  · apply List.map_congr_left
    intro a _
    show lo + ((a + 1 : Nat) : Int) = lo + 1 + (a : Int)
    omega
theorem jump_turn (d : Nat) (a : D) (b n o : Int) (s3 : Sl) : stepF (enL P none) d (.nm 3) clongest_jump_1 (.int o) [.im a, .im (.int b), .im (.int n), s3] = M.ret (.nx, [.im a, .im (.int (up b (ab (o - n)))), .im (.int n), .im (.int o)]) := by
  have habs : bltD "abs" [.int (o - n)] = some (.int (ab (o - n)), .sh) := rfl
  have hmax : bltD "max" [.int b, .int (ab (o - n))] = some (.int (up b (ab (o - n))), .sh) := rfl
  generalize ab (o - n) = v at *
  push_cast [clongest_jump_1, habs, hmax]
theorem jump_in (d : Nat) (a : D) (n : Int) : ∀ (os : List Int) (b : Int) (s3 : Sl), ∃ s3', forL (stepF (enL P none) d (.nm 3) clongest_jump_1) (os.map .int) [.im a, .im (.int b), .im (.int n), s3] = M.ret (.nx, [.im a, .im (.int (os.foldl (fun b o => up b (ab (o - n))) b)), .im (.int n), s3'])
  | [], b, s3 => ⟨s3, rfl⟩
  | o :: os, b, s3 => by
    obtain ⟨s3', h⟩ := jump_in d a n os (up b (ab (o - n))) (.im (.int o))
    refine ⟨s3', ?_⟩
    rw [List.map_cons]
    show M.bnd (stepF (enL P none) d (.nm 3) clongest_jump_1 (.int o) [.im a, .im (.int b), .im (.int n), s3]) _ = _
    rw [jump_turn]
    exact h
theorem w_jump (d L : Nat) (hL : L ≤ 4) : callL P (d + 4) "longest_jump" [.int L] = M.ret (.int (jN L (4 ^ L)), .sh) := by
  refine dlongest_jump.pure rfl rfl rfl ?_
  have hs : (4 : Nat) ^ L ≤ 256 := Nat.le_trans (Nat.pow_le_pow_right (by decide) hL) (by decide)
  have hm := mul_side (show L ≤ 20 by omega)
  generalize (4 : Nat) ^ L = N at hs hm ⊢
  unfold clongest_jump body
  push_cast [show callL P (d + 3) "check_level" [.int L, .int 4] = _ from w_check_level d L 4 hL, w_side_of (d + 2) L (show L ≤ 20 by omega), hm, itR1_int _ _ (in62_of (show -(2 ^ 62) ≤ ((N : Nat) : Int) by omega) (by omega)), Int.toNat_natCast]
  refine for_wp D.int (fun l ρ st => ∃ (j : Nat) (s3 s2 : Sl), j ≤ N ∧ l = iota (j : Int) (N - j) ∧ ρ = [.im (.int L), .im (.int (jN L j)), s2, s3]) _ _ _ ⟨0, _, _, Nat.zero_le _, rfl, rfl⟩ (fun i l ρ st ⟨j, s3, s2, hj, hl, hρ⟩ => ?_) fun ρ st ⟨j, s3, s2, hj, hl, hρ⟩ => ?_
  · subst hρ
    obtain ⟨m, hm⟩ : ∃ m, N - j = m + 1 := by
      cases h : N - j with
      | zero => rw [h] at hl; cases hl
      | succ m => exact ⟨m, rfl⟩
    rw [hm, iota_cons] at hl
    cases hl
    obtain ⟨s3', hf⟩ := jump_in (d + 3) (.int L) (j : Int) (nears L (Sp L j)) (jN L j) s3
    push_cast [clongest_jump_2, w_told_spot (d + 2) L j (show L ≤ 20 by omega), w_near d L (show L ≤ 20 by omega) (Sp L j)]
    rw [hf]
    push_cast []
    refine ⟨j + 1, _, _, by omega, ?_, rfl⟩
    rw [show N - (j + 1) = m by omega]
    rfl
  · subst hρ
    have : j = N := by
      have := congrArg List.length hl
      rw [iota_len] at this
      simp at this
      omega
    subst this
    push_cast []
theorem w_jump_bad (d : Nat) (x : D) (hx : BadL 4 x) : callL P (d + 4) "longest_jump" [x] = M.thr (thrL x) := by
  have hxo := hx.no
  refine dlongest_jump.thr rfl (by simp only [noObjL_cons, noObjL_nil, hxo, Bool.and_true]) (by unfold exOk thrL; simp only [List.map_cons, List.map_nil, noObjL_cons, noObjL_nil, hxo, Bool.and_true]) ?_
  unfold clongest_jump body
  push_cast [w_check_bad d 4 x hx]
end K44
set_option linter.all false
set_option maxRecDepth 100000
set_option maxHeartbeats 4000000
namespace K44
open PySem PySem.Spec PyProof.Rows L2 PI
theorem ok_pd (p : Pt) : Ok 2 (pd p) := ok_tup (n := 1) fun x hx => by
  simp only [List.mem_cons, List.not_mem_nil, or_false] at hx
  rcases hx with rfl | rfl <;> exact ok_int _
theorem eqv_pd (a b : Pt) : PyData.eqv (pd a).py (pd b).py = decide (a = b) := by
  show PyData.eqv (.tuple (pyL ([a.1, a.2].map D.int))) (.tuple (pyL ([b.1, b.2].map D.int))) = _
  simp only [PyData.eqv]
  rw [eqvAll_map D.int eqv_int]
  obtain ⟨x, y⟩ := a
  obtain ⟨z, w⟩ := b
  by_cases h : x = z
  · by_cases h2 : y = w
    · simp [h, h2]
    · simp [h, h2]
  · simp [h]
theorem eqD_pd (a b : Pt) : eqD (pd a) (pd b) = some (decide (a = b)) := by
  unfold eqD
  rw [(ok_pd a).cmp (by decide), (ok_pd b).cmp (by decide), eqv_pd]
  rfl
theorem eqD_pds (l m : List Pt) : eqD (.lst (l.map pd)) (.lst (m.map pd)) = some (decide (l = m)) := eqD_lst pd 2 ok_pd (by decide) eqv_pd l m
theorem at_last {α : Type} (xs : List α) (z : α) : atI (xs ++ [z]) (-1) = some z := by
  unfold atI ixN
  rw [if_neg (by decide), if_pos (by rw [List.length_append, List.length_singleton]; omega), Option.bind_some]
  have e : (-1 + (((xs ++ [z]).length : Nat) : Int)).toNat = xs.length := by rw [List.length_append, List.length_singleton]; omega
  rw [e]
  simp
/-! ### the curve drawn -/
theorem add_pd (a b : List Pt) (h : a.length + b.length ≤ 1000) : opD .Add (.lst (a.map pd)) (.lst (b.map pd)) = some (.lst ((a ++ b).map pd), .fr) := by
  rw [opd_addL _ _ (small_lim (by rw [List.length_map, List.length_map]; exact h)), List.map_append]
theorem endC_pd (f : List Pt) (g : Pt → Pt) (h : f.length ≤ 1000) : endC (f.map fun p => pd (g p)) = .ret (.lst ((f.map g).map pd), .fr) := by
  rw [endC_le _ (small_lim (by rw [List.length_map]; exact h)), List.map_map]
  rfl
theorem curve_turn (d : Nat) (L i s : Int) (f : List Pt) (hf : f.length ≤ 250) (s1 s4 s5 s6 s7 : Sl) : ∃ t4 t5 t6 t7, stepF (enL P none) d (.nm 1) c_law_curve_1 (.int i) [.im (.int L), s1, .ow (.lst (f.map pd)), .im (.int s), s4, s5, s6, s7, .un, .un] = M.ret (.nx, [.im (.int L), .im (.int i), .ow (.lst ((cvStep s f).map pd)), .im (.int (2 * s)), t4, t5, t6, t7, .un, .un]) := by
  refine ⟨.ow (.lst ((f.map fun p => (p.2, p.1)).map pd)), .ow (.lst ((f.map fun p => (p.1 + s, p.2)).map pd)), .ow (.lst ((f.map fun p => (p.1 + s, p.2 + s)).map pd)), .ow (.lst ((f.map fun p => (s - 1 - p.2, 2 * s - 1 - p.1)).map pd)), ?_⟩
  have c1 := comp_map pd (fun p => pd (p.2, p.1)) (F := stepC (enL P none) d (.tup [.nm 8, .nm 9]) [] (.tup [.slot 9, .slot 8]) [.im (.int L), .im (.int i), .ow (.lst (f.map pd)), .im (.int s), s4, s5, s6, s7, .un, .un]) f (fun p _ => by push_cast [pd])
  have e1 : endC (f.map fun p => pd (p.2, p.1)) = .ret (.lst ((f.map fun p => (p.2, p.1)).map pd), .fr) := endC_pd f (fun p => (p.2, p.1)) (by omega)
  push_cast [c_law_curve_1, c1, e1]
  generalize hA : (f.map fun p => (p.2, p.1)) = fA
  have c2 := comp_map pd (fun p => pd (p.1 + s, p.2)) (F := stepC (enL P none) d (.tup [.nm 8, .nm 9]) [] (.tup [.bin .Add (.slot 8) (.slot 3), .slot 9]) [.im (.int L), .im (.int i), .ow (.lst (f.map pd)), .im (.int s), .ow (.lst (fA.map pd)), s5, s6, s7, .un, .un]) f (fun p _ => by push_cast [pd])
  have e2 : endC (f.map fun p => pd (p.1 + s, p.2)) = .ret (.lst ((f.map fun p => (p.1 + s, p.2)).map pd), .fr) := endC_pd f (fun p => (p.1 + s, p.2)) (by omega)
  push_cast [c2, e2]
  generalize hB : (f.map fun p => (p.1 + s, p.2)) = fB
  have c3 := comp_map pd (fun p => pd (p.1 + s, p.2 + s)) (F := stepC (enL P none) d (.tup [.nm 8, .nm 9]) [] (.tup [.bin .Add (.slot 8) (.slot 3), .bin .Add (.slot 9) (.slot 3)]) [.im (.int L), .im (.int i), .ow (.lst (f.map pd)), .im (.int s), .ow (.lst (fA.map pd)), .ow (.lst (fB.map pd)), s6, s7, .un, .un]) f (fun p _ => by push_cast [pd])
  have e3 : endC (f.map fun p => pd (p.1 + s, p.2 + s)) = .ret (.lst ((f.map fun p => (p.1 + s, p.2 + s)).map pd), .fr) := endC_pd f (fun p => (p.1 + s, p.2 + s)) (by omega)
  push_cast [c3, e3]
  generalize hC : (f.map fun p => (p.1 + s, p.2 + s)) = fC
  have c4 := comp_map pd (fun p => pd (s - 1 - p.2, 2 * s - 1 - p.1)) (F := stepC (enL P none) d (.tup [.nm 8, .nm 9]) [] (.tup [.bin .Sub (.bin .Sub (.slot 3) (.val (.int 1))) (.slot 9), .bin .Sub (.bin .Sub (.bin .Mult (.val (.int 2)) (.slot 3)) (.val (.int 1))) (.slot 8)]) [.im (.int L), .im (.int i), .ow (.lst (f.map pd)), .im (.int s), .ow (.lst (fA.map pd)), .ow (.lst (fB.map pd)), .ow (.lst (fC.map pd)), s7, .un, .un]) f (fun p _ => by push_cast [pd, mul2D])
  have e4 : endC (f.map fun p => pd (s - 1 - p.2, 2 * s - 1 - p.1)) = .ret (.lst ((f.map fun p => (s - 1 - p.2, 2 * s - 1 - p.1)).map pd), .fr) := endC_pd f (fun p => (s - 1 - p.2, 2 * s - 1 - p.1)) (by omega)
  push_cast [c4, e4]
  generalize hD : (f.map fun p => (s - 1 - p.2, 2 * s - 1 - p.1)) = fD
  have lA : fA.length = f.length := by rw [← hA, List.length_map]
  have lB : fB.length = f.length := by rw [← hB, List.length_map]
  have lC : fC.length = f.length := by rw [← hC, List.length_map]
  have lD : fD.length = f.length := by rw [← hD, List.length_map]
  have a1 := add_pd fA fB (by omega)
  have a2 := add_pd (fA ++ fB) fC (by rw [List.length_append]; omega)
  have a3 := add_pd (fA ++ fB ++ fC) fD (by rw [List.length_append, List.length_append]; omega)
  have hcv : cvStep s f = fA ++ fB ++ fC ++ fD := by unfold cvStep; rw [hA, hB, hC, hD]
  push_cast [a1, a2, a3, mul2D, hcv]
theorem cv_le (k : Nat) (hk : k < 4) : (cv k).length ≤ 64 := by
  rw [cv_len k hk]
  exact Nat.le_trans (Nat.pow_le_pow_right (by decide) (show k ≤ 3 by omega)) (by decide)
theorem pds_no (f : List Pt) : noObjL (f.map pd) = true := noObj_map fun p _ => pd_no p
theorem w_curve (d L : Nat) (hL : L < 4) : callL P (d + 1) "_law_curve" [.int L] = M.ret (.lst ((cv L).map pd), .fr) := by
  refine d_law_curve.pure rfl rfl (by show (D.lst _).noObj = true; rw [noObj_lst]; exact pds_no _) ?_
  unfold c_law_curve body
  push_cast [itR1_int _ _ (in62_of (show -(2 ^ 62) ≤ ((L : Nat) : Int) by omega) (by omega)), Int.toNat_natCast]
  refine for_wp D.int (fun l ρ st => ∃ (j : Nat) (s1 s4 s5 s6 s7 : Sl), j + l.length = L ∧ ρ = [.im (.int L), s1, .ow (.lst ((cv j).map pd)), .im (.int (2 ^ j)), s4, s5, s6, s7, .un, .un]) _ _ _ ⟨0, _, _, _, _, _, by rw [iota_len]; omega, by rw [Int.pow_zero]; rfl⟩ (fun i l ρ st ⟨j, s1, s4, s5, s6, s7, hl, hρ⟩ => ?_) fun ρ st ⟨j, s1, s4, s5, s6, s7, hl, hρ⟩ => ?_
  · subst hρ
    rw [List.length_cons] at hl
    have := cv_le j (by omega)
    obtain ⟨t4, t5, t6, t7, e⟩ := curve_turn d (L : Nat) i (2 ^ j) (cv j) (by omega) s1 s4 s5 s6 s7
    rw [e]
    push_cast []
    exact ⟨j + 1, _, _, _, _, _, by omega, by rw [two_succ]; rfl⟩
  · subst hρ
    have : j = L := by simpa using hl
    subst this
    push_cast []
/-! ### without doubles -/
theorem tup_no {x : D} {a b : D} {k : List Sl} : True := trivial
theorem unlike_turn (d : Nat) (T : Sl) (acc : List Pt) (z : Pt) (h : z ∉ acc) (hl : acc.length ≤ 1000) (s2 : Sl) : stepF (enL P none) d (.nm 2) c_law_unlike_1 (pd z) [T, .ow (.lst (acc.map pd)), s2] = M.ret (.nx, [T, .ow (.lst ((acc ++ [z]).map pd)), .im (pd z)]) := by
  have hlim : (acc.map pd).length < lim := by rw [List.length_map]; exact Nat.lt_of_le_of_lt hl (by decide)
  have he := eqD_lnil (acc.map pd) 2 (by decide) (fun x hx => by obtain ⟨p, _, rfl⟩ := List.mem_map.mp hx; exact ok_pd p)
  have hm : acc.map pd ++ [pd z] = (acc ++ [z]).map pd := by rw [List.map_append]; rfl
  rcases List.eq_nil_or_concat acc with rfl | ⟨a, y, rfl⟩
  · generalize hz : pd z = Z at *
    push_cast [c_law_unlike_1, he, List.map_nil]
    rw [← hz]
    rfl
  · rw [List.concat_eq_append] at *
    have hne : (a ++ [y]).map pd ≠ [] := by simp
    have hemp : ((a ++ [y]).map pd).isEmpty = false := by simp
    have hat : atI ((a ++ [y]).map pd) (-1) = some (pd y) := by rw [List.map_append]; exact at_last _ _
    have hyz : decide (y = z) = false := by
      rw [decide_eq_false_iff_not]
      rintro rfl
      exact h (by simp)
    have heq := eqD_pd y z
    rw [hyz] at heq
    generalize (a ++ [y]).map pd = Y at *
    generalize pd z = Z at *
    generalize pd y = YY at *
    push_cast [c_law_unlike_1, he, hemp, hat, heq, hlim, hm]
theorem unlike_loop (d : Nat) (T : Sl) : ∀ (l acc : List Pt) (s2 : Sl), (acc ++ l).Nodup → (acc ++ l).length ≤ 1000 → ∃ s2', forL (stepF (enL P none) d (.nm 2) c_law_unlike_1) (l.map pd) [T, .ow (.lst (acc.map pd)), s2] = M.ret (.nx, [T, .ow (.lst ((acc ++ l).map pd)), s2'])
  | [], acc, s2, h, hl => ⟨s2, by rw [List.append_nil]; rfl⟩
  | z :: l, acc, s2, h, hl => by
    have e : acc ++ z :: l = acc ++ [z] ++ l := by simp
    rw [e] at h hl
    obtain ⟨s2', hh⟩ := unlike_loop d T l (acc ++ [z]) (.im (pd z)) h hl
    refine ⟨s2', ?_⟩
    have hz : z ∉ acc := fun m => by
      have := (List.nodup_append.mp (List.nodup_append.mp h).1).2.2 z m z (by simp)
      exact this rfl
    rw [List.map_cons]
    show M.bnd (stepF (enL P none) d (.nm 2) c_law_unlike_1 (pd z) [T, .ow (.lst (acc.map pd)), s2]) _ = _
    rw [unlike_turn d T acc z hz (by rw [List.length_append, List.length_append] at hl; omega), e]
    exact hh
theorem alike_pd (a b : Pt) : PySem.W.alike (pd a).py (pd b).py = true := by
  show PySem.W.alike (.tuple [.int a.1, .int a.2]) (.tuple [.int b.1, .int b.2]) = true
  simp [PySem.W.alike, PySem.W.alikeAll]
theorem srtB_pds (l : List Pt) (h : l.length ≤ 1000) : srtB (l.map pd) = true := by
  refine srtB_of (fun x hx => ?_) (fun x hx y hy => ?_) (.inl fun x hx => ?_) (small_lim (by rw [List.length_map]; exact h))
  · obtain ⟨p, _, rfl⟩ := List.mem_map.mp hx; exact (ok_pd p).mono (by decide)
  · obtain ⟨p, _, rfl⟩ := List.mem_map.mp hx
    obtain ⟨q, _, rfl⟩ := List.mem_map.mp hy
    exact alike_pd p q
  · obtain ⟨p, _, rfl⟩ := List.mem_map.mp hx; rfl
theorem perm_map {l : List Pt} {m : List D} (h : m.Perm (l.map pd)) : ∃ l' : List Pt, l'.Perm l ∧ m = l'.map pd := by
  have hi : ∀ p q : Pt, pd p = pd q → p = q := fun p q e => by
    have := congrArg (fun x => match x with | D.tup [.int a, .int b] => (a, b) | _ => ((0, 0) : Pt)) e
    exact this
  refine ⟨m.map (fun x => match x with | D.tup [.int a, .int b] => (a, b) | _ => ((0, 0) : Pt)), ?_, ?_⟩
  · have := h.map (fun x => match x with | D.tup [.int a, .int b] => (a, b) | _ => ((0, 0) : Pt))
    rw [List.map_map] at this
    have e : l.map ((fun x => match x with | D.tup [.int a, .int b] => (a, b) | _ => ((0, 0) : Pt)) ∘ pd) = l := by
      conv => rhs; rw [← List.map_id l]
      apply List.map_congr_left
      intro p _
      rfl
    rw [e] at this
    exact this
  · rw [List.map_map]
    conv => lhs; rw [← List.map_id m]
    apply List.map_congr_left
    intro x hx
    obtain ⟨p, _, rfl⟩ := List.mem_map.mp (h.mem_iff.mp hx)
    rfl
theorem w_unlike (d : Nat) (l : List Pt) (hn : l.Nodup) (hl : l.length ≤ 1000) : ∃ l' : List Pt, l'.length = l.length ∧ callL P (d + 1) "_law_unlike" [.lst (l.map pd)] = M.ret (.lst (l'.map pd), .fr) := by
  obtain ⟨l', hp, hs⟩ := perm_map (l := l) (sortD_perm (l.map pd))
  refine ⟨l', hp.length_eq, ?_⟩
  refine d_law_unlike.pure rfl (by simp only [noObjL_cons, noObjL_nil, noObj_lst, pds_no, Bool.and_true]) (by show (D.lst _).noObj = true; rw [noObj_lst]; exact pds_no _) ?_
  unfold c_law_unlike body
  have hsort : bltD "sorted" [.lst (l.map pd)] = some (.lst (l'.map pd), .fr) := by
    show (if srtB (l.map pd) = true then some (D.lst (sortD (l.map pd)), Kd.fr) else none) = _
    rw [if_pos (srtB_pds l hl), hs]
  obtain ⟨s2', hh⟩ := unlike_loop d (.im (.lst (l.map pd))) l' [] .un (hp.nodup_iff.mpr hn) (by rw [List.nil_append, hp.length_eq]; exact hl)
  rw [List.nil_append, List.map_nil] at hh
  push_cast [hsort]
  rw [hh]
  push_cast []
end K44
set_option linter.all false
set_option maxRecDepth 100000
set_option maxHeartbeats 4000000
namespace K44
open PySem PySem.Spec PyProof.Rows L2 PI
/-! ### a dict of spots -/
def kq (p : Pt) : NestedKey := .tup [.num p.1, .num p.2]
theorem nk_pd (p : Pt) : nkD (pd p) = some (kq p) := by
  unfold pd nkD nkL nkL nkL
  simp only [nkD]
  rfl
theorem nkL_pds : ∀ f : List Pt, nkL (f.map pd) = some (f.map kq)
  | [] => by unfold nkL; rfl
  | p :: f => by
    rw [List.map_cons, nkL, nk_pd, nkL_pds f]
    rfl
theorem kq_inj {p q : Pt} (h : kq p = kq q) : p = q := by
  unfold kq at h
  injection h with h
  injection h with h1 h2
  injection h1 with h1
  injection h2 with h2 _
  injection h2 with h2
  exact Prod.ext h1 h2
theorem kind_pds (f : List Pt) : kindOk (f.map kq) = true := by
  unfold kindOk
  rw [Bool.or_eq_true]
  right
  rw [List.all_eq_true]
  intro x hx
  obtain ⟨p, _, rfl⟩ := List.mem_map.mp hx
  rw [Bool.and_eq_true]
  refine ⟨rfl, decide_eq_true ?_⟩
  show NestedKey.depth (.tup [.num p.1, .num p.2]) ≤ 8
  simp [NestedKey.depth, NestedKey.depthAll]
theorem keyIn_pd (f : List Pt) (z : Pt) : keyIn (f.map pd) (pd z) = some (kq z) := by
  unfold keyIn
  rw [nk_pd, nkL_pds]
  dsimp only
  exact if_pos (kind_pds (z :: f))
theorem idxK_pd (f : List Pt) (z : Pt) : idxK (f.map pd) (kq z) = f.findIdx? fun p => decide (p = z) := by
  unfold idxK
  rw [List.findIdx?_map]
  congr 1
  funext p
  show decide (nkD (pd p) = some (kq z)) = decide (p = z)
  rw [nk_pd]
  by_cases h : p = z
  · simp [h]
  · have : kq p ≠ kq z := fun e => h (kq_inj e)
    simp [h, this]
theorem find_none {f : List Pt} {z : Pt} (h : z ∉ f) : f.findIdx? (fun p => decide (p = z)) = none := by
  rw [List.findIdx?_eq_none_iff]
  intro x hx
  exact decide_eq_false fun e => h (e ▸ hx)
theorem put_pd (f : List Pt) (vs : List D) (z : Pt) (v : D) (h : z ∉ f) (hl : f.length ≤ 1000) : putD (f.map pd) vs (pd z) v = some ((f ++ [z]).map pd, vs ++ [v]) := by
  unfold putD
  rw [keyIn_pd, Option.bind_some, idxK_pd, find_none h, if_pos (by rw [List.length_map]; omega), List.map_append]
  rfl
theorem has_pd (f : List Pt) (z : Pt) : hasD (f.map pd) (pd z) = some (decide (z ∈ f)) := by
  unfold hasD
  rw [keyIn_pd, Option.map_some, idxK_pd]
  congr 1
  by_cases h : z ∈ f
  · rw [decide_eq_true h, List.findIdx?_isSome, List.any_eq_true]
    exact ⟨z, h, decide_eq_true rfl⟩
  · rw [find_none h, decide_eq_false h]
    rfl
theorem get_pd (f : List Pt) (vs : List D) (z : Pt) (i : Nat) (hn : f.Nodup) (h : f[i]? = some z) : getD (f.map pd) vs (pd z) = vs[i]? := by
  unfold getD
  rw [keyIn_pd, Option.bind_some, idxK_pd]
  obtain ⟨hi, e⟩ := List.getElem?_eq_some_iff.mp h
  have : f.findIdx? (fun p => decide (p = z)) = some i := by
    rw [List.findIdx?_eq_some_iff_getElem]
    refine ⟨hi, decide_eq_true e, fun j hj => ?_⟩
    intro z2
    have z3 := of_decide_eq_true z2
    have := (List.getElem_inj hn).mp (z3.trans e.symm)
    omega
  rw [this, Option.bind_some]
/-! ### the numbers of all spots -/
def nums (n : Nat) : List D := (iota 0 n).map .int
theorem nums_get (n i : Nat) (h : i < n) : (nums n)[i]? = some (.int (i : Nat)) := by
  unfold nums iota
  rw [List.getElem?_map, List.getElem?_map, List.getElem?_range h]
  simp
theorem nums_succ (n : Nat) : nums (n + 1) = nums n ++ [.int (n : Nat)] := by
  unfold nums iota
  rw [List.range_succ, List.map_append, List.map_append]
  simp
theorem cv_get (k i : Nat) (hk : k < 4) (hi : i < 4 ^ k) : (cv k)[i]? = some (Sp k i) := by
  rw [cv_ok k hk, List.getElem?_map, List.getElem?_range hi]
  rfl
theorem cv_mem (k : Nat) (hk : k < 4) (p : Pt) : decide (p ∈ cv k) = inB k p := by
  rw [Bool.eq_iff_iff, decide_eq_true_iff, inB_iff, cv_ok k hk]
  constructor
  · intro h
    obtain ⟨n, _, rfl⟩ := List.mem_map.mp h
    exact Sp_in k n
  · intro h
    exact List.mem_map.mpr ⟨Nm k p, List.mem_range.mpr (Nm_lt k h), Sp_Nm k h⟩
theorem cv_num (k : Nat) (hk : k < 4) (p : Pt) (h : inB k p = true) : getD ((cv k).map pd) (nums (4 ^ k)) (pd p) = some (.int (Nm k p : Nat)) := by
  have hin := (inB_iff k p).mp h
  have hlt := Nm_lt k hin
  rw [get_pd (cv k) _ p (Nm k p) (cv_nd k hk) (by rw [cv_get k _ hk hlt, Sp_Nm k hin]), nums_get _ _ hlt]
theorem cv_numS (k : Nat) (hk : k < 4) (i : Nat) (hi : i < 4 ^ k) : getD ((cv k).map pd) (nums (4 ^ k)) (pd (Sp k i)) = some (.int (i : Nat)) := by
  rw [get_pd (cv k) _ (Sp k i) i (cv_nd k hk) (cv_get k i hk hi), nums_get _ _ hi]
end K44
set_option linter.all false
set_option maxRecDepth 100000
set_option maxHeartbeats 4000000
namespace K44
open PySem PySem.Spec PyProof.Rows L2 PI
/-! ### what is told of refusals -/
def chk (v : D) : Bool := match repD v with
  | some t => eqD (.str t) (.str t) == some true
  | none => false
theorem blw_repr (xs : List D) : bltD "repr" [.tup xs] = (repD (.tup xs)).map fun z => (.str z, .sh) := rfl
theorem chk_ok {xs : List D} (h : chk (.tup xs) = true) : ∃ t, bltD "repr" [.tup xs] = some (.str t, .sh) ∧ eqD (.str t) (.str t) = some true := by
  rw [blw_repr]
  unfold chk at h
  cases e : repD (.tup xs) with
  | none => rw [e] at h; cases h
  | some t =>
    rw [e] at h
    exact ⟨t, rfl, eq_of_beq h⟩
def sL : D := .str (SX.S [108, 101, 118, 101, 108])
def sN : D := .str (SX.S [110, 117, 109, 98, 101, 114])
def sS : D := .str (SX.S [115, 112, 111, 116])
theorem chkL : chk (.tup [sL, .int (-1)]) = true ∧ chk (.tup [sL, .int 9]) = true ∧ chk (.tup [sL, .int 5]) = true ∧ chk (.tup [sL, .non]) = true ∧ chk (.tup [sL, .bl true]) = true := by decide +kernel
theorem chkN : chk (.tup [sN, .int (-1)]) = true ∧ chk (.tup [sN, .non]) = true ∧ ∀ L < 9, chk (.tup [sN, .int ((4 ^ L : Nat) : Int)]) = true := by decide +kernel
theorem chkS : chk (.tup [sS, .non]) = true ∧ chk (.tup [sS, .tup [.int 0]]) = true ∧ chk (.tup [sS, .lst [.int 0, .int 0]]) = true ∧ chk (.tup [sS, .tup [.int 0, .int (-1)]]) = true ∧ chk (.tup [sS, .tup [.int 0, .non]]) = true ∧ ∀ L < 9, chk (.tup [sS, .tup [.int (2 ^ L), .int 0]]) = true := by decide +kernel
end K44
set_option linter.all false
set_option maxRecDepth 100000
set_option maxHeartbeats 4000000
namespace K44
open PySem PySem.Spec PyProof.Rows L2 PI
/-! ### the end of the law -/
def Fin (r : Fl × List Sl) (_ : Store) : Prop := ∃ ρ', r = (.rt (.bl true) .sh, ρ')
def NoX (_ : Ex) (_ : Store) : Prop := False
theorem str_L : (SX.S [108, 101, 118, 101, 108] : Str) = "level" := by decide +kernel
theorem str_N : (SX.S [110, 117, 109, 98, 101, 114] : Str) = "number" := by decide +kernel
theorem str_S : (SX.S [115, 112, 111, 116] : Str) = "spot" := by decide +kernel
theorem pick_L (x : D) : pickEx (thrL x) P.hds = some (.tup [.str (SX.S [108, 101, 118, 101, 108]), x]) := by
  rw [str_L]
  rfl
theorem pick_N (x : D) : pickEx (thrN x) P.hds = some (.tup [.str (SX.S [110, 117, 109, 98, 101, 114]), x]) := by
  rw [str_N]
  rfl
theorem pick_S (x : D) : pickEx (thrS x) P.hds = some (.tup [.str (SX.S [115, 112, 111, 116]), x]) := by
  rw [str_S]
  rfl
section
variable {A : Addr} {q : Str} {ns : List Int} {st : Store}
theorem part17 (d : Nat) (hd : Dr A q ns st) (z0 z2 z3 z4 z5 z6 z7 z8 z9 z10 z11 z12 z13 z14 z15 z16 z17 z18 z19 z20 z21 z22 : Sl) : wp (runSs (enL P (some (A, q))) (d + 7) (claw.drop 17) [z0, .im (.obj 1), z2, z3, z4, z5, z6, z7, z8, z9, z10, z11, z12, z13, z14, z15, z16, z17, z18, z19, z20, z21, z22]) Fin NoX st := by
  unfold claw
  push_cast [List.drop_succ_cons, List.drop_zero]
  refine w_pick d_law_taken d_law_pick _ (by simp) (by simp) hd fun v x st2 hx hd2 => ?_
  obtain ⟨hb, hc⟩ : BadL 4 x ∧ chk (.tup [sL, x]) = true := by
    rcases v with _ | _ | _ | _ | v
    · cases Option.some.inj hx; exact ⟨.int _ (by decide), chkL.1⟩
    · cases Option.some.inj hx; exact ⟨.int _ (by decide), chkL.2.2.1⟩
    · cases Option.some.inj hx; exact ⟨.non, chkL.2.2.2.1⟩
    · cases Option.some.inj hx; exact ⟨.bl _, chkL.2.2.2.2⟩
    · simp at hx
  obtain ⟨t, hr, he⟩ := chk_ok hc
  unfold sL at hr
  push_cast []
  refine wp_ref (e := thrL x) hd2 ?_ (pick_L _) fun st3 hd3 => ?_
  · push_cast [noOwn_cons, noOwn_nil, noS_im, w_jump_bad (d + 1) x hb]
    exact ⟨trivial, hd2⟩
  · push_cast [hr, he]
    exact ⟨_, rfl⟩
def two : List String := ["number_at", "nearest_numbers"]
theorem two_fn {f : String} (hf : f ∈ two) (k : Kd) : fnX P (some (.fn (Str.ofString f), k)) = M.ret (Str.ofString f) := by
  have : hasFn P (Str.ofString f) = true := by
    simp only [two, List.mem_cons, List.not_mem_nil, or_false] at hf
    rcases hf with rfl | rfl <;> decide +kernel
  unfold fnX
  dsimp only
  rw [if_pos this]
theorem part16 (d : Nat) (hd : Dr A q ns st) (L : Nat) (hL : L ≤ 8) (x : D) (hx : BadS L x) (hc : chk (.tup [sS, x]) = true) (z0 z3 z4 z5 z6 z7 z8 z10 z11 z12 z13 z14 z15 z16 z17 z18 z19 z20 z21 z22 : Sl) : wp (runSs (enL P (some (A, q))) (d + 7) (claw.drop 16) [z0, .im (.obj 1), .im (.int L), z3, z4, z5, z6, z7, z8, .im x, z10, z11, z12, z13, z14, z15, z16, z17, z18, z19, z20, z21, z22]) Fin NoX st := by
  have rest := fun st (hd : Dr A q ns st) z10 => part17 (st := st) d hd z0 (.im (.int L)) z3 z4 z5 z6 z7 z8 (.im x) z10 z11 z12 z13 z14 z15 z16 z17 z18 z19 z20 z21 z22
  generalize hR : claw.drop 17 = R at rest
  have e : claw.drop 16 = claw[16] :: R := by rw [← hR]; rfl
  rw [e]
  unfold claw
  obtain ⟨t, hr, he⟩ := chk_ok hc
  unfold sS at hr
  have e3 : [D.fn (Str.ofString "number_at"), D.fn (Str.ofString "nearest_numbers")] = two.map fun s => D.fn (Str.ofString s) := rfl
  push_cast [List.getElem_cons_succ, List.getElem_cons_zero]
  rw [e3]
  refine for_wp (fun s => D.fn (Str.ofString s)) (fun l ρ st => (∀ f ∈ l, f ∈ two) ∧ Dr A q ns st ∧ ∃ z10, ρ = [z0, .im (.obj 1), .im (.int L), z3, z4, z5, z6, z7, z8, .im x, z10, z11, z12, z13, z14, z15, z16, z17, z18, z19, z20, z21, z22]) _ _ _ ⟨fun f hf => hf, hd, _, rfl⟩ (fun f l ρ st ⟨hf, hd, z10, hρ⟩ => ?_) fun ρ st ⟨_, hd, z10, hρ⟩ => ?_
  · subst hρ
    have hf2 := hf f (by simp)
    have ask := w_asks d L hL x hx f hf2
    push_cast [claw_6, noOwn_cons, noOwn_nil, noS_im, two_fn hf2]
    refine wp_ref (e := thrS x) hd ?_ (pick_S _) fun st3 hd3 => ?_
    · push_cast [ask]
      exact ⟨trivial, hd⟩
    · push_cast [hr, he]
      exact ⟨fun f' h' => hf f' (by simp [h']), hd3, _, rfl⟩
  · subst hρ
    push_cast []
    exact rest _ hd z10
theorem part15 (d : Nat) (hd : Dr A q ns st) (L : Nat) (hL : L ≤ 8) (z0 z4 z5 z6 z7 z8 z9 z10 z11 z12 z13 z14 z15 z16 z17 z18 z19 z20 z21 z22 : Sl) : wp (runSs (enL P (some (A, q))) (d + 7) (claw.drop 15) [z0, .im (.obj 1), .im (.int L), .im (.int (2 ^ L)), z4, z5, z6, z7, z8, z9, z10, z11, z12, z13, z14, z15, z16, z17, z18, z19, z20, z21, z22]) Fin NoX st := by
  have hs := chkS.2.2.2.2.2 L (by omega)
  have hbs : BadS L (.tup [.int (2 ^ L), .int 0]) := .two (2 ^ L, 0) fun h => by have := h.2.1; dsimp only at this; omega
  have hbn : BadS L (.tup [.int 0, .int (-1)]) := .two (0, -1) fun h => by have := h.2.2.1; dsimp only at this; omega
  generalize (2 : Int) ^ L = s at hs hbs ⊢
  have rest := fun st (hd : Dr A q ns st) x hx hc => part16 (st := st) d hd L hL x hx hc z0 (.im (.int s)) z4 z5 z6 z7 z8 z10 z11 z12 z13 z14 z15 z16 z17 z18 z19 z20 z21 z22
  generalize hR : claw.drop 16 = R at rest
  have e : claw.drop 15 = claw[15] :: R := by rw [← hR]; rfl
  rw [e]
  unfold claw
  push_cast [List.getElem_cons_succ, List.getElem_cons_zero]
  refine w_pick d_law_taken d_law_pick _ (by simp) (by simp) hd fun v x st1 hx hd1 => ?_
  obtain ⟨b1, b2⟩ : BadS L x ∧ chk (.tup [sS, x]) = true := by
    rcases v with _ | _ | _ | _ | _ | _ | v
    · cases Option.some.inj hx; exact ⟨.non, chkS.1⟩
    · cases Option.some.inj hx; exact ⟨.one 0, chkS.2.1⟩
    · cases Option.some.inj hx; exact ⟨.lst _ rfl, chkS.2.2.1⟩
    · cases Option.some.inj hx; exact ⟨hbs, hs⟩
    · cases Option.some.inj hx; exact ⟨hbn, chkS.2.2.2.1⟩
    · cases Option.some.inj hx; exact ⟨.bad 0, chkS.2.2.2.2.1⟩
    · simp at hx
  push_cast []
  exact rest st1 hd1 x b1 b2
/-- odd levels, odd numbers -/
theorem part13 (d : Nat) (hd : Dr A q ns st) (L : Nat) (hL : L ≤ 8) (x y : D) (hx : BadL 8 x) (hcx : chk (.tup [sL, x]) = true) (hy : BadL (((4 ^ L : Nat) : Int) - 1) y) (hcy : chk (.tup [sN, y]) = true) (z0 z4 z5 z6 z7 z8 z9 z10 z11 z12 z13 z14 z15 z16 z17 z18 z19 z22 : Sl) : wp (runSs (enL P (some (A, q))) (d + 7) (claw.drop 13) [z0, .im (.obj 1), .im (.int L), .im (.int (2 ^ L)), z4, z5, z6, z7, z8, z9, z10, z11, z12, z13, z14, z15, z16, z17, z18, z19, .im x, .im y, z22]) Fin NoX st := by
  have rest := fun st (hd : Dr A q ns st) => part15 (st := st) d hd L hL z0 z4 z5 z6 z7 z8 z9 z10 z11 z12 z13 z14 z15 z16 z17 z18 z19 (.im x) (.im y) z22
  have k1 := w_spot_badL (d + 1) x y hx hy.no
  have k2 := w_spot_badN (d + 1) L hL y hy
  generalize (2 : Int) ^ L = s at rest ⊢
  generalize hR : claw.drop 15 = R at rest
  have e : claw.drop 13 = claw[13] :: claw[14] :: R := by rw [← hR]; rfl
  rw [e]
  unfold claw
  obtain ⟨t1, hr1, he1⟩ := chk_ok hcx
  obtain ⟨t2, hr2, he2⟩ := chk_ok hcy
  unfold sL at hr1
  unfold sN at hr2
  push_cast [List.getElem_cons_succ, List.getElem_cons_zero, noOwn_cons, noOwn_nil, noS_im]
  refine wp_ref (e := thrL x) hd ?_ (pick_L _) fun st3 hd3 => ?_
  · push_cast [k1]
    exact ⟨trivial, hd⟩
  · push_cast [hr1, he1, noOwn_cons, noOwn_nil, noS_im]
    refine wp_ref (e := thrN y) hd3 ?_ (pick_N _) fun st4 hd4 => ?_
    · push_cast [k2]
      exact ⟨trivial, hd3⟩
    · push_cast [hr2, he2]
      exact rest _ hd4
theorem part12 (d : Nat) (hd : Dr A q ns st) (L : Nat) (hL : L ≤ 8) (z0 z4 z5 z6 z7 z8 z9 z10 z11 z12 z13 z14 z15 z16 z17 z18 z19 z20 z21 z22 : Sl) : wp (runSs (enL P (some (A, q))) (d + 7) (claw.drop 12) [z0, .im (.obj 1), .im (.int L), .im (.int (2 ^ L)), z4, z5, z6, z7, z8, z9, z10, z11, z12, z13, z14, z15, z16, z17, z18, z19, z20, z21, z22]) Fin NoX st := by
  have rest := fun st (hd : Dr A q ns st) x y hx hcx hy hcy => part13 (st := st) d hd L hL x y hx hcx hy hcy z0 z4 z5 z6 z7 z8 z9 z10 z11 z12 z13 z14 z15 z16 z17 z18 z19 z22
  have hm := mul_side (show L ≤ 20 by omega)
  have hcs := chkN.2.2 L (by omega)
  generalize (2 : Int) ^ L = s at rest hm ⊢
  generalize (4 : Nat) ^ L = N at rest hm hcs
  generalize hR : claw.drop 13 = R at rest
  have e : claw.drop 12 = claw[12] :: R := by rw [← hR]; rfl
  rw [e]
  unfold claw
  push_cast [List.getElem_cons_succ, List.getElem_cons_zero, hm]
  refine w_pick d_law_taken d_law_pick _ (by simp) (by simp) hd fun v x st1 hx hd1 => ?_
  obtain ⟨b1, b2⟩ : BadL 8 x ∧ chk (.tup [sL, x]) = true := by
    rcases v with _ | _ | _ | _ | v
    · cases Option.some.inj hx; exact ⟨.int _ (by decide), chkL.1⟩
    · cases Option.some.inj hx; exact ⟨.int _ (by decide), chkL.2.1⟩
    · cases Option.some.inj hx; exact ⟨.non, chkL.2.2.2.1⟩
    · cases Option.some.inj hx; exact ⟨.bl _, chkL.2.2.2.2⟩
    · simp at hx
  push_cast [hm]
  refine w_pick d_law_taken d_law_pick _ (by simp) (by simp) hd1 fun v y st2 hy hd2 => ?_
  obtain ⟨b3, b4⟩ : BadL (((N : Nat) : Int) - 1) y ∧ chk (.tup [sN, y]) = true := by
    rcases v with _ | _ | _ | v
    · cases Option.some.inj hy; exact ⟨.int _ (by omega), chkN.1⟩
    · cases Option.some.inj hy; exact ⟨.int _ (by omega), hcs⟩
    · cases Option.some.inj hy; exact ⟨.non, chkN.2.1⟩
    · simp at hy
  push_cast []
  exact rest st2 hd2 x y b1 b2 b3 b4
end
end K44
set_option linter.all false
set_option maxRecDepth 100000
set_option maxHeartbeats 4000000
namespace K44
open PySem PySem.Spec PyProof.Rows L2 PI
section
variable {A : Addr} {q : Str} {ns : List Int} {st : Store}
theorem part11 (d : Nat) (hd : Dr A q ns st) (L : Nat) (hL : L ≤ 8) (k : Nat) (hk : k < 4) (z0 z4 z5 z7 z8 z9 z10 z11 z12 z13 z14 z15 z17 z18 z19 z20 z21 z22 : Sl) : wp (runSs (enL P (some (A, q))) (d + 7) (claw.drop 11) [z0, .im (.obj 1), .im (.int L), .im (.int (2 ^ L)), z4, z5, .im (.int k), z7, z8, z9, z10, z11, z12, z13, z14, z15, .im (.int (lN k (4 ^ k))), z17, z18, z19, z20, z21, z22]) Fin NoX st := by
  rw [← j_l k hk]
  have hj := w_jump (d + 3) k (by omega)
  have ha := w_alike d_law_alike 0 (.int (jN k (4 ^ k))) (.int 0 _) (d + 6)
  have rest := fun st (hd : Dr A q ns st) => part12 (st := st) d hd L hL z0 z4 z5 (.im (.int k)) z7 z8 z9 z10 z11 z12 z13 z14 z15 (.im (.int (jN k (4 ^ k)))) z17 z18 z19 z20 z21 z22
  generalize jN k (4 ^ k) = J at hj ha rest ⊢
  generalize (2 : Int) ^ L = s at rest ⊢
  generalize hR : claw.drop 12 = R at rest
  have e : claw.drop 11 = claw[11] :: R := by rw [← hR]; rfl
  rw [e]
  unfold claw
  push_cast [List.getElem_cons_succ, List.getElem_cons_zero, hj, ha]
  exact rest _ hd
theorem best_turn (d k j : Nat) (ks vs : List D) (p r : Pt) (b : Int) (hi : hasD ks (pd r) = some (inB k r)) (hg : inB k r = true → getD ks vs (pd r) = some (.int (Nm k r : Nat))) (hs : getD ks vs (pd p) = some (.int (j : Nat))) (E : Option (Addr × Str)) (z0 z1 z2 z3 z4 z5 z6 z8 z9 z10 z11 z12 z13 z14 z15 z19 z20 z21 z22 : Sl) : stepF (enL P E) d (.nm 19) claw_4 (pd r) [z0, z1, z2, z3, z4, z5, z6, .im (.dct ks vs), z8, z9, z10, z11, z12, z13, z14, z15, .im (.int b), .im (.int p.1), .im (.int p.2), z19, z20, z21, z22] = M.ret (.nx, [z0, z1, z2, z3, z4, z5, z6, .im (.dct ks vs), z8, z9, z10, z11, z12, z13, z14, z15, .im (.int (if inB k r = true then up b (ab (Nm k r - j)) else b)), .im (.int p.1), .im (.int p.2), .im (pd r), z20, z21, z22]) := by
  unfold pd at hs
  cases hb : inB k r with
  | false =>
    rw [hb] at hi
    generalize pd r = R at hi ⊢
    push_cast [claw_4, hi]
  | true =>
    rw [hb] at hi
    have hg := hg hb
    have habs : bltD "abs" [.int ((Nm k r : Int) - j)] = some (.int (ab (Nm k r - j)), .sh) := rfl
    have hmax : bltD "max" [.int b, .int (ab (Nm k r - j))] = some (.int (up b (ab (Nm k r - j))), .sh) := rfl
    generalize pd r = R at hi hg ⊢
    generalize Nm k r = n at *
    generalize ab (n - j) = v at *
    generalize up b v = u at *
    push_cast [claw_4, hi, hg, hs, habs, hmax]
theorem best_in (d k j : Nat) (ks vs : List D) (p : Pt) (hi : ∀ r, hasD ks (pd r) = some (inB k r)) (hg : ∀ r, inB k r = true → getD ks vs (pd r) = some (.int (Nm k r : Nat))) (hs : getD ks vs (pd p) = some (.int (j : Nat))) (E : Option (Addr × Str)) (z0 z1 z2 z3 z4 z5 z6 z8 z9 z10 z11 z12 z13 z14 z15 z20 z21 z22 : Sl) : ∀ (rs : List Pt) (b : Int) (z19 : Sl), ∃ t19, forL (stepF (enL P E) d (.nm 19) claw_4) (rs.map pd) [z0, z1, z2, z3, z4, z5, z6, .im (.dct ks vs), z8, z9, z10, z11, z12, z13, z14, z15, .im (.int b), .im (.int p.1), .im (.int p.2), z19, z20, z21, z22] = M.ret (.nx, [z0, z1, z2, z3, z4, z5, z6, .im (.dct ks vs), z8, z9, z10, z11, z12, z13, z14, z15, .im (.int (rs.foldl (fun b q => if inB k q = true then up b (ab (Nm k q - j)) else b) b)), .im (.int p.1), .im (.int p.2), t19, z20, z21, z22])
  | [], b, z19 => ⟨z19, rfl⟩
  | r :: rs, b, z19 => by
    obtain ⟨t19, h⟩ := best_in d k j ks vs p hi hg hs E z0 z1 z2 z3 z4 z5 z6 z8 z9 z10 z11 z12 z13 z14 z15 z20 z21 z22 rs (if inB k r = true then up b (ab (Nm k r - j)) else b) (.im (pd r))
    refine ⟨t19, ?_⟩
    rw [List.map_cons]
    show M.bnd (stepF (enL P E) d (.nm 19) claw_4 (pd r) _) _ = _
    rw [best_turn d k j ks vs p r b (hi r) (hg r) hs E]
    exact h
theorem drop_cons {α : Type} {f : List α} {j : Nat} {a : α} {r : List α} (h : a :: r = f.drop j) : f[j]? = some a ∧ r = f.drop (j + 1) := by
  have h1 := congrArg (·[0]?) h
  have h2 := congrArg List.tail h
  rw [List.tail_drop] at h2
  simp only [List.getElem?_cons_zero, List.getElem?_drop, Nat.add_zero] at h1
  exact ⟨h1.symm, h2⟩
theorem part10 (d : Nat) (hd : Dr A q ns st) (L : Nat) (hL : L ≤ 8) (k : Nat) (hk : k < 4) (ks vs : List D) (hks : ks = (cv k).map pd) (hvs : vs = nums (4 ^ k)) (P7 : Sl) (hP7 : frzS P7 = .im (.dct ks vs)) (z0 z4 z5 z8 z9 z10 z11 z12 z13 z14 z15 z17 z18 z19 z20 z21 z22 : Sl) : wp (runSs (enL P (some (A, q))) (d + 7) (claw.drop 10) [z0, .im (.obj 1), .im (.int L), .im (.int (2 ^ L)), z4, z5, .im (.int k), P7, z8, z9, z10, z11, z12, z13, z14, z15, .im (.int 0), z17, z18, z19, z20, z21, z22]) Fin NoX st := by
  have rest := fun st (hd : Dr A q ns st) z17 z18 z19 => part11 (st := st) d hd L hL k hk z0 z4 z5 (.im (.dct ks vs)) z8 z9 z10 z11 z12 z13 z14 z15 z17 z18 z19 z20 z21 z22
  have hi : ∀ r, hasD ks (pd r) = some (inB k r) := fun r => by rw [hks, has_pd, cv_mem k hk]
  have hg : ∀ r, inB k r = true → getD ks vs (pd r) = some (.int (Nm k r : Nat)) := fun r hr => by rw [hks, hvs]; exact cv_num k hk r hr
  have hs : ∀ j < 4 ^ k, getD ks vs (pd (Sp k j)) = some (.int (j : Nat)) := fun j hj => by rw [hks, hvs]; exact cv_numS k hk j hj
  have hcl := cv_len k hk
  have hcg := cv_get k
  generalize (2 : Int) ^ L = s at rest ⊢
  generalize (4 : Nat) ^ k = N at rest hs hcl hcg
  generalize hR : claw.drop 11 = R at rest
  have e : claw.drop 10 = claw[10] :: R := by rw [← hR]; rfl
  rw [e]
  unfold claw
  push_cast [List.getElem_cons_succ, List.getElem_cons_zero, hP7]
  rw [show forL (stepF (enL P (some (A, q))) (d + 7) (.tup [.nm 17, .nm 18]) claw_5) ks = forL (stepF (enL P (some (A, q))) (d + 7) (.tup [.nm 17, .nm 18]) claw_5) ((cv k).map pd) by rw [hks]]
  refine for_wp pd (fun l ρ st => Dr A q ns st ∧ ∃ (j : Nat) (z17 z18 z19 : Sl), j ≤ N ∧ l = (cv k).drop j ∧ ρ = [z0, .im (.obj 1), .im (.int L), .im (.int s), z4, z5, .im (.int k), .im (.dct ks vs), z8, z9, z10, z11, z12, z13, z14, z15, .im (.int (lN k j)), z17, z18, z19, z20, z21, z22]) _ _ _ ⟨hd, 0, _, _, _, Nat.zero_le _, rfl, rfl⟩ (fun p l ρ st ⟨hd, j, z17, z18, z19, hj, hl, hρ⟩ => ?_) fun ρ st ⟨hd, j, z17, z18, z19, hj, hl, hρ⟩ => ?_
  · subst hρ
    obtain ⟨h1, h2⟩ := drop_cons hl
    have hjN : j < N := by
      have := (List.getElem?_eq_some_iff.mp h1).1
      omega
    rw [hcg j hk hjN] at h1
    cases h1
    obtain ⟨t19, hf⟩ := best_in (d + 7) k j ks vs (Sp k j) hi hg (hs j hjN) (some (A, q)) z0 (.im (.obj 1)) (.im (.int L)) (.im (.int s)) z4 z5 (.im (.int k)) z8 z9 z10 z11 z12 z13 z14 z15 z20 z21 z22 (nb2 (Sp k j)) (lN k j) z19
    have hlb : (nb2 (Sp k j)).foldl (fun b q => if inB k q = true then up b (ab (Nm k q - j)) else b) (lN k j) = lN k (j + 1) := rfl
    rw [hlb] at hf
    generalize Sp k j = p at hf ⊢
    unfold nb2 pd at hf
    rw [List.map_cons, List.map_cons, List.map_nil] at hf
    generalize lN k j = b0 at hf ⊢
    push_cast [pd, claw_5]
    rw [hf]
    push_cast []
    exact ⟨hd, j + 1, _, _, _, by omega, h2, rfl⟩
  · subst hρ
    have : j = N := by
      have := congrArg List.length hl
      rw [List.length_drop] at this
      simp at this
      omega
    subst this
    push_cast []
    exact rest _ hd _ _ _
end
end K44
set_option linter.all false
set_option maxRecDepth 100000
set_option maxHeartbeats 4000000
namespace K44
open PySem PySem.Spec PyProof.Rows L2 PI
section
variable {A : Addr} {q : Str} {ns : List Int} {st : Store}
theorem put_turn (E : Option (Addr × Str)) (d : Nat) (j : Nat) (ks vs ks' vs' C : List D) (kk : D) (hat : atI C (j : Int) = some kk) (hp : putD ks vs kk (.int (j : Nat)) = some (ks', vs')) (z0 z1 z2 z3 z4 z5 z6 z8 z9 z10 z11 z12 z13 z14 z16 z17 z18 z19 z20 z21 z22 : Sl) : stepF (enL P E) d (.nm 8) claw_3 (.int (j : Nat)) [z0, z1, z2, z3, z4, z5, z6, .ow (.dct ks vs), z8, z9, z10, z11, z12, z13, z14, .im (.lst C), z16, z17, z18, z19, z20, z21, z22] = M.ret (.nx, [z0, z1, z2, z3, z4, z5, z6, .ow (.dct ks' vs'), .im (.int (j : Nat)), z9, z10, z11, z12, z13, z14, .im (.lst C), z16, z17, z18, z19, z20, z21, z22]) := by
  push_cast [claw_3, hat, setLK_int, hp]
theorem take_succ' {α : Type} (f : List α) (j : Nat) (a : α) (h : f[j]? = some a) : f.take (j + 1) = f.take j ++ [a] := by
  rw [List.take_succ, h]
  rfl
theorem not_mem_take {f : List Pt} (hn : f.Nodup) {j : Nat} {a : Pt} (h : f[j]? = some a) : a ∉ f.take j := fun m => by
  obtain ⟨i, hi, e⟩ := List.mem_iff_getElem.mp m
  obtain ⟨hj, e2⟩ := List.getElem?_eq_some_iff.mp h
  rw [List.getElem_take] at e
  have hi2 : i < j := by rw [List.length_take] at hi; omega
  have := (List.getElem_inj hn).mp (e.trans e2.symm)
  omega
theorem iota_step {a : Int} {r : List Int} {j N : Nat} (h : a :: r = iota (j : Int) (N - j)) : a = (j : Int) ∧ j < N ∧ r = iota ((j + 1 : Nat) : Int) (N - (j + 1)) := by
  cases hm : N - j with
  | zero => rw [hm] at h; cases h
  | succ m =>
    rw [hm, iota_cons] at h
    cases h
    refine ⟨rfl, by omega, ?_⟩
    rw [show N - (j + 1) = m by omega]
    rfl
theorem part9 (d : Nat) (hd : Dr A q ns st) (L : Nat) (hL : L ≤ 8) (k : Nat) (hk : k < 4) (z0 z4 z5 z8 z9 z10 z11 z12 z13 z14 z17 z18 z19 z20 z21 z22 : Sl) : wp (runSs (enL P (some (A, q))) (d + 7) (claw.drop 9) [z0, .im (.obj 1), .im (.int L), .im (.int (2 ^ L)), z4, z5, .im (.int k), .ow (.dct [] []), z8, z9, z10, z11, z12, z13, z14, .im (.lst ((cv k).map pd)), .im (.int 0), z17, z18, z19, z20, z21, z22]) Fin NoX st := by
  have rest := fun st (hd : Dr A q ns st) ks vs hks hvs z8 => part10 (st := st) d hd L hL k hk ks vs hks hvs (.ow (.dct ks vs)) rfl z0 z4 z5 z8 z9 z10 z11 z12 z13 z14 (.im (.lst ((cv k).map pd))) z17 z18 z19 z20 z21 z22
  have hcl := cv_len k hk
  have hcg := cv_get k
  have hle := cv_le k hk
  generalize (2 : Int) ^ L = s at rest ⊢
  generalize (4 : Nat) ^ k = N at rest hcl hcg
  generalize hR : claw.drop 10 = R at rest
  have e : claw.drop 9 = claw[9] :: R := by rw [← hR]; rfl
  rw [e]
  unfold claw
  have hlen : ((cv k).map pd).length = N := by rw [List.length_map]; exact hcl
  push_cast [List.getElem_cons_succ, List.getElem_cons_zero, hlen, itR1_int _ _ (in62_of (show -(2 ^ 62) ≤ ((N : Nat) : Int) by omega) (by omega)), Int.toNat_natCast]
  refine for_wp D.int (fun l ρ st => Dr A q ns st ∧ ∃ (j : Nat) (z8 : Sl), j ≤ N ∧ l = iota (j : Int) (N - j) ∧ ρ = [z0, .im (.obj 1), .im (.int L), .im (.int s), z4, z5, .im (.int k), .ow (.dct (((cv k).take j).map pd) (nums j)), z8, z9, z10, z11, z12, z13, z14, .im (.lst ((cv k).map pd)), .im (.int 0), z17, z18, z19, z20, z21, z22]) _ _ _ ⟨hd, 0, _, Nat.zero_le _, rfl, rfl⟩ (fun i l ρ st ⟨hd, j, z8, hj, hl, hρ⟩ => ?_) fun ρ st ⟨hd, j, z8, hj, hl, hρ⟩ => ?_
  · subst hρ
    obtain ⟨rfl, hjN, hl2⟩ := iota_step hl
    have hc := hcg j hk hjN
    have hat : atI ((cv k).map pd) (j : Int) = some (pd (Sp k j)) := by
      rw [at_nat _ _ (by omega) (by rw [hlen]; omega), Int.toNat_natCast, List.getElem?_map, hc]
      rfl
    have hp := put_pd ((cv k).take j) (nums j) (Sp k j) (.int (j : Nat)) (not_mem_take (cv_nd k hk) hc) (by rw [List.length_take]; omega)
    rw [← take_succ' _ _ _ hc, ← nums_succ] at hp
    rw [put_turn (some (A, q)) (d + 7) j _ _ _ _ _ _ hat hp]
    push_cast []
    exact ⟨hd, j + 1, _, by omega, hl2, rfl⟩
  · subst hρ
    have : j = N := by
      have := congrArg List.length hl
      rw [iota_len] at this
      simp at this
      omega
    subst this
    push_cast []
    refine rest _ hd _ _ ?_ rfl z8
    rw [List.take_of_length_le (by omega)]
theorem part8 (d : Nat) (hd : Dr A q ns st) (L : Nat) (hL : L ≤ 8) (k : Nat) (hk : k < 4) (z0 z4 z5 z7 z8 z9 z10 z11 z12 z13 z14 z17 z18 z19 z20 z21 z22 : Sl) : wp (runSs (enL P (some (A, q))) (d + 7) (claw.drop 8) [z0, .im (.obj 1), .im (.int L), .im (.int (2 ^ L)), z4, z5, .im (.int k), z7, z8, z9, z10, z11, z12, z13, z14, .im (.lst ((cv k).map pd)), .im (.int 0), z17, z18, z19, z20, z21, z22]) Fin NoX st := by
  have rest := part9 (st := st) d hd L hL k hk z0 z4 z5 z8 z9 z10 z11 z12 z13 z14 z17 z18 z19 z20 z21 z22
  generalize (2 : Int) ^ L = s at rest ⊢
  generalize hR : claw.drop 9 = R at rest
  have e : claw.drop 8 = claw[8] :: R := by rw [← hR]; rfl
  rw [e]
  unfold claw
  push_cast [List.getElem_cons_succ, List.getElem_cons_zero]
  exact rest
theorem part7 (d : Nat) (hd : Dr A q ns st) (L : Nat) (hL : L ≤ 8) (k : Nat) (hk : k < 4) (z0 z4 z5 z7 z9 z10 z11 z12 z13 z14 z17 z18 z19 z20 z21 z22 : Sl) (x8 : D) : wp (runSs (enL P (some (A, q))) (d + 7) (claw.drop 7) [z0, .im (.obj 1), .im (.int L), .im (.int (2 ^ L)), z4, z5, .im (.int k), z7, .im x8, z9, z10, z11, z12, z13, z14, .ow (.lst ((cv k).map pd)), .im (.int 0), z17, z18, z19, z20, z21, z22]) Fin NoX st := by
  have rest := part8 (st := st) d hd L hL k hk z0 z4 z5 z7 (.im x8) z9 z10 z11 z12 z13 z14 z17 z18 z19 z20 z21 z22
  have hcl := cv_len k hk
  have hle := cv_le k hk
  have hc : (iota 0 (4 ^ k)).map (fun i => pd (Sp k i.toNat)) = (cv k).map pd := by
    rw [cv_ok k hk]
    unfold iota
    rw [List.map_map, List.map_map]
    apply List.map_congr_left
    intro i _
    show pd (Sp k ((0 : Int) + (i : Int)).toNat) = pd (Sp k i)
    rw [Int.zero_add, Int.toNat_natCast]
  have hsp : ∀ i < 4 ^ k, callL P (d + 7) "spot_of" [.int k, .int (i : Nat)] = M.ret (pd (Sp k i), .sh) := fun i hi => w_spot_of (d + 3) k i (by omega) hi
  obtain ⟨l', hl', hun⟩ := w_unlike (d + 6) (cv k) (cv_nd k hk) (by omega)
  have heq := eqD_pds (cv k) (cv k)
  rw [decide_eq_true rfl] at heq
  generalize (2 : Int) ^ L = s at rest ⊢
  generalize (4 : Nat) ^ k = N at hcl hc hsp
  generalize hR : claw.drop 8 = R at rest
  have e : claw.drop 7 = claw[7] :: R := by rw [← hR]; rfl
  rw [e]
  unfold claw
  have hlen : ((cv k).map pd).length = N := by rw [List.length_map]; exact hcl
  have hlen' : (l'.map pd).length = N := by rw [List.length_map, hl']; exact hcl
  push_cast [List.getElem_cons_succ, List.getElem_cons_zero, hlen, itR1_int _ _ (in62_of (show -(2 ^ 62) ≤ ((N : Nat) : Int) by omega) (by omega)), Int.toNat_natCast]
  rw [comp_map D.int (fun i => pd (Sp k i.toNat)) (iota 0 N) (fun i hi => by
    rw [mem_iota] at hi
    have h := hsp i.toNat (by omega)
    rw [Int.toNat_of_nonneg (by omega)] at h
    push_cast [h]), hc]
  push_cast [endC_le _ (small_lim (show ((cv k).map pd).length ≤ 1000 by rw [List.length_map]; omega)), heq, hun, hlen, hlen']
  exact rest
theorem part5 (d : Nat) (hd : Dr A q ns st) (L : Nat) (hL : L ≤ 8) (z0 z4 z5 z6 z7 z9 z10 z11 z12 z13 z14 z15 z16 z17 z18 z19 z20 z21 z22 : Sl) (P8 : Sl) (hP8 : True) (rest0 : ∀ (k : Nat) (hk : k < 4) st, Dr A q ns st → wp (runSs (enL P (some (A, q))) (d + 7) (claw.drop 7) [z0, .im (.obj 1), .im (.int L), .im (.int (2 ^ L)), z4, z5, .im (.int k), z7, P8, z9, z10, z11, z12, z13, z14, .ow (.lst ((cv k).map pd)), .im (.int 0), z17, z18, z19, z20, z21, z22]) Fin NoX st) : wp (runSs (enL P (some (A, q))) (d + 7) (claw.drop 5) [z0, .im (.obj 1), .im (.int L), .im (.int (2 ^ L)), z4, z5, z6, z7, P8, z9, z10, z11, z12, z13, z14, z15, z16, z17, z18, z19, z20, z21, z22]) Fin NoX st := by
  generalize (2 : Int) ^ L = s at rest0 ⊢
  generalize hR : claw.drop 7 = R at rest0
  have e : claw.drop 5 = claw[5] :: claw[6] :: R := by rw [← hR]; rfl
  rw [e]
  unfold claw
  push_cast [List.getElem_cons_succ, List.getElem_cons_zero]
  refine w_taken d_law_taken 4 (by decide) (by decide) hd fun v st1 hv0 hv1 hd1 => ?_
  have hv : v = ((v.toNat : Nat) : Int) := by omega
  have hk : v.toNat < 4 := by omega
  generalize v.toNat = k at hv hk
  subst hv
  have hcu := w_curve (d + 6) k hk
  push_cast [hcu]
  exact rest0 k hk st1 hd1
end
end K44
set_option linter.all false
set_option maxRecDepth 100000
set_option maxHeartbeats 4000000
namespace K44
open PySem PySem.Spec PyProof.Rows L2 PI
theorem mn2 (a b : Int) : (0 ≤ mn a [b]) ↔ 0 ≤ a ∧ 0 ≤ b := by
  show (0 ≤ if b < a then b else a) ↔ _
  split <;> omega
theorem mx2 (a b s : Int) : (mx a [b] < s) ↔ a < s ∧ b < s := by
  show ((if a < b then b else a) < s) ↔ _
  split <;> omega
theorem al_nn (xs : List Int) : Al 1 (nnD xs) := by
  cases xs with
  | nil =>
    refine .tup 0 _ (fun x hx => ?_) (by simp)
    simp only [List.mem_cons, List.not_mem_nil, or_false] at hx
    rcases hx with rfl | rfl <;> exact .non _
  | cons a r =>
    refine .tup 0 _ (fun x hx => ?_) (by simp)
    simp only [List.mem_cons, List.not_mem_nil, or_false] at hx
    rcases hx with rfl | rfl <;> exact .int _ _
theorem near_comp (E : Option (Addr × Str)) (d L : Nat) (hL : L ≤ 8) (s : Int) (hB : ∀ p, inB L p = ((decide (0 ≤ p.1) && decide (p.1 < s)) && (decide (0 ≤ p.2) && decide (p.2 < s)))) (p : Pt) (z0 z1 z4 z5 z6 z7 z8 z9 z10 z11 z12 z13 z14 z15 z16 z18 z19 z20 z21 z22 : Sl) :
    stepC (enL P E) (d + 5) (.nm 17) [.bop .And [(.cmp (.val (.int (0))) [.LtE] [(.blt "min" [(.slot 17)])]), (.cmp (.blt "max" [(.slot 17)]) [.Lt] [(.slot 3)])]] (.call "number_at" [(.slot 2), (.slot 17)]) [z0, z1, .im (.int L), .im (.int s), z4, z5, z6, z7, z8, z9, z10, z11, z12, z13, z14, z15, z16, .un, z18, z19, z20, z21, z22] (pd p) = if inB L p = true then M.ret (some (.int (Nm L p : Nat))) else M.ret none := by
  have h1 : minL [.int p.1, .int p.2] = some (.int (mn p.1 [p.2])) := min_ints p.1 [p.2] (by simp)
  have h2 : maxL [.int p.1, .int p.2] = some (.int (mx p.1 [p.2])) := max_ints p.1 [p.2] (by simp)
  cases hb : inB L p with
  | true =>
    have hn := w_number_at d L hL p ((inB_iff L p).mp hb)
    rw [hB] at hb
    simp only [Bool.and_eq_true, decide_eq_true_eq] at hb
    have m1 : 0 ≤ mn p.1 [p.2] := (mn2 _ _).mpr ⟨hb.1.1, hb.2.1⟩
    have m2 : mx p.1 [p.2] < s := (mx2 _ _ _).mpr ⟨hb.1.2, hb.2.2⟩
    unfold pd at hn
    generalize mn p.1 [p.2] = m at h1 m1
    generalize mx p.1 [p.2] = m' at h2 m2
    push_cast [pd, blw_minT, blw_maxT, h1, h2, m1, m2, hn]
  | false =>
    rw [hB] at hb
    by_cases m1 : 0 ≤ mn p.1 [p.2]
    · have m2 : ¬ mx p.1 [p.2] < s := fun m2 => by
        have a1 := (mn2 _ _).mp m1
        have a2 := (mx2 _ _ _).mp m2
        simp [a1, a2] at hb
      generalize mn p.1 [p.2] = m at h1 m1
      generalize mx p.1 [p.2] = m' at h2 m2
      push_cast [pd, blw_minT, blw_maxT, h1, h2, m1, m2]
    · generalize mn p.1 [p.2] = m at h1 m1
      push_cast [pd, blw_minT, blw_maxT, h1, m1]
section
variable {A : Addr} {q : Str} {ns : List Int} {st : Store}
theorem turn2 (d : Nat) (hd : Dr A q ns st) (L : Nat) (hL : L ≤ 8) (t8 : D) (z0 z4 z5 z6 z7 z9 z10 z11 t12 z13 z14 z15 z16 z18 z19 z20 z21 t22 : Sl) {Q : Fl × List Sl → Store → Prop} {X : Ex → Store → Prop}
    (hq : ∀ st' n8 t12 t13 t14 t22, Dr A q ns st' → Q (.nx, [z0, .im (.obj 1), .im (.int L), .im (.int (2 ^ L)), z4, z5, z6, z7, .im n8, z9, z10, z11, t12, t13, t14, z15, z16, .un, z18, z19, z20, z21, t22]) st') :
    wp (runSs (enL P (some (A, q))) (d + 7) (claw_2.drop 4) [z0, .im (.obj 1), .im (.int L), .im (.int (2 ^ L)), z4, z5, z6, z7, .im t8, z9, z10, z11, t12, z13, z14, z15, z16, .un, z18, z19, z20, z21, t22]) Q X st := by
  have hm := mul_side (show L ≤ 20 by omega)
  have hs1 := two_pos L
  have hs2 := small_2 (show L ≤ 20 by omega)
  have hN0 : 0 < 4 ^ L := Nat.pow_pos (by decide)
  have hN : 4 ^ L ≤ 65536 := Nat.le_trans (Nat.pow_le_pow_right (by decide) hL) (by decide)
  have hB : ∀ p, inB L p = ((decide (0 ≤ p.1) && decide (p.1 < (2 : Int) ^ L)) && (decide (0 ≤ p.2) && decide (p.2 < (2 : Int) ^ L))) := fun p => rfl
  have hsp : ∀ n, n < 4 ^ L → callL P (d + 7) "spot_of" [.int L, .int (n : Nat)] = M.ret (pd (Sp L n), .sh) := fun n hn => w_spot_of (d + 3) L n hL hn
  have hnm : ∀ n, n < 4 ^ L → Nm L (Sp L n) = n := fun n hn => by rw [Nm_Sp, Nat.mod_eq_of_lt hn]
  have hlt : ∀ p, In L p → Nm L p < 4 ^ L := fun p hp => Nm_lt L hp
  have had : ∀ n, n + 1 < 4 ^ L → Ad (Sp L n) (Sp L (n + 1)) := fun n hn => Sp_adj L n hn
  have hnc := near_comp (some (A, q)) (d + 2) L hL (2 ^ L) hB
  generalize (2 : Int) ^ L = s at hm hs1 hs2 hB hq hnc ⊢
  generalize (4 : Nat) ^ L = N at hm hN0 hN hsp hnm hlt had
  unfold claw_2
  push_cast [List.drop_succ_cons, List.drop_zero]
  refine w_taken d_law_taken s (by omega) (by omega) hd fun a st2 ha0 ha1 hd2 => ?_
  push_cast []
  refine w_taken d_law_taken s (by omega) (by omega) hd2 fun b st3 hb0 hb1 hd3 => ?_
  have hin : In L (a, b) := (inB_iff L (a, b)).mp (by
    rw [hB]
    simp only [Bool.and_eq_true, decide_eq_true_eq]
    exact ⟨⟨ha0, ha1⟩, hb0, hb1⟩)
  have k1 : callL P (d + 7) "number_at" [.int L, .tup [.int a, .int b]] = _ := w_number_at (d + 2) L hL (a, b) hin
  have k2 := hsp (Nm L (a, b)) (hlt _ hin)
  rw [Sp_Nm L hin] at k2
  have k3 : eqD (pd (a, b)) (.tup [.int a, .int b]) = some true := by
    have := eqD_pd (a, b) (a, b)
    rwa [decide_eq_true rfl] at this
  have k4 : callL P (d + 7) "nearest_numbers" [.int L, .tup [.int a, .int b]] = _ := w_nearest (d + 2) L hL (a, b) hin
  rw [nn_perm (nears_perm L (a, b))] at k4
  have k5 := w_alike d_law_alike 1 (nnD (nearsL L (a, b))) (al_nn _) (d + 5)
  have hlen := nearsL_len L (a, b)
  have hlist : [D.tup [.int (a - 1), .int b], .tup [.int (a + 1), .int b], .tup [.int a, .int (b - 1)], .tup [.int a, .int (b + 1)]] = (nbL (a, b)).map pd := rfl
  have hco : ∀ z0 z1 z4 z5 z6 z7 z8 z9 z10 z11 z12 z13 z14 z15 z16 z18 z19 z20 z21 z22, compL (stepC (enL P (some (A, q))) (d + 7) (.nm 17) [.bop .And [(.cmp (.val (.int (0))) [.LtE] [(.blt "min" [(.slot 17)])]), (.cmp (.blt "max" [(.slot 17)]) [.Lt] [(.slot 3)])]] (.call "number_at" [(.slot 2), (.slot 17)]) [z0, z1, .im (.int L), .im (.int s), z4, z5, z6, z7, z8, z9, z10, z11, z12, z13, z14, z15, z16, .un, z18, z19, z20, z21, z22]) ((nbL (a, b)).map pd) = .ret ((nearsL L (a, b)).map .int) := by
    intro z0 z1 z4 z5 z6 z7 z8 z9 z10 z11 z12 z13 z14 z15 z16 z18 z19 z20 z21 z22
    rw [comp_if pd (inB L) (fun q => .int (Nm L q : Nat)) (nbL (a, b)) (fun p _ => hnc p z0 z1 z4 z5 z6 z7 z8 z9 z10 z11 z12 z13 z14 z15 z16 z18 z19 z20 z21 z22)]
    unfold nearsL
    rw [List.map_map]
    rfl
  have hendN := endC_le ((nbL (a, b)).map pd) (small_lim (by rw [List.length_map]; exact show 4 ≤ 1000 by decide))
  have hend := endC_le ((nearsL L (a, b)).map D.int) (small_lim (by rw [List.length_map]; omega))
  generalize (nbL (a, b)).map pd = NB at hlist hco hendN
  generalize nearsL L (a, b) = xs at k4 k5 hlen hco hend
  generalize Nm L (a, b) = m at k1 k2
  generalize hpd : pd (a, b) = pp at k2 k3
  push_cast [k1, k2, k3, hlist, hendN, hco, hend, k4]
  have he := eqD_lnil (xs.map D.int) 1 (by decide) (fun x hx => by obtain ⟨p, _, rfl⟩ := List.mem_map.mp hx; exact ok_int p)
  cases xs with
  | nil =>
    rw [List.map_nil] at he ⊢
    have k6 : callL P (d + 7) "_law_alike" [nnD [], .tup [.non, .non]] = M.ret (.bl true, .sh) := k5
    generalize nnD [] = nn at k6 ⊢
    push_cast [he, k6]
    exact hq _ _ _ _ _ _ hd3
  | cons x r =>
    have h1 := min_ints x r (by omega)
    have h2 := max_ints x r (by omega)
    have k6 : callL P (d + 7) "_law_alike" [nnD (x :: r), .tup [.int (mn x r), .int (mx x r)]] = M.ret (.bl true, .sh) := k5
    have hemp : ((x :: r).map D.int).isEmpty = false := rfl
    generalize nnD (x :: r) = nn at k6 ⊢
    generalize (x :: r).map D.int = ys at h1 h2 he hemp ⊢
    push_cast [he, hemp, blw_minL, blw_maxL, h1, h2, k6]
    exact hq _ _ _ _ _ _ hd3
theorem turn (d : Nat) (hd : Dr A q ns st) (L : Nat) (hL : L ≤ 8) (z0 z4 z5 z6 z7 z8 z9 z10 z11 z12 z13 z14 z15 z16 z18 z19 z20 z21 z22 : Sl) {Q : Fl × List Sl → Store → Prop} {X : Ex → Store → Prop}
    (hq : ∀ st' n8 t12 t13 t14 t22, Dr A q ns st' → Q (.nx, [z0, .im (.obj 1), .im (.int L), .im (.int (2 ^ L)), z4, z5, z6, z7, .im n8, z9, z10, z11, t12, t13, t14, z15, z16, .un, z18, z19, z20, z21, t22]) st') :
    wp (runSs (enL P (some (A, q))) (d + 7) claw_2 [z0, .im (.obj 1), .im (.int L), .im (.int (2 ^ L)), z4, z5, z6, z7, z8, z9, z10, z11, z12, z13, z14, z15, z16, .un, z18, z19, z20, z21, z22]) Q X st := by
  have hm := mul_side (show L ≤ 20 by omega)
  have hs1 := two_pos L
  have hs2 := small_2 (show L ≤ 20 by omega)
  have hN0 : 0 < 4 ^ L := Nat.pow_pos (by decide)
  have hN : 4 ^ L ≤ 65536 := Nat.le_trans (Nat.pow_le_pow_right (by decide) hL) (by decide)
  have hB : ∀ p, inB L p = ((decide (0 ≤ p.1) && decide (p.1 < (2 : Int) ^ L)) && (decide (0 ≤ p.2) && decide (p.2 < (2 : Int) ^ L))) := fun p => rfl
  have hsp : ∀ n, n < 4 ^ L → callL P (d + 7) "spot_of" [.int L, .int (n : Nat)] = M.ret (pd (Sp L n), .sh) := fun n hn => w_spot_of (d + 3) L n hL hn
  have hnm : ∀ n, n < 4 ^ L → Nm L (Sp L n) = n := fun n hn => by rw [Nm_Sp, Nat.mod_eq_of_lt hn]
  have hlt : ∀ p, In L p → Nm L p < 4 ^ L := fun p hp => Nm_lt L hp
  have had : ∀ n, n + 1 < 4 ^ L → Ad (Sp L n) (Sp L (n + 1)) := fun n hn => Sp_adj L n hn
  have tail := fun t8 t12 t22 st (hd : Dr A q ns st) => turn2 (st := st) d hd L hL t8 z0 z4 z5 z6 z7 z9 z10 z11 t12 z13 z14 z15 z16 z18 z19 z20 z21 t22 (X := X) hq
  clear hB
  generalize (2 : Int) ^ L = s at hm hs1 hs2 hq tail ⊢
  generalize (4 : Nat) ^ L = N at hm hN0 hN hsp hnm hlt had
  generalize hR : claw_2.drop 4 = R at tail
  have e : claw_2 = claw_2[0] :: claw_2[1] :: claw_2[2] :: claw_2[3] :: R := by rw [← hR]; rfl
  rw [e]
  unfold claw_2
  push_cast [List.getElem_cons_succ, List.getElem_cons_zero, hm]
  refine w_taken d_law_taken (N : Nat) (by omega) (by omega) hd fun v st1 hv0 hv1 hd1 => ?_
  obtain ⟨n, rfl⟩ : ∃ n : Nat, v = (n : Nat) := ⟨v.toNat, by omega⟩
  have hn : n < N := by omega
  have h1 := hsp n hn
  have h2 : callL P (d + 7) "number_at" [.int L, pd (Sp L n)] = _ := w_number_at (d + 2) L hL (Sp L n) (Sp_in L n)
  rw [hnm n hn] at h2
  by_cases h0 : 0 < n
  · have hbef : callL P (d + 7) "spot_of" [.int L, .int ((n : Int) - 1)] = M.ret (pd (Sp L (n - 1)), .sh) := by
      have := hsp (n - 1) (by omega)
      rwa [show (((n - 1 : Nat) : Nat) : Int) = (n : Int) - 1 by omega] at this
    have hadj : ab ((Sp L (n - 1)).1 - (Sp L n).1) + ab ((Sp L (n - 1)).2 - (Sp L n).2) = 1 := by
      have := had (n - 1) (by omega)
      rwa [show n - 1 + 1 = n by omega] at this
    have hgt : (0 : Int) < (n : Nat) := by omega
    generalize Sp L (n - 1) = b at hbef hadj
    generalize Sp L n = p at h1 h2 hadj
    have a1 : bltD "abs" [.int (b.1 - p.1)] = some (.int (ab (b.1 - p.1)), .sh) := rfl
    have a2 : bltD "abs" [.int (b.2 - p.2)] = some (.int (ab (b.2 - p.2)), .sh) := rfl
    unfold pd at h1 h2 hbef
    generalize ab (b.1 - p.1) = v1 at a1 hadj
    generalize ab (b.2 - p.2) = v2 at a2 hadj
    push_cast [h1, h2, hgt, hbef, a1, a2, hadj]
    exact tail _ _ _ _ hd1
  · have hgt : ¬ (0 : Int) < (n : Nat) := by omega
    generalize Sp L n = p at h1 h2
    unfold pd at h1 h2
    push_cast [h1, h2, hgt]
    exact tail _ _ _ _ hd1
end
end K44
set_option linter.all false
set_option maxRecDepth 100000
set_option maxHeartbeats 4000000
namespace K44
open PySem PySem.Spec PyProof.Rows L2 PI
section
variable {A : Addr} {q : Str} {ns : List Int} {st : Store}
theorem lside_turn (E : Option (Addr × Str)) (d : Nat) (x i : Int) (z0 z1 z2 z4 z5 z6 z7 z8 z9 z10 z11 z12 z13 z14 z15 z16 z17 z18 z19 z20 z21 z22 : Sl) : stepF (enL P E) d (.nm 4) claw_1 (.int i) [z0, z1, z2, .im (.int x), z4, z5, z6, z7, z8, z9, z10, z11, z12, z13, z14, z15, z16, z17, z18, z19, z20, z21, z22] = M.ret (.nx, [z0, z1, z2, .im (.int (x * 2)), .im (.int i), z5, z6, z7, z8, z9, z10, z11, z12, z13, z14, z15, z16, z17, z18, z19, z20, z21, z22]) := by
  push_cast [claw_1, mulD x 2 (by omega)]
theorem part4 (d : Nat) (hd : Dr A q ns st) (L : Nat) (hL : L ≤ 8) (z4 : Sl) : wp (runSs (enL P (some (A, q))) (d + 7) (claw.drop 4) [.im (.scr ns), .im (.obj 1), .im (.int L), .im (.int (2 ^ L)), z4, .un, .un, .un, .un, .un, .un, .un, .un, .un, .un, .un, .un, .un, .un, .un, .un, .un, .un]) Fin NoX st := by
  have rest := fun st (hd : Dr A q ns st) z5 n8 z12 z13 z14 z22 => part5 (st := st) d hd L hL (.im (.scr ns)) z4 z5 .un .un .un .un .un z12 z13 z14 .un .un .un .un .un .un .un z22 (.im n8) trivial (fun k hk st hd => part7 (st := st) d hd L hL k hk (.im (.scr ns)) z4 z5 .un .un .un .un z12 z13 z14 .un .un .un .un .un z22 n8)
  have ht := fun (st : Store) (hd : Dr A q ns st) z5 z8 z12 z13 z14 z22 Q X => turn (st := st) d hd L hL (.im (.scr ns)) z4 z5 .un .un z8 .un .un .un z12 z13 z14 .un .un .un .un .un .un z22 (Q := Q) (X := X)
  generalize (2 : Int) ^ L = s at rest ht ⊢
  generalize hR : claw.drop 5 = R at rest
  have e : claw.drop 4 = claw[4] :: R := by rw [← hR]; rfl
  rw [e]
  unfold claw
  push_cast [List.getElem_cons_succ, List.getElem_cons_zero, itR1_int _ _ (in62_of (show -(2 ^ 62) ≤ (6 : Int) by omega) (by omega))]
  refine for_wp D.int (fun l ρ st => Dr A q ns st ∧ ∃ z5 z8 z12 z13 z14 z22, (l.length = 6 ∨ ∃ n8, z8 = .im n8) ∧ ρ = [.im (.scr ns), .im (.obj 1), .im (.int L), .im (.int s), z4, z5, .un, .un, z8, .un, .un, .un, z12, z13, z14, .un, .un, .un, .un, .un, .un, .un, z22]) _ _ _ ⟨hd, _, _, _, _, _, _, .inl (by rw [iota_len]; rfl), rfl⟩ (fun i l ρ st ⟨hd, z5, z8, z12, z13, z14, z22, _, hρ⟩ => ?_) fun ρ st ⟨hd, z5, z8, z12, z13, z14, z22, h8, hρ⟩ => ?_
  · subst hρ
    push_cast []
    refine ht st hd _ _ _ _ _ _ _ _ fun st' n8 t12 t13 t14 t22 hd' => ?_
    exact ⟨hd', _, _, _, _, _, _, .inr ⟨n8, rfl⟩, rfl⟩
  · subst hρ
    rcases h8 with h8 | ⟨n8, rfl⟩
    · cases h8
    · push_cast []
      exact rest _ hd _ _ _ _ _ _
end
theorem w_law (d : Nat) (A : Addr) (q : Str) (ns : List Int) : wp (runSs (enL P (some (A, q))) (d + 7) claw [.im (.scr ns), .un, .un, .un, .un, .un, .un, .un, .un, .un, .un, .un, .un, .un, .un, .un, .un, .un, .un, .un, .un, .un, .un]) (fun r s => ∃ ρ', r = (.rt (.bl true) .sh, ρ')) (fun _ _ => False) [.tab A q] := by
  have rest := fun st hd L hL z4 => part4 (A := A) (q := q) (ns := ns) (st := st) d hd L hL z4
  unfold Fin NoX at rest
  generalize hR : claw.drop 4 = R at rest
  have e : claw = claw[0] :: claw[1] :: claw[2] :: claw[3] :: R := by rw [← hR]; rfl
  rw [e]
  unfold claw
  push_cast [Nat.zero_add, List.getElem_cons_succ, List.getElem_cons_zero]
  have hd0 : Dr A q ns [.tab A q, .lst [.scr ns, .int 0, .int 144, .int 0]] := ⟨0, 144, 0, Int.le_refl _, rfl⟩
  refine w_taken d_law_taken 9 (by decide) (by decide) hd0 fun v st1 hv0 hv1 hd1 => ?_
  clear hd0
  have hv : v = ((v.toNat : Nat) : Int) := by omega
  have hk : v.toNat ≤ 8 := by omega
  generalize v.toNat = L at hv hk
  subst hv
  have rest := fun st hd z4 => rest st hd L hk z4
  push_cast [itR1_int _ _ (in62_of (show -(2 ^ 62) ≤ ((L : Nat) : Int) by omega) (by omega)), Int.toNat_natCast]
  refine for_wp D.int (fun l ρ st => Dr A q ns st ∧ ∃ (j : Nat) (z4 : Sl), j + l.length = L ∧ ρ = [.im (.scr ns), .im (.obj 1), .im (.int L), .im (.int (2 ^ j)), z4, .un, .un, .un, .un, .un, .un, .un, .un, .un, .un, .un, .un, .un, .un, .un, .un, .un, .un]) _ _ _ ⟨hd1, 0, _, by rw [iota_len]; omega, by rw [Int.pow_zero]⟩ (fun i l ρ st ⟨hd, j, z4, hl, hρ⟩ => ?_) fun ρ st ⟨hd, j, z4, hl, hρ⟩ => ?_
  · subst hρ
    rw [List.length_cons] at hl
    rw [lside_turn]
    push_cast []
    exact ⟨hd, j + 1, _, by omega, by rw [Int.pow_succ]⟩
  · subst hρ
    have : j = L := by simpa using hl
    subst this
    push_cast []
    exact rest _ hd z4
end K44
set_option Elab.async false
set_option linter.all false
set_option maxRecDepth 100000
set_option maxHeartbeats 4000000
namespace K44
open PySem PySem.Spec PyProof.Rows L2 PI
theorem all_mk {w : World} {K : PySem.W.Frag} {h : Heap} {mg : Str → Option Value} {fa : Addr} (X : K.In h) (G : h.Ns mainGlobals mg) (hfa : mg "law" = some (.ref fa)) (own : LamX.OwnTab K fa h)
    (d_is_integer : At K mg "is_integer" (topS 1))
    (d_is_within : At K mg "is_within" (topS 2))
    (d_is_tuple_of : At K mg "is_tuple_of" (topS 3))
    (d_check_level : At K mg "check_level" (topS 12))
    (d_side_of : At K mg "side_of" (topS 13))
    (d_told_spot : At K mg "told_spot" (topS 14))
    (d_spot_of : At K mg "spot_of" (topS 15))
    (d_told_number : At K mg "told_number" (topS 16))
    (d_check_spot : At K mg "check_spot" (topS 17))
    (d_number_at : At K mg "number_at" (topS 18))
    (d_near : At K mg "near" (topS 19))
    (d_nearest_numbers : At K mg "nearest_numbers" (topS 20))
    (d_longest_jump : At K mg "longest_jump" (topS 21))
    (d__law_taken : At K mg "_law_taken" (topS 23))
    (d__law_pick : At K mg "_law_pick" (topS 24))
    (d__law_alike : At K mg "_law_alike" (topS 25))
    (d__law_unlike : At K mg "_law_unlike" (topS 26))
    (d__law_curve : At K mg "_law_curve" (topS 27))
    (d_ref : At K mg "_law_refused" (topS 28))
    (z_len : PySem.W.nsIn K mainGlobals "len" = some none)
    (z_int : PySem.W.nsIn K mainGlobals "int" = some none)
    (z_list : PySem.W.nsIn K mainGlobals "list" = some none)
    (z_tuple : PySem.W.nsIn K mainGlobals "tuple" = some none)
    (z_abs : PySem.W.nsIn K mainGlobals "abs" = some none)
    (z_all : PySem.W.nsIn K mainGlobals "all" = some none)
    (z_any : PySem.W.nsIn K mainGlobals "any" = some none)
    (z_max : PySem.W.nsIn K mainGlobals "max" = some none)
    (z_min : PySem.W.nsIn K mainGlobals "min" = some none)
    (z_range : PySem.W.nsIn K mainGlobals "range" = some none)
    (z_enumerate : PySem.W.nsIn K mainGlobals "enumerate" = some none)
    (z_zip : PySem.W.nsIn K mainGlobals "zip" = some none)
    (z_isinstance : PySem.W.nsIn K mainGlobals "isinstance" = some none)
    (z_bool : PySem.W.nsIn K mainGlobals "bool" = some none)
    (z_str : PySem.W.nsIn K mainGlobals "str" = some none)
    (z_dict : PySem.W.nsIn K mainGlobals "dict" = some none)
    (z_sorted : PySem.W.nsIn K mainGlobals "sorted" = some none)
    (z_sum : PySem.W.nsIn K mainGlobals "sum" = some none)
    (z_repr : PySem.W.nsIn K mainGlobals "repr" = some none)
    {t_MOST_LEVEL : Tok} (g_MOST_LEVEL : PySem.W.nsIn K mainGlobals "MOST_LEVEL" = some (some (.int (8) t_MOST_LEVEL)))
    {t_FEW_LEVEL : Tok} (g_FEW_LEVEL : PySem.W.nsIn K mainGlobals "FEW_LEVEL" = some (some (.int (4) t_FEW_LEVEL)))
    {fI TI : Addr} {ocI kVI dcI pmI cdI ctI : Value} {odI anI : Option Addr} {slI : Array (Option Value)}
    (tI : PySem.W.typeIn K (.ref fI) = some (.type "function"))
    (lI : K.lookup fI = some ⟨ocI, odI, .func (PySem.W.fnOf "__init__" "FoldError.__init__" (defArgs (clsM (topS 5) 0)) (defBody (clsM (topS 5) 0)) (defScope (clsM (topS 5) 0)) (.ref TI) kVI dcI pmI anI cdI ctI), slI⟩)
    {ocT : Value} {odT : Option Addr} {nT : Nat} {slT : Array (Option Value)}
    (lT : K.lookup TI = some ⟨ocT, odT, .seq #[.none] nT, slT⟩)
    (cI : PySem.W.codeIn K cdI "FoldError.__init__" = true)
    {C_BadLevel : Addr} (x_BadLevel : XC K mg "BadLevel" C_BadLevel) (i_BadLevel : PySem.W.findIn K (.ref C_BadLevel) "__init__" = some (some (.ref fI))) (v_BadLevel : PySem.W.findIn K (.ref C_BadLevel) "value" = some none)
    {C_BadNumber : Addr} (x_BadNumber : XC K mg "BadNumber" C_BadNumber) (i_BadNumber : PySem.W.findIn K (.ref C_BadNumber) "__init__" = some (some (.ref fI))) (v_BadNumber : PySem.W.findIn K (.ref C_BadNumber) "value" = some none)
    {C_BadSpot : Addr} (x_BadSpot : XC K mg "BadSpot" C_BadSpot) (i_BadSpot : PySem.W.findIn K (.ref C_BadSpot) "__init__" = some (some (.ref fI))) (v_BadSpot : PySem.W.findIn K (.ref C_BadSpot) "value" = some none)
    (s_BadLevel_BadNumber : PySem.W.subIn K (.ref C_BadLevel) (.ref C_BadNumber) = some false)
    (s_BadLevel_BadSpot : PySem.W.subIn K (.ref C_BadLevel) (.ref C_BadSpot) = some false)
    (s_BadNumber_BadLevel : PySem.W.subIn K (.ref C_BadNumber) (.ref C_BadLevel) = some false)
    (s_BadNumber_BadSpot : PySem.W.subIn K (.ref C_BadNumber) (.ref C_BadSpot) = some false)
    (s_BadSpot_BadLevel : PySem.W.subIn K (.ref C_BadSpot) (.ref C_BadLevel) = some false)
    (s_BadSpot_BadNumber : PySem.W.subIn K (.ref C_BadSpot) (.ref C_BadNumber) = some false)
    {f0 c A : Addr} {ocl kVl dcl pml ctl : Value} {odl anl : Option Addr} {sll : Array (Option Value)} {ddc : Option Addr} {vsc : Array Value} {slc : Array (Option Value)} {file : Str} {flags text : Int} {inF : Bool} {tf tg tt : Tok}
    (kl : PySem.W.keepIn K (.ref f0) = true)
    (al : PySem.W.nsIn K mainGlobals "law" = some (some (.ref f0)))
    (ll : K.lookup f0 = some ⟨ocl, odl, .func (PySem.W.fnOf "law" "law" (defArgs (topS 29)) (defBody (topS 29)) (defScope (topS 29)) .none kVl dcl pml anl (.ref c) ctl), sll⟩)
    (cl : PySem.W.codeIn K (.ref c) "law" = true)
    (lc : K.lookup c = some ⟨.type "code", ddc, .fields vsc, slc⟩)
    (lt : vsc[11]? = some (.ref A) ∧ vsc.getD 11 .none = .ref A ∧ vsc.getD 18 .none = .str file tf ∧ vsc.getD 7 .none = .int flags tg ∧ vsc.getD 9 .none = .bool inF ∧ vsc.getD 10 .none = .int text tt ∧ c ≠ A)
    (lA : K.lookup A = none) :
    PI.LawAtG PySem.Challenge.rw_netsfolded_k44_whole_curves w K (L2.CX PySem.Challenge.rw_netsfolded_k44_whole_curves.prog w) (20 + 1) 63 "script" mg fa h := by
  have e := hfa.symm.trans (PySem.W.mg_of X G al)
  cases e
  have wf : Wf P K mg := {
    blt := all_nm (l := bltNames) ⟨PySem.W.mg_none_of X G z_len, PySem.W.mg_none_of X G z_int, PySem.W.mg_none_of X G z_list, PySem.W.mg_none_of X G z_tuple, PySem.W.mg_none_of X G z_abs, PySem.W.mg_none_of X G z_all, PySem.W.mg_none_of X G z_any, PySem.W.mg_none_of X G z_max, PySem.W.mg_none_of X G z_min, PySem.W.mg_none_of X G z_range, PySem.W.mg_none_of X G z_enumerate, PySem.W.mg_none_of X G z_zip, PySem.W.mg_none_of X G z_isinstance, PySem.W.mg_none_of X G z_bool, PySem.W.mg_none_of X G z_str, PySem.W.mg_none_of X G z_dict, PySem.W.mg_none_of X G z_sorted, PySem.W.mg_none_of X G z_sum, PySem.W.mg_none_of X G z_repr, trivial⟩
    glb := all_lk (l := P.glb) (⟨glb_int X G g_MOST_LEVEL, glb_int X G g_FEW_LEVEL, trivial⟩)
    fns := all_lk (l := P.fns) (⟨d_is_integer.key, d_is_within.key, d_is_tuple_of.key, d_check_level.key, d_side_of.key, d_told_spot.key, d_spot_of.key, d_told_number.key, d_check_spot.key, d_number_at.key, d_near.key, d_nearest_numbers.key, d_longest_jump.key, d__law_taken.key, d__law_pick.key, d__law_alike.key, d__law_unlike.key, d__law_curve.key, ⟨_, PySem.W.mg_of X G al, kl⟩, trivial⟩) }
  have hf : ∀ x F, P.fns.lookup x = some F → FnW K mg x F := all_lk (l := P.fns) ⟨
    d_is_integer.fnw (cells := []) (⟨rfl, rfl, rfl, by decide +kernel, rfl, by decide +kernel, by decide +kernel⟩ : FnScope ["thing"] ["thing"] (defScope (topS 1))) fun _ _ _ _ _ _ us hl => match us, hl with | [_], _ => rfl,
    d_is_within.fnw (cells := []) (⟨rfl, rfl, rfl, by decide +kernel, rfl, by decide +kernel, by decide +kernel⟩ : FnScope ["thing", "least", "most"] ["thing", "least", "most"] (defScope (topS 2))) fun _ _ _ _ _ _ us hl => match us, hl with | [_, _, _], _ => rfl,
    d_is_tuple_of.fnw (cells := []) (⟨rfl, rfl, rfl, by decide +kernel, rfl, by decide +kernel, by decide +kernel⟩ : FnScope ["thing", "many"] ["thing", "many"] (defScope (topS 3))) fun _ _ _ _ _ _ us hl => match us, hl with | [_, _], _ => rfl,
    d_check_level.fnw (cells := []) (⟨rfl, rfl, rfl, by decide +kernel, rfl, by decide +kernel, by decide +kernel⟩ : FnScope ["level", "most"] ["level", "most"] (defScope (topS 12))) fun _ _ _ _ _ _ us hl => match us, hl with | [_, _], _ => rfl,
    d_side_of.fnw (cells := []) (⟨rfl, rfl, rfl, by decide +kernel, rfl, by decide +kernel, by decide +kernel⟩ : FnScope ["level", "found", "_"] ["level"] (defScope (topS 13))) fun _ _ _ _ _ _ us hl => match us, hl with | [_], _ => rfl,
    d_told_spot.fnw (cells := []) (⟨rfl, rfl, rfl, by decide +kernel, rfl, by decide +kernel, by decide +kernel⟩ : FnScope ["level", "number", "row", "column", "side", "rest", "_", "quarter"] ["level", "number"] (defScope (topS 14))) fun _ _ _ _ _ _ us hl => match us, hl with | [_, _], _ => rfl,
    d_spot_of.fnw (cells := []) (⟨rfl, rfl, rfl, by decide +kernel, rfl, by decide +kernel, by decide +kernel⟩ : FnScope ["level", "number", "side"] ["level", "number"] (defScope (topS 15))) fun _ _ _ _ _ _ us hl => match us, hl with | [_, _], _ => rfl,
    d_told_number.fnw (cells := []) (⟨rfl, rfl, rfl, by decide +kernel, rfl, by decide +kernel, by decide +kernel⟩ : FnScope ["level", "spot", "found", "side", "_", "row", "column", "quarter"] ["level", "spot"] (defScope (topS 16))) fun _ _ _ _ _ _ us hl => match us, hl with | [_, _], _ => rfl,
    d_check_spot.fnw (cells := []) (⟨rfl, rfl, rfl, by decide +kernel, rfl, by decide +kernel, by decide +kernel⟩ : FnScope ["level", "spot", "one"] ["level", "spot"] (defScope (topS 17))) fun _ _ _ _ _ _ us hl => match us, hl with | [_, _], _ => rfl,
    d_number_at.fnw (cells := []) (⟨rfl, rfl, rfl, by decide +kernel, rfl, by decide +kernel, by decide +kernel⟩ : FnScope ["level", "spot"] ["level", "spot"] (defScope (topS 18))) fun _ _ _ _ _ _ us hl => match us, hl with | [_, _], _ => rfl,
    d_near.fnw (cells := []) (⟨rfl, rfl, rfl, by decide +kernel, rfl, by decide +kernel, by decide +kernel⟩ : FnScope ["level", "spot", "some", "side", "row", "column", "one"] ["level", "spot"] (defScope (topS 19))) fun _ _ _ _ _ _ us hl => match us, hl with | [_, _], _ => rfl,
    d_nearest_numbers.fnw (cells := []) (⟨rfl, rfl, rfl, by decide +kernel, rfl, by decide +kernel, by decide +kernel⟩ : FnScope ["level", "spot", "some"] ["level", "spot"] (defScope (topS 20))) fun _ _ _ _ _ _ us hl => match us, hl with | [_, _], _ => rfl,
    d_longest_jump.fnw (cells := []) (⟨rfl, rfl, rfl, by decide +kernel, rfl, by decide +kernel, by decide +kernel⟩ : FnScope ["level", "best", "number", "other"] ["level"] (defScope (topS 21))) fun _ _ _ _ _ _ us hl => match us, hl with | [_], _ => rfl,
    d__law_taken.fnw (cells := []) (⟨rfl, rfl, rfl, by decide +kernel, rfl, by decide +kernel, by decide +kernel⟩ : FnScope ["row", "many", "cell", "found"] ["row", "many"] (defScope (topS 23))) fun _ _ _ _ _ _ us hl => match us, hl with | [_, _], _ => rfl,
    d__law_pick.fnw (cells := []) (⟨rfl, rfl, rfl, by decide +kernel, rfl, by decide +kernel, by decide +kernel⟩ : FnScope ["row", "some"] ["row", "some"] (defScope (topS 24))) fun _ _ _ _ _ _ us hl => match us, hl with | [_, _], _ => rfl,
    d__law_alike.fnw (cells := []) (⟨rfl, rfl, rfl, by decide +kernel, rfl, by decide +kernel, by decide +kernel⟩ : FnScope ["found", "due", "k", "key"] ["found", "due"] (defScope (topS 25))) fun _ _ _ _ _ _ us hl => match us, hl with | [_, _], _ => rfl,
    d__law_unlike.fnw (cells := []) (⟨rfl, rfl, rfl, by decide +kernel, rfl, by decide +kernel, by decide +kernel⟩ : FnScope ["things", "found", "one"] ["things"] (defScope (topS 26))) fun _ _ _ _ _ _ us hl => match us, hl with | [_], _ => rfl,
    d__law_curve.fnw (cells := []) (⟨rfl, rfl, rfl, by decide +kernel, rfl, by decide +kernel, by decide +kernel⟩ : FnScope ["level", "k", "found", "half", "first", "second", "third", "fourth", "row", "column"] ["level"] (defScope (topS 27))) fun _ _ _ _ _ _ us hl => match us, hl with | [_], _ => rfl,
    (⟨⟨_, _, _, _, _, _, _, _, _, _, PySem.W.mg_of X G al, kl, ll, cl⟩⟩ : At K mg "law" (topS 29)).fnw (cells := ["row"]) (⟨rfl, rfl, rfl, by decide +kernel, rfl, by decide +kernel, by decide +kernel⟩ : FnScope ["script", "row", "level", "side", "k", "turn", "small", "places", "number", "wrong", "ask", "much", "spot", "some", "near_v", "curve", "best", "one", "other", "there", "odd", "none", "before"] ["script"] (defScope (topS 29))) fun _ _ _ _ _ _ us hl => match us, hl with | [_], _ => rfl,
    trivial⟩
  have he : ∀ c k, P.exc.lookup c = some k → k = 1 ∧ ExW1 K mg c := all_lk (l := P.exc) ⟨⟨rfl, ⟨C_BadLevel, fI, x_BadLevel.m, x_BadLevel.ox, i_BadLevel, tI, v_BadLevel, _, _, _, _, _, _, _, _, _, _, _, _, _, _, _, _, _, _, lI, cI, binds_dflt lT rfl (fun us hl => match us, hl with | [_, _], _ => ⟨_, rfl, rfl⟩), ⟨rfl, rfl, rfl, by decide +kernel, rfl, by decide +kernel, by decide +kernel⟩, rfl, rfl⟩⟩, ⟨rfl, ⟨C_BadNumber, fI, x_BadNumber.m, x_BadNumber.ox, i_BadNumber, tI, v_BadNumber, _, _, _, _, _, _, _, _, _, _, _, _, _, _, _, _, _, _, lI, cI, binds_dflt lT rfl (fun us hl => match us, hl with | [_, _], _ => ⟨_, rfl, rfl⟩), ⟨rfl, rfl, rfl, by decide +kernel, rfl, by decide +kernel, by decide +kernel⟩, rfl, rfl⟩⟩, ⟨rfl, ⟨C_BadSpot, fI, x_BadSpot.m, x_BadSpot.ox, i_BadSpot, tI, v_BadSpot, _, _, _, _, _, _, _, _, _, _, _, _, _, _, _, _, _, _, lI, cI, binds_dflt lT rfl (fun us hl => match us, hl with | [_, _], _ => ⟨_, rfl, rfl⟩), ⟨rfl, rfl, rfl, by decide +kernel, rfl, by decide +kernel, by decide +kernel⟩, rfl, rfl⟩⟩, trivial⟩
  have hr : RefW P K mg := by
    obtain ⟨g, oc, od, kV, doc, pm, an, cdv, ct, osl, m, k, l, cc⟩ := d_ref.ex
    refine ⟨by decide +kernel, ⟨g, m, k, oc, od, defArgs (topS 28), defScope (topS 28), .none, kV, doc, pm, cdv, ct, an, osl, _, _, _, _, _, _, _, _, _, _, _, _, _, "ask", "e", ["ask", "e"], 1, _, l, cc, .all (fun us hl => match us, hl with | [_], _ => rfl), ⟨rfl, rfl, rfl, by decide +kernel, rfl, by decide +kernel, by decide +kernel⟩, rfl, rfl, by decide +kernel, rfl, rfl, by decide +kernel, (.one rfl (by decide +kernel) x_BadLevel.m x_BadLevel.xf v_BadLevel (.one rfl (by decide +kernel) x_BadNumber.m x_BadNumber.xf v_BadNumber (.one rfl (by decide +kernel) x_BadSpot.m x_BadSpot.xf v_BadSpot .nil))), (.cons x_BadLevel.m (.cons x_BadNumber.m (.cons x_BadSpot.m .nil)))⟩, ?_⟩
    refine all_nm (l := P.hds.map (·.1)) (p := fun c1 => ∀ c2 ∈ P.hds.map (·.1), ∀ C1 C2, mg c1 = some (.ref C1) → mg c2 = some (.ref C2) → PySem.W.exmOne K (.ref C1) (.ref C2) = some (decide (c2 = c1))) ⟨all_nm (l := P.hds.map (·.1)) ⟨x_BadLevel.same, x_BadLevel.diff x_BadNumber s_BadLevel_BadNumber (by decide +kernel), x_BadLevel.diff x_BadSpot s_BadLevel_BadSpot (by decide +kernel), trivial⟩, all_nm (l := P.hds.map (·.1)) ⟨x_BadNumber.diff x_BadLevel s_BadNumber_BadLevel (by decide +kernel), x_BadNumber.same, x_BadNumber.diff x_BadSpot s_BadNumber_BadSpot (by decide +kernel), trivial⟩, all_nm (l := P.hds.map (·.1)) ⟨x_BadSpot.diff x_BadLevel s_BadSpot_BadLevel (by decide +kernel), x_BadSpot.diff x_BadNumber s_BadSpot_BadNumber (by decide +kernel), x_BadSpot.same, trivial⟩, trivial⟩
  refine law_at (F := flaw) (d := 20) (c := c) (A := A) rfl X own ⟨⟨ddc, vsc, slc, file, flags, text, inF, tf, tg, tt, lc, lt⟩, lA⟩ wf hf he hr ll cl ⟨rfl, rfl, rfl, by decide +kernel, rfl, by decide +kernel, by decide +kernel⟩ (fun s v => .of_eq rfl) fun ns _ _ => ?_
  obtain ⟨a, s, e, ρ', hq⟩ := wp_ok (w_law 13 A lawQ ns) fun _ _ h => h
  rw [hq] at e
  obtain ⟨n, hn⟩ := law_run (dlaw A lawQ) e
  exact ⟨n, ρ', s, hn⟩
end K44
open PySem PySem.W PyProof.Rows PI
set_option maxRecDepth 100000 in
set_option maxHeartbeats 0 in
theorem PySem.Challenge.cw_netsfolded_k44_whole_curves_holds : PySem.Challenge.rw_netsfolded_k44_whole_curves.Holds := by
  w_on; o_law; k_head; (case hw => w_witness2)
  k_fill
  refine PI.walk_G (l := PySem.Challenge.rw_netsfolded_k44_whole_curves) (n := 63) (k := 21) (x := "script") (X0 := fun w => L2.CX PySem.Challenge.rw_netsfolded_k44_whole_curves.prog w) rfl (by decide) rfl ⟨rfl, by decide, by decide⟩ (by decide +kernel) (fun w h Y => PySem.W.km_in_of Y) ?F (fun w H s e s' h => PI.cx_false H s e s' h)
  case F =>
    intro w mg fa h Y KX G hmg own
    refine' K44.all_mk KX G hmg own (at_mk KX G ?a_is_integer ?l_is_integer ?c_is_integer ?k_is_integer) (at_mk KX G ?a_is_within ?l_is_within ?c_is_within ?k_is_within) (at_mk KX G ?a_is_tuple_of ?l_is_tuple_of ?c_is_tuple_of ?k_is_tuple_of) (at_mk KX G ?a_check_level ?l_check_level ?c_check_level ?k_check_level) (at_mk KX G ?a_side_of ?l_side_of ?c_side_of ?k_side_of) (at_mk KX G ?a_told_spot ?l_told_spot ?c_told_spot ?k_told_spot) (at_mk KX G ?a_spot_of ?l_spot_of ?c_spot_of ?k_spot_of) (at_mk KX G ?a_told_number ?l_told_number ?c_told_number ?k_told_number) (at_mk KX G ?a_check_spot ?l_check_spot ?c_check_spot ?k_check_spot) (at_mk KX G ?a_number_at ?l_number_at ?c_number_at ?k_number_at) (at_mk KX G ?a_near ?l_near ?c_near ?k_near) (at_mk KX G ?a_nearest_numbers ?l_nearest_numbers ?c_nearest_numbers ?k_nearest_numbers) (at_mk KX G ?a_longest_jump ?l_longest_jump ?c_longest_jump ?k_longest_jump) (at_mk KX G ?a__law_taken ?l__law_taken ?c__law_taken ?k__law_taken) (at_mk KX G ?a__law_pick ?l__law_pick ?c__law_pick ?k__law_pick) (at_mk KX G ?a__law_alike ?l__law_alike ?c__law_alike ?k__law_alike) (at_mk KX G ?a__law_unlike ?l__law_unlike ?c__law_unlike ?k__law_unlike) (at_mk KX G ?a__law_curve ?l__law_curve ?c__law_curve ?k__law_curve) (at_mk KX G ?a_ref ?l_ref ?c_ref ?k_ref) ?z_len ?z_int ?z_list ?z_tuple ?z_abs ?z_all ?z_any ?z_max ?z_min ?z_range ?z_enumerate ?z_zip ?z_isinstance ?z_bool ?z_str ?z_dict ?z_sorted ?z_sum ?z_repr ?g_MOST_LEVEL ?g_FEW_LEVEL ?tI ?lI ?lT ?cI (xc_mk KX G ?aC_BadLevel ?xL_BadLevel ?hb_BadLevel ?sa_BadLevel ?ga_BadLevel ?gg_BadLevel ?kC_BadLevel ?eC_BadLevel ?tC_BadLevel ?hC_BadLevel ?iC_BadLevel ?sC_BadLevel) ?i_BadLevel ?v_BadLevel (xc_mk KX G ?aC_BadNumber ?xL_BadNumber ?hb_BadNumber ?sa_BadNumber ?ga_BadNumber ?gg_BadNumber ?kC_BadNumber ?eC_BadNumber ?tC_BadNumber ?hC_BadNumber ?iC_BadNumber ?sC_BadNumber) ?i_BadNumber ?v_BadNumber (xc_mk KX G ?aC_BadSpot ?xL_BadSpot ?hb_BadSpot ?sa_BadSpot ?ga_BadSpot ?gg_BadSpot ?kC_BadSpot ?eC_BadSpot ?tC_BadSpot ?hC_BadSpot ?iC_BadSpot ?sC_BadSpot) ?i_BadSpot ?v_BadSpot ?s_BadLevel_BadNumber ?s_BadLevel_BadSpot ?s_BadNumber_BadLevel ?s_BadNumber_BadSpot ?s_BadSpot_BadLevel ?s_BadSpot_BadNumber ?al_kl ?al_al ?al_ll ?al_cl ?al_lc ?al_lt ?al_lA
    (case a_is_integer => k_is)
    (case l_is_integer => k_is)
    (case c_is_integer => k_is)
    (case k_is_integer => k_is)
    (case a_is_within => k_is)
    (case l_is_within => k_is)
    (case c_is_within => k_is)
    (case k_is_within => k_is)
    (case a_is_tuple_of => k_is)
    (case l_is_tuple_of => k_is)
    (case c_is_tuple_of => k_is)
    (case k_is_tuple_of => k_is)
    (case a_check_level => k_is)
    (case l_check_level => k_is)
    (case c_check_level => k_is)
    (case k_check_level => k_is)
    (case a_side_of => k_is)
    (case l_side_of => k_is)
    (case c_side_of => k_is)
    (case k_side_of => k_is)
    (case a_told_spot => k_is)
    (case l_told_spot => k_is)
    (case c_told_spot => k_is)
    (case k_told_spot => k_is)
    (case a_spot_of => k_is)
    (case l_spot_of => k_is)
    (case c_spot_of => k_is)
    (case k_spot_of => k_is)
    (case a_told_number => k_is)
    (case l_told_number => k_is)
    (case c_told_number => k_is)
    (case k_told_number => k_is)
    (case a_check_spot => k_is)
    (case l_check_spot => k_is)
    (case c_check_spot => k_is)
    (case k_check_spot => k_is)
    (case a_number_at => k_is)
    (case l_number_at => k_is)
    (case c_number_at => k_is)
    (case k_number_at => k_is)
    (case a_near => k_is)
    (case l_near => k_is)
    (case c_near => k_is)
    (case k_near => k_is)
    (case a_nearest_numbers => k_is)
    (case l_nearest_numbers => k_is)
    (case c_nearest_numbers => k_is)
    (case k_nearest_numbers => k_is)
    (case a_longest_jump => k_is)
    (case l_longest_jump => k_is)
    (case c_longest_jump => k_is)
    (case k_longest_jump => k_is)
    (case a__law_taken => k_is)
    (case l__law_taken => k_is)
    (case c__law_taken => k_is)
    (case k__law_taken => k_is)
    (case a__law_pick => k_is)
    (case l__law_pick => k_is)
    (case c__law_pick => k_is)
    (case k__law_pick => k_is)
    (case a__law_alike => k_is)
    (case l__law_alike => k_is)
    (case c__law_alike => k_is)
    (case k__law_alike => k_is)
    (case a__law_unlike => k_is)
    (case l__law_unlike => k_is)
    (case c__law_unlike => k_is)
    (case k__law_unlike => k_is)
    (case a__law_curve => k_is)
    (case l__law_curve => k_is)
    (case c__law_curve => k_is)
    (case k__law_curve => k_is)
    (case a_ref => k_is)
    (case l_ref => k_is)
    (case c_ref => k_is)
    (case k_ref => k_is)
    (case z_len => k_is)
    (case z_int => k_is)
    (case z_list => k_is)
    (case z_tuple => k_is)
    (case z_abs => k_is)
    (case z_all => k_is)
    (case z_any => k_is)
    (case z_max => k_is)
    (case z_min => k_is)
    (case z_range => k_is)
    (case z_enumerate => k_is)
    (case z_zip => k_is)
    (case z_isinstance => k_is)
    (case z_bool => k_is)
    (case z_str => k_is)
    (case z_dict => k_is)
    (case z_sorted => k_is)
    (case z_sum => k_is)
    (case z_repr => k_is)
    (case g_MOST_LEVEL => k_is)
    (case g_FEW_LEVEL => k_is)
    (case aC_BadLevel => k_is)
    (case xL_BadLevel => k_is)
    (case hb_BadLevel => rfl)
    (case sa_BadLevel => k_is)
    (case ga_BadLevel => k_is)
    (case gg_BadLevel => k_is)
    (case kC_BadLevel => k_is)
    (case eC_BadLevel => k_is)
    (case tC_BadLevel => k_is)
    (case hC_BadLevel => k_is)
    (case iC_BadLevel => k_is)
    (case sC_BadLevel => k_is)
    (case i_BadLevel => k_is)
    (case v_BadLevel => k_is)
    (case aC_BadNumber => k_is)
    (case xL_BadNumber => k_is)
    (case hb_BadNumber => rfl)
    (case sa_BadNumber => k_is)
    (case ga_BadNumber => k_is)
    (case gg_BadNumber => k_is)
    (case kC_BadNumber => k_is)
    (case eC_BadNumber => k_is)
    (case tC_BadNumber => k_is)
    (case hC_BadNumber => k_is)
    (case iC_BadNumber => k_is)
    (case sC_BadNumber => k_is)
    (case i_BadNumber => k_is)
    (case v_BadNumber => k_is)
    (case aC_BadSpot => k_is)
    (case xL_BadSpot => k_is)
    (case hb_BadSpot => rfl)
    (case sa_BadSpot => k_is)
    (case ga_BadSpot => k_is)
    (case gg_BadSpot => k_is)
    (case kC_BadSpot => k_is)
    (case eC_BadSpot => k_is)
    (case tC_BadSpot => k_is)
    (case hC_BadSpot => k_is)
    (case iC_BadSpot => k_is)
    (case sC_BadSpot => k_is)
    (case i_BadSpot => k_is)
    (case v_BadSpot => k_is)
    (case s_BadLevel_BadNumber => k_is)
    (case s_BadLevel_BadSpot => k_is)
    (case s_BadNumber_BadLevel => k_is)
    (case s_BadNumber_BadSpot => k_is)
    (case s_BadSpot_BadLevel => k_is)
    (case s_BadSpot_BadNumber => k_is)
    (case tI => k_is)
    (case lI => k_is)
    (case lT => k_is)
    (case cI => k_is)
    (case al_al => k_is)
    (case al_kl => k_is)
    (case al_ll => k_is)
    (case al_cl => k_is)
    (case al_lc => k_is)
    (case al_lt => exact ⟨rfl, rfl, rfl, rfl, rfl, rfl, by decide⟩)
    (case al_lA => rfl)
