import PyProof.Rows.All
import Wide.All
import OpenK.AllK
import Wide.FinOn
import KE.KDictKeyed
import HandS.Base
import HandS.Call
import HandS.List
import HandS.Dict
import HandS.Words
import HandS.Iter
import HandS.Walk
import HandS.ForMost
import HandS.More
import HandS.Star
import HandS.Defaults
import HandS.TupAny
import HandS.Wide
import HandS.IsInst
import HandS.Deep
import HandS.Flow
import HandS.Evl
import HandS.Exc
import HandS.ExcInit
import HandS.ExcField
import HandS.WordsExc
import KE.KExcInit
import KE.KExcLine
import HandS.OwnEq
import HandS.ClsMeth
import HandS.CallSlots
import HandS.ExcOwn
import HandS.Style
import HandS.Steps
import HandS.Strs
import KE.KExcIs
import HandS.DictComp
import HandS.Conv
import HandS.Finally
import PySem.Challenge.RW_statestay_k01_shape_parts
set_option Elab.async false
set_option linter.all false
set_option maxRecDepth 100000
set_option maxHeartbeats 4000000
/-! Dicts whose keys are nested tuples (None, ints, texts, tuples of such), over the hand layer. -/
namespace Nd
open PySem PySem.Spec PyProof.Rows L2

/-! ### a value that is a nested key -/
mutual
inductive NK (H : Hp) : V → NestedKey → Prop
  | non : NK H .non .none
  | int (i : Int) : NK H (.int i) (.num i)
  | str (x : Str) : NK H (.str x) (.text x)
  | tup {a : Addr} {xs : List V} {ks : List NestedKey} : H a = some (.tup xs) → NKs H xs ks → NK H (.ref a) (.tup ks)
inductive NKs (H : Hp) : List V → List NestedKey → Prop
  | nil : NKs H [] []
  | cons {v : V} {k : NestedKey} {vs : List V} {ks : List NestedKey} : NK H v k → NKs H vs ks → NKs H (v :: vs) (k :: ks)
end

mutual
theorem NK.mono {H H' : Hp} (st : ∀ b xs, H b = some (.tup xs) → H' b = some (.tup xs)) : ∀ (k : NestedKey) (v : V), NK H v k → NK H' v k
  | .none, _, r => by cases r; exact .non
  | .num _, _, r => by cases r; exact .int _
  | .text _, _, r => by cases r; exact .str _
  | .tup ks, _, r => by
    cases r with
    | tup h1 h2 => exact .tup (st _ _ h1) (NKs.mono st ks _ h2)
theorem NKs.mono {H H' : Hp} (st : ∀ b xs, H b = some (.tup xs) → H' b = some (.tup xs)) : ∀ (ks : List NestedKey) (vs : List V), NKs H vs ks → NKs H' vs ks
  | [], _, r => by cases r; exact .nil
  | k :: ks, _, r => by
    cases r with
    | cons h1 h2 => exact .cons (NK.mono st k _ h1) (NKs.mono st ks _ h2)
end
theorem NK.same {H H' : Hp} {k : NestedKey} {v : V} (r : NK H v k) (e : Same H H') : NK H' v k := NK.mono (fun b xs h => e b _ h) k v r
theorem NKs.same {H H' : Hp} {ks : List NestedKey} {vs : List V} (r : NKs H vs ks) (e : Same H H') : NKs H' vs ks := NKs.mono (fun b xs h => e b _ h) ks vs r

theorem NKs.snoc {H : Hp} : ∀ {vs : List V} {ks : List NestedKey} {v : V} {k : NestedKey}, NKs H vs ks → NK H v k → NKs H (vs ++ [v]) (ks ++ [k])
  | _, _, _, _, .nil, h => .cons h .nil
  | _, _, _, _, .cons a b, h => .cons a (NKs.snoc b h)
theorem NKs.len {H : Hp} : ∀ {vs : List V} {ks : List NestedKey}, NKs H vs ks → vs.length = ks.length
  | _, _, .nil => rfl
  | _, _, .cons _ b => by rw [List.length_cons, List.length_cons, NKs.len b]
theorem NKs.get {H : Hp} : ∀ {vs : List V} {ks : List NestedKey} {i : Nat} {v : V}, NKs H vs ks → vs[i]? = some v → ∃ k, ks[i]? = some k ∧ NK H v k
  | _, _, _, _, .nil, e => by simp at e
  | _, _, 0, _, .cons a _, e => by simp at e; subst e; exact ⟨_, rfl, a⟩
  | _, _, i + 1, v, .cons _ b, e => by
    obtain ⟨k, h1, h2⟩ := NKs.get (i := i) (v := v) b (by simpa using e)
    exact ⟨k, by simpa using h1, h2⟩
section
variable {X : Cx} {pins : List (Addr × Obj)} {σ : L2.St} {H : Hp} {s : Shared}
mutual
theorem NK.is (I : Inv X pins σ H s) : ∀ (k : NestedKey) (v : V) (u : Value), NK H v k → RelV v u → NestedIs s.heap k u
  | .none, _, _, r, ru => by
    cases r
    cases (show _ = Value.none from ru)
    exact .none
  | .num i, _, _, r, ru => by
    cases r
    obtain ⟨t, rfl⟩ := (show ∃ t, _ = Value.int i t from ru)
    exact .int _ _
  | .text x, _, _, r, ru => by
    cases r
    obtain ⟨t, rfl⟩ := (show ∃ t, _ = Value.str x t from ru)
    exact .text _ _
  | .tup ks, _, _, r, ru => by
    cases r with
    | @tup a xs _ h1 h2 =>
      cases (show _ = Value.ref a from ru)
      obtain ⟨_, its, rv, o, e1, e2, n, e3⟩ := (show ObjOk X.prog X.w H s.heap a (.tup xs) from I.hok a _ h1)
      exact .tup e1 e2 e3 (by simpa using NKs.is I ks xs its h2 rv)
theorem NKs.is (I : Inv X pins σ H s) : ∀ (ks : List NestedKey) (vs : List V) (us : List Value), NKs H vs ks → Vals vs us → NestedAll s.heap ks us
  | [], _, _, r, ru => by
    cases r
    cases ru
    exact .nil
  | k :: ks, _, _, r, ru => by
    cases r with
    | cons h1 h2 =>
      cases ru with
      | cons r1 r2 => exact .cons (NK.is I k _ _ h1 r1) (NKs.is I ks _ _ h2 r2)
end
end

/-! ### the dict -/
abbrev Ent := NestedKey × Addr × V
def EntRel (p : Ent) (q : NestedKey × Addr × Value) : Prop := p.1 = q.1 ∧ p.2.1 = q.2.1 ∧ RelV p.2.2 q.2.2
def lookN (xs : List Ent) (k : NestedKey) : Option V := (xs.find? fun x => decide (x.1 = k)).map fun x => x.2.2
def putN (xs : List Ent) (k : NestedKey) (a : Addr) (v : V) : List Ent :=
  if (lookN xs k).isSome then xs.map fun x => if x.1 = k then (x.1, x.2.1, v) else x else xs ++ [(k, a, v)]
def RawN (P : Program) (w : World) (a : Addr) (xs : List Ent) (h : Heap) : Prop :=
  ∃ vs : List (NestedKey × Addr × Value), Paired EntRel xs vs ∧ ∃ o es ep, h.get? a = some o ∧ o.ExactDict ∧ o.data = .dict es ep ∧ es.toList = vs.map (entryOfKey (nestedKind P w)) ∧ (vs.map (·.1)).Nodup
/-- the dict at a holds the entries xs: key, the key's own place, value -/
def DN (P : Program) (w : World) (a : Addr) (xs : List Ent) : HO := .ext fun h => (xs.length ≤ sizeLine ∧ (a == sysModules) = false) ∧ RawN P w a xs h
/-- the keys stand as tuples -/
def KeysAt (H : Hp) (xs : List Ent) : Prop := ∀ x ∈ xs, NK H (.ref x.2.1) x.1 ∧ x.1.depth ≤ 8
theorem KeysAt.same {H H' : Hp} {xs : List Ent} (r : KeysAt H xs) (e : Same H H') : KeysAt H' xs := fun x hx => ⟨(r x hx).1.same e, (r x hx).2⟩
theorem KeysAt.nil {H : Hp} : KeysAt H [] := fun _ h => nomatch h
theorem KeysAt.mono {H H' : Hp} {xs : List Ent} (r : KeysAt H xs) (st : ∀ b ys, H b = some (.tup ys) → H' b = some (.tup ys)) : KeysAt H' xs := fun x hx => ⟨NK.mono st _ _ (r x hx).1, (r x hx).2⟩
theorem KeysAt.put {H : Hp} {xs : List Ent} {k : NestedKey} {a : Addr} {v : V} (r : KeysAt H xs) (h : NK H (.ref a) k) (hd : k.depth ≤ 8) : KeysAt H (putN xs k a v) := by
  intro x hx
  unfold putN at hx
  split at hx
  · obtain ⟨y, hy, rfl⟩ := List.mem_map.mp hx
    have := r y hy
    split <;> exact this
  · rcases List.mem_append.mp hx with hx | hx
    · exact r x hx
    · obtain rfl := List.mem_singleton.mp hx
      exact ⟨h, hd⟩

theorem lookN_nil (k : NestedKey) : lookN [] k = none := rfl
theorem lookN_map (xs : List Ent) (k : NestedKey) (v : V) (j : NestedKey) : lookN (xs.map fun x => if x.1 = k then (x.1, x.2.1, v) else x) j = if j = k then (lookN xs k).map (fun _ => v) else lookN xs j := by
  induction xs with
  | nil => simp [lookN]
  | cons x xs ih =>
    unfold lookN at ih ⊢
    simp only [List.map_cons, List.find?_cons]
    by_cases h1 : x.1 = k
    · simp only [h1, if_true]
      by_cases h2 : j = k
      · subst h2; simp
      · have : ¬ k = j := fun z => h2 z.symm
        simp only [this, decide_false, h2, if_false] at ih ⊢
        exact ih
    · simp only [h1, if_false, decide_false]
      by_cases h2 : x.1 = j
      · have h3 : ¬ j = k := fun z => h1 (h2.trans z)
        simp [h2, h3]
      · simp only [h2, decide_false]
        exact ih
theorem lookN_put (xs : List Ent) (k : NestedKey) (a : Addr) (v : V) (j : NestedKey) : lookN (putN xs k a v) j = if j = k then some v else lookN xs j := by
  unfold putN
  by_cases h : (lookN xs k).isSome = true
  · rw [if_pos h, lookN_map]
    by_cases e : j = k
    · rw [if_pos e, if_pos e]
      obtain ⟨u, hu⟩ := Option.isSome_iff_exists.mp h
      rw [hu]; rfl
    · rw [if_neg e, if_neg e]
  · rw [if_neg h]
    have h0 : lookN xs k = none := by
      cases q : lookN xs k with
      | none => rfl
      | some u => rw [q] at h; exact absurd rfl h
    unfold lookN at h0 ⊢
    rw [List.find?_append]
    by_cases e : j = k
    · subst e
      rw [Option.map_eq_none_iff] at h0
      rw [h0]
      simp
    · rw [if_neg e]
      cases q : xs.find? fun x => decide (x.1 = j) with
      | some u => simp
      | none =>
        simp
        exact fun z => e z.symm
theorem lookN_mem {xs : List Ent} {k : NestedKey} {v : V} (h : lookN xs k = some v) : ∃ a, (k, a, v) ∈ xs := by
  unfold lookN at h
  obtain ⟨x, hx, rfl⟩ := Option.map_eq_some_iff.mp h
  have h1 := List.mem_of_find?_eq_some hx
  have h2 := List.find?_some hx
  have h3 : x.1 = k := of_decide_eq_true h2
  exact ⟨x.2.1, by rw [← h3]; exact h1⟩
theorem paired_len {xs : List Ent} {vs : List (NestedKey × Addr × Value)} (r : Paired EntRel xs vs) : xs.length = vs.length := Paired.length r
theorem paired_keys : ∀ {xs : List Ent} {vs : List (NestedKey × Addr × Value)}, Paired EntRel xs vs → xs.map (·.1) = vs.map (·.1)
  | _, _, .nil => rfl
  | _, _, .cons r t => by rw [List.map_cons, List.map_cons, paired_keys t, r.1]
theorem paired_at : ∀ {xs : List Ent} {vs : List (NestedKey × Addr × Value)}, Paired EntRel xs vs → ∀ k, RelO (lookN xs k) ((atKey vs k).map (·.2))
  | _, _, .nil, _ => True.intro
  | _, _, @Paired.cons _ _ _ p q ps qs r t, k => by
    by_cases e : p.1 = k
    · have e' : q.1 = k := r.1.symm.trans e
      have h1 : lookN (p :: ps) k = some p.2.2 := by simp [lookN, List.find?_cons, e]
      have h2 : (atKey (q :: qs) k).map (·.2) = some q.2.2 := by simp [atKey, List.find?_cons, e']
      rw [h1, h2]
      exact r.2.2
    · have e' : ¬ q.1 = k := fun z => e (r.1.trans z)
      have h1 : lookN (p :: ps) k = lookN ps k := by simp [lookN, List.find?_cons, e]
      have h2 : (atKey (q :: qs) k) = atKey qs k := by simp [atKey, List.find?_cons, e']
      rw [h1, h2]
      exact paired_at t k
theorem paired_put {xs : List Ent} {vs : List (NestedKey × Addr × Value)} (r : Paired EntRel xs vs) (k : NestedKey) (a : Addr) {v : V} {u : Value} (rv : RelV v u) : Paired EntRel (putN xs k a v) (storedH vs k a u) := by
  have q := (paired_at r k).isSome_eq
  rw [Option.isSome_map] at q
  unfold putN storedH
  rw [q]
  split
  · rename_i hq
    clear q hq
    induction r with
    | nil => exact .nil
    | @cons p q ps qs h t ih =>
      rw [List.map_cons, List.map_cons]
      refine .cons ?_ ih
      unfold putAt
      by_cases e : p.1 = k
      · rw [if_pos e, if_pos (h.1.symm.trans e)]
        exact ⟨h.1, h.2.1, rv⟩
      · rw [if_neg e, if_neg (fun z => e (h.1.trans z))]
        exact h
  · exact Paired.snoc r ⟨rfl, rfl, rv⟩

theorem rawN_stay {P : Program} {w : World} {a : Addr} {xs : List Ent} {h h' : Heap} (r : RawN P w a xs h) (k : ∀ o, h.get? a = some o → h'.get? a = some o) : RawN P w a xs h' := by
  obtain ⟨vs, p, o, es, ep, e, q⟩ := r
  exact ⟨vs, p, o, es, ep, k o e, q⟩
theorem dn_obj {P : Program} {w : World} {H : Hp} {a : Addr} {xs : List Ent} {h : Heap} (z : xs.length ≤ sizeLine) (hs : (a == sysModules) = false) (r : RawN P w a xs h) : ObjOk P w H h a (DN P w a xs) := by
  have ⟨_, _, o, _, _, e, _⟩ := r
  exact ⟨⟨⟨z, hs⟩, r⟩, ⟨o, e⟩, fun h1 h2 p k => ⟨p.1, rawN_stay p.2 k⟩⟩

section
variable {X : Cx} {pins : List (Addr × Obj)} {σ : L2.St} {H : Hp} {s : Shared} {a b : Addr} {xs : List Ent} {k : NestedKey} {A : Around} {E : Value → Shared → Prop}
theorem dn_of (I : Inv X pins σ H s) (e : Rd H a (DN X.prog X.w a xs)) (ks : KeysAt H xs) :
    xs.length ≤ sizeLine ∧ (a == sysModules) = false ∧ ∃ vs, Paired EntRel xs vs ∧ s.heap.DictOfH (nestedKind X.prog X.w) a vs := by
  obtain ⟨⟨⟨z, y⟩, vs, p, o, es, ep, h1, h2, h3, h4, h5⟩, _, _⟩ := (show ObjOk X.prog X.w H s.heap a (DN X.prog X.w a xs) from e.ok I.hok)
  refine ⟨z, y, vs, p, o, es, ep, h1, h2, h3, h4, ?_, h5⟩
  have all : ∀ {l : List Ent} {m : List (NestedKey × Addr × Value)}, Paired EntRel l m → KeysAt H l → ∀ x ∈ m, (nestedKind X.prog X.w).is s.heap x.1 x.2.1 := by
    intro l m q
    induction q with
    | nil => intro _ x hx; exact nomatch hx
    | @cons p q ps qs hq t ih =>
      intro kk x hx
      rcases List.mem_cons.mp hx with e | hx
      · subst e
        have := kk p List.mem_cons_self
        exact ⟨by rw [← hq.1, ← hq.2.1]; exact NK.is I _ _ _ this.1 rfl, by rw [← hq.1]; exact this.2⟩
      · exact ih (fun y hy => kk y (List.mem_cons_of_mem _ hy)) x hx
  exact all p ks
theorem dn_ty (I : Inv X pins σ H s) (e : Rd H a (DN X.prog X.w a xs)) : s.TypeIs (.ref a) "dict" ∧ (∀ b, Value.ref a = .ref b → ∃ ob, s.heap.get? b = some ob ∧ ob.dict = none) ∧ (a == sysModules) = false := by
  obtain ⟨⟨⟨z, y⟩, vs, p, o, es, ep, h1, h2, h3, h4, h5⟩, _, _⟩ := (show ObjOk X.prog X.w H s.heap a (DN X.prog X.w a xs) from e.ok I.hok)
  refine ⟨⟨o, h1, h2.1⟩, fun b q => ?_, y⟩
  cases q
  exact ⟨o, h1, h2.2.1⟩
theorem room8 (hu : A.units + 64 < cLine) : (nestedKind X.prog X.w).room A.in1 := by
  show A.units + 1 + 8 < cLine
  omega
theorem key_is (I : Inv X pins σ H s) (h : NK H (.ref b) k) (hd : k.depth ≤ 8) : (nestedKind X.prog X.w).is s.heap k b := ⟨NK.is I _ _ _ h rfl, hd⟩

/-- d[k] -/
theorem dn_get {v : V} {Q : Value → Shared → Prop} (hu : A.units + 64 < cLine) (I : Inv X pins σ H s) (e : Rd H a (DN X.prog X.w a xs)) (ks : KeysAt H xs) (hk : NK H (.ref b) k) (hd : k.depth ≤ 8) (hv : lookN xs k = some v)
    (h : ∀ w' s', Inv X pins σ H s' → RelV v w' → Q w' s') : wpAny (model X.prog X.w) A (getItem (.ref a) (.ref b)) Q E s := by
  obtain ⟨z, hs, vs, p, dd⟩ := dn_of I e ks
  have q := paired_at p k
  rw [hv] at q
  cases hp : atKey vs k with
  | none => rw [hp] at q; exact (show False from q).elim
  | some x =>
    rw [hp] at q
    exact wpAny_getItem_heap (room8 hu) (key_is I hk hd) dd hp (h _ _ (I.tok _) q)
theorem dn_in {Q : Value → Shared → Prop} (hu : A.units + 64 < cLine) (I : Inv X pins σ H s) (e : Rd H a (DN X.prog X.w a xs)) (ks : KeysAt H xs) (hk : NK H (.ref b) k) (hd : k.depth ≤ 8)
    (h : ∀ s', Inv X pins σ H s' → Q (.bool (lookN xs k).isSome) s') : wpAny (model X.prog X.w) A (compareOp .In (.ref b) (.ref a)) Q E s := by
  obtain ⟨z, hs, vs, p, dd⟩ := dn_of I e ks
  have q := (paired_at p k).isSome_eq
  rw [Option.isSome_map] at q
  refine wpAny_in_heap (room8 hu) (key_is I hk hd) hs dd ?_
  rw [← q]
  exact h _ (I.tok _)
theorem dn_notIn {Q : Value → Shared → Prop} (hu : A.units + 64 < cLine) (I : Inv X pins σ H s) (e : Rd H a (DN X.prog X.w a xs)) (ks : KeysAt H xs) (hk : NK H (.ref b) k) (hd : k.depth ≤ 8)
    (h : ∀ s', Inv X pins σ H s' → Q (.bool (!(lookN xs k).isSome)) s') : wpAny (model X.prog X.w) A (compareOp .NotIn (.ref b) (.ref a)) Q E s := by
  obtain ⟨z, hs, vs, p, dd⟩ := dn_of I e ks
  have q := (paired_at p k).isSome_eq
  refine notIn_keyed (kvs := pairsH vs) (room8 hu) (key_is I hk hd) hs ⟨vs, dd, rfl⟩ ?_
  rw [valueAt_pairsH, ← q]
  exact h _ (I.tok _)
theorem dn_get1 {Q : Value → Shared → Prop} (hu : A.units + 64 < cLine) (I : Inv X pins σ H s) (e : Rd H a (DN X.prog X.w a xs)) (ks : KeysAt H xs) (hk : NK H (.ref b) k) (hd : k.depth ≤ 8)
    (h : ∀ w' s', Inv X pins σ H s' → RelV ((lookN xs k).getD .non) w' → Q w' s') : wpAny (model X.prog X.w) A (call (.builtin "dict.get") [.ref a, .ref b]) Q E s := by
  obtain ⟨z, hs, vs, p, dd⟩ := dn_of I e ks
  refine get_keyed (kvs := pairsH vs) (room8 hu) (key_is I hk hd) hs ⟨vs, dd, rfl⟩ (h _ _ (I.tok _) ?_)
  rw [valueAt_pairsH]
  exact (paired_at p k).getD rfl
theorem dn_get2 {d : V} {r : Value} {Q : Value → Shared → Prop} (hu : A.units + 64 < cLine) (I : Inv X pins σ H s) (e : Rd H a (DN X.prog X.w a xs)) (ks : KeysAt H xs) (hk : NK H (.ref b) k) (hd : k.depth ≤ 8) (rd : RelV d r)
    (h : ∀ w' s', Inv X pins σ H s' → RelV ((lookN xs k).getD d) w' → Q w' s') : wpAny (model X.prog X.w) A (call (.builtin "dict.get") [.ref a, .ref b, r]) Q E s := by
  obtain ⟨z, hs, vs, p, dd⟩ := dn_of I e ks
  refine getOr_keyed (kvs := pairsH vs) (room8 hu) (key_is I hk hd) hs ⟨vs, dd, rfl⟩ (h _ _ (I.tok _) ?_)
  rw [valueAt_pairsH]
  exact (paired_at p k).getD rd
theorem putN_len (xs : List Ent) (k : NestedKey) (a : Addr) (v : V) : (putN xs k a v).length ≤ xs.length + 1 := by
  unfold putN
  split
  · rw [List.length_map]; omega
  · rw [List.length_append, List.length_singleton]; omega
theorem dn_set {v : V} {r : Value} {Q : Unit → Shared → Prop} (hu : A.units + 64 < cLine) (I : Inv X pins σ H s) (e : H a = some (DN X.prog X.w a xs)) (ks : KeysAt H xs) (hk : NK H (.ref b) k) (hd : k.depth ≤ 8) (hl : xs.length < sizeLine) (rv : RelV v r)
    (h : ∀ s', Inv X pins σ (upd H a (DN X.prog X.w a (putN xs k b v))) s' → Q () s') : wpAny (model X.prog X.w) A (setItem (.ref a) (.ref b) r) Q E s := by
  obtain ⟨z, hs, vs, p, dd⟩ := dn_of I (.inl e) ks
  have hz : vs.length ≤ sizeLine := by rw [← paired_len p]; exact z
  refine wpAny_setItem_heap (hsz := hz) (room8 hu) (key_is I hk hd) dd fun h' dd' sb => ?_
  obtain ⟨o, es, ep, h1, h2, h3, h4, h5, h6⟩ := dd'
  have hl2 : (putN xs k b v).length ≤ sizeLine := by have := putN_len xs k b v; omega
  refine h _ (I.write (x := a) (e := a) (by rw [e]; trivial) (.inl rfl) (fun c q hc y => (sb.2 c hc).trans y) ⟨o, h1⟩ (dn_obj hl2 hs ⟨_, paired_put p k b rv, o, es, ep, h1, h2, h3, h4, h6⟩))
theorem dn_len {Q : Value → Shared → Prop} (I : Inv X pins σ H s) (e : Rd H a (DN X.prog X.w a xs)) (ks : KeysAt H xs) (h : ∀ t s', Inv X pins σ H s' → Q (.int xs.length t) s') : wpAny (model X.prog X.w) A (call (.builtin "len") [.ref a]) Q E s := by
  obtain ⟨z, hs, vs, p, dd⟩ := dn_of I e ks
  have hl := paired_len p
  have hz : vs.length ≤ sizeLine := by rw [← hl]; exact z
  have hm : s.heap.DictKeyed (nestedKind X.prog X.w) a (pairsH vs) := ⟨vs, dd, rfl⟩
  refine PyProof.Rows.call_len_slot (n := (pairsH vs).length) hm.typeIs PySem.F.slot_dict_len (fun Q' hq => len_keyed hs hm hq) (by omega) (by rw [pairsH_length]; rw [sizeLine_eq] at hz; omega) ?_
  rw [pairsH_length, ← hl]
  exact h _ _ (I.tok _)
theorem dn_clear {Q : Value → Shared → Prop} (I : Inv X pins σ H s) (e : H a = some (DN X.prog X.w a xs)) (ks : KeysAt H xs) (h : ∀ s', Inv X pins σ (upd H a (DN X.prog X.w a [])) s' → Q .none s') : wpAny (model X.prog X.w) A (call (.builtin "dict.clear") [.ref a]) Q E s := by
  obtain ⟨z, hs, vs, p, dd⟩ := dn_of I (.inl e) ks
  have hz : vs.length ≤ sizeLine := by rw [← paired_len p]; exact z
  refine clear_keyed (kvs := pairsH vs) (hsz := by rw [pairsH_length]; exact hz) ⟨vs, dd, rfl⟩ fun h' dd' sb => ?_
  obtain ⟨ws, ⟨o, es, ep, h1, h2, h3, h4, h5, h6⟩, e0⟩ := dd'
  have ew : ws = [] := by
    cases ws with
    | nil => rfl
    | cons _ _ => simp [pairsH] at e0
  subst ew
  exact h _ (I.write (x := a) (e := a) (t' := s.toks) (by rw [e]; trivial) (.inl rfl) (fun c q hc y => (sb.2 c hc).trans y) ⟨o, h1⟩ (dn_obj (Nat.zero_le _) hs ⟨[], .nil, o, es, ep, h1, h2, h3, h4, h6⟩))
end

/-! ### as rules -/
/-- k and d: the key's tuple at b, the dict at a -/
def AtN (P : Program) (w : World) (H : Hp) (x y : V) (R : Addr → List Ent → NestedKey → Addr → Prop) : Prop :=
  ∃ a b xs k, x = .ref a ∧ y = .ref b ∧ Rd H a (DN P w a xs) ∧ KeysAt H xs ∧ NK H (.ref b) k ∧ k.depth ≤ 8 ∧ R a xs k b
def tNGet (P : Program) (w : World) (td ty : TE) : TE := fun σ H Q => td σ H fun x H1 => ty σ H1 fun y H2 => AtN P w H2 x y fun _ xs k _ => ∃ v, lookN xs k = some v ∧ Q v H2
def tNIn (P : Program) (w : World) (ty td : TE) : TE := fun σ H Q => ty σ H fun y H1 => td σ H1 fun x H2 => AtN P w H2 x y fun _ xs k _ => Q (.bl (lookN xs k).isSome) H2
def tNNotIn (P : Program) (w : World) (ty td : TE) : TE := fun σ H Q => ty σ H fun y H1 => td σ H1 fun x H2 => AtN P w H2 x y fun _ xs k _ => Q (.bl (!(lookN xs k).isSome)) H2
def sNPut (P : Program) (w : World) (td ty tv : TE) : TS := fun D σ H => tv σ H fun v H1 => td σ H1 fun x H2 => ty σ H2 fun y H3 => AtN P w H3 x y fun a xs k b => H3 a = some (DN P w a xs) ∧ xs.length < sizeLine ∧ D.nx σ (upd H3 a (DN P w a (putN xs k b v)))
def IsN (P : Program) (w : World) (H : Hp) (x : V) : Prop := ∃ a xs, x = .ref a ∧ Rd H a (DN P w a xs)
def tNGet1 (P : Program) (w : World) (td ty : TE) : TE := fun σ H Q => td σ H fun x H1 => IsN P w H1 x ∧ ty σ H1 fun y H2 => AtN P w H2 x y fun _ xs k _ => Q ((lookN xs k).getD .non) H2
def tNGet2 (P : Program) (w : World) (td ty tx : TE) : TE := fun σ H Q => td σ H fun x H1 => IsN P w H1 x ∧ ty σ H1 fun y H2 => tx σ H2 fun z H3 => AtN P w H3 x y fun _ xs k _ => Q ((lookN xs k).getD z) H3
def tNNew (P : Program) (w : World) : TE := fun _ H Q => ∀ p, H p = none → Q (.ref p) (upd H p (DN P w p []))
def rNLen (P : Program) (w : World) : List V → Hp → VK → Prop := fun vs H Q => ∃ a xs, vs = [.ref a] ∧ Rd H a (DN P w a xs) ∧ KeysAt H xs ∧ Q (.int xs.length) H

section
variable {X : Cx} {o i e f value : Expr} {pos pos' apos cpos : Pos} {td ty tv tx : TE}
theorem n_get (hu : X.A.units + 64 < cLine) (ho : PE X o td) (hi : PE X i ty) (hs : NoSl i) : PE X (.Subscript o i pos) (tNGet X.prog X.w td ty) := ⟨fun pins s σ H Q I q =>
  subD_of PySem.F.slot_dict_getitem.lookup hs (thn (ho.run pins s σ H _ I q) fun u s1 ⟨x, H1, I1, rx, q1⟩ => thn (hi.run pins s1 σ H1 _ I1 q1) fun iv s2 ⟨y, H2, I2, ry, a, b, xs, k, ex, ey, e, ks, hk, hd, v, hv, q2⟩ => by
    subst ex ey
    obtain rfl : u = Value.ref a := rx
    obtain rfl : iv = Value.ref b := ry
    exact ⟨(dn_ty I2 e).1, dn_get hu I2 e ks hk hd hv fun w' s3 I3 r3 => ⟨v, H2, I3, r3, q2⟩⟩)⟩
theorem n_in (hu : X.A.units + 64 < cLine) (hi : PE X i ty) (ho : PE X o td) : PC X .In i o (tNIn X.prog X.w ty td) := ⟨fun pins s σ H Q I q =>
  thn (hi.run pins s σ H _ I q) fun iv s1 ⟨y, H1, I1, ry, q1⟩ => thn (ho.run pins s1 σ H1 _ I1 q1) fun u s2 ⟨x, H2, I2, rx, a, b, xs, k, ex, ey, e, ks, hk, hd, q2⟩ => by
    subst ex ey
    obtain rfl : u = Value.ref a := rx
    obtain rfl : iv = Value.ref b := ry
    exact dn_in hu I2 e ks hk hd fun s3 I3 => ⟨.bl _, H2, I3, rfl, q2⟩⟩
theorem n_notin (hu : X.A.units + 64 < cLine) (hi : PE X i ty) (ho : PE X o td) : PC X .NotIn i o (tNNotIn X.prog X.w ty td) := ⟨fun pins s σ H Q I q =>
  thn (hi.run pins s σ H _ I q) fun iv s1 ⟨y, H1, I1, ry, q1⟩ => thn (ho.run pins s1 σ H1 _ I1 q1) fun u s2 ⟨x, H2, I2, rx, a, b, xs, k, ex, ey, e, ks, hk, hd, q2⟩ => by
    subst ex ey
    obtain rfl : u = Value.ref a := rx
    obtain rfl : iv = Value.ref b := ry
    exact dn_notIn hu I2 e ks hk hd fun s3 I3 => ⟨.bl _, H2, I3, rfl, q2⟩⟩
theorem n_put (hu : X.A.units + 64 < cLine) (ho : PE X o td) (hi : PE X i ty) (hv : PE X value tv) (hs : swapsWith value (some (.Subscript o i pos')) pos.line X.env = pure false) :
    PS X (.Assign [.Subscript o i pos'] value pos) (sNPut X.prog X.w td ty tv) := ⟨fun pins s σ H D I q =>
  wpAny_Assign_Subscript (thn (hv.run pins s σ H _ I q) fun r s1 ⟨v, H1, I1, rv, q1⟩ => thn (ho.run pins s1 σ H1 _ I1 q1) fun u s2 ⟨x, H2, I2, rx, q2⟩ => thn (hi.run pins s2 σ H2 _ I2 q2) fun iv s3 ⟨y, H3, I3, ry, a, b, xs, k, ex, ey, _, ks, hk, hd, e, hl, q3⟩ => by
    subst ex ey
    obtain rfl : u = Value.ref a := rx
    obtain rfl : iv = Value.ref b := ry
    exact dn_set hu I3 e ks hk hd hl rv fun s4 I4 => ⟨σ, _, I4, q3⟩) hs⟩
theorem n_get1 (hu : X.A.units + 64 < cLine) (ho : PE X o td) (he : PE X e ty) (m : M1 X o "get" apos e cpos) : PE X (.Call (.Attribute o "get" apos) [e] [] cpos) (tNGet1 X.prog X.w td ty) := ⟨fun pins s σ H Q I q =>
  wpAny_Call_method m.base m.few m.line PySem.F.plainAttrs_dict PySem.F.slot_dict_get PySem.F.type_dict_get (thn (ho.run pins s σ H _ I q) fun u s1 ⟨x, H1, I1, rx, ⟨a0, xs0, ex0, e0⟩, q1⟩ => by
    subst ex0
    obtain rfl : u = Value.ref a0 := rx
    refine ⟨(dn_ty I1 e0).1, (dn_ty I1 e0).2.1, ?_⟩
    rw [m.trees]
    refine Calls.callWith_builtin rfl (Calls.evalArgs_plain (Calls.spliced_cons (thn (he.run pins s1 σ H1 _ I1 q1) fun iv s2 ⟨y, H2, I2, ry, a, b, xs, k, ex, ey, e, ks, hk, hd, q2⟩ => Calls.spliced_nil ?_)))
    cases ex
    subst ey
    obtain rfl : iv = Value.ref b := ry
    exact dn_get1 hu I2 e ks hk hd fun w' s3 I3 r3 => ⟨_, H2, I3, r3, q2⟩)⟩
theorem n_get2 (hu : X.A.units + 64 < cLine) (ho : PE X o td) (he : PE X e ty) (hf : PE X f tx) (m : M2 X o "get" apos e f cpos) : PE X (.Call (.Attribute o "get" apos) [e, f] [] cpos) (tNGet2 X.prog X.w td ty tx) := ⟨fun pins s σ H Q I q =>
  wpAny_Call_method m.base m.few m.line PySem.F.plainAttrs_dict PySem.F.slot_dict_get PySem.F.type_dict_get (thn (ho.run pins s σ H _ I q) fun u s1 ⟨x, H1, I1, rx, ⟨a0, xs0, ex0, e0⟩, q1⟩ => by
    subst ex0
    obtain rfl : u = Value.ref a0 := rx
    refine ⟨(dn_ty I1 e0).1, (dn_ty I1 e0).2.1, ?_⟩
    rw [m.trees]
    refine Calls.callWith_builtin rfl (Calls.evalArgs_plain (Calls.spliced_cons (thn (he.run pins s1 σ H1 _ I1 q1) fun iv s2 ⟨y, H2, I2, ry, q2⟩ =>
      Calls.spliced_cons (thn (hf.run pins s2 σ H2 _ I2 q2) fun fv s3 ⟨z, H3, I3, rz, a, b, xs, k, ex, ey, e, ks, hk, hd, q3⟩ => Calls.spliced_nil ?_))))
    cases ex
    subst ey
    obtain rfl : iv = Value.ref b := ry
    exact dn_get2 hu I3 e ks hk hd rz fun w' s4 I4 r4 => ⟨_, H3, I4, r4, q3⟩)⟩
theorem raw_new {P : Program} {w : World} (h : Heap) : RawN P w h.objs.size [] (h.push { cls := .type "dict", data := .dict #[] }) :=
  ⟨[], .nil, _, #[], 0, Heap.get?_push_size _ rfl, ⟨rfl, rfl, rfl⟩, rfl, rfl, List.nodup_nil⟩
theorem n_new : PE X (.Dict [] [] pos) (tNNew X.prog X.w) := ⟨fun pins s σ H Q I q =>
  wpAny_Dict_empty ⟨.ref s.heap.objs.size, _, I.laid (a := s.heap.objs.size) (o := DN X.prog X.w s.heap.objs.size []) (t' := s.toks) (fun _ _ z => Heap.get?_push_of_some _ z) (Nat.le_refl _)
    (dn_obj (Nat.zero_le _) (beq_eq_false_iff_ne.mpr (Nat.ne_of_gt I.big)) (raw_new s.heap)), rfl, q _ (I.hok.fresh (Nat.le_refl _))⟩⟩
theorem n_len : CallR X (.builtin "len") (rNLen X.prog X.w) := by
  intro pins s σ H xs us Q I r h
  obtain ⟨a, es, rfl, e, ks, q⟩ := h
  cases r with
  | cons r1 r2 =>
    cases r2
    cases (show _ = Value.ref a from r1)
    exact dn_len I e ks fun t s' I' => ⟨.int _, H, I', ⟨t, rfl⟩, q⟩
end

/-! ### the keys of a locked dict, one by one -/
def ItN (P : Program) (w : World) (d : Addr) (o : Obj) (xs : List Ent) : It :=
  ⟨fun i H => H d = some (.frz o (DN P w d xs)) ∧ i < xs.length, fun i H x H' => H' = H ∧ ∃ k a v, xs[i]? = some (k, a, v) ∧ x = .ref a, fun i H => H d = some (.frz o (DN P w d xs)) ∧ xs.length ≤ i⟩
section
variable {X : Cx} {pins : List (Addr × Obj)} {σ : L2.St} {H : Hp} {s : Shared} {d : Addr} {o : Obj} {xs : List Ent}
theorem frzN (I : Inv X pins σ H s) (h : H d = some (.frz o (DN X.prog X.w d xs))) :
    (d == sysModules) = false ∧ s.heap.get? d = some o ∧ o.ExactDict ∧ ∃ (es : Array DictEntry) (ep : Nat), o.data = .dict es ep ∧ es.size = xs.length ∧
      ∀ (i : Nat) (k : NestedKey) (a : Addr) (v : V), xs[i]? = some (k, a, v) → ∃ en : DictEntry, es[i]? = some en ∧ en.key = .ref a := by
  obtain ⟨hd, ⟨⟨z, hs⟩, vs, pr, o', es, ep, ho, hx, hdt, he, _⟩, _⟩ := (show ObjOk X.prog X.w H s.heap d (.frz o (DN X.prog X.w d xs)) from I.hok d _ h)
  rw [hd] at ho
  cases ho
  refine ⟨hs, hd, hx, es, ep, hdt, ?_, fun i k a v e => ?_⟩
  · rw [size_of_entries he]
    exact (Paired.length pr).symm
  · obtain ⟨b, hb, e1, e2, _⟩ := paired_get pr e
    have q := entry_at he i
    rw [hb] at q
    exact ⟨_, q, by show Value.ref b.2.1 = _; rw [← e2]⟩
end
section
variable {P : Program} {w : World} {K : PySem.W.Frag} {tg : Expr} {d : Addr} {o : Obj} {es : Array DictEntry} {ep : Nat} {xs : List Ent}
theorem turn_N (it : Addr) (hod : o.data = .dict es ep) : Turn P w K tg (ItN P w d o xs) [it] it (fun i h => h.IsKeyIter it d i xs.length ep) where
  mem := by simp
  obj := fun i h st b hb => by
    obtain rfl : b = it := by simpa using hb
    obtain ⟨oi, e, c, dd⟩ := st
    exact ⟨oi, e, fun v z => by rw [dd] at z; cases z⟩
  keep := fun i h h' st k => st.at fun oi e => k it (by simp) oi e
  item := by
    intro X hP hw hK hc i pins s σ H E I hf st ⟨hd, hi⟩
    subst hP hw hK
    obtain ⟨f0, f1, f2, f3, f4, f5⟩ := hf it (by simp)
    obtain ⟨hs, hgd, hx, es', ep', hdt, hsz, ent⟩ := frzN I hd
    obtain ⟨rfl, rfl⟩ := dict_ep hod hdt
    obtain ⟨⟨k, a, v⟩, hkv⟩ : ∃ p, xs[i]? = some p := ⟨xs[i], List.getElem?_eq_getElem hi⟩
    obtain ⟨en, hen, hkey⟩ := ent i k a v hkv
    refine next_key_item st hgd hdt hsz hen fun h' st' sb => ?_
    have I1 : Inv X pins σ H { s with heap := h' } := I.turned (t' := s.toks) (fun b ob hb e => (sb.2 b hb).trans e) f0 f1 f3 f4 f5
    obtain ⟨oi, e, c, dd⟩ := id st'
    exact ⟨en.key, rfl, go_of (s := { s with heap := h' }) e c dd (by decide) ⟨.ref a, H, I1, hkey, ⟨rfl, k, a, v, hkv, rfl⟩, st', fun b hb => (hf b hb).1⟩⟩
  done := by
    intro X hP hw hK hc i pins s σ H E I hf st ⟨hd, hi⟩
    subst hP hw hK
    obtain ⟨f0, f1, f2, f3, f4, f5⟩ := hf it (by simp)
    obtain ⟨hs, hgd, hx, es', ep', hdt, hsz, ent⟩ := frzN I hd
    obtain ⟨rfl, rfl⟩ := dict_ep hod hdt
    exact next_key_end (I.ok.hd hc) st hgd hdt hsz hi fun h' eb => ⟨rfl, I.turned (t' := s.toks) (fun b ob hb e => eb b ob hb e) f0 f1 f3 f4 f5⟩
  self := fun A i s Q E st h => wpAny_pyIter_keyiter st h
end
def iKeysN (P : Program) (w : World) (td : TE) : TI := fun σ H R => td σ H fun x H1 => ∃ d o xs, x = .ref d ∧ H1 d = some (.frz o (DN P w d xs)) ∧ R (ItN P w d o xs) H1
theorem n_keys {X : Cx} {tg e : Expr} {td : TE} (he : PE X e td) : PI X tg e (iKeysN X.prog X.w td) := ⟨fun pins s σ H R I q =>
  thn (he.run pins s σ H _ I q) fun u s1 ⟨x, H1, I1, rx, d, o, xs, ex, hd, q1⟩ => by
    subst ex
    obtain rfl : u = Value.ref d := rx
    obtain ⟨hs, hgd, hx, es, ep, hdt, hsz, ent⟩ := frzN I1 hd
    refine iter_keys hs hgd hx hdt (pi_one (tk := s1.toks) I1 _ (turn_N _ hdt) ⟨_, Heap.get?_push_size _ rfl, rfl, ?_⟩ q1)
    rw [hsz] <;> rfl⟩
theorem walk_N {P : Program} {w : World} {d : Addr} {o : Obj} {xs : List Ent} : Walk (ItN P w d o xs) xs.length (fun H => H d = some (.frz o (DN P w d xs))) (fun i H x H' => H' = H ∧ ∃ k a v, xs[i]? = some (k, a, v) ∧ x = .ref a) :=
  ⟨fun _ _ hi q => ⟨q, hi⟩, fun _ q => ⟨q, Nat.le_refl _⟩, fun _ _ _ _ _ _ y => y⟩
end Nd
set_option Elab.async false
set_option linter.all false
set_option maxRecDepth 100000
set_option maxHeartbeats 4000000
namespace G
open PySem L2 Nd
/-- the empty tuple stands in the written part -/
def SqT0 (K : PySem.W.Frag) (e : Addr) : Prop := ∀ H, SqT K H e []
theorem sqT0 {K : PySem.W.Frag} {e : Addr} {x2 : Option Addr} {x3 : Nat} {x4 : Array (Option Value)} (h : K.lookup e = some ⟨.type "tuple", x2, .seq #[] x3, x4⟩) : SqT0 K e :=
  fun H => .inr ⟨_, #[], x3, h, rfl, rfl, Nat.zero_le _, .nil⟩

/-! ### all but some places stays -/
def Sm (M : List Addr) (H H' : Hp) : Prop := ∀ b o, H b = some o → b ∉ M → H' b = some o
theorem Sm.refl (M : List Addr) (H : Hp) : Sm M H H := fun _ _ h _ => h
theorem Sm.trans {M : List Addr} {H H1 H2 : Hp} (a : Sm M H H1) (b : Sm M H1 H2) : Sm M H H2 := fun c o h n => b c o (a c o h n) n
theorem Sm.same {M : List Addr} {H H' : Hp} (a : Same H H') : Sm M H H' := fun b o h _ => a b o h
theorem Sm.mono {M M' : List Addr} {H H' : Hp} (a : Sm M H H') (h : ∀ b ∈ M, b ∈ M') : Sm M' H H' := fun b o e n => a b o e fun z => n (h b z)
theorem Sm.upd {M : List Addr} {H H' : Hp} {a : Addr} {o : HO} (h : Sm M H H') (ha : a ∈ M) : Sm M H (upd H' a o) := fun b u e n => by
  rw [upd_ne (fun z => n (by rw [z]; exact ha))]
  exact h b u e n
/-- an object that H does not know is made or changed -/
theorem Sm.new {M : List Addr} {H H' : Hp} {a : Addr} {o : HO} (h : Sm M H H') (ha : H a = none) : Sm M H (L2.upd H' a o) := fun b u e n => by
  rw [upd_ne (ne_of_none e ha)]
  exact h b u e n
theorem Sm.free {M : List Addr} {H H' : Hp} (h : Sm M H H') {a : Addr} (n : H' a = none) (hm : a ∉ M) : H a = none := by
  cases q : H a with
  | none => rfl
  | some o =>
    rw [h a o q hm] at n
    cases n
theorem same_new {H H' : Hp} {a : Addr} {o : HO} (h : Same H H') (ha : H a = none) : Same H (L2.upd H' a o) := fun b u e => by
  rw [upd_ne (ne_of_none e ha)]
  exact h b u e
theorem same_add {H : Hp} {a : Addr} {o : HO} (ha : H a = none) : Same H (L2.upd H a o) := same_new (Same.refl H) ha
/-- the places of M hold lists -/
def MutL (M : List Addr) (H : Hp) : Prop := ∀ a ∈ M, ∃ xs, H a = some (.lst xs)
theorem MutL.tup {M : List Addr} {H H' : Hp} (l : MutL M H) (h : Sm M H H') : ∀ b xs, H b = some (.tup xs) → H' b = some (.tup xs) := fun b xs e => h b _ e fun z => by
  obtain ⟨ys, q⟩ := l b z
  rw [e] at q
  cases q
theorem MutL.new {M : List Addr} {H : Hp} (l : MutL M H) {a : Addr} (n : H a = none) : a ∉ M := fun z => by
  obtain ⟨ys, q⟩ := l a z
  rw [n] at q
  cases q
theorem MutL.upd {M : List Addr} {H : Hp} (l : MutL M H) {a : Addr} {o : HO} (n : a ∉ M) : MutL M (L2.upd H a o) := fun b hb => by
  rw [upd_ne (fun z => n (by rw [← z]; exact hb))]
  exact l b hb

/-! ### the stream of draws -/
structure Stm (H : Hp) (st cs : Addr) : Prop where
  ne : st ≠ cs
  ex : ∃ (ns : List Int) (k : Int), H st = some (.lst [.ref cs, .int k]) ∧ H cs = some (.lst (ns.map V.int)) ∧ ns ≠ [] ∧ ns.length ≤ 63
theorem Stm.keep {H H' : Hp} {st cs : Addr} (s : Stm H st cs) (h1 : ∀ o, H st = some o → H' st = some o) (h2 : ∀ o, H cs = some o → H' cs = some o) : Stm H' st cs := by
  obtain ⟨ns, k, a, b, c⟩ := s.ex
  exact ⟨s.ne, ns, k, h1 _ a, h2 _ b, c⟩
theorem Stm.mut {H : Hp} {st cs : Addr} (s : Stm H st cs) : MutL [st, cs] H := fun a ha => by
  obtain ⟨ns, k, h1, h2, _⟩ := s.ex
  rcases List.mem_cons.mp ha with rfl | ha
  · exact ⟨_, h1⟩
  · obtain rfl := List.mem_singleton.mp ha
    exact ⟨_, h2⟩
theorem Stm.upd {H : Hp} {st cs p : Addr} {o : HO} (s : Stm H st cs) (n : H p = none) : Stm (L2.upd H p o) st cs := by
  obtain ⟨ns, k, h1, h2, _⟩ := s.ex
  exact s.keep (fun o e => by rw [upd_ne (ne_of_none e n)]; exact e) (fun o e => by rw [upd_ne (ne_of_none e n)]; exact e)
theorem Stm.updn {H : Hp} {st cs p : Addr} {o : HO} (s : Stm H st cs) (n1 : p ≠ st) (n2 : p ≠ cs) : Stm (L2.upd H p o) st cs :=
  s.keep (fun o e => by rw [upd_ne (Ne.symm n1)]; exact e) (fun o e => by rw [upd_ne (Ne.symm n2)]; exact e)
theorem cut_to {xs : List V} {k : Nat} {z : Int} (e : z = (k : Int)) : cutV xs none (some z) = xs.take k := by
  subst e
  unfold cutV
  rw [HT.sIx_none, HT.sIx_nat, List.drop_zero, Nat.sub_zero]
  rcases Nat.le_total k xs.length with h | h
  · rw [Nat.min_eq_left h]
  · rw [Nat.min_eq_right h, List.take_length, List.take_of_length_le h]
theorem cut_from {xs : List V} {k : Nat} {z : Int} (e : z = (k : Int)) : cutV xs (some z) none = xs.drop k := by
  subst e
  unfold cutV
  rw [HT.sIx_none, HT.sIx_nat]
  rcases Nat.le_total k xs.length with h | h
  · rw [Nat.min_eq_left h, List.take_of_length_le (by rw [List.length_drop]; exact Nat.le_refl _)]
  · rw [Nat.min_eq_right h, List.drop_of_length_le h, List.drop_of_length_le (Nat.le_refl _), List.take_nil]
theorem cut_ints (ns : List Int) (lo hi : Option Int) : ∃ ms : List Int, cutV (ns.map V.int) lo hi = ms.map V.int ∧ ms.length ≤ ns.length := by
  refine ⟨(ns.drop (HT.sIx (ns.map V.int).length 0 lo)).take (HT.sIx (ns.map V.int).length (ns.map V.int).length hi - HT.sIx (ns.map V.int).length 0 lo), ?_, ?_⟩
  · unfold cutV
    rw [List.map_take, List.map_drop]
  · rw [List.length_take, List.length_drop]
    omega
theorem dp_ints {K : PySem.W.Frag} {H : Hp} : ∀ ms : List Int, DpAll K H (ms.map V.int) (ms.map PyData.int)
  | [] => .nil
  | m :: ms => .cons (.int m) (dp_ints ms)
theorem ite2d {c A B : Prop} [Decidable c] (h1 : c → A) (h2 : ¬ c → B) : if decide c = true then A else B := by
  by_cases h : c
  · rw [if_pos (decide_eq_true h)]; exact h1 h
  · rw [if_neg (by simp [h])]; exact h2 h
theorem ite2n {c A B : Prop} [Decidable c] (h1 : ¬ c → A) (h2 : c → B) : if (!decide c) = true then A else B := by
  by_cases h : c
  · rw [if_neg (by simp [h])]; exact h2 h
  · rw [if_pos (by simp [h])]; exact h1 h
theorem ite2b {b : Bool} {A B : Prop} (h1 : b = true → A) (h2 : b = false → B) : if b = true then A else B := by
  cases b with
  | true => exact h1 rfl
  | false => exact h2 rfl
theorem walk_range0 {n : Nat} : Walk (Itr 0 n) n (fun _ => True) (YFn fun i => .int ((i : Nat) : Int)) := walk_range.mono (fun _ h => h) (fun i H x H' _ _ y => ⟨y.1, by rw [y.2]; simp⟩)
/-- t + u, both tracked -/
def rCatN : R2 := fun x y H Q => ∃ a b xs ys, x = .ref a ∧ y = .ref b ∧ H a = some (.tup xs) ∧ H b = some (.tup ys) ∧ xs.length + ys.length ≤ sizeLine ∧ ∀ p H', Same H H' → H' p = some (.tup (xs ++ ys)) → Q (.ref p) H'
theorem op_catN {X : Cx} : OpR X (binaryOp .Add) rCatN := fun pins s σ H x y v u Q I rx ry h => op_catA pins s σ H x y v u Q I rx ry (by
  obtain ⟨a, b, xs, ys, rfl, rfl, ha, hb, hl, k⟩ := h
  refine ⟨a, b, xs, ys, rfl, rfl, SqT.of ha, SqT.of hb, hl, fun e => k b H (Same.refl H) (by rw [hb, e]; rfl), fun _ e => k a H (Same.refl H) (by rw [ha, e, List.append_nil]), fun _ _ p hp => k p _ (same_add hp) upd_same⟩)
/-! ### promises of the law's helpers -/
def spDraw : Sp := fun vs H Q _ => ∃ (st cs : Addr) (m : Int), vs = [.ref st, .int m] ∧ Stm H st cs ∧ 0 < m ∧ m.natAbs < 2 ^ 200 ∧
  ∀ (r : Int) (H' : Hp), 0 ≤ r → r < m → Stm H' st cs → Sm [st, cs] H H' → Q (.int r) H'
def spStream (K : PySem.W.Frag) : Sp := fun vs H Q _ => ∃ (a : Addr) (ns : List Int), vs = [.ref a] ∧ SqL K H a (ns.map V.int) ∧ ns.length ≤ 63 ∧
  ∀ (st cs : Addr) (H' : Hp), Stm H' st cs → Same H H' → Q (.ref st) H'
theorem fm64 {a b : Int} (h : 0 < b) (hb : b ≤ 2 ^ 62) : -(2 ^ 64) < a.fmod b ∧ a.fmod b < 2 ^ 64 := by
  have h1 := Int.fmod_nonneg_of_pos a h
  have h2 := Int.fmod_lt_of_pos a h
  constructor <;> omega
theorem ixN_of {n j : Nat} {z : Int} (e : z = (j : Int)) (hj : j < n) : ixN n z = some j := by
  subst e
  unfold ixN
  rw [if_pos (Int.natCast_nonneg j), if_pos (by omega)]
  simp
theorem fmod_pos {a b : Int} (hb : 0 < b) : 0 ≤ a.fmod b ∧ a.fmod b < b := ⟨Int.fmod_nonneg_of_pos a hb, Int.fmod_lt_of_pos a hb⟩
end G
set_option Elab.async false
set_option linter.all false
set_option maxRecDepth 100000
set_option maxHeartbeats 4000000
namespace G
open PySem L2 Nd
/-! ### trees -/
inductive Tree where
  | node (kind key own : NestedKey) (below : List Tree)
def Tree.kind : Tree → NestedKey | .node k _ _ _ => k
def Tree.key : Tree → NestedKey | .node _ y _ _ => y
def Tree.own : Tree → NestedKey | .node _ _ o _ => o
def Tree.kids : Tree → List Tree | .node _ _ _ b => b
theorem Tree.eta (t : Tree) : t = .node t.kind t.key t.own t.kids := by cases t; rfl
mutual
def sizeT : Tree → Nat
  | .node _ _ _ b => 1 + sizeL b
def sizeL : List Tree → Nat
  | [] => 0
  | t :: ts => sizeT t + sizeL ts
end
mutual
def depT : Tree → Nat
  | .node _ _ _ b => 1 + depL b
def depL : List Tree → Nat
  | [] => 0
  | t :: ts => max (depT t) (depL ts)
end
mutual
/-- the owners, each before those below it -/
def ownT : Tree → List NestedKey
  | .node _ _ o b => o :: ownL b
def ownL : List Tree → List NestedKey
  | [] => []
  | t :: ts => ownT t ++ ownL ts
end
mutual
/-- its texts are of plain signs -/
def okN : NestedKey → Bool
  | .none => true
  | .num _ => true
  | .text x => PyData.strOk x
  | .tup ks => okNs ks
def okNs : List NestedKey → Bool
  | [] => true
  | k :: ks => okN k && okNs ks
end
def flK (k : NestedKey) : Bool := decide (k.depth = 0) && okN k
def flY (k : NestedKey) : Bool := decide (k.depth ≤ 2) && okN k
theorem flK_dep {k : NestedKey} (h : flK k = true) : k.depth = 0 := by
  rw [flK, Bool.and_eq_true] at h
  exact of_decide_eq_true h.1
mutual
/-- kinds are flat, keys are at most two deep, owners at most three -/
def fitT : Tree → Bool
  | .node k y o b => flK k && flY y && decide (o.depth ≤ 3) && fitL b
def fitL : List Tree → Bool
  | [] => true
  | t :: ts => fitT t && fitL ts
end
theorem sizeL_append (a b : List Tree) : sizeL (a ++ b) = sizeL a + sizeL b := by
  induction a with
  | nil => simp [sizeL]
  | cons t ts ih => simp only [List.cons_append, sizeL, ih]; omega
theorem ownL_append (a b : List Tree) : ownL (a ++ b) = ownL a ++ ownL b := by
  induction a with
  | nil => simp [ownL]
  | cons t ts ih => simp only [List.cons_append, ownL, ih, List.append_assoc]
theorem fitL_append (a b : List Tree) : fitL (a ++ b) = (fitL a && fitL b) := by
  induction a with
  | nil => simp [fitL]
  | cons t ts ih => simp only [List.cons_append, fitL, ih, Bool.and_assoc]
theorem depL_append (a b : List Tree) : depL (a ++ b) = max (depL a) (depL b) := by
  induction a with
  | nil => simp [depL]
  | cons t ts ih => simp only [List.cons_append, depL, ih]; omega
theorem sizeL_len : ∀ ts : List Tree, ts.length ≤ sizeL ts
  | [] => by simp [sizeL]
  | .node k y o b :: ts => by
    have := sizeL_len ts
    simp only [List.length_cons, sizeL, sizeT]
    omega
theorem fitL_get {ts : List Tree} {i : Nat} {t : Tree} (h : fitL ts = true) (e : ts[i]? = some t) : fitT t = true := by
  induction ts generalizing i with
  | nil => simp at e
  | cons u us ih =>
    rw [fitL, Bool.and_eq_true] at h
    cases i with
    | zero => simp at e; subst e; exact h.1
    | succ j => exact ih h.2 (by simpa using e)
theorem fitT_at {t : Tree} (h : fitT t = true) : t.kind.depth = 0 ∧ t.key.depth ≤ 2 ∧ t.own.depth ≤ 3 ∧ fitL t.kids = true := by
  cases t with
  | node k y o b =>
    simp only [fitT, flK, flY, Bool.and_eq_true, decide_eq_true_eq] at h
    exact ⟨h.1.1.1.1, h.1.1.2.1, h.1.2, h.2⟩
theorem fitT_fl {t : Tree} (h : fitT t = true) : flK t.kind = true ∧ flY t.key = true := by
  cases t with
  | node k y o b =>
    simp only [fitT, Bool.and_eq_true, decide_eq_true_eq] at h
    exact ⟨h.1.1.1, h.1.1.2⟩
theorem depL_get {ts : List Tree} {i : Nat} {t : Tree} (e : ts[i]? = some t) : depT t ≤ depL ts := by
  induction ts generalizing i with
  | nil => simp at e
  | cons u us ih =>
    cases i with
    | zero => simp at e; subst e; simp only [depL]; omega
    | succ j => have := ih (by simpa using e); simp only [depL]; omega
theorem depT_below (t : Tree) : depT t = 1 + depL t.kids := by cases t; rfl
theorem sizeL_get {ts : List Tree} {i : Nat} {t : Tree} (e : ts[i]? = some t) : sizeT t ≤ sizeL ts := by
  induction ts generalizing i with
  | nil => simp at e
  | cons u us ih =>
    cases i with
    | zero => simp at e; subst e; simp only [sizeL]; omega
    | succ j => have := ih (by simpa using e); simp only [sizeL]; omega
theorem sizeT_below (t : Tree) : sizeT t = 1 + sizeL t.kids := by cases t; rfl

/-! ### the law's own trees: lists of tuples (kind, key, owner, below) -/
mutual
inductive TrT (M : List Addr) (H : Hp) : V → Tree → Prop
  | mk {a b : Addr} {vk vy vo : V} {vs : List V} {k y o : NestedKey} {ts : List Tree} : H a = some (.tup [vk, vy, vo, .ref b]) → NK H vk k → NK H vy y → NK H vo o → H b = some (.lst vs) → b ∉ M → TrL M H vs ts → TrT M H (.ref a) (.node k y o ts)
inductive TrL (M : List Addr) (H : Hp) : List V → List Tree → Prop
  | nil : TrL M H [] []
  | cons {v : V} {t : Tree} {vs : List V} {ts : List Tree} : TrT M H v t → TrL M H vs ts → TrL M H (v :: vs) (t :: ts)
end
mutual
theorem TrT.keep {M : List Addr} {H H' : Hp} (ht : ∀ b xs, H b = some (.tup xs) → H' b = some (.tup xs)) (hl : ∀ b xs, b ∉ M → H b = some (.lst xs) → H' b = some (.lst xs)) : ∀ (t : Tree) (v : V), TrT M H v t → TrT M H' v t
  | .node _ _ _ ts, _, r => by
    cases r with
    | mk h1 h2 h3 h4 h5 h6 h7 => exact .mk (ht _ _ h1) (NK.mono ht _ _ h2) (NK.mono ht _ _ h3) (NK.mono ht _ _ h4) (hl _ _ h6 h5) h6 (TrL.keep ht hl ts _ h7)
theorem TrL.keep {M : List Addr} {H H' : Hp} (ht : ∀ b xs, H b = some (.tup xs) → H' b = some (.tup xs)) (hl : ∀ b xs, b ∉ M → H b = some (.lst xs) → H' b = some (.lst xs)) : ∀ (ts : List Tree) (vs : List V), TrL M H vs ts → TrL M H' vs ts
  | [], _, r => by cases r; exact .nil
  | t :: ts, _, r => by
    cases r with
    | cons h1 h2 => exact .cons (TrT.keep ht hl t _ h1) (TrL.keep ht hl ts _ h2)
end
theorem TrL.sm {M : List Addr} {H H' : Hp} {vs : List V} {ts : List Tree} (r : TrL M H vs ts) (l : MutL M H) (e : Sm M H H') : TrL M H' vs ts := TrL.keep (l.tup e) (fun b xs n h => e b _ h n) ts vs r
theorem TrL.same {M : List Addr} {H H' : Hp} {vs : List V} {ts : List Tree} (r : TrL M H vs ts) (e : Same H H') : TrL M H' vs ts := TrL.keep (fun b xs h => e b _ h) (fun b xs _ h => e b _ h) ts vs r
theorem TrT.sm {M : List Addr} {H H' : Hp} {v : V} {t : Tree} (r : TrT M H v t) (l : MutL M H) (e : Sm M H H') : TrT M H' v t := TrT.keep (l.tup e) (fun b xs n h => e b _ h n) t v r
theorem TrT.same {M : List Addr} {H H' : Hp} {v : V} {t : Tree} (r : TrT M H v t) (e : Same H H') : TrT M H' v t := TrT.keep (fun b xs h => e b _ h) (fun b xs _ h => e b _ h) t v r
theorem TrL.len {M : List Addr} {H : Hp} : ∀ {vs : List V} {ts : List Tree}, TrL M H vs ts → vs.length = ts.length
  | _, _, .nil => rfl
  | _, _, .cons _ r => by rw [List.length_cons, List.length_cons, TrL.len r]
theorem TrL.get {M : List Addr} {H : Hp} : ∀ {vs : List V} {ts : List Tree} {i : Nat} {v : V}, TrL M H vs ts → vs[i]? = some v → ∃ t, ts[i]? = some t ∧ TrT M H v t
  | _, _, _, _, .nil, e => by simp at e
  | _, _, 0, _, .cons r _, e => by simp at e; subst e; exact ⟨_, rfl, r⟩
  | _, _, i + 1, v, .cons _ r, e => by
    obtain ⟨t, h1, h2⟩ := TrL.get (i := i) (v := v) r (by simpa using e)
    exact ⟨t, by simpa using h1, h2⟩
theorem TrL.append {M : List Addr} {H : Hp} : ∀ {vs ws : List V} {ts us : List Tree}, TrL M H vs ts → TrL M H ws us → TrL M H (vs ++ ws) (ts ++ us)
  | _, _, _, _, .nil, s => s
  | _, _, _, _, .cons r t, s => .cons r (TrL.append t s)
theorem TrL.take {M : List Addr} {H : Hp} : ∀ {vs : List V} {ts : List Tree} (n : Nat), TrL M H vs ts → TrL M H (vs.take n) (ts.take n)
  | _, _, 0, _ => .nil
  | _, _, _ + 1, .nil => .nil
  | _, _, n + 1, .cons r t => .cons r (TrL.take n t)
theorem TrL.drop {M : List Addr} {H : Hp} : ∀ {vs : List V} {ts : List Tree} (n : Nat), TrL M H vs ts → TrL M H (vs.drop n) (ts.drop n)
  | _, _, 0, r => r
  | _, _, _ + 1, .nil => .nil
  | _, _, n + 1, .cons _ t => TrL.drop n t
theorem TrL.snoc {M : List Addr} {H : Hp} {vs : List V} {ts : List Tree} {v : V} {t : Tree} (r : TrL M H vs ts) (h : TrT M H v t) : TrL M H (vs ++ [v]) (ts ++ [t]) := r.append (.cons h .nil)

mutual
theorem TrT.weak {M M' : List Addr} {H : Hp} (h : ∀ b, b ∈ M' → b ∈ M) : ∀ (t : Tree) (v : V), TrT M H v t → TrT M' H v t
  | .node _ _ _ ts, _, r => by
    cases r with
    | mk h1 h2 h3 h4 h5 h6 h7 => exact .mk h1 h2 h3 h4 h5 (fun z => h6 (h _ z)) (TrL.weak h ts _ h7)
theorem TrL.weak {M M' : List Addr} {H : Hp} (h : ∀ b, b ∈ M' → b ∈ M) : ∀ (ts : List Tree) (vs : List V), TrL M H vs ts → TrL M' H vs ts
  | [], _, r => by cases r; exact .nil
  | t :: ts, _, r => by
    cases r with
    | cons h1 h2 => exact .cons (TrT.weak h t _ h1) (TrL.weak h ts _ h2)
end
mutual
theorem TrT.out {M M' : List Addr} {H : Hp} (h : ∀ b xs, H b = some (.lst xs) → b ∉ M → b ∉ M') : ∀ (t : Tree) (v : V), TrT M H v t → TrT M' H v t
  | .node _ _ _ ts, _, r => by
    cases r with
    | mk h1 h2 h3 h4 h5 h6 h7 => exact .mk h1 h2 h3 h4 h5 (h _ _ h5 h6) (TrL.out h ts _ h7)
theorem TrL.out {M M' : List Addr} {H : Hp} (h : ∀ b xs, H b = some (.lst xs) → b ∉ M → b ∉ M') : ∀ (ts : List Tree) (vs : List V), TrL M H vs ts → TrL M' H vs ts
  | [], _, r => by cases r; exact .nil
  | t :: ts, _, r => by
    cases r with
    | cons h1 h2 => exact .cons (TrT.out h t _ h1) (TrL.out h ts _ h2)
end
theorem TrL.tail {M : List Addr} {D : Addr} {H : Hp} {vs : List V} {ts : List Tree} (r : TrL (D :: M) H vs ts) : TrL M H vs ts := TrL.weak (fun b h => List.mem_cons_of_mem _ h) ts vs r
/-- a list of M is written -/
theorem TrL.put {M : List Addr} {D : Addr} {H : Hp} {vs xs : List V} {ts : List Tree} {o : HO} (r : TrL M H vs ts) (hD : H D = some (.lst xs)) (hm : D ∈ M) : TrL M (L2.upd H D o) vs ts :=
  TrL.keep (fun b ys e => by rw [upd_ne (ne_of e hD (by intro z; cases z))]; exact e) (fun b ys n e => by rw [upd_ne (fun z => n (by rw [z]; exact hm))]; exact e) ts vs r
/-! ### the program's nodes: instances of the class C -/
def ndF (vk vy vo vb : V) : List (Str × V) := putF "nodes" vb (putF "owner" vo (putF "key" vy (putF "kind" vk [])))
mutual
inductive NdT (M : List Addr) (C : Addr) (H : Hp) : V → Tree → Prop
  | mk {a dx b : Addr} {vk vy vo : V} {vs : List V} {k y o : NestedKey} {ts : List Tree} : H a = some (.ins C dx (ndF vk vy vo (.ref b))) → NK H vk k → NK H vy y → NK H vo o → H b = some (.lst vs) → b ∉ M → NdL M C H vs ts → NdT M C H (.ref a) (.node k y o ts)
inductive NdL (M : List Addr) (C : Addr) (H : Hp) : List V → List Tree → Prop
  | nil : NdL M C H [] []
  | cons {v : V} {t : Tree} {vs : List V} {ts : List Tree} : NdT M C H v t → NdL M C H vs ts → NdL M C H (v :: vs) (t :: ts)
end
/-- lists of M may change, M may shrink -/
structure Kp (M M' : List Addr) (H H' : Hp) : Prop where
  tup : ∀ b xs, H b = some (.tup xs) → H' b = some (.tup xs)
  lst : ∀ b xs, b ∉ M → H b = some (.lst xs) → H' b = some (.lst xs)
  ins : ∀ b C dx fs, H b = some (.ins C dx fs) → H' b = some (.ins C dx fs)
  sub : ∀ b, b ∈ M' → b ∈ M
mutual
theorem NdT.keep {M M' : List Addr} {C : Addr} {H H' : Hp} (e : Kp M M' H H') : ∀ (t : Tree) (v : V), NdT M C H v t → NdT M' C H' v t
  | .node _ _ _ ts, _, r => by
    cases r with
    | mk h1 h2 h3 h4 h5 h6 h7 => exact .mk (e.ins _ _ _ _ h1) (NK.mono e.tup _ _ h2) (NK.mono e.tup _ _ h3) (NK.mono e.tup _ _ h4) (e.lst _ _ h6 h5) (fun z => h6 (e.sub _ z)) (NdL.keep e ts _ h7)
theorem NdL.keep {M M' : List Addr} {C : Addr} {H H' : Hp} (e : Kp M M' H H') : ∀ (ts : List Tree) (vs : List V), NdL M C H vs ts → NdL M' C H' vs ts
  | [], _, r => by cases r; exact .nil
  | t :: ts, _, r => by
    cases r with
    | cons h1 h2 => exact .cons (NdT.keep e t _ h1) (NdL.keep e ts _ h2)
end
theorem Kp.same {M : List Addr} {H H' : Hp} (e : Same H H') : Kp M M H H' := ⟨fun b xs h => e _ _ h, fun b xs _ h => e _ _ h, fun b C dx fs h => e _ _ h, fun _ h => h⟩
theorem Kp.weak {M M' : List Addr} {H : Hp} (h : ∀ b, b ∈ M' → b ∈ M) : Kp M M' H H := ⟨fun b xs h => h, fun b xs _ h => h, fun b C dx fs h => h, h⟩
theorem Kp.put {M : List Addr} {H : Hp} {D : Addr} {xs : List V} {o : HO} (hD : H D = some (.lst xs)) (hm : D ∈ M) : Kp M M H (upd H D o) :=
  ⟨fun b ys e => by rw [upd_ne (ne_of e hD (by intro z; cases z))]; exact e, fun b ys n e => by rw [upd_ne (fun z => n (by rw [z]; exact hm))]; exact e,
   fun b C dx fs e => by rw [upd_ne (ne_of e hD (by intro z; cases z))]; exact e, fun _ h => h⟩
theorem NdL.same {M : List Addr} {C : Addr} {H H' : Hp} {vs : List V} {ts : List Tree} (r : NdL M C H vs ts) (e : Same H H') : NdL M C H' vs ts := NdL.keep (Kp.same e) ts vs r
theorem NdT.same {M : List Addr} {C : Addr} {H H' : Hp} {v : V} {t : Tree} (r : NdT M C H v t) (e : Same H H') : NdT M C H' v t := NdT.keep (Kp.same e) t v r
theorem NdL.free {M : List Addr} {C : Addr} {H : Hp} {vs : List V} {ts : List Tree} (r : NdL M C H vs ts) : NdL [] C H vs ts := NdL.keep (Kp.weak fun _ h => by cases h) ts vs r
theorem NdT.free {M : List Addr} {C : Addr} {H : Hp} {v : V} {t : Tree} (r : NdT M C H v t) : NdT [] C H v t := NdT.keep (Kp.weak fun _ h => by cases h) t v r
theorem NdL.len {M : List Addr} {C : Addr} {H : Hp} : ∀ {vs : List V} {ts : List Tree}, NdL M C H vs ts → vs.length = ts.length
  | _, _, .nil => rfl
  | _, _, .cons _ r => by rw [List.length_cons, List.length_cons, NdL.len r]
theorem NdL.get {M : List Addr} {C : Addr} {H : Hp} : ∀ {vs : List V} {ts : List Tree} {i : Nat} {v : V}, NdL M C H vs ts → vs[i]? = some v → ∃ t, ts[i]? = some t ∧ NdT M C H v t
  | _, _, _, _, .nil, e => by simp at e
  | _, _, 0, _, .cons r _, e => by simp at e; subst e; exact ⟨_, rfl, r⟩
  | _, _, i + 1, v, .cons _ r, e => by
    obtain ⟨t, h1, h2⟩ := NdL.get (i := i) (v := v) r (by simpa using e)
    exact ⟨t, by simpa using h1, h2⟩
theorem NdL.append {M : List Addr} {C : Addr} {H : Hp} : ∀ {vs ws : List V} {ts us : List Tree}, NdL M C H vs ts → NdL M C H ws us → NdL M C H (vs ++ ws) (ts ++ us)
  | _, _, _, _, .nil, s => s
  | _, _, _, _, .cons r t, s => .cons r (NdL.append t s)
/-! with every list of it outside of M -/
mutual
theorem NdT.out {M M' : List Addr} {C : Addr} {H : Hp} (h : ∀ b xs, H b = some (.lst xs) → b ∉ M → b ∉ M') : ∀ (t : Tree) (v : V), NdT M C H v t → NdT M' C H v t
  | .node _ _ _ ts, _, r => by
    cases r with
    | mk h1 h2 h3 h4 h5 h6 h7 => exact .mk h1 h2 h3 h4 h5 (h _ _ h5 h6) (NdL.out h ts _ h7)
theorem NdL.out {M M' : List Addr} {C : Addr} {H : Hp} (h : ∀ b xs, H b = some (.lst xs) → b ∉ M → b ∉ M') : ∀ (ts : List Tree) (vs : List V), NdL M C H vs ts → NdL M' C H vs ts
  | [], _, r => by cases r; exact .nil
  | t :: ts, _, r => by
    cases r with
    | cons h1 h2 => exact .cons (NdT.out h t _ h1) (NdL.out h ts _ h2)
end
theorem ndF_kind (vk vy vo vb : V) : (ndF vk vy vo vb).lookup ("kind" : Str) = some vk := by
  unfold ndF
  rw [lookup_putF, if_neg (by decide +kernel), lookup_putF, if_neg (by decide +kernel), lookup_putF, if_neg (by decide +kernel), lookup_putF, if_pos rfl]
theorem ndF_key (vk vy vo vb : V) : (ndF vk vy vo vb).lookup ("key" : Str) = some vy := by
  unfold ndF
  rw [lookup_putF, if_neg (by decide +kernel), lookup_putF, if_neg (by decide +kernel), lookup_putF, if_pos rfl]
theorem ndF_owner (vk vy vo vb : V) : (ndF vk vy vo vb).lookup ("owner" : Str) = some vo := by
  unfold ndF
  rw [lookup_putF, if_neg (by decide +kernel), lookup_putF, if_pos rfl]
theorem ndF_nodes (vk vy vo vb : V) : (ndF vk vy vo vb).lookup ("nodes" : Str) = some vb := by
  unfold ndF
  rw [lookup_putF, if_pos rfl]
theorem ndF_no (vk vy vo vb : V) {m : Str} (h1 : ¬ m = "nodes") (h2 : ¬ m = "owner") (h3 : ¬ m = "key") (h4 : ¬ m = "kind") : (ndF vk vy vo vb).lookup m = none := by
  unfold ndF
  rw [lookup_putF, if_neg h1, lookup_putF, if_neg h2, lookup_putF, if_neg h3, lookup_putF, if_neg h4]
  rfl

/-! ### promises -/
def spKey : Sp := fun vs H Q _ => ∃ (st cs : Addr), vs = [.ref st] ∧ Stm H st cs ∧
  ∀ (v : V) (k : NestedKey) (H' : Hp), NK H' v k → flY k = true → Stm H' st cs → Sm [st, cs] H H' → Q v H'
theorem atI_small {xs : List V} {r : Int} (h0 : 0 ≤ r) (h1 : r < (xs.length : Int)) : ∃ v, atI xs r = some v ∧ v ∈ xs := by
  obtain ⟨n, rfl⟩ : ∃ n : Nat, r = (n : Int) := ⟨_, (Int.toNat_of_nonneg h0).symm⟩
  have hn : n < xs.length := by omega
  exact ⟨xs[n], atI_nat (List.getElem?_eq_getElem hn), List.getElem_mem hn⟩
/-- a tuple of keys that was just laid -/
theorem NK.laid {H : Hp} {p : Addr} {xs : List V} {ks : List NestedKey} (n : H p = none) (h : NKs H xs ks) : NK (L2.upd H p (.tup xs)) (.ref p) (.tup ks) := .tup upd_same (h.same (same_add n))
theorem fn_false {P : Program} {w : World} {K : PySem.W.Frag} {mg : Str → Option Value} {base : Heap} {CX : CXT} {k : Nat} {f : Addr} {fd : FuncData} {ps : List Str} {sp : Sp} (h : ∀ vs H Q E, ¬ sp vs H Q E) : FnOk P w K mg base CX k f fd ps sp :=
  ⟨fun vs H Q E q => (h _ _ _ _ q).elim, fun A outer s H args us vs Q E _ _ _ _ q => (h _ _ _ _ q).elim⟩
theorem MutL.cons {M : List Addr} {H : Hp} {D : Addr} {xs : List V} (l : MutL M H) (h : H D = some (.lst xs)) : MutL (D :: M) H := fun a ha => by
  rcases List.mem_cons.mp ha with rfl | ha
  · exact ⟨_, h⟩
  · exact l a ha
theorem MutL.put {M : List Addr} {H : Hp} {D : Addr} {xs : List V} (l : MutL M H) : MutL M (L2.upd H D (.lst xs)) := fun a ha => by
  by_cases h : a = D
  · subst h; exact ⟨_, upd_same⟩
  · rw [upd_ne h]; exact l a ha
theorem MutL.tail {M : List Addr} {H : Hp} {D : Addr} (l : MutL (D :: M) H) : MutL M H := fun a ha => l a (List.mem_cons_of_mem _ ha)
theorem MutL.same {M : List Addr} {H H' : Hp} (l : MutL M H) (e : Same H H') : MutL M H' := fun a ha => let ⟨xs, q⟩ := l a ha; ⟨xs, e _ _ q⟩
theorem MutL.step {M : List Addr} {H H' : Hp} {st cs : Addr} (l : MutL M H) (S : Stm H' st cs) (e : Sm [st, cs] H H') : MutL M H' := fun a ha => by
  by_cases h1 : a = st
  · subst h1
    obtain ⟨ns, k, q, _⟩ := S.ex
    exact ⟨_, q⟩
  · by_cases h2 : a = cs
    · subst h2
      obtain ⟨ns, k, _, q, _⟩ := S.ex
      exact ⟨_, q⟩
    · obtain ⟨xs, q⟩ := l a ha
      exact ⟨xs, e a _ q (by simp [h1, h2])⟩
/-- the owner of a drawn node: its path, one number -/
def ownOf (p : List Int) (r : Int) : NestedKey := .tup [.tup (p.map .num), .tup [.num r]]
theorem ownOf_inj {p q : List Int} {r s : Int} (h : ownOf p r = ownOf q s) : p = q := by
  unfold ownOf at h
  injection h with h
  injection h with h _
  injection h with h
  exact List.map_inj_right (fun a b e => by injection e) |>.mp h
structure OwnOk (path : List Int) (ts : List Tree) : Prop where
  nd : (ownL ts).Nodup
  at_ : ∀ o ∈ ownL ts, ∃ (k : Nat) (rest : List Int) (r : Int), k < ts.length ∧ o = ownOf (path ++ (k : Int) :: rest) r
theorem OwnOk.nil (path : List Int) : OwnOk path [] := ⟨List.nodup_nil, fun o h => nomatch h⟩
theorem OwnOk.snoc {path : List Int} {ts bs : List Tree} {k y : NestedKey} {r : Int} (h : OwnOk path ts) (hb : OwnOk (path ++ [(ts.length : Int), 0]) bs) :
    OwnOk path (ts ++ [.node k y (ownOf (path ++ [(ts.length : Int)]) r) bs]) := by
  have e : ownL (ts ++ [.node k y (ownOf (path ++ [(ts.length : Int)]) r) bs]) = ownL ts ++ (ownOf (path ++ [(ts.length : Int)]) r :: ownL bs) := by
    rw [ownL_append]; simp [ownL, ownT]
  constructor
  · rw [e, List.nodup_append]
    refine ⟨h.nd, List.nodup_cons.mpr ⟨fun hm => ?_, hb.nd⟩, fun a ha b hb' hab => ?_⟩
    · obtain ⟨k, rest, r', _, q⟩ := hb.at_ _ hm
      have := congrArg List.length (ownOf_inj q)
      simp at this
    · subst hab
      obtain ⟨k, rest, r', hk, q⟩ := h.at_ _ ha
      have key : ∀ (x : List Int) (y : Int), a = ownOf (path ++ (ts.length : Int) :: x) y → False := fun x y z => by
        have := ownOf_inj (q.symm.trans z)
        have := List.append_cancel_left this
        injection this with h1 _
        omega
      rcases List.mem_cons.mp hb' with z | z
      · exact key [] r z
      · obtain ⟨k2, rest2, r2, _, q2⟩ := hb.at_ _ z
        exact key (0 :: (k2 : Int) :: rest2) r2 (by rw [q2]; simp)
  · intro o ho
    rw [e, List.mem_append] at ho
    rw [List.length_append, List.length_singleton]
    rcases ho with ho | ho
    · obtain ⟨k, rest, r', hk, q⟩ := h.at_ _ ho
      exact ⟨k, rest, r', by omega, q⟩
    · rcases List.mem_cons.mp ho with z | z
      · exact ⟨ts.length, [], r, by omega, z⟩
      · obtain ⟨k2, rest2, r2, _, q2⟩ := hb.at_ _ z
        exact ⟨ts.length, 0 :: (k2 : Int) :: rest2, r2, by omega, by rw [q2]; simp⟩
def bnd (m : Nat) : Nat → Nat
  | 0 => 0
  | n + 1 => m * (1 + bnd m n)
/-- a drawn tree -/
structure Drawn (m n : Nat) (path : List Int) (ts : List Tree) : Prop where
  own : OwnOk path ts
  fit : fitL ts = true
  dep : depL ts ≤ n
  siz : sizeL ts ≤ bnd m n
  len : ts.length ≤ m
def spTree (m n : Nat) : Sp := fun vs H Q _ => ∃ (M : List Addr) (st cs pl : Addr) (path : List Int), vs = [.ref st, .int (m : Int), .int (n : Int), .ref pl] ∧ 0 < n ∧ m < 100 ∧ path.length + 2 * n < 1000 ∧ bnd m n < 1000000 ∧ Stm H st cs ∧ MutL M H ∧ st ∈ M ∧ cs ∈ M ∧ H pl = some (.tup (path.map V.int)) ∧
  ∀ (a : Addr) (xs : List V) (ts : List Tree) (H' : Hp), H' a = some (.lst xs) → H a = none → TrL M H' xs ts → Drawn m n path ts → Stm H' st cs → Sm [st, cs] H H' → Q (.ref a) H'
def spBuilt (C : Addr) (n : Nat) : Sp := fun vs H Q _ => ∃ (M N : List Addr) (a : Addr) (xs : List V) (ts : List Tree), vs = [.ref a] ∧ H a = some (.lst xs) ∧ TrL M H xs ts ∧ depL ts < n ∧ sizeL ts < 1000000 ∧ MutL N H ∧
  ∀ (b : Addr) (ys : List V) (H' : Hp), H b = none → H' b = some (.lst ys) → NdL N C H' ys ts → Same H H' → Q (.ref b) H'
theorem bnd_le {m n i : Nat} (h : i ≤ m) : i * (1 + bnd m n) ≤ bnd m (n + 1) := Nat.mul_le_mul_right _ h
theorem bnd_step (m n : Nat) (hm : 0 < m) : bnd m n ≤ bnd m (n + 1) := by
  show bnd m n ≤ m * (1 + bnd m n)
  have : 1 * (1 + bnd m n) ≤ m * (1 + bnd m n) := Nat.mul_le_mul_right _ hm
  omega
theorem nk_menu {H : Hp} {v : V} (h : v ∈ [V.non, V.str "p", V.str "q"]) : ∃ k : NestedKey, NK H v k ∧ flK k = true := by
  simp only [List.mem_cons, List.not_mem_nil, or_false] at h
  rcases h with rfl | rfl | rfl
  · exact ⟨_, .non, by decide +kernel⟩
  · exact ⟨_, .str _, by decide +kernel⟩
  · exact ⟨_, .str _, by decide +kernel⟩
theorem NK.flat {H H' : Hp} {v : V} {k : NestedKey} (h : NK H v k) (hd : k.depth = 0) : NK H' v k := by
  cases h with
  | non => exact .non
  | int i => exact .int i
  | str x => exact .str x
  | tup _ _ => simp [NestedKey.depth] at hd
theorem nat200 {z : Int} (h0 : 0 ≤ z) (h : z < 1000000) : z.natAbs < 2 ^ 200 := Nat.lt_of_lt_of_le (show z.natAbs < 1000000 by omega) (by decide)
theorem ints_depth : ∀ p : List Int, NestedKey.depthAll (p.map NestedKey.num) = 0
  | [] => rfl
  | x :: p => by simp [NestedKey.depthAll, NestedKey.depth, ints_depth p]
theorem ownOf_depth (p : List Int) (r : Int) : (ownOf p r).depth = 2 := by
  simp [ownOf, NestedKey.depth, NestedKey.depthAll, ints_depth]
theorem nks_ints {H : Hp} : ∀ p : List Int, NKs H (p.map V.int) (p.map NestedKey.num)
  | [] => .nil
  | x :: p => .cons (.int x) (nks_ints p)
end G
set_option Elab.async false
set_option linter.all false
namespace G
open PySem
/-! ### slots, matched nodes: the mathematics -/
def cntK (ts : List Tree) (k y : NestedKey) : Nat := (ts.filter fun u => decide (u.kind = k) && decide (u.key = y)).length
def cntN (ts : List Tree) : Nat := (ts.filter fun u => decide (u.key = .none)).length
def numAt (all : Bool) (pre : List Tree) (t : Tree) : Nat := if t.key = .none then (if all then pre.length else cntN pre) else cntK pre t.kind t.key
def slot (all : Bool) (pre : List Tree) (t : Tree) : NestedKey := .tup [t.kind, t.key, .num (numAt all pre t : Int)]
def slotsFrom (all : Bool) : List Tree → List Tree → List NestedKey
  | _, [] => []
  | pre, t :: ts => slot all pre t :: slotsFrom all (pre ++ [t]) ts
def slots (all : Bool) (ts : List Tree) : List NestedKey := slotsFrom all [] ts
theorem slotsFrom_snoc (all : Bool) (t : Tree) : ∀ (xs pre : List Tree), slotsFrom all pre (xs ++ [t]) = slotsFrom all pre xs ++ [slot all (pre ++ xs) t]
  | [], pre => by simp [slotsFrom]
  | x :: xs, pre => by
    rw [List.cons_append, slotsFrom, slotsFrom, slotsFrom_snoc all t xs (pre ++ [x])]
    simp
theorem slots_snoc (all : Bool) (xs : List Tree) (t : Tree) : slots all (xs ++ [t]) = slots all xs ++ [slot all xs t] := by
  unfold slots
  rw [slotsFrom_snoc]
  simp
theorem slots_len (all : Bool) : ∀ (ts pre : List Tree), (slotsFrom all pre ts).length = ts.length
  | [], _ => rfl
  | t :: ts, pre => by simp [slotsFrom, slots_len all ts]
theorem slots_length (all : Bool) (ts : List Tree) : (slots all ts).length = ts.length := slots_len all ts []
theorem cntN_snoc (xs : List Tree) (t : Tree) : cntN (xs ++ [t]) = cntN xs + (if t.key = .none then 1 else 0) := by
  unfold cntN
  rw [List.filter_append, List.length_append]
  by_cases h : t.key = .none <;> simp [h, List.filter_cons]
theorem cntK_snoc (xs : List Tree) (t : Tree) (k y : NestedKey) : cntK (xs ++ [t]) k y = cntK xs k y + (if t.kind = k ∧ t.key = y then 1 else 0) := by
  unfold cntK
  rw [List.filter_append, List.length_append]
  by_cases h : t.kind = k <;> by_cases h2 : t.key = y <;> simp [h, h2, List.filter_cons]
theorem slots_get (all : Bool) : ∀ (ts pre : List Tree) (i : Nat) (t : Tree), ts[i]? = some t → (slotsFrom all pre ts)[i]? = some (slot all (pre ++ ts.take i) t)
  | [], _, _, _, e => by simp at e
  | u :: us, pre, 0, t, e => by simp at e; subst e; simp [slotsFrom]
  | u :: us, pre, i + 1, t, e => by
    rw [slotsFrom, List.getElem?_cons_succ, slots_get all us (pre ++ [u]) i t (by simpa using e)]
    simp
theorem slot_at (all : Bool) {ts : List Tree} {i : Nat} {t : Tree} (e : ts[i]? = some t) : (slots all ts)[i]? = some (slot all (ts.take i) t) := by
  have := slots_get all ts [] i t e
  simpa [slots] using this
theorem slot_depth {all : Bool} {pre : List Tree} {t : Tree} (h : fitT t = true) : (slot all pre t).depth ≤ 3 := by
  obtain ⟨h1, h2, _⟩ := fitT_at h
  simp only [slot, NestedKey.depth, NestedKey.depthAll]
  omega
/-- the node of a slot, the last one -/
def findP (ps : List (NestedKey × Tree)) (s : NestedKey) : Option Tree := (ps.reverse.find? fun p => decide (p.1 = s)).map (·.2)
def findS (all : Bool) (old : List Tree) (s : NestedKey) : Option Tree := findP ((slots all old).zip old) s
theorem findP_snoc (ps : List (NestedKey × Tree)) (k : NestedKey) (t : Tree) (s : NestedKey) : findP (ps ++ [(k, t)]) s = if s = k then some t else findP ps s := by
  unfold findP
  rw [List.reverse_append, List.reverse_singleton, List.singleton_append, List.find?_cons]
  by_cases h : s = k
  · subst h; simp
  · rw [if_neg h]
    have : ¬ k = s := fun z => h z.symm
    simp [this]
theorem findS_get {all : Bool} {old : List Tree} {s : NestedKey} {u : Tree} (h : findS all old s = some u) : ∃ i : Nat, old[i]? = some u ∧ (slots all old)[i]? = some s := by
  unfold findS findP at h
  obtain ⟨p, hp, rfl⟩ := Option.map_eq_some_iff.mp h
  have h1 := List.mem_of_find?_eq_some hp
  have h2 : p.1 = s := of_decide_eq_true (List.find?_some (p := fun p : NestedKey × Tree => decide (p.1 = s)) hp)
  rw [List.mem_reverse] at h1
  obtain ⟨i, hi⟩ := List.mem_iff_getElem?.mp h1
  obtain ⟨g1, g2⟩ := List.getElem?_zip_eq_some.mp hi
  exact ⟨i, g2, by rw [g1, h2]⟩
mutual
def mT (all : Bool) (old pre : List Tree) : Tree → List (Tree × Tree)
  | .node k y o b => match findS all old (slot all pre (.node k y o b)) with
    | none => []
    | some u => (u, .node k y o b) :: mL all u.kids [] b
def mL (all : Bool) (old pre : List Tree) : List Tree → List (Tree × Tree)
  | [] => []
  | t :: ts => mT all old pre t ++ mL all old (pre ++ [t]) ts
end
theorem mL_snoc (all : Bool) (old : List Tree) (t : Tree) : ∀ (xs pre : List Tree), mL all old pre (xs ++ [t]) = mL all old pre xs ++ mT all old (pre ++ xs) t
  | [], pre => by simp [mL]
  | x :: xs, pre => by
    rw [List.cons_append, mL, mL, mL_snoc all old t xs (pre ++ [x])]
    simp
mutual
theorem mT_len (all : Bool) : ∀ (t : Tree) (old pre : List Tree), (mT all old pre t).length ≤ sizeT t
  | .node k y o b, old, pre => by
    rw [mT, sizeT]
    split
    · simp
    · rename_i u _
      have := mL_len all b u.kids []
      rw [List.length_cons]
      omega
theorem mL_len (all : Bool) : ∀ (ts old pre : List Tree), (mL all old pre ts).length ≤ sizeL ts
  | [], _, _ => by simp [mL]
  | t :: ts, old, pre => by
    rw [mL, sizeL, List.length_append]
    have h1 := mT_len all t old pre
    have h2 := mL_len all ts old (pre ++ [t])
    omega
end
end G
set_option Elab.async false
set_option linter.all false
set_option maxRecDepth 100000
set_option maxHeartbeats 4000000
namespace G
open PySem L2 Nd
/-! ### Node, Rule: promises -/
def SqA (K : PySem.W.Frag) (H : Hp) (a : Addr) (xs : List V) : Prop := SqL K H a xs ∨ SqT K H a xs
theorem SqA.upd {K : PySem.W.Frag} {H : Hp} {a p : Addr} {xs : List V} {C dx : Addr} {fs : List (Str × V)} {o : HO} (h : SqA K H a xs) (hp : H p = some (.ins C dx fs)) : SqA K (L2.upd H p o) a xs := by
  rcases h with ((h | ⟨u, h⟩) | h) | ((h | ⟨u, h⟩) | h)
  · exact .inl (.inl (.inl (by rw [upd_ne (ne_of h hp (by intro z; cases z))]; exact h)))
  · exact .inl (.inl (.inr ⟨u, by rw [upd_ne (ne_of h hp (by intro z; cases z))]; exact h⟩))
  · exact .inl (.inr h)
  · exact .inr (.inl (.inl (by rw [upd_ne (ne_of h hp (by intro z; cases z))]; exact h)))
  · exact .inr (.inl (.inr ⟨u, by rw [upd_ne (ne_of h hp (by intro z; cases z))]; exact h⟩))
  · exact .inr (.inr h)
def spNodeInit (K : PySem.W.Frag) (C : Addr) : Sp := fun vs H Q _ => ∃ (p dx a : Addr) (vk vy vo : V) (xs : List V), vs = [.ref p, vk, vy, vo, .ref a] ∧ H p = some (.ins C dx []) ∧ SqA K H a xs ∧
  ∀ (b : Addr) (H' : Hp), H b = none → H' p = some (.ins C dx (ndF vk vy vo (.ref b))) → H' b = some (.lst xs) → (∀ c o, H c = some o → c ≠ p → H' c = some o) → Q .non H'
def spBelow (C : Addr) : Sp := fun vs H Q _ => ∃ (p dx b : Addr) (vk vy vo : V) (xs : List V), vs = [.ref p] ∧ H p = some (.ins C dx (ndF vk vy vo (.ref b))) ∧ H b = some (.lst xs) ∧
  ∀ (a : Addr), H a = none → Q (.ref a) (upd H a (.lst xs))
theorem put_lt {f : Str} {v : V} {fs : List (Str × V)} {n : Nat} (h : fs.length < n) (hn : n < 1000) : (putF f v fs).length < n + 1 := by
  have := length_putF f v fs
  omega
/-- the fields of a rule -/
def ruF (z : Str) : List (Str × V) := putF "place" (.str z) []
theorem ruF_place (z : Str) : (ruF z).lookup ("place" : Str) = some (.str z) := by
  unfold ruF
  rw [lookup_putF, if_pos rfl]
theorem ruF_no (z : Str) {m : Str} (h1 : ¬ m = "place") : (ruF z).lookup m = none := by
  unfold ruF
  rw [lookup_putF, if_neg h1]
  rfl
def placeOf (all : Bool) : Str := if all then "all" else "plain"
def spRuleInit (C : Addr) : Sp := fun vs H Q _ => ∃ (p dx : Addr) (all : Bool), vs = [.ref p, .str (placeOf all)] ∧ H p = some (.ins C dx []) ∧
  ∀ (H' : Hp), H' p = some (.ins C dx (ruF (placeOf all))) → (∀ c o, H c = some o → c ≠ p → H' c = some o) → Q .non H'
theorem NK.non_iff {H : Hp} {v : V} {k : NestedKey} (h : NK H v k) : v = .non ↔ k = .none := by
  cases h with
  | non => simp
  | int i => simp
  | str x => simp
  | tup _ _ => simp
theorem keep_tup {H H' : Hp} {D : Addr} {o u : HO} (hD : H D = some u) (hu : ∀ xs, u ≠ .tup xs) : ∀ b xs, H b = some (.tup xs) → L2.upd H D o b = some (.tup xs) := fun b xs e => by
  rw [upd_ne (ne_of e hD (fun z => hu xs z.symm))]
  exact e
def spCall (C Cn : Addr) : Sp := fun vs H Q _ => ∃ (all : Bool) (r dx a : Addr) (xs : List V) (ts : List Tree), vs = [.ref r, .ref a] ∧ H r = some (.ins C dx (ruF (placeOf all))) ∧ H a = some (.lst xs) ∧ NdL [] Cn H xs ts ∧ fitL ts = true ∧ ts.length < 1000000 ∧
  ∀ (b : Addr) (ys : List V) (H' : Hp), H b = none → H' b = some (.lst ys) → NKs H' ys (slots all ts) → Same H H' → Q (.ref b) H'
/-- a list of pairs of nodes -/
inductive PrL (N : List Addr) (C : Addr) (H : Hp) : List V → List (Tree × Tree) → Prop
  | nil : PrL N C H [] []
  | cons {a : Addr} {x y : V} {t u : Tree} {vs : List V} {ps : List (Tree × Tree)} : H a = some (.tup [x, y]) → NdT N C H x t → NdT N C H y u → PrL N C H vs ps → PrL N C H (.ref a :: vs) ((t, u) :: ps)
theorem PrL.keep {N N' : List Addr} {C : Addr} {H H' : Hp} (e : Kp N N' H H') : ∀ {vs : List V} {ps : List (Tree × Tree)}, PrL N C H vs ps → PrL N' C H' vs ps
  | _, _, .nil => .nil
  | _, _, .cons h1 h2 h3 h4 => .cons (e.tup _ _ h1) (NdT.keep e _ _ h2) (NdT.keep e _ _ h3) (PrL.keep e h4)
theorem PrL.append {N : List Addr} {C : Addr} {H : Hp} : ∀ {vs ws : List V} {ps qs : List (Tree × Tree)}, PrL N C H vs ps → PrL N C H ws qs → PrL N C H (vs ++ ws) (ps ++ qs)
  | _, _, _, _, .nil, h => h
  | _, _, _, _, .cons h1 h2 h3 h4, h => .cons h1 h2 h3 (PrL.append h4 h)
theorem PrL.len {N : List Addr} {C : Addr} {H : Hp} : ∀ {vs : List V} {ps : List (Tree × Tree)}, PrL N C H vs ps → vs.length = ps.length
  | _, _, .nil => rfl
  | _, _, .cons _ _ _ h => by rw [List.length_cons, List.length_cons, PrL.len h]
theorem PrL.get {N : List Addr} {C : Addr} {H : Hp} : ∀ {vs : List V} {ps : List (Tree × Tree)} {i : Nat} {v : V}, PrL N C H vs ps → vs[i]? = some v → ∃ a x y t u, v = .ref a ∧ ps[i]? = some (t, u) ∧ H a = some (.tup [x, y]) ∧ NdT N C H x t ∧ NdT N C H y u
  | _, _, _, _, .nil, e => by simp at e
  | _, _, 0, _, .cons h1 h2 h3 _, e => by simp at e; subst e; exact ⟨_, _, _, _, _, rfl, rfl, h1, h2, h3⟩
  | _, _, i + 1, v, .cons _ _ _ h, e => by
    obtain ⟨a, x, y, t, u, h1, h2, h3⟩ := PrL.get (i := i) (v := v) h (by simpa using e)
    exact ⟨a, x, y, t, u, h1, by simpa using h2, h3⟩
def spMatched (C Cn : Addr) (n : Nat) : Sp := fun vs H Q _ => ∃ (N : List Addr) (all : Bool) (r dx a b : Addr) (xs ys : List V) (old new : List Tree), vs = [.ref r, .ref a, .ref b] ∧ H r = some (.ins C dx (ruF (placeOf all))) ∧ H a = some (.lst xs) ∧ H b = some (.lst ys) ∧
  NdL N Cn H xs old ∧ NdL N Cn H ys new ∧ fitL old = true ∧ fitL new = true ∧ sizeL old < 1000000 ∧ sizeL new < 1000000 ∧ depL new < n ∧
  ∀ (d : Addr) (vs : List V) (H' : Hp), H d = none → H' d = some (.lst vs) → PrL N Cn H' vs (mL all old [] new) → Same H H' → Q (.ref d) H'
def spMatch (C Cn : Addr) (n : Nat) : Sp := fun vs H Q _ => ∃ (N : List Addr) (all : Bool) (r dx a b : Addr) (xs ys : List V) (old new : List Tree), vs = [.ref r, .ref a, .ref b] ∧ H r = some (.ins C dx (ruF (placeOf all))) ∧ H a = some (.lst xs) ∧ H b = some (.lst ys) ∧
  NdL N Cn H xs old ∧ NdL N Cn H ys new ∧ fitL old = true ∧ fitL new = true ∧ sizeL old < 1000000 ∧ sizeL new < 1000000 ∧ depL new < n ∧
  ∀ (d : Addr) (vs : List V) (H' : Hp), H d = none → H' d = some (.lst vs) → NKs H' vs ((mL all old [] new).map fun p => .tup [p.1.own, p.2.own]) → Same H H' → Q (.ref d) H'
theorem place_eq (all : Bool) : decide (V.str (placeOf all) = V.str "all") = all := by cases all <;> decide +kernel
end G
set_option Elab.async false
set_option linter.all false
namespace G
open PySem
/-! ### edited trees: the mathematics -/
def fresh (n : Int) : NestedKey := .tup [.tup [.num 99, .num n], .tup []]
theorem fresh_inj {a b : Int} (h : fresh a = fresh b) : a = b := by
  unfold fresh at h
  injection h with h; injection h with h _; injection h with h; injection h with _ h; injection h with h _; injection h
theorem ownOf_ne_fresh (p : List Int) (r n : Int) : ownOf p r ≠ fresh n := fun h => by
  unfold ownOf fresh at h
  injection h with h; injection h with _ h; injection h with h _; injection h with h
  cases h
/-- no owner of it is a later fresh one -/
def OldTo (c : Int) (os : List NestedKey) : Prop := ∀ o ∈ os, ∀ n, o = fresh n → n ≤ c
structure Ed (c : Int) (os : List NestedKey) (d z : Nat) (c' : Int) (rs : List Tree) : Prop where
  le : c ≤ c'
  nd : (ownL rs).Nodup
  sub : ∀ o ∈ ownL rs, o ∈ os ∨ ∃ n, c < n ∧ n ≤ c' ∧ o = fresh n
  fit : fitL rs = true
  dep : depL rs ≤ d
  siz : sizeL rs ≤ 2 * z
theorem Ed.nil (c : Int) : Ed c [] 0 0 c [] := ⟨Int.le_refl _, List.nodup_nil, (fun o h => nomatch h), rfl, Nat.le_refl _, Nat.le_refl _⟩
theorem Ed.old {c : Int} {os : List NestedKey} {d z : Nat} {c' : Int} {rs : List Tree} (h : Ed c os d z c' rs) (ho : OldTo c os) : OldTo c' (ownL rs) := fun o hm n e => by
  rcases h.sub o hm with h1 | ⟨m, h1, h2, h3⟩
  · have := ho o h1 n e
    have := h.le
    omega
  · have := fresh_inj (e.symm.trans h3)
    omega
theorem ownL_perm {p : Nat} {rs : List Tree} {t : Tree} : (ownL (rs.take p ++ [t] ++ rs.drop p)).Perm (ownL (rs ++ [t])) := by
  have e : ownL rs = ownL (rs.take p) ++ ownL (rs.drop p) := by rw [← ownL_append, List.take_append_drop]
  rw [ownL_append, ownL_append, ownL_append rs, e, List.append_assoc, List.append_assoc]
  exact List.Perm.append_left _ List.perm_append_comm
theorem fitL_perm {p : Nat} {rs : List Tree} {t : Tree} : fitL (rs.take p ++ [t] ++ rs.drop p) = fitL (rs ++ [t]) := by
  have e : fitL rs = (fitL (rs.take p) && fitL (rs.drop p)) := by rw [← fitL_append, List.take_append_drop]
  rw [fitL_append, fitL_append, fitL_append rs, e]
  cases fitL (rs.take p) <;> cases fitL (rs.drop p) <;> cases fitL [t] <;> rfl
theorem depL_perm {p : Nat} {rs : List Tree} {t : Tree} : depL (rs.take p ++ [t] ++ rs.drop p) = depL (rs ++ [t]) := by
  have e : depL rs = max (depL (rs.take p)) (depL (rs.drop p)) := by rw [← depL_append, List.take_append_drop]
  rw [depL_append, depL_append, depL_append rs, e]
  omega
theorem sizeL_perm {p : Nat} {rs : List Tree} {t : Tree} : sizeL (rs.take p ++ [t] ++ rs.drop p) = sizeL (rs ++ [t]) := by
  have e : sizeL rs = sizeL (rs.take p) + sizeL (rs.drop p) := by rw [← sizeL_append, List.take_append_drop]
  rw [sizeL_append, sizeL_append, sizeL_append rs, e]
  omega
theorem Ed.turn {c : Int} {os : List NestedKey} {d z p : Nat} {c' : Int} {rs : List Tree} {t : Tree} (h : Ed c os d z c' (rs ++ [t])) : Ed c os d z c' (rs.take p ++ [t] ++ rs.drop p) :=
  ⟨h.le, ownL_perm.nodup_iff.mpr h.nd, fun o hm => h.sub o (ownL_perm.mem_iff.mp hm), by rw [fitL_perm]; exact h.fit, by rw [depL_perm]; exact h.dep, by rw [sizeL_perm]; exact h.siz⟩
/-- a node is left out -/
theorem Ed.skip {c : Int} {os : List NestedKey} {d z : Nat} {c' : Int} {rs : List Tree} {ps : List NestedKey} {e y : Nat} (h : Ed c os d z c' rs) (hd : d ≤ e) (hz : z ≤ y) : Ed c (os ++ ps) e y c' rs :=
  ⟨h.le, h.nd, fun o hm => (h.sub o hm).imp (fun q => List.mem_append_left _ q) id, h.fit, Nat.le_trans h.dep hd, by have := h.siz; omega⟩
/-- a node stays, with edited ones below it -/
theorem Ed.add {c c1 c2 : Int} {os : List NestedKey} {d z : Nat} {rs ks : List Tree} {t : Tree} {k y : NestedKey} (h : Ed c os d z c1 rs) (hk : Ed c1 (ownL t.kids) (depL t.kids) (sizeL t.kids) c2 ks)
    (nd : (os ++ ownT t).Nodup) (old : OldTo c (os ++ ownT t)) (fk : flK k = true) (fy : flY y = true) (fo : t.own.depth ≤ 3) :
    Ed c (os ++ ownT t) (max d (depT t)) (z + sizeT t) c2 (rs ++ [.node k y t.own ks]) ∧ sizeL (rs ++ [.node k y t.own ks]) + 1 ≤ 2 * (z + sizeT t) := by
  have et : ownT t = t.own :: ownL t.kids := by cases t; rfl
  have e : ownL (rs ++ [.node k y t.own ks]) = ownL rs ++ (t.own :: ownL ks) := by rw [ownL_append]; simp [ownL, ownT]
  rw [et] at nd old ⊢
  have nd2 := List.nodup_append.mp nd
  have ndk := List.nodup_cons.mp nd2.2.1
  have mT : ∀ o, o ∈ t.own :: ownL ks → o ∈ t.own :: ownL t.kids ∨ ∃ n, c1 < n ∧ n ≤ c2 ∧ o = fresh n := fun o hm => by
    rcases List.mem_cons.mp hm with q | q
    · exact .inl (by rw [q]; exact List.mem_cons_self)
    · rcases hk.sub o q with q | q
      · exact .inl (List.mem_cons_of_mem _ q)
      · exact .inr q
  have l1 := h.le
  have l2 := hk.le
  have s0 : sizeL (rs ++ [.node k y t.own ks]) + 1 ≤ 2 * (z + sizeT t) := by
    rw [sizeL_append]
    have a1 := h.siz
    have a2 := hk.siz
    have a3 : sizeT t = 1 + sizeL t.kids := by cases t; rfl
    simp only [sizeL, sizeT]
    omega
  refine ⟨⟨by omega, ?_, ?_, ?_, ?_, by omega⟩, s0⟩
  · rw [e, List.nodup_append]
    refine ⟨h.nd, List.nodup_cons.mpr ⟨fun hm => ?_, hk.nd⟩, fun a ha b hb hab => ?_⟩
    · rcases hk.sub _ hm with q | ⟨n, q1, q2, q3⟩
      · exact ndk.1 q
      · have := old _ (List.mem_append_right _ List.mem_cons_self) n q3
        omega
    · subst hab
      rcases h.sub a ha with q | ⟨n, q1, q2, q3⟩
      · rcases mT a hb with q' | ⟨m, p1, p2, p3⟩
        · exact nd2.2.2 a q a q' rfl
        · have := old a (List.mem_append_left _ q) m p3
          omega
      · rcases mT a hb with q' | ⟨m, p1, p2, p3⟩
        · have := old a (List.mem_append_right _ q') n q3
          omega
        · have := fresh_inj (q3.symm.trans p3)
          omega
  · intro o hm
    rw [e] at hm
    rcases List.mem_append.mp hm with q | q
    · rcases h.sub o q with q | ⟨n, q1, q2, q3⟩
      · exact .inl (List.mem_append_left _ q)
      · exact .inr ⟨n, q1, by omega, q3⟩
    · rcases mT o q with q | ⟨n, q1, q2, q3⟩
      · exact .inl (List.mem_append_right _ q)
      · exact .inr ⟨n, by omega, q2, q3⟩
  · rw [fitL_append, h.fit]
    simp [fitL, fitT, fk, fy, fo, hk.fit]
  · rw [depL_append]
    have a1 := h.dep
    have a2 := hk.dep
    have a3 : depT t = 1 + depL t.kids := by cases t; rfl
    simp only [depL, depT]
    omega
/-- a new leaf behind it -/
theorem Ed.leaf {c c1 : Int} {os : List NestedKey} {d z : Nat} {rs : List Tree} {k y : NestedKey} (h : Ed c os d z c1 rs) (old : OldTo c os) (fk : flK k = true) (fy : flY y = true) (hd : 1 ≤ d) (hs : sizeL rs + 1 ≤ 2 * z) :
    Ed c os d z (c1 + 1) (rs ++ [.node k y (fresh (c1 + 1)) []]) := by
  have l1 := h.le
  have e : ownL (rs ++ [.node k y (fresh (c1 + 1)) []]) = ownL rs ++ [fresh (c1 + 1)] := by rw [ownL_append]; simp [ownL, ownT]
  refine ⟨by omega, ?_, ?_, ?_, ?_, ?_⟩
  · rw [e, List.nodup_append]
    refine ⟨h.nd, by simp, fun a ha b hb hab => ?_⟩
    subst hab
    have hb := List.mem_singleton.mp hb
    have := h.old old a ha _ hb
    omega
  · intro o hm
    rw [e] at hm
    rcases List.mem_append.mp hm with q | q
    · rcases h.sub o q with q | ⟨n, q1, q2, q3⟩
      · exact .inl q
      · exact .inr ⟨n, q1, by omega, q3⟩
    · exact .inr ⟨c1 + 1, by omega, Int.le_refl _, List.mem_singleton.mp q⟩
  · rw [fitL_append, h.fit]
    have : (fresh (c1 + 1)).depth ≤ 3 := by simp [fresh, NestedKey.depth, NestedKey.depthAll]
    simp [fitL, fitT, fk, fy, this]
  · rw [depL_append]
    have := h.dep
    simp only [depL, depT]
    omega
  · rw [sizeL_append]
    simp only [sizeL, sizeT]
    omega
end G
set_option Elab.async false
set_option linter.all false
set_option maxRecDepth 100000
set_option maxHeartbeats 4000000
namespace G
open PySem L2 Nd
def spEdited (n : Nat) : Sp := fun vs H Q _ => ∃ (M : List Addr) (st cs a fr : Addr) (xs : List V) (ts : List Tree) (c : Int), vs = [.ref st, .ref a, .ref fr] ∧ Stm H st cs ∧ MutL M H ∧ st ∈ M ∧ cs ∈ M ∧ fr ∈ M ∧ fr ≠ st ∧ fr ≠ cs ∧ a ∉ M ∧ H fr = some (.lst [.int c]) ∧
  H a = some (.lst xs) ∧ TrL M H xs ts ∧ depL ts < n ∧ fitL ts = true ∧ sizeL ts < 100000 ∧ (ownL ts).Nodup ∧ OldTo c (ownL ts) ∧
  ∀ (b : Addr) (ys : List V) (rs : List Tree) (c' : Int) (H' : Hp), H b = none → H' b = some (.lst ys) → TrL M H' ys rs → Ed c (ownL ts) (depL ts) (sizeL ts) c' rs → H' fr = some (.lst [.int c']) → Stm H' st cs → Sm [st, cs, fr] H H' → Q (.ref b) H'
theorem sm3 {st cs fr : Addr} {H H' : Hp} (h : Sm [st, cs] H H') : Sm [st, cs, fr] H H' := h.mono fun b hb => by
  simp only [List.mem_cons, List.not_mem_nil, or_false] at hb ⊢
  rcases hb with h | h
  · exact .inl h
  · exact .inr (.inl h)
theorem MutL.step3 {M : List Addr} {H H' : Hp} {st cs fr : Addr} {c : Int} (l : MutL M H) (S : Stm H' st cs) (hf : H' fr = some (.lst [.int c])) (e : Sm [st, cs, fr] H H') : MutL M H' := fun a ha => by
  by_cases h1 : a = st
  · subst h1
    obtain ⟨ns, k, q, _⟩ := S.ex
    exact ⟨_, q⟩
  · by_cases h2 : a = cs
    · subst h2
      obtain ⟨ns, k, _, q, _⟩ := S.ex
      exact ⟨_, q⟩
    · by_cases h3 : a = fr
      · subst h3
        exact ⟨_, hf⟩
      · obtain ⟨xs, q⟩ := l a ha
        exact ⟨xs, e a _ q (by simp [h1, h2, h3])⟩
end G
set_option Elab.async false
set_option linter.all false
namespace G
open PySem
/-! ### addresses, and what is matched: the mathematics -/
theorem cntN_mono (ts : List Tree) {i j : Nat} (h : i ≤ j) : cntN (ts.take i) ≤ cntN (ts.take j) := by
  have e : ts.take j = ts.take i ++ (ts.take j).drop i := by
    have := List.take_append_drop i (ts.take j)
    rw [List.take_take, Nat.min_eq_left h] at this
    exact this.symm
  rw [e]
  unfold cntN
  rw [List.filter_append, List.length_append]
  omega
theorem cntK_mono (ts : List Tree) (k y : NestedKey) {i j : Nat} (h : i ≤ j) : cntK (ts.take i) k y ≤ cntK (ts.take j) k y := by
  have e : ts.take j = ts.take i ++ (ts.take j).drop i := by
    have := List.take_append_drop i (ts.take j)
    rw [List.take_take, Nat.min_eq_left h] at this
    exact this.symm
  rw [e]
  unfold cntK
  rw [List.filter_append, List.length_append]
  omega
theorem slot_lt (all : Bool) {ts : List Tree} {i j : Nat} {t u : Tree} (hi : ts[i]? = some t) (hj : ts[j]? = some u) (h : i < j) : slot all (ts.take i) t ≠ slot all (ts.take j) u := by
  intro e
  unfold slot at e
  injection e with e
  injection e with e1 e
  injection e with e2 e
  injection e with e3 _
  injection e3 with e3
  have e3 : numAt all (ts.take i) t = numAt all (ts.take j) u := by exact_mod_cast e3
  have li : (ts.take i).length = i := by rw [List.length_take]; have := (List.getElem?_eq_some_iff.mp hi).1; omega
  have lj : (ts.take j).length = j := by rw [List.length_take]; have := (List.getElem?_eq_some_iff.mp hj).1; omega
  have es : ts.take (i + 1) = ts.take i ++ [t] := by rw [List.take_succ, hi]; rfl
  unfold numAt at e3
  rw [← e1, ← e2] at e3
  by_cases hk : t.key = .none
  · rw [if_pos hk, if_pos hk] at e3
    cases all with
    | true => simp only [if_true] at e3; omega
    | false =>
      have e3 : cntN (ts.take i) = cntN (ts.take j) := by simpa using e3
      have m := cntN_mono ts (i := i + 1) (j := j) h
      rw [es, cntN_snoc, if_pos hk] at m
      omega
  · rw [if_neg hk, if_neg hk] at e3
    have m := cntK_mono ts t.kind t.key (i := i + 1) (j := j) h
    rw [es, cntK_snoc, if_pos ⟨rfl, rfl⟩] at m
    omega
theorem slot_ix (all : Bool) {ts : List Tree} {i j : Nat} {t u : Tree} (hi : ts[i]? = some t) (hj : ts[j]? = some u) (e : slot all (ts.take i) t = slot all (ts.take j) u) : i = j := by
  rcases Nat.lt_trichotomy i j with h | h | h
  · exact absurd e (slot_lt all hi hj h)
  · exact h
  · exact absurd e.symm (slot_lt all hj hi h)
/-- the node of a slot is found -/
theorem findS_some (all : Bool) {ts : List Tree} {i : Nat} {t : Tree} (h : ts[i]? = some t) : findS all ts (slot all (ts.take i) t) = some t := by
  cases hf : findS all ts (slot all (ts.take i) t) with
  | some u =>
    obtain ⟨j, h1, h2⟩ := findS_get hf
    rw [slot_at all h1] at h2
    have := slot_ix all h1 h (Option.some.inj h2)
    subst this
    rw [h] at h1
    exact h1.symm
  | none =>
    unfold findS findP at hf
    rw [Option.map_eq_none_iff, List.find?_eq_none] at hf
    have hm : (slot all (ts.take i) t, t) ∈ ((slots all ts).zip ts).reverse := by
      rw [List.mem_reverse]
      exact List.mem_iff_getElem?.mpr ⟨i, (List.getElem?_zip_eq_some (z := (slot all (ts.take i) t, t))).mpr ⟨slot_at all h, h⟩⟩
    have := hf _ hm
    simp at this
abbrev Adr := List NestedKey
mutual
/-- addresses and owners, each before those below it -/
def adT (all : Bool) (above : Adr) (pre : List Tree) : Tree → List (Adr × NestedKey)
  | .node k y o b => (above ++ [slot all pre (.node k y o b)], o) :: adL all (above ++ [slot all pre (.node k y o b)]) [] b
def adL (all : Bool) (above : Adr) (pre : List Tree) : List Tree → List (Adr × NestedKey)
  | [] => []
  | t :: ts => adT all above pre t ++ adL all above (pre ++ [t]) ts
end
mutual
theorem adT_own (all : Bool) : ∀ (t : Tree) (above : Adr) (pre : List Tree), (adT all above pre t).map (·.2) = ownT t
  | .node k y o b, above, pre => by rw [adT, ownT, List.map_cons, adL_own all b]
theorem adL_own (all : Bool) : ∀ (ts : List Tree) (above : Adr) (pre : List Tree), (adL all above pre ts).map (·.2) = ownL ts
  | [], _, _ => by simp [adL, ownL]
  | t :: ts, above, pre => by rw [adL, ownL, List.map_append, adT_own all t, adL_own all ts]
end
mutual
theorem adT_pre (all : Bool) : ∀ (t : Tree) (above : Adr) (pre : List Tree), ∀ p ∈ adT all above pre t, ∃ r, p.1 = above ++ slot all pre t :: r
  | .node k y o b, above, pre, p, hp => by
    rw [adT] at hp
    rcases List.mem_cons.mp hp with h | h
    · exact ⟨[], by rw [h]⟩
    · obtain ⟨r, e⟩ := adL_pre all b _ _ p h
      exact ⟨r, by rw [e, List.append_assoc]; rfl⟩
theorem adL_pre (all : Bool) : ∀ (ts : List Tree) (above : Adr) (pre : List Tree), ∀ p ∈ adL all above pre ts, ∃ r, p.1 = above ++ r
  | [], _, _, p, hp => by simp [adL] at hp
  | t :: ts, above, pre, p, hp => by
    rw [adL] at hp
    rcases List.mem_append.mp hp with h | h
    · obtain ⟨r, e⟩ := adT_pre all t above pre p h
      exact ⟨_, e⟩
    · exact adL_pre all ts above _ p h
end
/-- a member stands in one of the nodes -/
theorem adL_mem (all : Bool) (above : Adr) : ∀ (ts pre : List Tree) (p : Adr × NestedKey), p ∈ adL all above pre ts ↔ ∃ (i : Nat) (t : Tree), ts[i]? = some t ∧ p ∈ adT all above (pre ++ ts.take i) t
  | [], pre, p => by simp [adL]
  | u :: us, pre, p => by
    rw [adL, List.mem_append, adL_mem all above us (pre ++ [u]) p]
    constructor
    · rintro (h | ⟨i, t, h1, h2⟩)
      · exact ⟨0, u, rfl, by simpa using h⟩
      · exact ⟨i + 1, t, by simpa using h1, by simpa using h2⟩
    · rintro ⟨i, t, h1, h2⟩
      cases i with
      | zero =>
        simp at h1
        subst h1
        exact .inl (by simpa using h2)
      | succ j => exact .inr ⟨j, t, by simpa using h1, by simpa using h2⟩
mutual
theorem adT_nd (all : Bool) : ∀ (t : Tree) (above : Adr) (pre : List Tree), ((adT all above pre t).map (·.1)).Nodup
  | .node k y o b, above, pre => by
    rw [adT, List.map_cons, List.nodup_cons]
    refine ⟨fun h => ?_, adL_nd all b _ [] (fun i j t u hi hj e => slot_ix all hi hj (by simpa using e))⟩
    obtain ⟨p, hp, e⟩ := List.mem_map.mp h
    obtain ⟨i, t, hi, hm⟩ := (adL_mem all _ b [] p).mp hp
    obtain ⟨r, e2⟩ := adT_pre all t _ _ p hm
    have := congrArg List.length (e2.symm.trans e)
    simp at this
theorem adL_nd (all : Bool) : ∀ (ts : List Tree) (above : Adr) (pre : List Tree), (∀ (i j : Nat) (t u : Tree), ts[i]? = some t → ts[j]? = some u → slot all (pre ++ ts.take i) t = slot all (pre ++ ts.take j) u → i = j) → ((adL all above pre ts).map (·.1)).Nodup
  | [], _, _, _ => by simp [adL]
  | t :: ts, above, pre, hs => by
    rw [adL, List.map_append, List.nodup_append]
    refine ⟨adT_nd all t above pre, adL_nd all ts above (pre ++ [t]) (fun i j u v hi hj e => ?_), fun a ha b hb hab => ?_⟩
    · have := hs (i + 1) (j + 1) u v (by simpa using hi) (by simpa using hj) (by simpa using e)
      omega
    · subst hab
      obtain ⟨p, hp, rfl⟩ := List.mem_map.mp ha
      obtain ⟨q, hq, e⟩ := List.mem_map.mp hb
      obtain ⟨r, e1⟩ := adT_pre all t above pre p hp
      obtain ⟨i, u, hi, hm⟩ := (adL_mem all above ts (pre ++ [t]) q).mp hq
      obtain ⟨r2, e2⟩ := adT_pre all u above _ q hm
      have e3 := List.append_cancel_left (e2.symm.trans (e.trans e1))
      injection e3 with e3 _
      have := hs (i + 1) 0 u t (by simpa using hi) rfl (by simpa using e3)
      omega
end
/-- the addresses of a list of nodes -/
def adr (all : Bool) (ts : List Tree) : List (Adr × NestedKey) := adL all [] [] ts
theorem adr_nd (all : Bool) (ts : List Tree) : ((adr all ts).map (·.1)).Nodup := adL_nd all ts [] [] fun i j t u hi hj e => slot_ix all hi hj (by simpa using e)
theorem adr_own (all : Bool) (ts : List Tree) : (adr all ts).map (·.2) = ownL ts := adL_own all ts [] []
theorem key_fun {α β : Type} {ps : List (α × β)} (h : (ps.map (·.1)).Nodup) {a : α} {b c : β} (h1 : (a, b) ∈ ps) (h2 : (a, c) ∈ ps) : b = c := by
  obtain ⟨i, hi⟩ := List.mem_iff_getElem?.mp h1
  obtain ⟨j, hj⟩ := List.mem_iff_getElem?.mp h2
  have ei : (ps.map (·.1))[i]? = some a := by rw [List.getElem?_map, hi]; rfl
  have ej : (ps.map (·.1))[j]? = some a := by rw [List.getElem?_map, hj]; rfl
  have := (List.getElem?_inj (List.getElem?_eq_some_iff.mp ei).1 h).mp (ei.trans ej.symm)
  subst this
  rw [hi] at hj
  cases hj
  rfl
theorem val_fun {α β : Type} {ps : List (α × β)} (h : (ps.map (·.2)).Nodup) {a b : α} {c : β} (h1 : (a, c) ∈ ps) (h2 : (b, c) ∈ ps) : a = b := by
  obtain ⟨i, hi⟩ := List.mem_iff_getElem?.mp h1
  obtain ⟨j, hj⟩ := List.mem_iff_getElem?.mp h2
  have ei : (ps.map (·.2))[i]? = some c := by rw [List.getElem?_map, hi]; rfl
  have ej : (ps.map (·.2))[j]? = some c := by rw [List.getElem?_map, hj]; rfl
  have := (List.getElem?_inj (List.getElem?_eq_some_iff.mp ei).1 h).mp (ei.trans ej.symm)
  subst this
  rw [hi] at hj
  cases hj
  rfl
/-- the matched owners -/
def mo (all : Bool) (old new : List Tree) : List (NestedKey × NestedKey) := (mL all old [] new).map fun p => (p.1.own, p.2.own)
mutual
/-- matched: the same address in both -/
theorem mT_iff (all : Bool) : ∀ (t : Tree) (old pre : List Tree) (above : Adr) (a b : NestedKey), (a, b) ∈ (mT all old pre t).map (fun p => (p.1.own, p.2.own)) ↔ ∃ r, (r, a) ∈ adL all above [] old ∧ (r, b) ∈ adT all above pre t
  | .node k y o us, old, pre, above, a, b => by
    constructor
    · intro h
      rw [mT] at h
      split at h
      · simp at h
      · rename_i u hf
        obtain ⟨i, h1, h2⟩ := findS_get hf
        rw [slot_at all h1] at h2
        have es := Option.some.inj h2
        rw [List.map_cons, List.mem_cons] at h
        rcases h with h | h
        · injection h with ha hb
          refine ⟨above ++ [slot all pre (.node k y o us)], (adL_mem all above old [] _).mpr ⟨i, u, h1, ?_⟩, ?_⟩
          · rw [List.nil_append]
            cases u with
            | node k2 y2 o2 us2 =>
              rw [adT, es]
              exact List.mem_cons.mpr (.inl (by rw [ha]; rfl))
          · rw [adT]
            exact List.mem_cons.mpr (.inl (by rw [hb]; rfl))
        · obtain ⟨r, q1, q2⟩ := (mL_iff all us u.kids [] (above ++ [slot all pre (.node k y o us)]) a b).mp h
          refine ⟨r, (adL_mem all above old [] _).mpr ⟨i, u, h1, ?_⟩, ?_⟩
          · rw [List.nil_append]
            cases u with
            | node k2 y2 o2 us2 =>
              rw [adT, es]
              exact List.mem_cons_of_mem _ q1
          · rw [adT]
            exact List.mem_cons_of_mem _ q2
    · rintro ⟨r, h1, h2⟩
      obtain ⟨i, u, hu, hm⟩ := (adL_mem all above old [] _).mp h1
      rw [List.nil_append] at hm
      obtain ⟨r1, e1⟩ := adT_pre all u above _ _ hm
      obtain ⟨r2, e2⟩ := adT_pre all _ above _ _ h2
      have e3 := List.append_cancel_left (e1.symm.trans e2)
      injection e3 with es _
      have hf := findS_some all hu
      rw [es] at hf
      rw [mT, hf]
      simp only [List.map_cons, List.mem_cons]
      rw [adT] at h2
      have hm' : (r, a) = (above ++ [slot all pre (.node k y o us)], u.own) ∨ (r, a) ∈ adL all (above ++ [slot all pre (.node k y o us)]) [] u.kids := by
        cases u with
        | node k2 y2 o2 us2 =>
          rw [adT, es] at hm
          exact List.mem_cons.mp hm
      have long : ∀ (xs : List Tree) (p : Adr × NestedKey), p ∈ adL all (above ++ [slot all pre (.node k y o us)]) [] xs → p.1 ≠ above ++ [slot all pre (.node k y o us)] := fun xs p hp z => by
        obtain ⟨j, v, hv, hq⟩ := (adL_mem all _ xs [] p).mp hp
        obtain ⟨r3, e4⟩ := adT_pre all v _ _ p hq
        have := congrArg List.length (e4.symm.trans z)
        simp at this
      rcases List.mem_cons.mp h2 with q2 | q2
      · injection q2 with q3 q4
        rcases hm' with q1 | q1
        · injection q1 with _ q5
          exact .inl (by rw [q5, q4]; rfl)
        · exact absurd q3 (long _ _ q1)
      · rcases hm' with q1 | q1
        · injection q1 with q5 _
          exact absurd q5 (long _ _ q2)
        · exact .inr ((mL_iff all us u.kids [] _ a b).mpr ⟨r, q1, q2⟩)
theorem mL_iff (all : Bool) : ∀ (ts old pre : List Tree) (above : Adr) (a b : NestedKey), (a, b) ∈ (mL all old pre ts).map (fun p => (p.1.own, p.2.own)) ↔ ∃ r, (r, a) ∈ adL all above [] old ∧ (r, b) ∈ adL all above pre ts
  | [], old, pre, above, a, b => by simp [mL, adL]
  | t :: ts, old, pre, above, a, b => by
    rw [mL, List.map_append, List.mem_append, mT_iff all t old pre above a b, mL_iff all ts old (pre ++ [t]) above a b]
    constructor
    · rintro (⟨r, h1, h2⟩ | ⟨r, h1, h2⟩)
      · exact ⟨r, h1, by rw [adL]; exact List.mem_append_left _ h2⟩
      · exact ⟨r, h1, by rw [adL]; exact List.mem_append_right _ h2⟩
    · rintro ⟨r, h1, h2⟩
      rw [adL] at h2
      rcases List.mem_append.mp h2 with q | q
      · exact .inl ⟨r, h1, q⟩
      · exact .inr ⟨r, h1, q⟩
end
theorem mo_iff (all : Bool) (old new : List Tree) (a b : NestedKey) : (a, b) ∈ mo all old new ↔ ∃ r, (r, a) ∈ adr all old ∧ (r, b) ∈ adr all new := mL_iff all new old [] [] a b
mutual
theorem mT_sub (all : Bool) : ∀ (t : Tree) (old pre : List Tree), ((mT all old pre t).map (fun p => p.2.own)).Sublist (ownT t)
  | .node k y o us, old, pre => by
    rw [mT, ownT]
    split
    · exact List.nil_sublist _
    · exact List.Sublist.cons₂ _ (mL_sub all us _ [])
theorem mL_sub (all : Bool) : ∀ (ts old pre : List Tree), ((mL all old pre ts).map (fun p => p.2.own)).Sublist (ownL ts)
  | [], _, _ => by simp [mL, ownL]
  | t :: ts, old, pre => by
    rw [mL, ownL, List.map_append]
    exact List.Sublist.append (mT_sub all t old pre) (mL_sub all ts old _)
end
theorem mo_snd (all : Bool) (old new : List Tree) (h : (ownL new).Nodup) : ((mo all old new).map (·.2)).Nodup := by
  unfold mo
  rw [List.map_map]
  exact (mL_sub all new old []).nodup h
theorem nodup_of_fun {α β : Type} : ∀ {ps : List (α × β)}, (ps.map (·.2)).Nodup → (∀ p ∈ ps, ∀ q ∈ ps, p.1 = q.1 → p.2 = q.2) → (ps.map (·.1)).Nodup
  | [], _, _ => List.nodup_nil
  | p :: ps, h, f => by
    rw [List.map_cons, List.nodup_cons] at h ⊢
    refine ⟨fun hm => ?_, nodup_of_fun h.2 fun q hq r hr => f q (List.mem_cons_of_mem _ hq) r (List.mem_cons_of_mem _ hr)⟩
    obtain ⟨q, hq, e⟩ := List.mem_map.mp hm
    exact h.1 (List.mem_map.mpr ⟨q, hq, (f p List.mem_cons_self q (List.mem_cons_of_mem _ hq) e.symm).symm⟩)
theorem mo_fst (all : Bool) (old new : List Tree) (h0 : (ownL old).Nodup) (h : (ownL new).Nodup) : ((mo all old new).map (·.1)).Nodup := by
  refine nodup_of_fun (mo_snd all old new h) fun p hp q hq e => ?_
  obtain ⟨a, b⟩ := p
  obtain ⟨c, d⟩ := q
  cases (show a = c from e)
  obtain ⟨r, h1, h2⟩ := (mo_iff all old new a b).mp hp
  obtain ⟨s, h3, h4⟩ := (mo_iff all old new a d).mp hq
  rw [← adr_own all old] at h0
  cases val_fun h0 h1 h3
  exact key_fun (adr_nd all new) h2 h4
theorem mo_own (all : Bool) (old new : List Tree) : ∀ p ∈ mo all old new, p.1 ∈ ownL old ∧ p.2 ∈ ownL new := fun p hp => by
  obtain ⟨a, b⟩ := p
  obtain ⟨r, h1, h2⟩ := (mo_iff all old new a b).mp hp
  rw [← adr_own all old, ← adr_own all new]
  exact ⟨List.mem_map.mpr ⟨_, h1, rfl⟩, List.mem_map.mpr ⟨_, h2, rfl⟩⟩
theorem mo_join (all : Bool) {A B C : List Tree} (hB : (ownL B).Nodup) {o m x : NestedKey} (h1 : (o, m) ∈ mo all A B) (h2 : (m, x) ∈ mo all B C) : (o, x) ∈ mo all A C := by
  obtain ⟨r, a1, a2⟩ := (mo_iff all A B o m).mp h1
  obtain ⟨s, b1, b2⟩ := (mo_iff all B C m x).mp h2
  rw [← adr_own all B] at hB
  cases val_fun hB a2 b1
  exact (mo_iff all A C o x).mpr ⟨r, a1, b2⟩
theorem mo_fork (all : Bool) {A B C : List Tree} (hA : (ownL A).Nodup) {o m x : NestedKey} (h1 : (o, m) ∈ mo all A B) (h2 : (o, x) ∈ mo all A C) : (m, x) ∈ mo all B C := by
  obtain ⟨r, a1, a2⟩ := (mo_iff all A B o m).mp h1
  obtain ⟨s, b1, b2⟩ := (mo_iff all A C o x).mp h2
  rw [← adr_own all A] at hA
  cases val_fun hA a1 b1
  exact (mo_iff all B C m x).mpr ⟨r, a2, b2⟩
end G
set_option Elab.async false
set_option linter.all false
set_option maxRecDepth 100000
set_option maxHeartbeats 4000000
namespace G
open PySem L2 Nd
/-- the entries of a table: keys and the values, by what they are -/
inductive TbL (H : Hp) : List Ent → List (NestedKey × NestedKey) → Prop
  | nil : TbL H [] []
  | cons {l r : NestedKey} {a : Addr} {v : V} {es : List Ent} {ps : List (NestedKey × NestedKey)} : NK H v r → TbL H es ps → TbL H ((l, a, v) :: es) ((l, r) :: ps)
theorem TbL.mono {H H' : Hp} (st : ∀ b xs, H b = some (.tup xs) → H' b = some (.tup xs)) : ∀ {es : List Ent} {ps : List (NestedKey × NestedKey)}, TbL H es ps → TbL H' es ps
  | _, _, .nil => .nil
  | _, _, .cons h t => .cons (NK.mono st _ _ h) (TbL.mono st t)
theorem TbL.same {H H' : Hp} {es : List Ent} {ps : List (NestedKey × NestedKey)} (h : TbL H es ps) (e : Same H H') : TbL H' es ps := h.mono fun b xs q => e _ _ q
theorem TbL.len {H : Hp} : ∀ {es : List Ent} {ps : List (NestedKey × NestedKey)}, TbL H es ps → es.length = ps.length
  | _, _, .nil => rfl
  | _, _, .cons _ t => by rw [List.length_cons, List.length_cons, TbL.len t]
theorem TbL.snoc {H : Hp} {l r : NestedKey} {a : Addr} {v : V} : ∀ {es : List Ent} {ps : List (NestedKey × NestedKey)}, TbL H es ps → NK H v r → TbL H (es ++ [(l, a, v)]) (ps ++ [(l, r)])
  | _, _, .nil, h => .cons h .nil
  | _, _, .cons h t, q => .cons h (TbL.snoc t q)
theorem TbL.get {H : Hp} : ∀ {es : List Ent} {ps : List (NestedKey × NestedKey)} {i : Nat} {l : NestedKey} {a : Addr} {v : V}, TbL H es ps → es[i]? = some (l, a, v) → ∃ r, ps[i]? = some (l, r) ∧ NK H v r
  | _, _, _, _, _, _, .nil, e => by simp at e
  | _, _, 0, _, _, _, .cons h _, e => by simp at e; obtain ⟨rfl, rfl, rfl⟩ := e; exact ⟨_, rfl, h⟩
  | _, _, i + 1, l, a, v, .cons _ t, e => by
    obtain ⟨r, h1, h2⟩ := TbL.get (i := i) t (by simpa using e)
    exact ⟨r, by simpa using h1, h2⟩
/-- what stands at a key -/
theorem TbL.look {H : Hp} (k : NestedKey) : ∀ {es : List Ent} {ps : List (NestedKey × NestedKey)}, TbL H es ps → (lookN es k = none ∧ k ∉ ps.map (·.1)) ∨ ∃ v r, lookN es k = some v ∧ NK H v r ∧ (k, r) ∈ ps
  | _, _, .nil => .inl ⟨rfl, by simp⟩
  | _, _, @TbL.cons _ l r a v es ps h t => by
    by_cases e : l = k
    · subst e
      exact .inr ⟨v, r, by simp [lookN], h, List.mem_cons_self⟩
    · have e1 : lookN ((l, a, v) :: es) k = lookN es k := by simp [lookN, List.find?_cons, e]
      rcases TbL.look k t with ⟨h1, h2⟩ | ⟨v', r', h1, h2, h3⟩
      · exact .inl ⟨by rw [e1]; exact h1, by rw [List.map_cons]; simp only [List.mem_cons, not_or]; exact ⟨fun z => e z.symm, h2⟩⟩
      · exact .inr ⟨v', r', by rw [e1]; exact h1, h2, List.mem_cons_of_mem _ h3⟩
mutual
theorem nk_dp {K : PySem.W.Frag} {H : Hp} : ∀ (k : NestedKey) (v : V), NK H v k → Dp K H v k.data
  | .none, _, h => by cases h; exact .non
  | .num i, _, h => by cases h; exact .int i
  | .text x, _, h => by cases h; exact .str x
  | .tup ks, _, h => by
    cases h with
    | tup h1 h2 => rw [NestedKey.data]; exact .tup (SqT.of h1) (nks_dp ks _ h2)
theorem nks_dp {K : PySem.W.Frag} {H : Hp} : ∀ (ks : List NestedKey) (vs : List V), NKs H vs ks → DpAll K H vs (NestedKey.datas ks)
  | [], _, h => by cases h; exact .nil
  | k :: ks, _, h => by
    cases h with
    | cons h1 h2 => rw [NestedKey.datas]; exact .cons (nk_dp k _ h1) (nks_dp ks _ h2)
end
mutual
theorem okN_lay : ∀ k : NestedKey, PyData.canLay0 k.data = okN k
  | .none => rfl
  | .num _ => rfl
  | .text _ => rfl
  | .tup ks => by rw [NestedKey.data, okN]; exact okNs_lay ks
theorem okNs_lay : ∀ ks : List NestedKey, PyData.canLayAll0 (NestedKey.datas ks) = okNs ks
  | [] => rfl
  | k :: ks => by rw [NestedKey.datas, PyData.canLayAll0, okNs, okN_lay k, okNs_lay ks]
end
mutual
theorem dep_data : ∀ k : NestedKey, PyData.depth k.data = k.depth
  | .none => rfl
  | .num _ => rfl
  | .text _ => rfl
  | .tup ks => by rw [NestedKey.data, NestedKey.depth, PyData.depth, deps_data ks]
theorem deps_data : ∀ ks : List NestedKey, PyData.depthAll (NestedKey.datas ks) = NestedKey.depthAll ks
  | [] => rfl
  | k :: ks => by rw [NestedKey.datas, PyData.depthAll, NestedKey.depthAll, dep_data k, deps_data ks]
end
theorem shaped_key {k : NestedKey} (h : okN k = true) (hd : k.depth ≤ 64) : SeqAt.shaped k.data = true := by
  unfold SeqAt.shaped
  rw [okN_lay, h, dep_data]
  simp [hd]
def pairK (p : NestedKey × NestedKey) : NestedKey := .tup [p.1, p.2]
def Tups (ks : List NestedKey) : Prop := ∀ k ∈ ks, (∃ xs, k = .tup xs) ∧ k.depth ≤ 3 ∧ okN k = true
def spTable (P : Program) (w : World) : Sp := fun vs H Q _ => ∃ (a : Addr) (xs : List V) (ps : List (NestedKey × NestedKey)), vs = [.ref a] ∧ H a = some (.lst xs) ∧ NKs H xs (ps.map pairK) ∧ (ps.map (·.1)).Nodup ∧ (ps.map (·.2)).Nodup ∧
  Tups (ps.map (·.1)) ∧ Tups (ps.map (·.2)) ∧ ps.length < 1000000 ∧
  ∀ (d : Addr) (es : List Ent) (H' : Hp), H d = none → H' d = some (DN P w d es) → KeysAt H' es → TbL H' es ps → Same H H' → Q (.ref d) H'
theorem putN_new {xs : List Ent} {k : NestedKey} {a : Addr} {v : V} (h : lookN xs k = none) : putN xs k a v = xs ++ [(k, a, v)] := by
  unfold putN
  rw [h]
  rfl
end G
namespace G
open PySem L2 Nd
theorem fn_any {P : Program} {w : World} {K : PySem.W.Frag} {mg : Str → Option Value} {base : Heap} {CX : CXT} {k N : Nat} {f : Addr} {fd : FuncData} {ps : List Str} {sp : Nat → Sp} (h : ∀ n, n ≤ N → FnOk P w K mg base CX k f fd ps (sp n)) :
    FnOk P w K mg base CX k f fd ps (fun vs H Q E => ∃ n, n ≤ N ∧ sp n vs H Q E) :=
  ⟨fun vs H Q E ⟨n, hn, q⟩ => (h n hn).len vs H Q E q, fun A outer s H args us vs Q E a b c d ⟨n, hn, q⟩ => (h n hn).run A outer s H args us vs Q E a b c d q⟩
structure Good (B : Nat) (ts : List Tree) : Prop where
  nd : (ownL ts).Nodup
  fit : fitL ts = true
  dep : depL ts < 10
  siz : sizeL ts ≤ B
  tup : Tups (ownL ts)
theorem okNs_nums : ∀ p : List Int, okNs (p.map NestedKey.num) = true
  | [] => rfl
  | x :: p => by rw [List.map_cons, okNs, okN, okNs_nums p]; rfl
theorem ownOf_ok (p : List Int) (r : Int) : okN (ownOf p r) = true := by
  simp only [ownOf, okN, okNs, okNs_nums]
  rfl
theorem Drawn.good {m n B : Nat} {path : List Int} {ts : List Tree} (h : Drawn m n path ts) (hn : n < 10) (hB : bnd m n ≤ B) : Good B ts := by
  refine ⟨h.own.nd, h.fit, Nat.lt_of_le_of_lt h.dep hn, Nat.le_trans h.siz hB, fun o ho => ?_⟩
  obtain ⟨k, rest, r, _, rfl⟩ := h.own.at_ o ho
  exact ⟨⟨_, rfl⟩, by rw [ownOf_depth]; decide, ownOf_ok _ _⟩
theorem Drawn.old {m n : Nat} {path : List Int} {ts : List Tree} (h : Drawn m n path ts) (c : Int) : OldTo c (ownL ts) := fun o ho n e => by
  obtain ⟨k, rest, r, _, rfl⟩ := h.own.at_ o ho
  exact absurd e (ownOf_ne_fresh _ _ _)
theorem Ed.good {B : Nat} {c c' : Int} {ts rs : List Tree} (h : Ed c (ownL ts) (depL ts) (sizeL ts) c' rs) (g : Good B ts) : Good (2 * B) rs := by
  refine ⟨h.nd, h.fit, Nat.lt_of_le_of_lt h.dep g.dep, by have := h.siz; have := g.siz; omega, fun o ho => ?_⟩
  rcases h.sub o ho with q | ⟨n, _, _, rfl⟩
  · exact g.tup o q
  · exact ⟨⟨_, rfl⟩, by simp [fresh, NestedKey.depth, NestedKey.depthAll], by simp [fresh, okN, okNs]⟩
theorem mo_tup1 {all : Bool} {A B : List Tree} (h : Tups (ownL A)) : Tups ((mo all A B).map (·.1)) := fun k hk => by
  obtain ⟨p, hp, rfl⟩ := List.mem_map.mp hk
  exact h _ (mo_own all A B p hp).1
theorem mo_tup2 {all : Bool} {A B : List Tree} (h : Tups (ownL B)) : Tups ((mo all A B).map (·.2)) := fun k hk => by
  obtain ⟨p, hp, rfl⟩ := List.mem_map.mp hk
  exact h _ (mo_own all A B p hp).2
theorem mo_len (all : Bool) (A B : List Tree) : (mo all A B).length ≤ sizeL B := by
  unfold mo
  rw [List.length_map]
  exact mL_len all B A []
theorem mo_pair (all : Bool) (A B : List Tree) : (mo all A B).map pairK = (mL all A [] B).map fun p => .tup [p.1.own, p.2.own] := by
  unfold mo
  rw [List.map_map]
  rfl
def spLaw (K : PySem.W.Frag) : Sp := fun vs H Q _ => ∃ (a : Addr) (ns : List Int), vs = [.ref a] ∧ SqL K H a (ns.map V.int) ∧ ns.length ≤ 63 ∧ ∀ H', Q (.bl true) H'
end G
set_option Elab.async false
set_option linter.all false
set_option maxRecDepth 100000
set_option maxHeartbeats 400000
/-! Plain data: None, truth values, ints, texts, lists, tuples, dicts with texts as keys. -/
namespace G
open PySem L2 Nd
inductive Dat where
  | non
  | bl (b : Bool)
  | int (i : Int)
  | str (z : Str)
  | lst (xs : List Dat)
  | tup (xs : List Dat)
  | dic (ks : List Str) (xs : List Dat)
def lookD {α : Type} : List Str → List α → Str → Option α
  | k :: ks, v :: vs, j => if k = j then some v else lookD ks vs j
  | _, _, _ => none
def dkv : List Str → List V → List (Key × V)
  | k :: ks, v :: vs => (.inr k, v) :: dkv ks vs
  | _, _ => []
theorem valV_dkv (j : Str) : ∀ (ks : List Str) (vs : List V), valV (dkv ks vs) (.inr j) = lookD ks vs j
  | [], _ => rfl
  | _ :: _, [] => rfl
  | k :: ks, v :: vs => by
    have ih := valV_dkv j ks vs
    unfold valV at ih ⊢
    rw [dkv, lookD, List.find?_cons]
    by_cases h : k = j
    · subst h; simp
    · have : ¬ ((Sum.inr k : Key) = Sum.inr j) := fun z => h (Sum.inr.inj z)
      simp only [this, decide_false, if_neg h]
      exact ih
theorem dkv_len : ∀ {ks : List Str} {vs : List V}, ks.length = vs.length → (dkv ks vs).length = ks.length
  | [], [], _ => rfl
  | [], _ :: _, h => by simp at h
  | _ :: _, [], h => by simp at h
  | k :: ks, v :: vs, h => by
    rw [dkv, List.length_cons, List.length_cons, dkv_len (by simpa using h)]
theorem dkv_get : ∀ {ks : List Str} {vs : List V} {i : Nat} {q : Key} {v : V}, (dkv ks vs)[i]? = some (q, v) → ∃ k, q = .inr k ∧ ks[i]? = some k ∧ vs[i]? = some v
  | [], _, _, _, _, h => by simp [dkv] at h
  | _ :: _, [], _, _, _, h => by simp [dkv] at h
  | k :: ks, v :: vs, 0, q, u, h => by
    simp [dkv] at h
    exact ⟨k, h.1.symm, rfl, by simp [h.2]⟩
  | k :: ks, v :: vs, i + 1, q, u, h => by
    rw [dkv, List.getElem?_cons_succ] at h
    obtain ⟨j, h1, h2, h3⟩ := dkv_get h
    exact ⟨j, h1, by simpa using h2, by simpa using h3⟩
theorem dkv_at : ∀ {ks : List Str} {vs : List V} {i : Nat} {k : Str} {v : V}, ks[i]? = some k → vs[i]? = some v → (dkv ks vs)[i]? = some (.inr k, v)
  | [], _, _, _, _, h, _ => by simp at h
  | _ :: _, [], _, _, _, _, h => by simp at h
  | k :: ks, v :: vs, 0, _, _, h, g => by simp at h g; subst h g; rfl
  | k :: ks, v :: vs, i + 1, _, _, h, g => by
    rw [dkv, List.getElem?_cons_succ]
    exact dkv_at (by simpa using h) (by simpa using g)
theorem lookD_at {α : Type} : ∀ {ks : List Str} {vs : List α} {i : Nat} {k : Str} {v : α}, ks.Nodup → ks[i]? = some k → vs[i]? = some v → lookD ks vs k = some v
  | [], _, _, _, _, _, h, _ => by simp at h
  | _ :: _, [], _, _, _, _, _, h => by simp at h
  | k :: ks, v :: vs, 0, _, _, _, h, g => by simp at h g; subst h g; simp [lookD]
  | k :: ks, v :: vs, i + 1, j, _, nd, h, g => by
    rw [List.nodup_cons] at nd
    have hj : ks[i]? = some j := by simpa using h
    rw [lookD, if_neg (fun z => nd.1 (by rw [z]; exact List.mem_of_getElem? hj))]
    exact lookD_at nd.2 hj (by simpa using g)
theorem lookD_some {α : Type} : ∀ {ks : List Str} {vs : List α} {k : Str} {v : α}, lookD ks vs k = some v → ∃ i : Nat, ks[i]? = some k ∧ vs[i]? = some v
  | [], _, _, _, h => by simp [lookD] at h
  | _ :: _, [], _, _, h => by simp [lookD] at h
  | k :: ks, v :: vs, j, u, h => by
    rw [lookD] at h
    by_cases e : k = j
    · rw [if_pos e] at h
      cases h
      exact ⟨0, by simp [e], rfl⟩
    · rw [if_neg e] at h
      obtain ⟨i, h1, h2⟩ := lookD_some h
      exact ⟨i + 1, by simpa using h1, by simpa using h2⟩
theorem dkv_inj : ∀ {ks js : List Str} {vs ws : List V}, ks.length = vs.length → js.length = ws.length → dkv ks vs = dkv js ws → ks = js ∧ vs = ws
  | [], [], [], [], _, _, _ => ⟨rfl, rfl⟩
  | [], [], _ :: _, _, h, _, _ => by simp at h
  | [], [], [], _ :: _, _, h, _ => by simp at h
  | _ :: _, _, [], _, h, _, _ => by simp at h
  | [], _ :: _, _ :: _, _, h, _, _ => by simp at h
  | _, _ :: _, _, [], _, h, _ => by simp at h
  | _, [], _, _ :: _, _, h, _ => by simp at h
  | [], _ :: _, [], _ :: _, _, _, e => by simp [dkv] at e
  | _ :: _, [], _ :: _, [], _, _, e => by simp [dkv] at e
  | k :: ks, j :: js, v :: vs, w :: ws, h, g, e => by
    rw [dkv, dkv] at e
    injection e with e1 e2
    injection e1 with e3 e4
    injection e3 with e3
    obtain ⟨r1, r2⟩ := dkv_inj (by simpa using h) (by simpa using g) e2
    subst e3 e4 r1 r2
    exact ⟨rfl, rfl⟩
mutual
/-- the value v stands for the datum d; P: of its lists and dicts -/
inductive At (P : Addr → Prop) (H : Hp) : V → Dat → Prop
  | non : At P H .non .non
  | bl (b : Bool) : At P H (.bl b) (.bl b)
  | int (i : Int) : At P H (.int i) (.int i)
  | str (z : Str) : At P H (.str z) (.str z)
  | lst {a : Addr} {vs : List V} {ds : List Dat} : H a = some (.lst vs) → P a → Ats P H vs ds → At P H (.ref a) (.lst ds)
  | tup {a : Addr} {vs : List V} {ds : List Dat} : H a = some (.tup vs) → Ats P H vs ds → At P H (.ref a) (.tup ds)
  | dic {a : Addr} {ks : List Str} {vs : List V} {ds : List Dat} : H a = some (.dK (dkv ks vs)) → P a → ks.Nodup → ks.length = vs.length → Ats P H vs ds → At P H (.ref a) (.dic ks ds)
inductive Ats (P : Addr → Prop) (H : Hp) : List V → List Dat → Prop
  | nil : Ats P H [] []
  | cons {v : V} {d : Dat} {vs : List V} {ds : List Dat} : At P H v d → Ats P H vs ds → Ats P H (v :: vs) (d :: ds)
end
/-- tuples stay, and the lists and dicts of P -/
structure Kd (P P' : Addr → Prop) (H H' : Hp) : Prop where
  tup : ∀ b xs, H b = some (.tup xs) → H' b = some (.tup xs)
  lst : ∀ b xs, P b → H b = some (.lst xs) → H' b = some (.lst xs)
  dic : ∀ b kvs, P b → H b = some (.dK kvs) → H' b = some (.dK kvs)
  sub : ∀ b, P b → P' b
mutual
theorem At.keep {P P' : Addr → Prop} {H H' : Hp} (k : Kd P P' H H') : ∀ (d : Dat) (v : V), At P H v d → At P' H' v d
  | .non, _, h => by cases h; exact .non
  | .bl _, _, h => by cases h; exact .bl _
  | .int _, _, h => by cases h; exact .int _
  | .str _, _, h => by cases h; exact .str _
  | .lst ds, _, h => by cases h with | lst a b c => exact .lst (k.lst _ _ b a) (k.sub _ b) (Ats.keep k ds _ c)
  | .tup ds, _, h => by cases h with | tup a c => exact .tup (k.tup _ _ a) (Ats.keep k ds _ c)
  | .dic ks ds, _, h => by cases h with | dic a b n l c => exact .dic (k.dic _ _ b a) (k.sub _ b) n l (Ats.keep k ds _ c)
theorem Ats.keep {P P' : Addr → Prop} {H H' : Hp} (k : Kd P P' H H') : ∀ (ds : List Dat) (vs : List V), Ats P H vs ds → Ats P' H' vs ds
  | [], _, h => by cases h; exact .nil
  | d :: ds, _, h => by cases h with | cons a b => exact .cons (At.keep k d _ a) (Ats.keep k ds _ b)
end
theorem Kd.same {P : Addr → Prop} {H H' : Hp} (e : Same H H') : Kd P P H H' := ⟨fun _ _ q => e _ _ q, fun _ _ _ q => e _ _ q, fun _ _ _ q => e _ _ q, fun _ q => q⟩
theorem Kd.weak {P P' : Addr → Prop} {H : Hp} (h : ∀ b, P b → P' b) : Kd P P' H H := ⟨fun _ _ q => q, fun _ _ _ q => q, fun _ _ _ q => q, h⟩
theorem At.same {P : Addr → Prop} {H H' : Hp} {v : V} {d : Dat} (h : At P H v d) (e : Same H H') : At P H' v d := At.keep (Kd.same e) d v h
theorem Ats.same {P : Addr → Prop} {H H' : Hp} {vs : List V} {ds : List Dat} (h : Ats P H vs ds) (e : Same H H') : Ats P H' vs ds := Ats.keep (Kd.same e) ds vs h
theorem At.weak {P P' : Addr → Prop} {H : Hp} {v : V} {d : Dat} (h : At P H v d) (w : ∀ b, P b → P' b) : At P' H v d := At.keep (Kd.weak w) d v h
theorem Ats.weak {P P' : Addr → Prop} {H : Hp} {vs : List V} {ds : List Dat} (h : Ats P H vs ds) (w : ∀ b, P b → P' b) : Ats P' H vs ds := Ats.keep (Kd.weak w) ds vs h
/-- a list or dict outside of P is written -/
theorem Kd.put {P : Addr → Prop} {H : Hp} {a : Addr} {o u : HO} (ha : H a = some u) (hu : ∀ xs, u ≠ .tup xs) (hp : ¬ P a) : Kd P P H (upd H a o) where
  tup := keep_tup (H' := H) ha hu
  lst := fun b xs pb q => by rw [upd_ne (show b ≠ a from fun z => hp (by rw [← z]; exact pb))]; exact q
  dic := fun b xs pb q => by rw [upd_ne (show b ≠ a from fun z => hp (by rw [← z]; exact pb))]; exact q
  sub := fun _ q => q
theorem Kd.trans {P P' P'' : Addr → Prop} {H H' H'' : Hp} (a : Kd P P' H H') (b : Kd P' P'' H' H'') : Kd P P'' H H'' :=
  ⟨fun c xs q => b.tup _ _ (a.tup _ _ q), fun c xs p q => b.lst _ _ (a.sub _ p) (a.lst _ _ p q), fun c xs p q => b.dic _ _ (a.sub _ p) (a.dic _ _ p q), fun c p => b.sub _ (a.sub _ p)⟩
theorem Ats.len {P : Addr → Prop} {H : Hp} : ∀ {vs : List V} {ds : List Dat}, Ats P H vs ds → vs.length = ds.length
  | _, _, .nil => rfl
  | _, _, .cons _ h => by rw [List.length_cons, List.length_cons, Ats.len h]
theorem Ats.get {P : Addr → Prop} {H : Hp} : ∀ {vs : List V} {ds : List Dat} {i : Nat} {v : V}, Ats P H vs ds → vs[i]? = some v → ∃ d, ds[i]? = some d ∧ At P H v d
  | _, _, _, _, .nil, e => by simp at e
  | _, _, 0, _, .cons a _, e => by simp at e; subst e; exact ⟨_, rfl, a⟩
  | _, _, i + 1, v, .cons _ b, e => by
    obtain ⟨d, h1, h2⟩ := Ats.get (i := i) (v := v) b (by simpa using e)
    exact ⟨d, by simpa using h1, h2⟩
theorem Ats.get2 {P : Addr → Prop} {H : Hp} : ∀ {vs : List V} {ds : List Dat} {i : Nat} {d : Dat}, Ats P H vs ds → ds[i]? = some d → ∃ v, vs[i]? = some v ∧ At P H v d
  | _, _, _, _, .nil, e => by simp at e
  | _, _, 0, _, .cons a _, e => by simp at e; subst e; exact ⟨_, rfl, a⟩
  | _, _, i + 1, v, .cons _ b, e => by
    obtain ⟨d, h1, h2⟩ := Ats.get2 (i := i) (d := v) b (by simpa using e)
    exact ⟨d, by simpa using h1, h2⟩
theorem Ats.append {P : Addr → Prop} {H : Hp} : ∀ {vs ws : List V} {ds es : List Dat}, Ats P H vs ds → Ats P H ws es → Ats P H (vs ++ ws) (ds ++ es)
  | _, _, _, _, .nil, h => h
  | _, _, _, _, .cons a b, h => .cons a (Ats.append b h)
theorem Ats.snoc {P : Addr → Prop} {H : Hp} {vs : List V} {ds : List Dat} {v : V} {d : Dat} (h : Ats P H vs ds) (a : At P H v d) : Ats P H (vs ++ [v]) (ds ++ [d]) := h.append (.cons a .nil)
theorem Ats.look {P : Addr → Prop} {H : Hp} {k : Str} : ∀ {ks : List Str} {vs : List V} {ds : List Dat}, Ats P H vs ds → (lookD ks vs k = none ∧ lookD ks ds k = none) ∨ ∃ v d, lookD ks vs k = some v ∧ lookD ks ds k = some d ∧ At P H v d
  | [], _, _, _ => .inl ⟨rfl, rfl⟩
  | _ :: _, _, _, .nil => .inl ⟨rfl, rfl⟩
  | j :: ks, _, _, .cons a b => by
    rw [lookD, lookD]
    by_cases e : j = k
    · rw [if_pos e, if_pos e]; exact .inr ⟨_, _, rfl, rfl, a⟩
    · rw [if_neg e, if_neg e]; exact Ats.look b
mutual
theorem At.fn {P Q : Addr → Prop} {H : Hp} : ∀ (d : Dat) (e : Dat) (v : V), At P H v d → At Q H v e → d = e
  | .non, _, _, h, g => by cases h; cases g; rfl
  | .bl _, _, _, h, g => by cases h; cases g; rfl
  | .int _, _, _, h, g => by cases h; cases g; rfl
  | .str _, _, _, h, g => by cases h; cases g; rfl
  | .lst ds, _, _, h, g => by
    cases h with
    | lst a b c => cases g with
      | lst a2 b2 c2 => rw [a] at a2; cases a2; rw [Ats.fn ds _ _ c c2]
      | tup a2 c2 => rw [a] at a2; cases a2
      | dic a2 _ _ _ c2 => rw [a] at a2; cases a2
  | .tup ds, _, _, h, g => by
    cases h with
    | tup a c => cases g with
      | lst a2 b2 c2 => rw [a] at a2; cases a2
      | tup a2 c2 => rw [a] at a2; cases a2; rw [Ats.fn ds _ _ c c2]
      | dic a2 _ _ _ c2 => rw [a] at a2; cases a2
  | .dic ks ds, _, _, h, g => by
    cases h with
    | dic a b n l c => cases g with
      | lst a2 b2 c2 => rw [a] at a2; cases a2
      | tup a2 c2 => rw [a] at a2; cases a2
      | dic a2 b2 n2 l2 c2 =>
        rw [a] at a2
        injection a2 with a2
        injection a2 with a2
        obtain ⟨e1, e2⟩ := dkv_inj l l2 a2
        subst e1 e2
        rw [Ats.fn ds _ _ c c2]
theorem Ats.fn {P Q : Addr → Prop} {H : Hp} : ∀ (ds : List Dat) (es : List Dat) (vs : List V), Ats P H vs ds → Ats Q H vs es → ds = es
  | [], _, _, h, g => by cases h; cases g; rfl
  | d :: ds, _, _, h, g => by cases h with | cons a b => cases g with | cons a2 b2 => rw [At.fn d _ _ a a2, Ats.fn ds _ _ b b2]
end
mutual
def sizD : Dat → Nat
  | .lst xs => 1 + sizDs xs
  | .tup xs => 1 + sizDs xs
  | .dic _ xs => 1 + sizDs xs
  | _ => 1
def sizDs : List Dat → Nat
  | [] => 0
  | d :: ds => sizD d + sizDs ds
end
theorem sizDs_get {ds : List Dat} {i : Nat} {d : Dat} (h : ds[i]? = some d) : sizD d ≤ sizDs ds := by
  induction ds generalizing i with
  | nil => simp at h
  | cons e es ih =>
    cases i with
    | zero => simp at h; subst h; rw [sizDs]; omega
    | succ j => have := ih (by simpa using h); rw [sizDs]; omega
mutual
/-- what is smaller than the datum at e does not hold e -/
theorem At.apart {P Q : Addr → Prop} {H : Hp} {e : Addr} {d : Dat} (he : At Q H (.ref e) d) : ∀ (c : Dat) (v : V), At P H v c → sizD c < sizD d → At (fun b => P b ∧ b ≠ e) H v c
  | .non, _, h, _ => by cases h; exact .non
  | .bl _, _, h, _ => by cases h; exact .bl _
  | .int _, _, h, _ => by cases h; exact .int _
  | .str _, _, h, _ => by cases h; exact .str _
  | .lst ds, _, h, z => by
    have h0 := h
    cases h with
    | @lst a _ _ q b c =>
      rw [sizD] at z
      refine .lst q ⟨b, fun w => ?_⟩ (Ats.apart he ds _ c (by omega))
      subst w
      have := At.fn _ _ _ h0 he
      rw [← this, sizD] at z
      omega
  | .tup ds, _, h, z => by
    cases h with
    | tup q c =>
      rw [sizD] at z
      exact .tup q (Ats.apart he ds _ c (by omega))
  | .dic ks ds, _, h, z => by
    have h0 := h
    cases h with
    | @dic a _ _ _ q b n l c =>
      rw [sizD] at z
      refine .dic q ⟨b, fun w => ?_⟩ n l (Ats.apart he ds _ c (by omega))
      subst w
      have := At.fn _ _ _ h0 he
      rw [← this, sizD] at z
      omega
theorem Ats.apart {P Q : Addr → Prop} {H : Hp} {e : Addr} {d : Dat} (he : At Q H (.ref e) d) : ∀ (cs : List Dat) (vs : List V), Ats P H vs cs → sizDs cs < sizD d → Ats (fun b => P b ∧ b ≠ e) H vs cs
  | [], _, h, _ => by cases h; exact .nil
  | c :: cs, _, h, z => by
    cases h with
    | cons a b =>
      rw [sizDs] at z
      exact .cons (At.apart he c _ a (by omega)) (Ats.apart he cs _ b (by omega))
end
/-- e is locked -/
theorem Kd.lock {P : Addr → Prop} {H : Hp} {e : Addr} {u : HO} {o : Obj} (he : H e = some u) (hu : ∀ xs, u ≠ .tup xs) : Kd (fun b => P b ∧ b ≠ e) (fun b => P b ∧ b ≠ e) H (upd H e (.frz o u)) :=
  Kd.put he hu (fun z => z.2 rfl)
mutual
theorem nk_at {P : Addr → Prop} {H : Hp} : ∀ (k : NestedKey) (v : V), NK H v k → ∃ d, At P H v d
  | .none, _, h => by cases h; exact ⟨_, .non⟩
  | .num _, _, h => by cases h; exact ⟨_, .int _⟩
  | .text _, _, h => by cases h; exact ⟨_, .str _⟩
  | .tup ks, _, h => by
    cases h with
    | tup a b =>
      obtain ⟨ds, q⟩ := nks_at (P := P) ks _ b
      exact ⟨_, .tup a q⟩
theorem nks_at {P : Addr → Prop} {H : Hp} : ∀ (ks : List NestedKey) (vs : List V), NKs H vs ks → ∃ ds, Ats P H vs ds
  | [], _, h => by cases h; exact ⟨_, .nil⟩
  | k :: ks, _, h => by
    cases h with
    | cons a b =>
      obtain ⟨d, q⟩ := nk_at (P := P) k _ a
      obtain ⟨ds, r⟩ := nks_at (P := P) ks _ b
      exact ⟨_, .cons q r⟩
end
/-- the same up to the order of dicts, at most n deep -/
def Sim : Nat → Dat → Dat → Prop
  | 0, _, _ => False
  | _ + 1, .non, .non => True
  | _ + 1, .bl a, .bl b => a = b
  | _ + 1, .int a, .int b => a = b
  | _ + 1, .str a, .str b => a = b
  | n + 1, .lst xs, .lst ys => xs.length = ys.length ∧ ∀ (i : Nat) (u v : Dat), xs[i]? = some u → ys[i]? = some v → Sim n u v
  | n + 1, .tup xs, .tup ys => xs.length = ys.length ∧ ∀ (i : Nat) (u v : Dat), xs[i]? = some u → ys[i]? = some v → Sim n u v
  | n + 1, .dic ks xs, .dic js ys => ks.length = js.length ∧ ∀ (i : Nat) (k : Str) (v : Dat), js[i]? = some k → ys[i]? = some v → ∃ u, lookD ks xs k = some u ∧ Sim n u v
  | _ + 1, _, _ => False
mutual
def depD : Dat → Nat
  | .lst xs => 1 + depDs xs
  | .tup xs => 1 + depDs xs
  | .dic _ xs => 1 + depDs xs
  | _ => 0
def depDs : List Dat → Nat
  | [] => 0
  | d :: ds => max (depD d) (depDs ds)
end
/-- x and y tell the same: one value, or two apart -/
def SmV (H : Hp) (n : Nat) (x y : V) : Prop := (∃ P d, x = y ∧ At P H x d ∧ depD d < n) ∨ ∃ P d e, At P H x d ∧ At (fun b => ¬ P b) H y e ∧ Sim n d e
def spSameD (n : Nat) : Sp := fun vs H Q _ => ∃ x y, vs = [x, y] ∧ SmV H n x y ∧ ∀ H', Same H H' → Q (.bl true) H'
theorem depDs_get {ds : List Dat} {i : Nat} {d : Dat} (h : ds[i]? = some d) : depD d ≤ depDs ds := by
  induction ds generalizing i with
  | nil => simp at h
  | cons e es ih =>
    cases i with
    | zero => simp at h; subst h; rw [depDs]; omega
    | succ j => have := ih (by simpa using h); rw [depDs]; omega
end G
set_option Elab.async false
set_option linter.all false
set_option maxRecDepth 100000
set_option maxHeartbeats 4000000
namespace G
open PySem PySem.Spec PyProof.Rows L2 Nd
/-! ### the law's own comparison -/
/-- what isinstance(x, C) asks of a class of the program -/
structure IsiC (K : PySem.W.Frag) (C : Addr) : Prop where
  ha : PySem.W.findIn K (.ref C) "__class__" = some (some (.builtin "object.__class__"))
  hn : PySem.W.specialIn K (.builtin "object.__class__") "__get__" = some (some (.builtin "getset_descriptor.__get__"))
  htk : PySem.W.takesIn K (.builtin "object.__class__") = some true
  hm : PySem.W.mroIn K C (.type "object") = some true
theorem IsiC.hk {K : PySem.W.Frag} {C : Addr} (h : IsiC K C) : PySem.W.kitOne K (.ref C) (.ref C) = some true := if_pos (beq_self_eq_true _)
/-- a value's type, with dicts of nested keys -/
inductive TyN (P : Program) (w : World) (K : PySem.W.Frag) (H : Hp) : V → Value → Prop where
  | base {x : V} {t : Value} (h : TyX K H x t) : TyN P w K H x t
  | dn {a : Addr} {xs : List Ent} (e : Rd H a (DN P w a xs)) : TyN P w K H (.ref a) (.type "dict")
theorem kit_ofN {X : Cx} {pins : List (Addr × Obj)} {σ : L2.St} {H : Hp} {s : Shared} {x : V} {u t : Value} (I : Inv X pins σ H s) (rx : RelV x u) (ty : TyN X.prog X.w X.K H x t) : ∃ P : Heap → Prop, PySem.W.KitX X.K u t P ∧ P s.heap ∧ u ≠ .builtin "__main__.__loader__#opaque" := by
  cases ty with
  | base h => exact kit_of I rx h
  | @dn a xs e =>
    cases (show u = Value.ref a from rx)
    obtain ⟨⟨_, vs, _, o, es, ep, h1, h2, _⟩, _, _⟩ := (show ObjOk X.prog X.w H s.heap a (DN X.prog X.w a xs) from e.ok I.hok)
    exact ⟨_, PySem.W.kitx_dict, ⟨o, h1, h2.1⟩, fun z => nomatch z⟩
def rIsiN (P : Program) (w : World) (K : PySem.W.Frag) : List V → Hp → VK → Prop := fun xs H Q => ∃ (x c : V) (t u : Value) (b : Bool), xs = [x, c] ∧ ClsV c u ∧ TyN P w K H x t ∧ PySem.W.kitOne K t u = some b ∧ Q (.bl b) H
theorem call_isiN {X : Cx} : CallR X (.builtin "isinstance") (rIsiN X.prog X.w X.K) := by
  intro pins s σ H xs us Q I r h
  obtain ⟨x, c, t, u, b, rfl, k, ty, e, q⟩ := h
  obtain ⟨u1, u2, rfl, r1, r2⟩ := vals2 r
  have e2 := k.eq r2
  subst e2
  obtain ⟨P, Z, p, hx⟩ := kit_ofN I r1 ty
  exact PySem.W.kia_one Z I.kIn p e hx fun tk => ⟨.bl b, H, I.tok tk, rfl, q⟩
/-- index into a list or a tuple -/
def rIxA (K : PySem.W.Frag) : R2 := fun x y H Q => rIxL K x y H Q ∨ rIxT K x y H Q
theorem ix_any {X : Cx} : IxR X (rIxA X.K) := by
  intro value slice pins s σ H x y v u Q I rx ry h hs
  rcases h with h | h
  · exact ix_list value slice pins s σ H x y v u Q I rx ry h hs
  · exact ix_tup value slice pins s σ H x y v u Q I rx ry h hs
/-- len of a list or tuple: never beyond the line -/
def rLenB (K : PySem.W.Frag) : List V → Hp → VK → Prop := fun xs H Q => ∃ p ys, xs = [.ref p] ∧ (SqL K H p ys ∨ SqT K H p ys) ∧ (ys.length ≤ sizeLine → Q (.int ys.length) H)
theorem call_lenB {X : Cx} : CallR X (.builtin "len") (rLenB X.K) := by
  intro pins s σ H xs us Q I r h
  obtain ⟨p, ys, e, hq, q⟩ := h
  have hz : ys.length ≤ sizeLine := by
    rcases hq with hq | hq
    · obtain ⟨_, _, _, hz⟩ := I.list hq
      exact hz
    · obtain ⟨_, _, _, hz⟩ := I.tuple hq
      exact hz
  exact call_len_seq pins s σ H xs us Q I r ⟨p, ys, e, hq, q hz⟩
theorem line24 {n : Nat} (h : n ≤ sizeLine) : (n : Int) < 2 ^ 62 := by
  have : sizeLine = 16777216 := by decide
  omega
/-- the same plain value, at most n deep -/
def Eq2 (H : Hp) : Nat → V → V → Prop
  | 0, _, _ => False
  | n + 1, x, y => (x = .non ∧ y = .non) ∨ (∃ b, x = .bl b ∧ y = .bl b) ∨ (∃ i, x = .int i ∧ y = .int i) ∨ (∃ z, x = .str z ∧ y = .str z) ∨
    ∃ a b xs ys, x = .ref a ∧ y = .ref b ∧ ((H a = some (.tup xs) ∧ H b = some (.tup ys)) ∨ (H a = some (.lst xs) ∧ H b = some (.lst ys))) ∧ xs.length = ys.length ∧ ∀ (i : Nat) (u v : V), xs[i]? = some u → ys[i]? = some v → Eq2 H n u v
theorem Eq2.mono {H H' : Hp} (ht : ∀ a xs, H a = some (.tup xs) → H' a = some (.tup xs)) (hl : ∀ a xs, H a = some (.lst xs) → H' a = some (.lst xs)) : ∀ {n : Nat} {x y : V}, Eq2 H n x y → Eq2 H' n x y
  | 0, _, _, h => h.elim
  | n + 1, x, y, h => by
    rcases h with h | h | h | h | ⟨a, b, xs, ys, h1, h2, h3, h4, h6⟩
    · exact .inl h
    · exact .inr (.inl h)
    · exact .inr (.inr (.inl h))
    · exact .inr (.inr (.inr (.inl h)))
    · refine .inr (.inr (.inr (.inr ⟨a, b, xs, ys, h1, h2, ?_, h4, fun i u v e f => (h6 i u v e f).mono ht hl⟩)))
      rcases h3 with ⟨q1, q2⟩ | ⟨q1, q2⟩
      · exact .inl ⟨ht _ _ q1, ht _ _ q2⟩
      · exact .inr ⟨hl _ _ q1, hl _ _ q2⟩
theorem Eq2.same {H H' : Hp} {n : Nat} {x y : V} (h : Eq2 H n x y) (e : Same H H') : Eq2 H' n x y := h.mono (fun _ _ q => e _ _ q) (fun _ _ q => e _ _ q)
theorem Eq2.le {H : Hp} : ∀ {m n : Nat} {x y : V}, Eq2 H m x y → m ≤ n → Eq2 H n x y
  | 0, _, _, _, h, _ => h.elim
  | m + 1, 0, _, _, _, h => absurd h (by omega)
  | m + 1, n + 1, x, y, h, hl => by
    rcases h with h | h | h | h | ⟨a, b, xs, ys, h1, h2, h3, h4, h6⟩
    · exact .inl h
    · exact .inr (.inl h)
    · exact .inr (.inr (.inl h))
    · exact .inr (.inr (.inr (.inl h)))
    · exact .inr (.inr (.inr (.inr ⟨a, b, xs, ys, h1, h2, h3, h4, fun i u v e f => (h6 i u v e f).le (by omega)⟩)))
/-- while d is locked, and after -/
theorem same_unlock {H H' : Hp} {d : Addr} {o : Obj} {u : HO} (hd : H d = some u) (e : Same (upd H d (.frz o u)) H') : H' d = some (.frz o u) ∧ Same H (upd H' d u) := by
  refine ⟨e _ _ upd_same, fun c v hc => ?_⟩
  by_cases h : c = d
  · subst h
    rw [upd_same, ← hd, hc]
  · rw [upd_ne h]
    exact e _ _ (by rw [upd_ne h]; exact hc)
/-- the same dict of nested keys -/
def EqD2 (P : Program) (w : World) (H : Hp) (n : Nat) (x y : V) : Prop := ∃ d e es fs, x = .ref d ∧ y = .ref e ∧ d ≠ e ∧ H d = some (DN P w d es) ∧ H e = some (DN P w e fs) ∧ KeysAt H es ∧ KeysAt H fs ∧ es.length = fs.length ∧
  ∀ k a v, (k, a, v) ∈ fs → ∃ u v', lookN es k = some u ∧ lookN fs k = some v' ∧ Eq2 H n u v'
def spSame (P : Program) (w : World) (n : Nat) : Sp := fun vs H Q _ => ∃ x y, vs = [x, y] ∧ (Eq2 H n x y ∨ ∃ m, m < n ∧ EqD2 P w H m x y) ∧ ∀ H', Same H H' → Q (.bl true) H'
mutual
theorem nk_eq2 {H : Hp} : ∀ (k : NestedKey) (n : Nat) (x y : V), NK H x k → NK H y k → k.depth < n → Eq2 H n x y
  | _, 0, _, _, _, _, h => absurd h (by omega)
  | .none, n + 1, _, _, h1, h2, _ => by cases h1; cases h2; exact .inl ⟨rfl, rfl⟩
  | .num i, n + 1, _, _, h1, h2, _ => by cases h1; cases h2; exact .inr (.inr (.inl ⟨_, rfl, rfl⟩))
  | .text z, n + 1, _, _, h1, h2, _ => by cases h1; cases h2; exact .inr (.inr (.inr (.inl ⟨_, rfl, rfl⟩)))
  | .tup ks, n + 1, _, _, h1, h2, hd => by
    cases h1 with
    | tup p1 p2 =>
      cases h2 with
      | tup q1 q2 =>
        rw [NestedKey.depth] at hd
        exact .inr (.inr (.inr (.inr ⟨_, _, _, _, rfl, rfl, .inl ⟨p1, q1⟩, by rw [p2.len, q2.len], nks_eq2 ks n _ _ p2 q2 (by omega)⟩)))
theorem nks_eq2 {H : Hp} : ∀ (ks : List NestedKey) (n : Nat) (xs ys : List V), NKs H xs ks → NKs H ys ks → NestedKey.depthAll ks < n → ∀ (i : Nat) (u v : V), xs[i]? = some u → ys[i]? = some v → Eq2 H n u v
  | [], n, _, _, h1, h2, _, i, u, v, e, _ => by cases h1; simp at e
  | k :: ks, n, _, _, h1, h2, hd, i, u, v, e, f => by
    cases h1 with
    | cons p1 p2 =>
      cases h2 with
      | cons q1 q2 =>
        rw [NestedKey.depthAll] at hd
        cases i with
        | zero => simp at e f; subst e f; exact nk_eq2 k n _ _ p1 q1 (by omega)
        | succ i => exact nks_eq2 ks n _ _ p2 q2 (by omega) i u v (by simpa using e) (by simpa using f)
end
end G
set_option Elab.async false
set_option linter.all false
set_option maxRecDepth 100000
set_option maxHeartbeats 400000
namespace G
open PySem L2 Nd
/-- x and y of the same kind, their parts the same -/
inductive SmC (H : Hp) (n : Nat) : V → V → Prop
  | non : SmC H n .non .non
  | bl (b : Bool) : SmC H n (.bl b) (.bl b)
  | int (i : Int) : SmC H n (.int i) (.int i)
  | str (z : Str) : SmC H n (.str z) (.str z)
  | tup {a b : Addr} {xs ys : List V} : H a = some (.tup xs) → H b = some (.tup ys) → xs.length = ys.length → (∀ (i : Nat) (u v : V), xs[i]? = some u → ys[i]? = some v → SmV H n u v) → SmC H n (.ref a) (.ref b)
  | lst {a b : Addr} {xs ys : List V} : H a = some (.lst xs) → H b = some (.lst ys) → xs.length = ys.length → (∀ (i : Nat) (u v : V), xs[i]? = some u → ys[i]? = some v → SmV H n u v) → SmC H n (.ref a) (.ref b)
  | dic {a b : Addr} {ks js : List Str} {us vs : List V} : H a = some (.dK (dkv ks us)) → H b = some (.dK (dkv js vs)) → ks.length = us.length → js.length = vs.length → ks.length = js.length → js.Nodup →
      (∀ (i : Nat) (k : Str) (v : V), js[i]? = some k → vs[i]? = some v → ∃ u, lookD ks us k = some u ∧ ∀ od H2, Same (upd H b (.frz od (.dK (dkv js vs)))) H2 → SmV H2 n u v) → SmC H n (.ref a) (.ref b)
theorem SmV.same {H H' : Hp} {n : Nat} {x y : V} (h : SmV H n x y) (e : Same H H') : SmV H' n x y := by
  rcases h with ⟨P, d, h1, h2, h3⟩ | ⟨P, d, e', h1, h2, h3⟩
  · exact .inl ⟨P, d, h1, h2.same e, h3⟩
  · exact .inr ⟨P, d, e', h1.same e, h2.same e, h3⟩
theorem SmV.cases {H : Hp} {n : Nat} {x y : V} (h : SmV H (n + 1) x y) : SmC H n x y := by
  rcases h with ⟨P, d, rfl, h, hd⟩ | ⟨P, d, e, h, g, hs⟩
  · have h0 := h
    cases h with
    | non => exact .non
    | bl b => exact .bl b
    | int i => exact .int i
    | str z => exact .str z
    | lst q p c =>
      refine .lst q q rfl fun i u v e1 e2 => ?_
      rw [e1] at e2
      cases e2
      obtain ⟨du, hu, au⟩ := c.get e1
      have := depDs_get hu
      rw [depD] at hd
      exact .inl ⟨P, du, rfl, au, by omega⟩
    | tup q c =>
      refine .tup q q rfl fun i u v e1 e2 => ?_
      rw [e1] at e2
      cases e2
      obtain ⟨du, hu, au⟩ := c.get e1
      have := depDs_get hu
      rw [depD] at hd
      exact .inl ⟨P, du, rfl, au, by omega⟩
    | dic q p nd l c =>
      refine .dic q q l l rfl nd fun i k v e1 e2 => ⟨v, lookD_at nd e1 e2, fun od H2 s => ?_⟩
      obtain ⟨du, hu, au⟩ := c.get e2
      have := depDs_get hu
      have z := sizDs_get hu
      rw [depD] at hd
      have ap := At.apart h0 du v au (by rw [sizD]; omega)
      exact .inl ⟨_, du, rfl, (At.keep (Kd.lock q (by intro xs z; cases z)) _ _ ap).same s, by omega⟩
  · have g0 := g
    cases h with
    | non => cases g <;> first | exact .non | (simp [Sim] at hs)
    | bl b => cases g <;> first | (simp [Sim] at hs; subst hs; exact .bl _) | (simp [Sim] at hs)
    | int i => cases g <;> first | (simp [Sim] at hs; subst hs; exact .int _) | (simp [Sim] at hs)
    | str z => cases g <;> first | (simp [Sim] at hs; subst hs; exact .str _) | (simp [Sim] at hs)
    | lst q p c =>
      cases g with
      | lst q2 p2 c2 =>
        rw [Sim] at hs
        refine .lst q q2 (by rw [c.len, c2.len]; exact hs.1) fun i u v e1 e2 => ?_
        obtain ⟨du, hu, au⟩ := c.get e1
        obtain ⟨dv, hv, av⟩ := c2.get e2
        exact .inr ⟨P, du, dv, au, av, hs.2 i du dv hu hv⟩
      | _ => simp [Sim] at hs
    | tup q c =>
      cases g with
      | tup q2 c2 =>
        rw [Sim] at hs
        refine .tup q q2 (by rw [c.len, c2.len]; exact hs.1) fun i u v e1 e2 => ?_
        obtain ⟨du, hu, au⟩ := c.get e1
        obtain ⟨dv, hv, av⟩ := c2.get e2
        exact .inr ⟨P, du, dv, au, av, hs.2 i du dv hu hv⟩
      | _ => simp [Sim] at hs
    | dic q p nd l c =>
      cases g with
      | dic q2 p2 nd2 l2 c2 =>
        rw [Sim] at hs
        refine .dic q q2 l l2 hs.1 nd2 fun i k v e1 e2 => ?_
        obtain ⟨dv, hv, av⟩ := c2.get e2
        obtain ⟨du, hu, sm⟩ := hs.2 i k dv e1 hv
        rcases c.look (k := k) with ⟨_, z⟩ | ⟨u, du2, lu, ld, au⟩
        · rw [hu] at z; cases z
        rw [hu] at ld
        cases ld
        refine ⟨u, lu, fun od H2 s => ?_⟩
        have z := sizDs_get hv
        have ap := At.apart g0 dv v av (by rw [sizD]; omega)
        have k0 := Kd.lock (o := od) (P := fun b => ¬ P b) q2 (by intro xs z; cases z)
        have k1 := Kd.lock (o := od) (P := P) q2 (by intro xs z; cases z)
        refine .inr ⟨_, du, dv, (At.keep k1 _ _ (au.weak fun b pb => ⟨pb, fun w => p2 (by rw [← w]; exact pb)⟩)).same s, ((At.keep k0 _ _ ap).same s).weak fun b pb z => pb.1 z.1, sm⟩
      | _ => simp [Sim] at hs
end G
set_option Elab.async false
set_option linter.all false
set_option maxRecDepth 100000
set_option maxHeartbeats 4000000
/-! Own errors over Exception whose __init__ calls the base's __init__ by the class's name. -/
namespace Xo
open PySem PySem.Spec PyProof.Rows L2
abbrev exB : List Value := [.type "Exception", .type "BaseException", .type "object"]
/-- what the written part tells of such a class -/
structure ErC (K : PySem.W.Frag) (C : Addr) : Prop where
  ini : PySem.W.excInitIn K C exB "Exception.__new__" = true
  ovr : PySem.W.excOver K C exB = true
  hdc : PySem.W.hasDictIn K C = true
  sto : PySem.W.findIn K (.ref C) "__setattr__" = some (some (.builtin "object.__setattr__"))
  bas : PySem.W.subIn K (.ref C) (.type "BaseException") = some true
  typ : PySem.W.typeIn K (.ref C) = some (.type "type")
  kee : PySem.W.keepIn K (.ref C) = true
theorem exm_mk {K : PySem.W.Frag} {X Y : Addr} {b : Bool} (h1 : PySem.W.subIn K (.ref Y) (.type "BaseException") = some true) (h2 : PySem.W.isClsIn K Y = true) (h3 : PySem.W.typeIn K (.ref Y) = some (.type "type")) (h4 : PySem.W.subIn K (.ref X) (.ref Y) = some b) : PySem.W.exmOne K (.ref X) (.ref Y) = some b := by
  unfold PySem.W.exmOne
  rw [h1, if_pos (beq_self_eq_true _)]
  unfold PySem.W.kitCls
  dsimp only
  rw [show (PySem.W.clsIn K Y).isSome = true from h2, h3, h4]
  rfl
theorem taker_none {K : PySem.W.Frag} {C : Addr} {f : Str} (h : PySem.W.findIn K (.ref C) f = some none) : PySem.W.takerIn K C f = some none := by
  unfold PySem.W.takerIn
  rw [h]
  rfl
section
open Builtin Builtin.ObjectAttr
variable {P : Program} {w : World} {B : Around} {R : Result → Shared → Prop} {hp : Heap} {g : Array GenState} {dr : Drawn} {tk0 : Nat} {os : OsState} {K : PySem.W.Frag} {C x dx : Addr} {f : Str} {tk : Tok} {v : Value} {fv : Array Value}
theorem clsOf (T : ErC K C) : ∃ cd, PySem.W.clsIn K C = some cd ∧ cd.hasDict = true := PySem.W.any_some T.hdc
/-- the first field: the dict is laid -/
theorem osaN (T : ErC K C) (X : K.In hp) (hx : hp.get? x = some { cls := .ref C, data := .fields fv }) (hno : PySem.W.findIn K (.ref C) f = some none)
    (k : ∀ h1 tk1 dx, (∀ b o, b ≠ x → hp.get? b = some o → h1.get? b = some o) → hp.objs.size ≤ dx → dx ≠ x → h1.get? x = some { cls := .ref C, dict := some dx, data := .fields fv } →
      h1.Ns1 dx (fun y => if y = f then some v else none) → R (.ok (.ret .none)) ⟨h1, g, dr, tk1, os⟩) :
    codeAny (model P w) B (.call (.builtin "object.__setattr__") ⟨[.ref x, .str f tk, v], []⟩) R ⟨hp, g, dr, tk0, os⟩ := by
  obtain ⟨cd, hcd, hh⟩ := clsOf T
  have nx : x ≠ hp.objs.size := Nat.ne_of_lt (Heap.lt_size hx)
  refine PySem.W.osa_openX PySem.F.store_Exception X (ox := { cls := .ref C, data := .fields fv }) (od := none) ⟨hx, rfl, rfl, trivial⟩ T.ovr (taker_none hno) fun b => ?_
  have Lc : PySem.W.Looks (model P w) hp (classData C) cd := PySem.W.looks_clsIn X hcd
  obtain ⟨nm, bs, mro, ns, qn, hd, sn, sb, ab, col, del⟩ := cd
  dsimp only at hh
  subst hh
  unfold storeInOwnDict ownDictForStores
  repeat (first
    | with_reducible refine HandSPX.store_in_new ?_ ?_
    | with_reducible refine wpAny_loadPart_at hx ?_
    | with_reducible refine Lc.at ?_
    | wp_step)
  · exact ⟨_, #[], _, (Heap.get?_update_ne _ _ _ _ nx.symm).trans (Heap.get?_push_at rfl rfl), rfl, (fun e he => absurd he (by simp)), fun _ => rfl⟩
  · intro h1 tk1 hn sbt
    have hx1 := Heap.get?_push_of_some { cls := .type "dict", data := .dict #[] } hx
    refine k h1 tk1 hp.objs.size (fun b o hb ho => ?_) (Nat.le_refl _) nx.symm ?_ hn
    · have q1 := sbt.2 b (Nat.ne_of_lt (Heap.lt_size ho))
      exact q1.trans ((Heap.get?_update_ne _ _ _ _ hb).trans (Heap.get?_push_of_some _ ho))
    · exact (sbt.2 x nx).trans (Heap.get?_update_self _ hx1 rfl)
/-- a further field -/
theorem osaO {m0 : Str → Option Value} {nl : List Str} (T : ErC K C) (X : K.In hp) (hx : hp.get? x = some { cls := .ref C, dict := some dx, data := .fields fv }) (hns : hp.Ns1 dx m0) (hw : Within m0 nl) (hz : nl.length ≤ 1000) (hno : PySem.W.findIn K (.ref C) f = some none)
    (k : ∀ h1 tk1, (∀ b o, b ≠ dx → hp.get? b = some o → h1.get? b = some o) → h1.Ns1 dx (fun y => if y = f then some v else m0 y) → R (.ok (.ret .none)) ⟨h1, g, dr, tk1, os⟩) :
    codeAny (model P w) B (.call (.builtin "object.__setattr__") ⟨[.ref x, .str f tk, v], []⟩) R ⟨hp, g, dr, tk0, os⟩ := by
  obtain ⟨cd, hcd, hh⟩ := clsOf T
  obtain ⟨oD, _, _, hoD, _, _⟩ := hns.count hw
  refine PySem.W.osa_openX PySem.F.store_Exception X (ox := { cls := .ref C, dict := some dx, data := .fields fv }) (od := some oD) ⟨hx, rfl, rfl, hoD⟩ T.ovr (taker_none hno) fun b => ?_
  have Lc : PySem.W.Looks (model P w) hp (classData C) cd := PySem.W.looks_clsIn X hcd
  obtain ⟨nm, bs, mro, ns, qn, hd, sn, sb, ab, col, del⟩ := cd
  dsimp only at hh
  subst hh
  unfold storeInOwnDict ownDictForStores
  repeat (first
    | with_reducible refine PySem.OEX.store_in_old hns hw hz ?_
    | with_reducible refine wpAny_loadPart_at hx ?_
    | with_reducible refine Lc.at ?_
    | wp_step)
  intro h1 tk1 hn sbt
  exact k h1 tk1 (fun b o hb ho => (sbt.2 b hb).trans ho) hn
end
section
variable {X : Cx} {pins : List (Addr × Obj)} {σ : L2.St} {H : Hp} {s : Shared} {a C dx : Addr} {f : Str} {y : V} {u : Value} {fs : List (Str × V)} {Q : Unit → Shared → Prop} {E : Value → Shared → Prop} {A : Around}
theorem stN (T : ErC X.K C) (I : Inv X pins σ H s) (e : H a = some (exo a C none)) (hno : PySem.W.findIn X.K (.ref C) f = some none) (ry : RelV y u)
    (k : ∀ dx s1, H dx = none → dx ≠ a → Inv X pins σ (upd (upd H dx (exd dx [(f, y)])) a (exo a C (some dx))) s1 → Q () s1) : wpAny (model X.prog X.w) A (setAttr (.ref a) f u) Q E s := by
  obtain ⟨t1, ho⟩ := exo_at I.hok e
  obtain ⟨hp, g, dr, t, os⟩ := s
  refine PySem.W.set_plain I.kIn (od := none) ⟨ho, rfl, rfl, trivial⟩ T.sto ?_
  refine osaN T I.kIn ho hno fun h1 tk1 dx kp dn dne hx hn => ?_
  have nd : H dx = none := I.hok.fresh dn
  have ndx : ∀ {b : Addr} {o : Obj}, hp.get? b = some o → b ≠ dx := fun q => Nat.ne_of_lt (Nat.lt_of_lt_of_le (Heap.lt_size q) dn)
  have nea : ∀ {b : Addr}, H b = none → b ≠ a := fun n z => by rw [z, e] at n; cases n
  have U : Un X.fs [] H (upd (upd H dx (exd dx [(f, y)])) a (exo a C (some dx))) hp h1 := by
    constructor
    · exact fun b o q n _ _ => kp b o (nea n) q
    · exact fun b o q n _ _ => ⟨o.slots, kp b o (nea n) q⟩
    · exact fun b o q n _ => by rw [upd_ne (nea n), upd_ne (ndx q), n]
    · intro b o q _
      rcases Decidable.em (b = a) with z | z
      · exact ⟨_, z ▸ hx⟩
      · exact ⟨o, kp b o z q⟩
    · exact fun b xs q => by rw [upd_ne (at_ne e q exo_tup), upd_ne (ne_of_none q nd), q]
    · exact fun b o v q => by rw [upd_ne (at_ne e q exo_frz), upd_ne (ne_of_none q nd), q]
    · exact fun b ps q => ⟨#[], by rw [upd_ne (at_ne e q exo_tbl), upd_ne (ne_of_none q nd), q]; simp⟩
  refine k dx _ nd dne (I.un (t' := tk1) U fun b o q => ?_)
  rcases Decidable.em (b = a) with z | z
  · subst z
    rw [upd_same] at q
    cases q
    exact exo_ok hx
  rw [upd_ne z] at q
  rcases Decidable.em (b = dx) with z2 | z2
  · subst z2
    rw [upd_same] at q
    cases q
    exact exd_ok hn (relO_put (fs := []) ry fun _ => True.intro)
  rw [upd_ne z2] at q
  refine (I.hok b o q).stay (fun c v hc r => kp c v ?_ r) (fun c hc => ?_) (fun c xs hc => ?_)
  · rcases hc with hc | hc
    · rw [hc]; exact z
    · exact at_ne e hc exo_own
  · rw [upd_ne (at_ne e hc exo_own), upd_ne (ne_of_none hc nd), hc]
  · rw [upd_ne (at_ne e hc exo_tup), upd_ne (ne_of_none hc nd), hc]
theorem stO (T : ErC X.K C) (I : Inv X pins σ H s) (e : H a = some (exo a C (some dx))) (ed : H dx = some (exd dx fs)) (hl : fs.length ≤ 900) (hno : PySem.W.findIn X.K (.ref C) f = some none) (ry : RelV y u)
    (k : ∀ s1, Inv X pins σ (upd H dx (exd dx ((f, y) :: fs))) s1 → Q () s1) : wpAny (model X.prog X.w) A (setAttr (.ref a) f u) Q E s := by
  obtain ⟨t1, ho⟩ := exo_at I.hok e
  obtain ⟨mA, hns, rel⟩ := exd_at I.hok ed
  obtain ⟨hp, g, dr, t, os⟩ := s
  obtain ⟨oD, _, _, hoD, _, _⟩ := hns.count (within_of rel)
  refine PySem.W.set_plain I.kIn (od := some oD) ⟨ho, rfl, rfl, hoD⟩ T.sto ?_
  refine osaO T I.kIn ho hns (within_of rel) (by rw [List.length_map]; omega) hno fun h1 tk1 kp hn => ?_
  obtain ⟨oN, _, _, eN, _⟩ := id hn
  exact k _ (I.write (t' := tk1) (x := dx) (e := dx) (o := exd dx ((f, y) :: fs)) (by rw [ed]; exact True.intro) (.inl rfl) kp ⟨oN, eN⟩ (exd_ok hn (relO_put ry rel)))
/-- the base's __init__: nothing of it is told -/
theorem iniB {us : List Value} {Q : Value → Shared → Prop} (T : ErC X.K C) (I : Inv X pins σ H s) (e : H a = some (exo a C none)) (hl : us.length ≤ sizeLine) (k : ∀ s1, Inv X pins σ H s1 → Q .none s1) :
    wpAny (model X.prog X.w) A (call (.builtin "Exception.__init__") (.ref a :: us)) Q E s := by
  obtain ⟨nm, N, qn, bs, bm, hdct, sn, sub, ab, col, dd, k0, k1, k2, k3, k5, hC, hT⟩ := PySem.W.excInit_of I.kIn T.ini
  obtain ⟨t1, ho⟩ := exo_at I.hok e
  obtain ⟨hp, g, dr, t, os⟩ := s
  refine wpAny_call (HandSPX.init_base PySem.F.excBase_Exception hT hC ho hl fun h1 t2 kp hx => ?_)
  have J := I.write (t' := t) (x := a) (e := a) (o := exo a C none) (by rw [e]; exact True.intro) (.inl rfl) kp ⟨_, hx⟩ (exo_ok hx)
  have same : upd H a (exo a C none) = H := funext fun b => by
    rcases Decidable.em (b = a) with z | z
    · rw [z, upd_same, e]
    · rw [upd_ne z]
  rw [same] at J
  exact k _ J
end
end Xo
set_option Elab.async false
set_option linter.all false
set_option maxRecDepth 100000
set_option maxHeartbeats 4000000
namespace Xo
open PySem PySem.Spec PyProof.Rows L2
/-- the class whose __init__ is called by name -/
structure BaC (K : PySem.W.Frag) (S : Addr) : Prop where
  gat : PySem.W.specialIn K (.ref S) "__getattribute__" = some (some (.builtin "type.__getattribute__"))
  rds : PySem.W.readsIn K S (.type "type") = true
  fnd : PySem.W.findCls K (.ref S) (.type "type") "__init__" = some (.val (.builtin "Exception.__init__"))
def tBI (K : PySem.W.Frag) (ta : TA) : TE := fun σ H Q => ta σ H fun vs H1 => ∃ (a C : Addr) (ws : List V), vs = .ref a :: ws ∧ ws.length ≤ 1000 ∧ ErC K C ∧ H1 a = some (exo a C none) ∧ Q .non H1
/-- self.f = e, the first and the further ones -/
def sEr (K : PySem.W.Frag) (f : Str) (to te : TE) : TS := fun D σ H => te σ H fun y H1 => to σ H1 fun x H2 => ∃ a C : Addr, x = .ref a ∧ ErC K C ∧ PySem.W.findIn K (.ref C) f = some none ∧
  ((H2 a = some (exo a C none) ∧ ∀ dx, H2 dx = none → dx ≠ a → D.nx σ (upd (upd H2 dx (exd dx [(f, y)])) a (exo a C (some dx)))) ∨
    ∃ (dx : Addr) (fs : List (Str × V)), H2 a = some (exo a C (some dx)) ∧ H2 dx = some (exd dx fs) ∧ fs.length ≤ 900 ∧ D.nx σ (upd H2 dx (exd dx ((f, y) :: fs))))
section
variable {X : Cx} {o e : Expr} {es : List Expr} {to te : TE} {ta : TA} {f x : Str} {p p0 p1 p2 pos : Pos} {S : Addr}
theorem pe_binit {pl : Sem Bool} (hg : Gl X x) (hm : X.mg x = some (.ref S)) (B : BaC X.K S) (ha : PA X (e :: es) ta) (hdb : (x == ("__debug__" : Str)) = false := by decide)
    (hc : eval (.Call (.Attribute (.Name x p1) "__init__" p2) (e :: es) [] pos) X.env = (eval (.Name x p1) X.env >>= fun ov => standAt p2.atName >>= fun _ => holding [ov] (getMethod ov "__init__" pl) >>= fun z =>
      callWith pos z.1 z.2 (backTo pos (starEach (e :: es) X.env)) (backToKw pos (keywordEach [] X.env))) := by rfl)
    (he : starEach (e :: es) X.env = (false, eval e X.env) :: starEach es X.env := by rfl) (hpl : (backTo pos (starEach es X.env)).any (·.1) = false := by rfl) :
    PE X (.Call (.Attribute (.Name x p1) "__init__" p2) (e :: es) [] pos) (tBI X.K ta) := by
  constructor
  intro pins s σ H Q I q
  refine PySem.W.methodCall_KW (ld_glob I hg hm ?_ hdb) hc
  refine PySem.W.method_cls I.kIn B.gat (PySem.W.cls_value I.kIn B.rds B.fnd (by decide +kernel) ?_)
  show wpAny _ _ (callWith pos (Value.builtin "Exception.__init__") [] (backTo pos (starEach (e :: es) X.env)) []) _ _ _
  refine callWith_method1 (thn (ha.run pos pins _ σ H _ (I.tok _) q) ?_) he hpl
  rintro us s1 ⟨vs, H1, I1, r1, a, C, ws, rfl, hl, T, ea, q1⟩
  cases r1 with
  | @cons _ u0 _ ur ra rr =>
    obtain rfl : u0 = Value.ref a := ra
    refine iniB T I1 ea ?_ fun s2 J => ⟨.non, H1, J, rfl, q1⟩
    have := Paired.length rr
    rw [sizeLine_eq]
    omega
theorem ps_er (ho : PE X o to) (he : PE X e te) (hs : swapsWith e (some (.Attribute o f p0)) pos.line X.env = pure false := by rfl) : PS X (.Assign [.Attribute o f p0] e pos) (sEr X.K f to te) := by
  constructor
  intro pins s σ H D I q
  refine plainObj_wpAny_Assign_Attribute (thn (he.run pins s σ H _ I q) fun v s1 ⟨y, H1, I1, r1, q1⟩ => thn (ho.run pins s1 σ H1 _ I1 q1) ?_) hs
  rintro u s2 ⟨z, H2, I2, r2, a, C, rfl, T, hno, q2⟩
  obtain rfl : u = Value.ref a := r2
  rcases q2 with ⟨ea, q2⟩ | ⟨dx, fs, ea, ed, hl, q2⟩
  · exact stN T I2 ea hno r1 fun dx s3 n ne J => ⟨σ, _, J, q2 dx n ne⟩
  · exact stO T I2 ea ed hl hno r1 fun s3 J => ⟨σ, _, J, q2⟩
/-- C(e, ..) by its own __init__ -/
theorem pmk_er {cx : CXT} {C fI : Addr} {k : Nat} {fd : FuncData} {ps : List Str} {sp : Sp} {ds : List Value} {dvs : List V} (T : ErC X.K C) (iC : PySem.W.findIn X.K (.ref C) "__init__" = some (some (.ref fI))) (tI : PySem.W.typeIn X.K (.ref fI) = some (.type "function"))
    (F1 : FnOk X.prog X.w X.K X.mg X.base cx k fI fd ps sp) (hr : Room (k + 1) X.A) (hb : Binds X.K fd ps ds) (hd : Vals dvs ds) (hx : Passes cx X (fun _ _ _ => False)) (hg : Gl X x) (hm : X.mg x = some (.ref C)) (ha : PA X (e :: es) ta)
    (hdb : (x == ("__debug__" : Str)) = false := by decide) (he : starEach (e :: es) X.env = (false, eval e X.env) :: starEach es X.env := by rfl) (hpl : (backTo pos (starEach es X.env)).any (·.1) = false := by rfl) :
    PMk X (.Call (.Name x p) (e :: es) [] pos) (tMkO C sp dvs ta) := by
  intro pins s σ H Q I q
  refine wpAny_Call_Name_kw (ld_glob I hg hm ?_ hdb)
  refine PySem.W.callWith_K (h₀ := X.base) I.ok.mod.kin T.kee (thn (ha.run pos pins s σ H _ I q) ?_) he hpl
  rintro us s1 ⟨vs, H1, I1, r1, hz, q1⟩
  refine ⟨I1.kIn, ?_⟩
  show wpAny _ _ (call (.ref C) us) _ _ _
  obtain ⟨nm, N, qn, bs, bm, hdct, sn, sub, ab, col, dd, k0, k1, k2, k3, k5, hC, hT⟩ := PySem.W.excInit_of I1.kIn T.ini
  obtain ⟨hp, g, dr, tk, os⟩ := s1
  have le1 : hp.objs.size ≤ hp.objs.size + 1 := Nat.le_succ _
  have n1 : H1 (hp.objs.size + 1) = none := I1.hok.fresh le1
  have spq := q1 (hp.objs.size + 1) n1
  have hh : ∀ b o, hp.get? b = some o → ((hp.push (PySem.W.kdv_tup us)).push (HandSPX.excO C hp.objs.size)).get? b = some o :=
    fun b o z => Heap.get?_push_of_some _ (Heap.get?_push_of_some _ z)
  have at1 : ((hp.push (PySem.W.kdv_tup us)).push (HandSPX.excO C hp.objs.size)).get? (hp.objs.size + 1) = some (HandSPX.excO C hp.objs.size) := by heap_get
  have I2 : Inv X pins σ (upd H1 (hp.objs.size + 1) (exo (hp.objs.size + 1) C none)) ⟨(hp.push (PySem.W.kdv_tup us)).push (HandSPX.excO C hp.objs.size), g, dr, tk, os⟩ :=
    I1.laid (t' := tk) (o := exo (hp.objs.size + 1) C none) hh le1 (exo_ok at1)
  have r2 : Vals (V.ref (hp.objs.size + 1) :: (vs ++ dvs)) (Value.ref (hp.objs.size + 1) :: (us ++ ds)) := .cons rfl (r1.append hd)
  have ln : (Value.ref (hp.objs.size + 1) :: us ++ ds).length = ps.length := by
    have z := r2.length
    rw [F1.len _ _ _ _ spq] at z
    exact z.symm
  have lu : us.length ≤ sizeLine := by
    have := Paired.length r1
    rw [sizeLine_eq]
    omega
  have run := F1.run _ X.stack _ _ ⟨Value.ref (hp.objs.size + 1) :: us, []⟩ (Value.ref (hp.objs.size + 1) :: (us ++ ds)) _ _ (fun _ _ _ => False) (hr.make C us []) (I2.env0.make C us []) (hb _ (Value.ref (hp.objs.size + 1) :: us) I2.kIn ln) r2 spq
  refine wpAny_call (HandSPX.call_own PySem.F.excBase_Exception hT hC (PySem.W.looks_findIn I1.kIn iC) (fun self => PySem.W.bind_fn I1.kIn self tI) lu (codeAny_mono run ?_))
  intro r s2 hq
  match r, hq with
  | .error er, hq => exact hx pins σ _ _ er s2 I2 hq
  | .ok (.ret u), hq =>
    obtain ⟨v, H2, os2, bare2, un2, hok2, rv, rfl, d, fs, ea, ed, hd1, q2⟩ := hq
    obtain ⟨h2, g2, d2, t2, os'⟩ := s2
    exact ⟨rv, mk_end (raises_own T.bas T.typ) I1 le1 hh un2 hok2 os2 bare2 ea ed hd1 q2⟩
  | .ok .next, hq => exact hq.elim
  | .ok .brk, hq => exact hq.elim
  | .ok .cont, hq => exact hq.elim
end
/-- __init__(self, f): the base's __init__, self.f = f -/
def spErr (C : Addr) (f : Str) : Sp := fun vs H Q _ => ∃ (a : Addr) (v : V), vs = [.ref a, v] ∧ H a = some (exo a C none) ∧ ∀ dx, H dx = none → dx ≠ a → Q .non (upd (upd H dx (exd dx [(f, v)])) a (exo a C (some dx)))
/-- what the raise leaves -/
theorem mkO1 {C a dx : Addr} {f : Str} {v : V} {H : Hp} (ha : H a = none) (hd : dx ≠ a) : upd (del (upd (upd (upd H a (exo a C none)) dx (exd dx [(f, v)])) a (exo a C (some dx))) a) dx (.xd [(f, v)]) = upd H dx (.xd [(f, v)]) := funext fun b => by
  rcases Decidable.em (b = dx) with z | z
  · rw [z, upd_same, upd_same]
  rw [upd_ne z, upd_ne z]
  rcases Decidable.em (b = a) with z2 | z2
  · rw [z2, del_same, ha]
  · rw [del_ne z2, upd_ne z2, upd_ne z, upd_ne z2]
/-- raise C(v): the reading behind the arguments -/
theorem mk_err {C : Addr} {f : Str} {v : V} {H : Hp} {Q : XK} (h : ∀ d, H d = none → Q (.ref C) (some d) (upd H d (.xd [(f, v)]))) : [v].length ≤ 1000 ∧ ∀ a, H a = none → spErr C f (.ref a :: ([v] ++ [])) (upd H a (exo a C none))
    (fun u H2 => u = .non ∧ ∃ (d : Addr) (fs : List (Str × V)), H2 a = some (exo a C (some d)) ∧ H2 d = some (exd d fs) ∧ H d = none ∧ Q (.ref C) (some d) (upd (del H2 a) d (.xd fs))) (fun _ _ _ => False) := by
  refine ⟨by show 1 ≤ 1000; decide, fun a ha => ⟨a, v, rfl, upd_same, fun dx n ne => ⟨rfl, dx, [(f, v)], upd_same, ?_, ?_, ?_⟩⟩⟩
  · rw [upd_ne ne]; exact upd_same
  · rw [upd_ne ne] at n; exact n
  · rw [mkO1 ha ne]
    rw [upd_ne ne] at n
    exact h dx n
end Xo
set_option Elab.async false
set_option linter.all false
set_option maxRecDepth 100000
set_option maxHeartbeats 4000000
/-! try with several clauses, named or not; the caught error is tracked behind the suite. -/
namespace Xo
open PySem PySem.Spec PyProof.Rows L2
/-- an error that was caught: its class and its dict -/
def exT (a : Addr) (cls : Value) (d : Option Addr) : HO := .ext fun h => ∃ (oe : Obj) (vs : Array Value), h.get? a = some oe ∧ oe.cls = cls ∧ oe.dict = d ∧ oe.data = .fields vs
theorem exT_ok {P : Program} {w : World} {H : Hp} {h : Heap} {a : Addr} {cls : Value} {d : Option Addr} {oe : Obj} {vs : Array Value} (e : h.get? a = some oe) (z : Zc cls d oe) (hd : oe.data = .fields vs) : ObjOk P w H h a (exT a cls d) :=
  ⟨⟨oe, vs, e, z.1, z.2, hd⟩, ⟨oe, e⟩, fun _ _ ⟨o, v, q, r⟩ k => ⟨o, v, k o q, r⟩⟩
theorem exT_own {a x : Addr} {cls : Value} {d : Option Addr} : exT a cls d ≠ .own x := fun z => by
  have z1 : HO.ext _ = HO.own x := z
  cases z1
section
variable {X : Cx} {pins : List (Addr × Obj)} {σ : L2.St} {H H0 : Hp} {s s0 : Shared} {a : Addr} {oe : Obj} {vs : Array Value} {cls : Value} {d : Option Addr}
/-- an error that was not there before the body -/
theorem tracked (J0 : ∃ σ0, Inv X pins σ0 H0 s0) (hex : X.ex = []) (h0 : s0.heap.get? a = none) (J : Inv X pins σ H s) (ha : s.heap.get? a = some oe) (hz : Zc cls d oe) (hd : oe.data = .fields vs) (na : H a = none) (nL : a ≠ X.env.locals) : Inv X pins σ (upd H a (exT a cls d)) s := by
  obtain ⟨σ0, J0⟩ := J0
  have gone : X.s_0.heap.get? a = none := by
    cases q : X.s_0.heap.get? a with
    | none => rfl
    | some o =>
      obtain ⟨o1, z⟩ := J0.base.there a o q (by rw [hex]; exact fun z => nomatch z)
      rw [h0] at z
      cases z
  have n0 : ∀ {b : Addr} {o : Obj}, X.s_0.heap.get? b = some o → b ≠ a := fun q z => by rw [z, gone] at q; cases q
  have nt : ∀ {b : Addr} {u : HO}, H b = some u → b ≠ a := fun q z => by rw [z, na] at q; cases q
  refine ⟨J.ok, J.os, J.bare, ?_, J.loc, J.cell, ?_, ?_, ?_, ?_, J.len⟩
  · constructor
    · exact J.base.keep
    · exact J.base.slot
    · exact fun b o q n hb => by rw [upd_ne (n0 q)]; exact J.base.free b o q n hb
    · exact J.base.there
    · exact fun b xs q => by have z := J.base.tups b xs q; rw [upd_ne (nt z)]; exact z
    · exact fun b o xs q => by have z := J.base.frzs b o xs q; rw [upd_ne (nt z)]; exact z
    · exact fun b ps q => by obtain ⟨m, z⟩ := J.base.tbls b ps q; exact ⟨m, by rw [upd_ne (nt z)]; exact z⟩
  · rw [upd_ne (Ne.symm nL)]; exact J.free
  · intro x c q
    have : c ≠ a := fun z => by
      obtain ⟨v, ob, ho, _⟩ := J0.cell x c q
      rw [z, h0] at ho
      cases ho
    rw [upd_ne this]
    exact J.freeC x c q
  · intro p hp
    obtain ⟨e1, e2, e3, e4, e5⟩ := J.pin p hp
    have : p.1 ≠ a := fun z => by
      have q := (J0.pin p hp).1
      rw [z, h0] at q
      cases q
    exact ⟨e1, by rw [upd_ne this]; exact e2, e3, e4, e5⟩
  · intro b u q
    by_cases hb : b = a
    · subst hb
      rw [upd_same] at q
      cases q
      exact exT_ok ha hz hd
    · rw [upd_ne hb] at q
      exact (J.hok b u q).stay (fun _ _ _ z => z) (fun c z => by rw [upd_ne (nt z)]; exact z) fun c xs z => by rw [upd_ne (nt z)]; exact z
end
abbrev HdI := Value × Option Nat × (Addr → Value → Option Addr → TS)
def putI (i : Option Nat) (v : Option V) (σ : L2.St) : L2.St := match i with
  | some i => σ.set i v
  | none => σ
/-- behind a suite -/
def endT (D : Ends) (a : Addr) (cls : Value) (d : Option Addr) (i : Option Nat) : Ends where
  nx := fun σ H => H a = none → D.nx (putI i none σ) (upd H a (exT a cls d))
  rt := D.rt
  bk := fun σ H => D.bk (putI i none σ) H
  ct := fun σ H => D.ct (putI i none σ) H
def wTr (K : PySem.W.Frag) (Wout : WX) (D : Ends) : List HdI → WX
  | [] => Wout
  | (c, i, ts) :: l => fun cls d σ H => ∃ b, PySem.W.exmOne K cls c = some b ∧ (b = true → ∀ a, H a = none → ts a cls d (endT D a cls d i) (putI i (some (.ref a)) σ) H) ∧ (b = false → wTr K Wout D l cls d σ H)
inductive HdL (X : Cx) : List ExceptHandler → List HdI → Prop
  | nil : HdL X [] []
  | anon {x : Str} {c : Value} {ts : Addr → Value → Option Addr → TS} {b0 : Stmt} {suite : List Stmt} {np p1 : Pos} {hds : List ExceptHandler} {l : List HdI} (hc : Names X x c)
      (hsu : ∀ (a : Addr) (oe : Obj) (cls : Value) (d : Option Addr) (pn : List (Addr × Obj)), Zc cls d oe → (∃ vs, oe.data = .fields vs) → PSs (X.suite a ((a, oe) :: pn)) (b0 :: suite) (ts a cls d)) (r : HdL X hds l) :
      HdL X (.ExceptHandler (some (.Name x np)) none (b0 :: suite) p1 :: hds) ((c, none, ts) :: l)
  | named {x n : Str} {i : Nat} {c : Value} {ts : Addr → Value → Option Addr → TS} {b0 : Stmt} {suite : List Stmt} {np p1 : Pos} {hds : List ExceptHandler} {l : List HdI} (hc : Names X x c) (hi : X.N[i]? = some n) (hln : X.env.kindOf n = some .local)
      (hsu : ∀ (a : Addr) (oe : Obj) (cls : Value) (d : Option Addr) (pn : List (Addr × Obj)), Zc cls d oe → (∃ vs, oe.data = .fields vs) → PSs (X.suite a ((a, oe) :: pn)) (b0 :: suite) (ts a cls d)) (r : HdL X hds l) :
      HdL X (.ExceptHandler (some (.Name x np)) (some n) (b0 :: suite) p1 :: hds) ((c, some i, ts) :: l)
section
variable {X : Cx} {body : List Stmt} {hd1 : ExceptHandler} {hds : List ExceptHandler} {l : List HdI} {pos : Pos} {tb : WX → TS} {Wout : WX}
theorem ps_tryT (stk : X.stack = X.env :: X.outer) (hf : X.env.frame = some X.env.locals) (hN : X.N.Nodup) (hex : X.ex = []) (tk : Takes X Wout)
    (hb : ∀ (W : WX) (pn : List (Addr × Obj)) (xe : Value → Shared → Prop), Takes (X.tr pn xe) W → PassesOwn (model X.prog X.w) X.A X.env xe → PSs (X.tr pn xe) body (tb W)) (hh : HdL X (hd1 :: hds) l) :
    PS X (.Try body (hd1 :: hds) [] [] pos) (fun D σ H => tb (wTr X.K Wout D l) D σ H) := by
  constructor
  intro pins s σ H D I h
  have ok := I.ok
  have frm : X.A.frames = some (X.env :: X.outer) := ok.frames.trans (congrArg some stk)
  refine wpAny_Try_except ?_
  have look : ∀ u s1, XE (X.tr (X.pn ++ pins) (fun e s1 => wpAny (model X.prog X.w) X.A (noteFrame e X.env) (fun _ s2 => wpAny (model X.prog X.w) X.A (setFlight e none) (fun _ s3 => wpAny (model X.prog X.w) X.A (handleBy e X.env (hd1 :: hds)) (SP X pins D) X.xe s3) X.xe s2) X.xe s1)) (wTr X.K Wout D l) u s1 →
      wpAny (model X.prog X.w) X.A (noteFrame u X.env) (fun _ s2 => wpAny (model X.prog X.w) X.A (setFlight u none) (fun _ s3 => wpAny (model X.prog X.w) X.A (handleBy u X.env (hd1 :: hds)) (SP X pins D) X.xe s3) X.xe s2) X.xe s1 := by
    intro u s1 xx
    obtain ⟨a, B, sI, pins1, σ1, H1, cls, d, rfl, J1, nb, up, sky, na, os, ag, wsh⟩ := xx
    have J : Inv X pins σ1 H1 sI := J1.ofTry ok
    have sky1 : Sky B (X.env :: X.outer) a (Zc cls d) X.env.locals s1.heap := stk ▸ sky
    refine Sky.land Zc.steady frm hf sky1 fun h3 fl up3 => ?_
    have J3 : Inv X pins σ1 H1 { s1 with heap := h3 } := J.landed nb fl.1 (up.trans up3) os ag
    obtain ⟨o3, vs3, he3, hz3, hd3⟩ := fl.there
    have nfr : a ∉ frs (X.env :: X.outer) := fun hm => by
      obtain ⟨_, o1, e1, hnf⟩ := fl.2.2.1.mem hm
      rw [he3] at e1
      cases e1
      exact hnf _ hd3
    have nL : a ≠ X.env.locals := fun z => nfr (List.mem_filterMap.mpr ⟨X.env, List.mem_cons_self, by rw [hf, z]⟩)
    have nF : a ∉ X.fs := fun hm => by
      obtain ⟨e, he, q⟩ := List.mem_filterMap.mp hm
      exact nfr (List.mem_filterMap.mpr ⟨e, List.mem_cons_of_mem _ he, q⟩)
    have goneI : sI.heap.get? a = none := by
      cases q : sI.heap.get? a with
      | none => rfl
      | some o =>
        have z := nb a o q (by rw [stk]; exact nfr)
        rw [fl.2.1] at z
        cases z
    have S3 := J3.suite he3 hd3 na nL nF
    have test : ∀ {x : Str} {c : Value} {np : Pos} {Q : Value → Shared → Prop} {E : Value → Shared → Prop}, Names X x c → Q c { s1 with heap := h3 } → wpAny (model X.prog X.w) (X.A.mark (some (.ref a))) (eval (.Name x np) X.env) Q E { s1 with heap := h3 } := by
      intro x c np Q E hc q
      obtain ⟨hg, hdbg, hm | ⟨hm, hv, hnn⟩⟩ := hc
      · exact ld_glob (X := X.suite a ((a, o3) :: (X.pn ++ pins))) S3 hg hm q hdbg
      · exact ld_blt (X := X.suite a ((a, o3) :: (X.pn ++ pins))) S3 hg hm hv q hnn hdbg
    have LT : PySem.W.Looks (model X.prog X.w) h3 (typeOf (.ref a)) cls := fun A Q E s k q => wpAny_typeOf_ref (k _ _ he3) (hz3.1 ▸ q)
    -- a suite has run
    have fin : ∀ {f : Flow} {s6 : Shared} {o4 : Obj} {vs4 : Array Value} {i : Option Nat} {σ6 : L2.St} {H6 : Hp}, Zc cls d o4 → o4.data = .fields vs4 → Inv (X.suite a ((a, o4) :: (X.pn ++ pins))) [] σ6 H6 s6 → Inv X pins σ6 H6 s6 ∧ (H6 a = none ∧ Inv X pins σ6 (upd H6 a (exT a cls d)) s6) := by
      intro f s6 o4 vs4 i σ6 H6 hz4 hd4 S6
      have J6 := S6.unsuite ok
      obtain ⟨q1, q2, _⟩ := S6.pin (a, o4) (List.mem_append_left _ List.mem_cons_self)
      exact ⟨J6, q2, tracked ⟨σ1, J⟩ hex goneI J6 q1 hz4 hd4 q2 nL⟩
    have go : ∀ {hs2 : List ExceptHandler} {l2 : List HdI}, HdL X hs2 l2 → wTr X.K Wout D l2 cls d σ1 H1 → wpAny (model X.prog X.w) X.A (handleBy (.ref a) X.env hs2) (SP X pins D) X.xe { s1 with heap := h3 } := by
      intro hs2 l2 hk
      induction hk with
      | nil =>
        intro wo
        refine wpAny_handleBy_nil ?_
        obtain ⟨_, _, _, o5, v5, T5, _, _, he5, _, hd5, h15, _⟩ := id fl
        unfold PySem.passOn
        refine wpAny_bind (wpAny_field he5 hd5 h15 ?_)
        rw [if_neg (show ¬ ((Value.ref T5 == Value.none) = true) from by simp)]
        have out : wpAny (model X.prog X.w) X.A (setFlight (.ref a) X.env.frame) (fun _ s4 => wpAny (model X.prog X.w) X.A (throw (.ref a) : Sem Flow) (SP X pins D) X.xe s4) X.xe { s1 with heap := h3 } := by
          rw [hf]
          refine HandSPX.setFlight_upZ fl fun h4 hh4 up4 => wpAny_throw (tk _ _ ?_)
          refine ⟨a, B, sI, pins, σ1, H1, cls, d, rfl, J, nb, (up.trans up3).trans up4, .inr (.inr ?_), na, os, ag, wo⟩
          exact stk ▸ hh4
        first
          | exact wpAny_bind (wpAny_pure (wpAny_bind out))
          | exact wpAny_bind out
      | @anon x c ts b0 suite np p1 hs3 l3 hc hsu r ih =>
        rintro ⟨b, hb1, hyes, hno⟩
        refine wpAny_handleBy_cons (codeAny_handlers_test (test hc ((PySem.W.exm_one (M := model X.prog X.w) J3.kIn LT hb1).here ?_))) (fun q => nomatch q)
        cases b with
        | false => exact ih (hno rfl)
        | true =>
          refine codeAny_handlers_suite (HandSPX.lands_againZ fl fun h4 fl4 up4 => ?_)
          have J4 : Inv X pins σ1 H1 { s1 with heap := h4 } := J.landed nb fl4.1 ((up.trans up3).trans up4) os ag
          obtain ⟨o4, vs4, he4, hz4, hd4⟩ := fl4.there
          refine wpAny_mono ((hsu a o4 cls d (X.pn ++ pins) hz4 ⟨_, hd4⟩).run [] _ _ H1 _ (J4.suite he4 hd4 na nL nF) (hyes rfl a na)) (fun f s6 hsp => ?_) (fun _ _ z => False.elim z)
          cases f with
          | next => obtain ⟨σ6, H6, S6, q6⟩ := hsp; obtain ⟨_, q, T6⟩ := fin (f := .next) (i := none) hz4 hd4 S6; exact ⟨_, _, T6, q6 q⟩
          | brk => obtain ⟨σ6, H6, S6, q6⟩ := hsp; exact ⟨_, _, S6.unsuite ok, q6⟩
          | cont => obtain ⟨σ6, H6, S6, q6⟩ := hsp; exact ⟨_, _, S6.unsuite ok, q6⟩
          | ret u => obtain ⟨v6, σ6, H6, S6, r6, q6⟩ := hsp; exact ⟨_, _, _, S6.unsuite ok, r6, q6⟩
      | @named x n i c ts b0 suite np p1 hs3 l3 hc hi hln hsu r ih =>
        rintro ⟨b, hb1, hyes, hno⟩
        refine wpAny_handleBy_cons (codeAny_handlers_test (test hc ((PySem.W.exm_one (M := model X.prog X.w) J3.kIn LT hb1).here ?_))) (fun q => nomatch q)
        cases b with
        | false => exact ih (hno rfl)
        | true =>
          refine codeAny_handlers_suite_as (HandSPX.lands_againZ fl fun h4 fl4 up4 => ?_)
          have J4 : Inv X pins σ1 H1 { s1 with heap := h4 } := J.landed nb fl4.1 ((up.trans up3).trans up4) os ag
          obtain ⟨o4, vs4, he4, hz4, hd4⟩ := fl4.there
          refine store_ok (X := X.suite a ((a, o4) :: (X.pn ++ pins))) (v := .ref a) (J4.suite he4 hd4 na nL nF) hN hi (.inl hln) rfl (fun s5 S5 => ?_) (.inr hln)
          refine wpAny_mono ((hsu a o4 cls d (X.pn ++ pins) hz4 ⟨_, hd4⟩).run [] s5 _ H1 _ S5 (hyes rfl a na)) (fun f s6 hsp => ?_) (fun _ _ z => False.elim z)
          cases f with
          | next => obtain ⟨σ6, H6, S6, q6⟩ := hsp; obtain ⟨_, q, T6⟩ := fin (f := .next) (i := none) hz4 hd4 S6; exact gone_ok T6 hN hi hln fun s7 J7 => ⟨_, _, J7, q6 q⟩
          | brk => obtain ⟨σ6, H6, S6, q6⟩ := hsp; exact gone_ok (S6.unsuite ok) hN hi hln fun s7 J7 => ⟨_, _, J7, q6⟩
          | cont => obtain ⟨σ6, H6, S6, q6⟩ := hsp; exact gone_ok (S6.unsuite ok) hN hi hln fun s7 J7 => ⟨_, _, J7, q6⟩
          | ret u => obtain ⟨v6, σ6, H6, S6, r6, q6⟩ := hsp; exact gone_ok (S6.unsuite ok) hN hi hln fun s7 J7 => ⟨_, _, _, J7, r6, q6⟩
    exact go hh wsh
  refine wpAny_mono ((hb (wTr X.K Wout D l) (X.pn ++ pins) _ look PassesOwn.looking).run [] s σ H D (I.toTry _) h) (fun f s1 hsp => ?_) (fun e s1 he => he)
  cases f with
  | next => obtain ⟨σ1, H1, J1, q⟩ := hsp; exact wpAny_execs_nil ⟨σ1, H1, J1.ofTry ok, q⟩
  | brk => obtain ⟨σ1, H1, J1, q⟩ := hsp; exact ⟨σ1, H1, J1.ofTry ok, q⟩
  | cont => obtain ⟨σ1, H1, J1, q⟩ := hsp; exact ⟨σ1, H1, J1.ofTry ok, q⟩
  | ret u => obtain ⟨v, σ1, H1, J1, r, q⟩ := hsp; exact ⟨v, σ1, H1, J1.ofTry ok, r, q⟩
/-- n.f of a caught error, behind the suite -/
def tXv (K : PySem.W.Frag) (f : Str) (te : TE) : TE := fun σ H Q => te σ H fun x H1 => ∃ (a C dd : Addr) (fs : List (Str × V)) (v : V), x = .ref a ∧ H1 a = some (exT a (.ref C) (some dd)) ∧ XfC K C ∧ PySem.W.findIn K (.ref C) f = some none ∧ H1 dd = some (.xd fs) ∧ fs.lookup f = some v ∧ Q v H1
theorem pe_xv {e : Expr} {te : TE} {n : Str} {pos : Pos} (he : PE X e te) (hb : attributeBase e n X.env (eval e X.env) = eval e X.env := by rfl) : PE X (.Attribute e n pos) (tXv X.K n te) := by
  constructor
  intro pins s σ H Q I h
  refine attr_of hb (thn (he.run pins s σ H _ I h) ?_)
  rintro u s1 ⟨x, H1, I1, rx, a, C, dd, fs, v, rfl, hT, T, hno, ea, lk, q⟩
  obtain rfl : u = Value.ref a := rx
  obtain ⟨⟨oe, vs, ha, hc, hdi, hd⟩, _, _⟩ := I1.hok a _ hT
  obtain ⟨mA, hns, hr⟩ := (show ObjOk X.prog X.w H1 s1.heap dd (.xd fs) from I1.hok dd _ ea)
  obtain ⟨od, ho, hl⟩ := lookIn_ns hns
  obtain ⟨u, hu, ru⟩ := RelO.some_of (v := v) (o := mA n) (lk ▸ hr n)
  have J : PySem.W.InstAt s1.heap a oe C (some od) := ⟨ha, hc, by unfold PySem.W.notCls; rw [hd] <;> rfl, by rw [hdi]; exact ho⟩
  exact HandSPX.exc_get I1.kIn J T.ga T.gg T.exC (PySem.W.findObj_own T.hdC hno rfl (by rw [hl, hu])) (handed_of ru) ⟨v, H1, I1.tok _, ru, q⟩
end
end Xo
set_option Elab.async false
set_option linter.all false
set_option maxRecDepth 100000
set_option maxHeartbeats 4000000
/-! == and != by an own __eq__, with any answer. -/
namespace Xo
open PySem PySem.Spec PyProof.Rows L2
/-- the class's own __eq__, the inherited __ne__ -/
structure EqC (K : PySem.W.Frag) (C f : Addr) : Prop where
  eq : PySem.W.findIn K (.ref C) "__eq__" = some (some (.ref f))
  fn : PySem.W.isFn K (.ref f) = true
  ne : PySem.W.findIn K (.ref C) "__ne__" = some (some (.builtin "object.__ne__"))
  ob : PySem.W.mroIn K C (.type "object") = some true
/-- no value of the built-in type is an instance of the class -/
structure NoT (K : PySem.W.Frag) (C : Addr) (T : String) : Prop where
  kit : PySem.W.kitOne K (.type T) (.ref C) = some false
  nf : PySem.W.notFirst K C (.type T) = true
theorem not_mk {K : PySem.W.Frag} {C : Addr} {T : String} (h2 : PySem.W.isClsIn K C = true) (h3 : PySem.W.typeIn K (.ref C) = some (.type "type")) (h4 : PySem.W.subIn K (.type T) (.ref C) = some false) : NoT K C T := by
  constructor
  · unfold PySem.W.kitOne
    rw [if_neg (fun z => by cases (beq_iff_eq.mp z))]
    unfold PySem.W.kitCls
    dsimp only
    rw [show (PySem.W.clsIn K C).isSome = true from h2, h3, h4]
    rfl
  · unfold PySem.W.notFirst
    rw [h4, beq_self_eq_true, Bool.or_true]
def rOEq (K : PySem.W.Frag) (C : Addr) (sp : Sp) (n : Bool) : R2 := fun x y H Q => ∃ (a dx : Addr) (fs : List (Str × V)) (t : Value), x = .ref a ∧ H a = some (.ins C dx fs) ∧ TyX K H y t ∧ PySem.W.notFirst K C t = true ∧
  sp [x, y] H (fun v H1 => ∃ b, v = .bl b ∧ Q (.bl (n != b)) H1) (fun _ _ _ => False)
section
variable {P : Program} {w : World} {A : Around} {E : Value → Shared → Prop} {s : Shared} {K : PySem.W.Frag} {x C f : Addr} {ox : Obj} {od : Option Obj} {b tb : Value}
open PySem.W in
theorem neK {Q : Value → Shared → Prop} (hu : A.units + 1 < cLine) (X : K.In s.heap) (I : InstAt s.heap x ox C od) (hb : Looks (model P w) s.heap (typeOf b) tb) (hn : notFirst K C tb = true) (T : EqC K C f)
    (k : wpAny (model P w) A.in1 (call (.ref f) [.ref x, b]) (fun v s1 => ∃ r, v = .bool r ∧ Q (.bool (!r)) s1) E s) : wpAny (model P w) A (richCompare .NotEq (.ref x) b) Q E s := by
  have isO : Looks (model P w) s.heap (isInstance (.ref x) (.type "object")) true := I.type.andThen (looks_mroIn X T.ob)
  have body : wpAny (model P w) A.in1 (Builtin.«object.__ne__» ⟨[.ref x, b], []⟩) (fun fin s1 => match fin with | .done (.ret v) => ∃ r, v = .bool r ∧ Q (.bool r) s1 | _ => False) E s := by
    unfold Builtin.«object.__ne__»
    refine wpAny_bind (wpAny_of_eq (a := ((Value.ref x : Value), [b])) (by first | rfl | (simp only [slotArgs]; rfl)) ?_)
    refine wpAny_bind (wpAny_cRoomFor (show A.in1.units < cLine from hu) ?_)
    refine wpAny_bind (ifBound_K (name := "__eq__") X I T.eq T.fn (wpAny_mono k (fun v s1 hv => ?_) fun _ _ z => z))
    obtain ⟨r, rfl, q⟩ := hv
    refine wpAny_bind (wpAny_truthy_bool ?_)
    exact wpAny_pure ⟨_, rfl, q⟩
  have one : wpAny (model P w) A (tryCompare (.ref x) "__ne__" b) (fun r s1 => ∃ v, r = some v ∧ Q v s1) E s := by
    unfold tryCompare callSpecialIfBound? bindSpecialIfBound?
    have call1 : wpAny (model P w) A (call (.builtin "object.__ne__") [.ref x, b]) (fun v s1 => ∃ r, v = .bool r ∧ Q (.bool r) s1) E s := by
      refine wpAny_call (codeAny_call_builtin PySem.F.cmp_object.ne.plain PySem.F.cmpEntry_ne ?_)
      refine @check_slot (model P w) _ _ s "object.__ne__" "object" "__ne__" (.ref x) [b] [] _ PySem.F.cmpKind_ne PySem.F.cmpSplit_ne isO (PySem.F.cmpArgs_ne _ _) ?_
      refine wpAny_mono body ?_ ?_
      · intro fin s1 z
        cases fin with
        | again c => exact False.elim z
        | done fl =>
          cases fl with
          | ret v => exact z
          | next => exact False.elim z
          | brk => exact False.elim z
          | cont => exact False.elim z
      · exact fun _ _ z => z
    refine wpAny_bind (wpAny_holding (wpAny_bind (wpAny_bind (wpAny_bind (I.type.here ((looks_findIn X T.ne).here ?_))))))
    refine wpAny_bind (wpAny_askSetting (wpAny_ite ?_))
    have fin1 : wpAny (model P w) A (call (.builtin "object.__ne__") [.ref x, b] >>= fun v => pure (some v)) (fun a s1 => ∃ r, a = some (Value.bool r) ∧ Q (.bool r) s1) E s :=
      wpAny_bind (wpAny_mono call1 (fun v s1 ⟨r, hv, q⟩ => by subst hv; exact wpAny_pure ⟨r, rfl, q⟩) fun _ _ z => z)
    have last1 : ∀ a s1, (∃ r, a = some (Value.bool r) ∧ Q (.bool r) s1) → wpAny (model P w) A (match a with | some Value.notImplemented => pure none | none => pure none | some v => pure (some v)) (fun r s1 => ∃ v, r = some v ∧ Q v s1) E s1 :=
      fun a s1 ⟨r, ha, q⟩ => by subst ha; exact wpAny_pure ⟨_, rfl, q⟩
    split
    · refine wpAny_bind (wpAny_of_eq (PySem.F.cmp_object.ne.bind _) (wpAny_pure ?_))
      exact wpAny_mono fin1 last1 fun _ _ z => z
    · refine wpAny_tryCatch (wpAny_bind (wpAny_of_eq (PySem.F.cmp_object.ne.bind _) (wpAny_pure ?_)))
      exact wpAny_mono fin1 last1 fun _ _ z => z
  unfold richCompare
  simp only [oneThing_ref]
  refine wpAny_holding (wpAny_bind (wpAny_cRoomFor (Nat.lt_of_succ_lt hu) ?_))
  refine wpAny_bind (I.type.here (wpAny_bind (hb.here ?_)))
  have last : wpAny (model P w) A (tryCompare (.ref x) "__ne__" b) (fun r s1 => ∃ v, r = some v ∧ Q v s1) E s := one
  split
  · rename_i q
    have e : subIn K tb (.ref C) = some false := by
      rcases Bool.or_eq_true_iff.mp hn with e | e
      · rw [beq_iff_eq.mp e] at q
        simp at q
      · exact beq_iff_eq.mp e
    refine wpAny_bind ((looks_subIn X e).here ?_)
    rw [if_neg Bool.false_ne_true]
    refine wpAny_bind (wpAny_mono last (fun r s1 z => ?_) fun _ _ z => z)
    obtain ⟨v, rfl, hq⟩ := z
    exact wpAny_pure hq
  · refine wpAny_bind (wpAny_pure ?_)
    rw [if_neg Bool.false_ne_true]
    refine wpAny_bind (wpAny_mono last (fun r s1 z => ?_) fun _ _ z => z)
    obtain ⟨v, rfl, hq⟩ := z
    exact wpAny_pure hq
end
section
variable {X : Cx} {C f : Addr} {fd : FuncData} {ps : List Str} {sp : Sp} {n : Nat}
/-- the call of the own __eq__ -/
theorem callEq {A : Around} {pins : List (Addr × Obj)} {σ : L2.St} {H : Hp} {s : Shared} {a : Addr} {y : V} {u : Value} {Q : VK} {R : Value → Shared → Prop} (F : FnOk X.prog X.w X.K X.mg X.base CX0 n f fd ps sp) (hb : Binds X.K fd ps []) (hr : Room n A) (hA : A.frames = X.A.frames)
    (I : Inv X pins σ H s) (ry : RelV y u) (q : sp [.ref a, y] H (fun v H1 => ∃ b, v = .bl b ∧ Q (.bl b) H1) (fun _ _ _ => False)) (k : ∀ b H1 s1, Inv X pins σ H1 s1 → Q (.bl b) H1 → R (.bool b) s1) :
    wpAny (model X.prog X.w) A (call (.ref f) [.ref a, u]) R X.xe s := by
  have e0 : Env0 X.prog X.w X.K X.mg X.base A X.stack s H := by
    have e := I.env0
    exact ⟨hA.trans e.frames, e.mod, e.bs, e.bsz, e.funs, e.frf, e.hok, e.bare⟩
  have hl := F.len _ _ _ _ q
  have r2 : Vals [V.ref a, y] [Value.ref a, u] := .cons rfl (.cons ry .nil)
  have hbs := hb s [.ref a, u] I.kIn (by simpa using hl)
  rw [List.append_nil] at hbs
  refine wpAny_call (codeAny_mono (F.run A X.stack s H ⟨[.ref a, u], []⟩ [.ref a, u] [.ref a, y] _ _ hr e0 hbs r2 q) ?_)
  intro r s1 hq
  match r, hq with
  | .error e, hq => exact (pass0 (X := X)) pins σ H s e s1 I hq
  | .ok (.ret v), hq =>
    obtain ⟨z, H1, I1, rz, b, rfl, q1⟩ := I.after hq
    obtain rfl : v = .bool b := rz
    exact k b H1 s1 I1 q1
  | .ok .next, hq => exact hq.elim
  | .ok .brk, hq => exact hq.elim
  | .ok .cont, hq => exact hq.elim
theorem op_oeq (T : EqC X.K C f) (F : FnOk X.prog X.w X.K X.mg X.base CX0 n f fd ps sp) (hb : Binds X.K fd ps []) (hr : Room (n + 1) X.A) : OpR X (compareOp .Eq) (rOEq X.K C sp false) := by
  intro pins s σ H x y v u Q I rx ry h
  obtain ⟨a, dx, fs, t, rfl, ha, ty, nf, q⟩ := h
  obtain rfl : v = Value.ref a := rx
  obtain ⟨mA, J, _⟩ := ins_get I.hok ha
  obtain ⟨od, J, _⟩ := J.look
  obtain ⟨m, hF⟩ := I.fr
  obtain ⟨Pk, kx, hp, _⟩ := kit_of I ry ty
  show wpAny (model X.prog X.w) X.A (richCompare .Eq (.ref a) u) (EP X pins σ Q) X.xe s
  refine PySem.W.cmp_K (op := .Eq) (tb := t) hr.units0 hF I.ok.mod.kin J (kx.ty _ _ I.kIn hp) nf T.eq T.fn ?_
  refine callEq (Q := fun v H1 => ∃ b, v = .bl b ∧ Q (.bl (false != b)) H1) F hb (hr.mono (by omega)) rfl I ry ?_ ?_
  · simpa using q
  · rintro b H1 s1 I1 ⟨b2, hb2, q1⟩
    cases hb2
    exact ⟨.bl b, H1, I1, rfl, by simpa using q1⟩
theorem op_one (T : EqC X.K C f) (F : FnOk X.prog X.w X.K X.mg X.base CX0 n f fd ps sp) (hb : Binds X.K fd ps []) (hr : Room (n + 1) X.A) : OpR X (compareOp .NotEq) (rOEq X.K C sp true) := by
  intro pins s σ H x y v u Q I rx ry h
  obtain ⟨a, dx, fs, t, rfl, ha, ty, nf, q⟩ := h
  obtain rfl : v = Value.ref a := rx
  obtain ⟨mA, J, _⟩ := ins_get I.hok ha
  obtain ⟨od, J, _⟩ := J.look
  obtain ⟨Pk, kx, hp, _⟩ := kit_of I ry ty
  show wpAny (model X.prog X.w) X.A (richCompare .NotEq (.ref a) u) (EP X pins σ Q) X.xe s
  refine neK (tb := t) (by have := hr.un; omega) I.kIn J (kx.ty _ _ I.kIn hp) nf T ?_
  refine callEq (Q := fun v H1 => ∃ b, v = .bl b ∧ Q (.bl (true != b)) H1) F hb hr.in1 rfl I ry ?_ ?_
  · simpa using q
  · rintro b H1 s1 I1 ⟨b2, hb2, q1⟩
    cases hb2
    exact ⟨b, rfl, .bl (!b), H1, I1, rfl, by simpa using q1⟩
end
end Xo
set_option Elab.async false
set_option linter.all false
set_option maxRecDepth 100000
set_option maxHeartbeats 400000
/-! calls whose errors are wished for at the caller's slots: C(..), o.m(..) -/
namespace Xo
open PySem PySem.Spec PyProof.Rows L2
section
variable {X : Cx} {cx : CXT} {k : Nat} {f C : Addr} {fd : FuncData} {ps : List Str} {sp : Sp} {E : L2.St → XK} {x m : Str} {p pos apos : Pos} {e o : Expr} {es : List Expr} {ta : TE} {t : TA} {ds : List Value} {dvs : List V}
theorem runMk {pins : List (Addr × Obj)} {σ : L2.St} {H : Hp} {s : Shared} {Q : VK} {us : List Value} {vs : List V} {EE : XK} (M : Mk X.K C f) (F : FnOk X.prog X.w X.K X.mg X.base cx k f fd ps sp) (hr : Room (k + 1) X.A) (hb : Binds X.K fd ps ds) (hd : Vals dvs ds)
    (hx : PassesAt cx X σ EE) (I : Inv X pins σ H s) (r : Vals vs us)
    (h : ∀ y dx, H y = none → H dx = none → dx ≠ y → sp (.ref y :: (vs ++ dvs)) (upd (upd H dx (.own y)) y (.ins C dx [])) (fun v H2 => v = .non ∧ Q (.ref y) H2) EE) :
    wpAny (model X.prog X.w) X.A (call (.ref C) us) (EP X pins σ Q) X.xe s := by
  have sq := h (s.heap.objs.size + 1) s.heap.objs.size (I.hok.fresh (Nat.le_succ _)) (I.hok.fresh (Nat.le_refl _)) (Nat.ne_of_lt (Nat.lt_succ_self _))
  have J := Inv.made (C := C) I
  have rr : Vals (V.ref (s.heap.objs.size + 1) :: (vs ++ dvs)) (Value.ref (s.heap.objs.size + 1) :: (us ++ ds)) := .cons rfl (r.append hd)
  have ln : (Value.ref (s.heap.objs.size + 1) :: us ++ ds).length = ps.length := by
    have z := rr.length
    rw [F.len _ _ _ _ sq] at z
    exact z.symm
  have run := F.run _ X.stack _ _ ⟨Value.ref (s.heap.objs.size + 1) :: us, []⟩ (Value.ref (s.heap.objs.size + 1) :: (us ++ ds)) _ _ EE (hr.make C us []) (J.env0.make C us []) (hb _ (Value.ref (s.heap.objs.size + 1) :: us) J.kIn ln) rr sq
  refine wpAny_call (make_map (f := f) I.kIn M.makes M.init (beq_iff_eq.mp M.fn) (codeAny_mono run ?_))
  intro q s1 hq
  cases q with
  | error er => exact hx pins _ _ er s1 J hq
  | ok fl =>
    cases fl with
    | next => exact hq.elim
    | brk => exact hq.elim
    | cont => exact hq.elim
    | ret u =>
      obtain ⟨v, H1, I3, rv, rfl, q3⟩ := J.after hq
      exact ⟨rv, V.ref (s.heap.objs.size + 1), H1, I3, rfl, q3⟩
def tMkS (C : Addr) (sp : Sp) (dvs : List V) (E : L2.St → XK) (t : TA) : TE := fun σ H Q => tMake C sp dvs (E σ) t σ H Q
theorem pe_mkS (M : Mk X.K C f) (F : FnOk X.prog X.w X.K X.mg X.base cx k f fd ps sp) (hr : Room (k + 1) X.A) (hg : Gl X x) (hm : X.mg x = some (.ref C)) (hb : Binds X.K fd ps ds) (hd : Vals dvs ds) (hx : ∀ σ, PassesAt cx X σ (E σ))
    (ha : PA X (e :: es) t) (hdb : (x == ("__debug__" : Str)) = false := by decide) (he : starEach (e :: es) X.env = (false, eval e X.env) :: starEach es X.env := by rfl) (hpl : (backTo pos (starEach es X.env)).any (·.1) = false := by rfl) :
    PE X (.Call (.Name x p) (e :: es) [] pos) (tMkS C sp dvs E t) := by
  constructor
  intro pins s σ H Q I h
  refine wpAny_Call_Name_kw (ld_glob I hg hm ?_ hdb)
  refine PySem.W.callWith_K (h₀ := X.base) I.ok.mod.kin M.kp (thn (ha.run pos pins s σ H _ I h) ?_) he hpl
  rintro us s1 ⟨vs, H1, I1, r, q⟩
  exact ⟨I1.kIn, runMk M F hr hb hd (hx σ) I1 r q⟩
end
end Xo
set_option Elab.async false
set_option linter.all false
set_option maxRecDepth 100000
set_option maxHeartbeats 4000000
namespace G
open PySem
/-! ### the first free partner is the one of the same slot -/
def ids (q : Nat → Bool) (n : Nat) : List Nat := (List.range n).filter q
theorem ids_succ (q : Nat → Bool) (n : Nat) : ids q (n + 1) = ids q n ++ if q n = true then [n] else [] := by
  unfold ids
  rw [List.range_succ, List.filter_append]
  by_cases h : q n = true <;> simp [h]
theorem ids_mem {q : Nat → Bool} {n j : Nat} : j ∈ ids q n ↔ j < n ∧ q j = true := by
  unfold ids
  rw [List.mem_filter, List.mem_range]
theorem ids_get {q : Nat → Bool} : ∀ {n m j : Nat}, (ids q n)[m]? = some j → j < n ∧ q j = true ∧ (ids q j).length = m
  | 0, m, j, h => by simp [ids] at h
  | n + 1, m, j, h => by
    rw [ids_succ] at h
    by_cases hl : m < (ids q n).length
    · rw [List.getElem?_append_left hl] at h
      obtain ⟨h1, h2, h3⟩ := ids_get h
      exact ⟨by omega, h2, h3⟩
    · rw [List.getElem?_append_right (by omega)] at h
      by_cases hq : q n = true
      · rw [if_pos hq] at h
        have e0 : m - (ids q n).length = 0 := by
          have := (List.getElem?_eq_some_iff.mp h).1
          simp at this
          omega
        rw [e0] at h
        simp at h
        subst h
        exact ⟨by omega, hq, by omega⟩
      · rw [if_neg hq] at h
        simp at h
theorem ids_pre (q : Nat → Bool) {i : Nat} : ∀ {n : Nat}, i ≤ n → ∃ r, ids q n = ids q i ++ r
  | 0, h => ⟨[], by have : i = 0 := by omega
                    subst this; simp⟩
  | n + 1, h => by
    by_cases e : i = n + 1
    · subst e; exact ⟨[], by simp⟩
    · obtain ⟨r, hr⟩ := ids_pre q (i := i) (n := n) (by omega)
      exact ⟨r ++ if q n = true then [n] else [], by rw [ids_succ, hr, List.append_assoc]⟩
theorem ids_le (q : Nat → Bool) {i n : Nat} (h : i ≤ n) : (ids q i).length ≤ (ids q n).length := by
  obtain ⟨r, e⟩ := ids_pre q h
  rw [e, List.length_append]
  omega
theorem ids_lt {q : Nat → Bool} {i n : Nat} (h : i < n) (hq : q i = true) : (ids q i).length < (ids q n).length := by
  have := ids_le q (show i + 1 ≤ n from h)
  rw [ids_succ, if_pos hq, List.length_append] at this
  simp at this
  omega
theorem ids_inj {q : Nat → Bool} {i j : Nat} (hi : q i = true) (hj : q j = true) (e : (ids q i).length = (ids q j).length) : i = j := by
  rcases Nat.lt_trichotomy i j with h | h | h
  · have := ids_lt h hi; omega
  · exact h
  · have := ids_lt h hj; omega
theorem ids_sur {q : Nat → Bool} {n m : Nat} (h : m < (ids q n).length) : ∃ j, j < n ∧ q j = true ∧ (ids q j).length = m := by
  have := ids_get (q := q) (n := n) (m := m) (j := (ids q n)[m]) (List.getElem?_eq_getElem h)
  exact ⟨_, this⟩
theorem ids_len (q : Nat → Bool) (n : Nat) : (ids q n).length ≤ n := by
  unfold ids
  exact Nat.le_trans (List.length_filter_le _ _) (by simp)
/-- at place j of the nodes -/
def onT (p : Tree → Bool) (ts : List Tree) (j : Nat) : Bool := match ts[j]? with
  | some t => p t
  | none => false
theorem onT_at {p : Tree → Bool} {ts : List Tree} {j : Nat} {t : Tree} (h : ts[j]? = some t) : onT p ts j = p t := by
  unfold onT
  rw [h]
theorem onT_get {p : Tree → Bool} {ts : List Tree} {j : Nat} (h : onT p ts j = true) : ∃ t, ts[j]? = some t ∧ p t = true := by
  unfold onT at h
  split at h
  · rename_i t e
    exact ⟨t, e, h⟩
  · cases h
theorem ids_cnt (p : Tree → Bool) (ts : List Tree) : ∀ j, (ids (onT p ts) j).length = ((ts.take j).filter p).length
  | 0 => by simp [ids]
  | j + 1 => by
    rw [ids_succ, List.length_append, ids_cnt p ts j, List.take_succ, List.filter_append, List.length_append]
    cases e : ts[j]? with
    | none => simp [onT, e]
    | some t =>
      rw [onT_at e]
      by_cases h : p t = true <;> simp [h]
/-- places that count where the key is none -/
def cN (all : Bool) (u : Tree) : Bool := all || decide (u.key = .none)
def cK (t u : Tree) : Bool := decide (u.kind = t.kind) && decide (u.key = t.key)
theorem num_none {all : Bool} {ts : List Tree} {j : Nat} {t u : Tree} (h : u.key = .none) (hj : j ≤ ts.length) : numAt all (ts.take j) u = (ids (onT (cN all) ts) j).length := by
  rw [ids_cnt, numAt, if_pos h]
  cases all with
  | true =>
    have e : cN true = fun _ => true := by funext z; simp [cN]
    rw [e, List.filter_eq_self.mpr (fun _ _ => rfl)]
    simp
  | false =>
    have e : cN false = fun u => decide (u.key = .none) := by funext z; simp [cN]
    rw [e]
    rfl
theorem num_key {all : Bool} {ts : List Tree} {j : Nat} {t : Tree} (h : t.key ≠ .none) : numAt all (ts.take j) t = (ids (onT (cK t) ts) j).length := by
  rw [ids_cnt, numAt, if_neg h]
  rfl
theorem slot_eq {all : Bool} {pre pre' : List Tree} {t u : Tree} : slot all pre u = slot all pre' t ↔ u.kind = t.kind ∧ u.key = t.key ∧ numAt all pre u = numAt all pre' t := by
  unfold slot
  constructor
  · intro h
    injection h with h
    injection h with h1 h
    injection h with h2 h
    injection h with h3 _
    injection h3 with h3
    exact ⟨h1, h2, by omega⟩
  · rintro ⟨h1, h2, h3⟩
    rw [h1, h2, h3]
/-- no node of that slot -/
def NoSlot (all : Bool) (old : List Tree) (s : NestedKey) : Prop := ∀ (j : Nat) (u : Tree), old[j]? = some u → slot all (old.take j) u ≠ s
theorem lt_of {α : Type} {l : List α} {i : Nat} {a : α} (h : l[i]? = some a) : i < l.length := (List.getElem?_eq_some_iff.mp h).1
theorem part_none1 {all : Bool} {old new : List Tree} {k : Nat} {t : Tree} (ht : new[k]? = some t) (hn : t.key = .none) (h : (ids (onT (cN all) old) old.length).length ≤ (ids (onT (cN all) new) k).length) : NoSlot all old (slot all (new.take k) t) := by
  intro j u hu e
  obtain ⟨_, e2, e3⟩ := slot_eq.mp e
  rw [num_none (t := t) hn (Nat.le_of_lt (lt_of ht)), num_none (t := u) (e2.trans hn) (Nat.le_of_lt (lt_of hu))] at e3
  have := ids_lt (q := onT (cN all) old) (lt_of hu) (by rw [onT_at hu, cN, e2, hn]; simp)
  omega
theorem part_none2 {all : Bool} {old new : List Tree} {k j : Nat} {t u : Tree} (ht : new[k]? = some t) (hn : t.key = .none) (h : (ids (onT (cN all) old) old.length)[(ids (onT (cN all) new) k).length]? = some j) (hu : old[j]? = some u) (h1 : u.key = .none) (h2 : u.kind = t.kind) : slot all (old.take j) u = slot all (new.take k) t := by
  obtain ⟨_, _, e⟩ := ids_get h
  refine slot_eq.mpr ⟨h2, h1.trans hn.symm, ?_⟩
  rw [num_none (t := t) hn (Nat.le_of_lt (lt_of ht)), num_none (t := u) h1 (Nat.le_of_lt (lt_of hu)), e]
theorem part_none3 {all : Bool} {old new : List Tree} {k j : Nat} {t u : Tree} (ht : new[k]? = some t) (hn : t.key = .none) (h : (ids (onT (cN all) old) old.length)[(ids (onT (cN all) new) k).length]? = some j) (hu : old[j]? = some u) (h1 : ¬ (u.key = .none ∧ u.kind = t.kind)) : NoSlot all old (slot all (new.take k) t) := by
  intro j' u' hu' e
  obtain ⟨e1, e2, e3⟩ := slot_eq.mp e
  rw [num_none (t := t) hn (Nat.le_of_lt (lt_of ht)), num_none (t := u') (e2.trans hn) (Nat.le_of_lt (lt_of hu'))] at e3
  obtain ⟨_, q, e4⟩ := ids_get h
  have : j' = j := ids_inj (q := onT (cN all) old) (by rw [onT_at hu', cN, e2, hn]; simp) q (by omega)
  subst this
  rw [hu] at hu'
  cases hu'
  exact h1 ⟨e2.trans hn, e1⟩
/-- the places taken so far: those of the slots of the new nodes before k -/
def TakenOk (all : Bool) (old new : List Tree) (k : Nat) (js : List Nat) : Prop := ∀ j, j ∈ js ↔ ∃ i t u, i < k ∧ new[i]? = some t ∧ old[j]? = some u ∧ slot all (old.take j) u = slot all (new.take i) t
def freeQ (js : List Nat) (t : Tree) (old : List Tree) (j : Nat) : Bool := !decide (j ∈ js) && onT (cK t) old j
theorem free_iff {all : Bool} {old new : List Tree} {k : Nat} {js : List Nat} {t : Tree} (hT : TakenOk all old new k js) (ht : new[k]? = some t) (hn : t.key ≠ .none) (j : Nat) : freeQ js t old j = true ↔ onT (cK t) old j = true ∧ (ids (onT (cK t) new) k).length ≤ (ids (onT (cK t) old) j).length := by
  unfold freeQ
  rw [Bool.and_eq_true]
  constructor
  · rintro ⟨h1, h2⟩
    refine ⟨h2, ?_⟩
    rcases Nat.lt_or_ge (ids (onT (cK t) old) j).length (ids (onT (cK t) new) k).length with hl | hl
    · obtain ⟨i, hi, qi, ei⟩ := ids_sur hl
      obtain ⟨t', ht', pt'⟩ := onT_get qi
      obtain ⟨u, hu, pu⟩ := onT_get h2
      simp only [cK, Bool.and_eq_true, decide_eq_true_eq] at pt' pu
      have : j ∈ js := (hT j).mpr ⟨i, t', u, hi, ht', hu, slot_eq.mpr ⟨pu.1.trans pt'.1.symm, pu.2.trans pt'.2.symm, ?_⟩⟩
      · simp [this] at h1
      · have c1 : cK u = cK t := by funext z; simp [cK, pu.1, pu.2]
        have c2 : cK t' = cK t := by funext z; simp [cK, pt'.1, pt'.2]
        rw [num_key (t := u) (by rw [pu.2]; exact hn), num_key (t := t') (by rw [pt'.2]; exact hn), c1, c2, ei]
    · exact hl
  · rintro ⟨h1, h2⟩
    refine ⟨?_, h1⟩
    have : j ∉ js := fun hm => by
      obtain ⟨i, t', u, hi, ht', hu, e⟩ := (hT j).mp hm
      obtain ⟨e1, e2, e3⟩ := slot_eq.mp e
      have pu := h1
      rw [onT_at hu] at pu
      simp only [cK, Bool.and_eq_true, decide_eq_true_eq] at pu
      have pt' : cK t t' = true := by simp only [cK, Bool.and_eq_true, decide_eq_true_eq]; exact ⟨e1.symm.trans pu.1, e2.symm.trans pu.2⟩
      have c1 : cK u = cK t := by funext z; simp [cK, pu.1, pu.2]
      have c2 : cK t' = cK t := by funext z; simp only [cK, Bool.and_eq_true, decide_eq_true_eq] at pt'; simp [cK, pt'.1, pt'.2]
      rw [num_key (t := u) (by rw [pu.2]; exact hn), num_key (t := t') (by simp only [cK, Bool.and_eq_true, decide_eq_true_eq] at pt'; rw [pt'.2]; exact hn), c1, c2] at e3
      have := ids_lt (q := onT (cK t) new) hi (by rw [onT_at ht']; exact pt')
      omega
    simp [this]
theorem part_key1 {all : Bool} {old new : List Tree} {k : Nat} {js : List Nat} {t : Tree} (hT : TakenOk all old new k js) (ht : new[k]? = some t) (hn : t.key ≠ .none) (h : ids (freeQ js t old) old.length = []) : NoSlot all old (slot all (new.take k) t) := by
  intro j u hu e
  obtain ⟨e1, e2, e3⟩ := slot_eq.mp e
  have c1 : cK u = cK t := by funext z; simp [cK, e1, e2]
  rw [num_key (t := u) (by rw [e2]; exact hn), num_key (t := t) hn, c1] at e3
  have : j ∈ ids (freeQ js t old) old.length := ids_mem.mpr ⟨lt_of hu, (free_iff hT ht hn j).mpr ⟨by rw [onT_at hu]; simp [cK, e1, e2], by omega⟩⟩
  rw [h] at this
  cases this
theorem part_key2 {all : Bool} {old new : List Tree} {k : Nat} {js : List Nat} {t : Tree} (hT : TakenOk all old new k js) (ht : new[k]? = some t) (hn : t.key ≠ .none) {j : Nat} (h : (ids (freeQ js t old) old.length)[0]? = some j) : ∃ u, old[j]? = some u ∧ slot all (old.take j) u = slot all (new.take k) t := by
  obtain ⟨h1, h2, h3⟩ := ids_get h
  obtain ⟨h4, h5⟩ := (free_iff hT ht hn j).mp h2
  obtain ⟨u, hu, pu⟩ := onT_get h4
  simp only [cK, Bool.and_eq_true, decide_eq_true_eq] at pu
  refine ⟨u, hu, slot_eq.mpr ⟨pu.1, pu.2, ?_⟩⟩
  have c1 : cK u = cK t := by funext z; simp [cK, pu.1, pu.2]
  rw [num_key (t := u) (by rw [pu.2]; exact hn), num_key (t := t) hn, c1]
  rcases Nat.lt_or_ge (ids (onT (cK t) new) k).length (ids (onT (cK t) old) j).length with hl | hl
  · obtain ⟨j', g1, g2, g3⟩ := ids_sur hl
    have : j' ∈ ids (freeQ js t old) j := ids_mem.mpr ⟨g1, (free_iff hT ht hn j').mpr ⟨g2, by omega⟩⟩
    rw [List.length_eq_zero_iff.mp h3] at this
    cases this
  · omega
/-- what the law's partner answers -/
def PartOk (all : Bool) (old new : List Tree) (k : Nat) (t : Tree) (r : L2.V) : Prop := (r = .non ∧ NoSlot all old (slot all (new.take k) t)) ∨ ∃ (j : Nat) (u : Tree), r = .int (j : Int) ∧ old[j]? = some u ∧ slot all (old.take j) u = slot all (new.take k) t
theorem NoSlot.find {all : Bool} {old : List Tree} {s : NestedKey} (h : NoSlot all old s) : findS all old s = none := by
  cases e : findS all old s with
  | none => rfl
  | some u =>
    obtain ⟨i, h1, h2⟩ := findS_get e
    rw [slot_at all h1] at h2
    exact absurd (Option.some.inj h2) (h i u h1)
theorem TakenOk.nil {all : Bool} {old new : List Tree} : TakenOk all old new 0 [] := fun j => by simp
theorem TakenOk.skip {all : Bool} {old new : List Tree} {k : Nat} {js : List Nat} {t : Tree} (hT : TakenOk all old new k js) (ht : new[k]? = some t) (h : NoSlot all old (slot all (new.take k) t)) : TakenOk all old new (k + 1) js := fun j => by
  rw [hT j]
  constructor
  · rintro ⟨i, t', u, h1, h2⟩
    exact ⟨i, t', u, by omega, h2⟩
  · rintro ⟨i, t', u, h1, h2, h3, h4⟩
    by_cases e : i = k
    · subst e
      rw [ht] at h2
      cases h2
      exact absurd h4 (h j u h3)
    · exact ⟨i, t', u, by omega, h2, h3, h4⟩
theorem TakenOk.take {all : Bool} {old new : List Tree} {k : Nat} {js : List Nat} {t u : Tree} {j : Nat} (hT : TakenOk all old new k js) (ht : new[k]? = some t) (hu : old[j]? = some u) (h : slot all (old.take j) u = slot all (new.take k) t) : TakenOk all old new (k + 1) (js ++ [j]) := fun j' => by
  rw [List.mem_append, List.mem_singleton, hT j']
  constructor
  · rintro (⟨i, t', u', h1, h2⟩ | rfl)
    · exact ⟨i, t', u', by omega, h2⟩
    · exact ⟨k, t, u, by omega, ht, hu, h⟩
  · rintro ⟨i, t', u', h1, h2, h3, h4⟩
    by_cases e : i = k
    · subst e
      rw [ht] at h2
      cases h2
      exact .inr (slot_ix all h3 hu (h4.trans h.symm))
    · exact .inl ⟨i, t', u', by omega, h2, h3, h4⟩
mutual
theorem eqv_key : ∀ k j : NestedKey, PyData.eqv k.data j.data = decide (k = j)
  | .none, .none => by simp [NestedKey.data, PyData.eqv]
  | .none, .num _ => by simp [NestedKey.data, PyData.eqv]
  | .none, .text _ => by simp [NestedKey.data, PyData.eqv]
  | .none, .tup _ => by simp [NestedKey.data, PyData.eqv]
  | .num _, .none => by simp [NestedKey.data, PyData.eqv]
  | .num a, .num b => by
    rw [NestedKey.data, NestedKey.data, PyData.eqv, Bool.eq_iff_iff]
    simp
  | .num _, .text _ => by simp [NestedKey.data, PyData.eqv]
  | .num _, .tup _ => by simp [NestedKey.data, PyData.eqv]
  | .text _, .none => by simp [NestedKey.data, PyData.eqv]
  | .text _, .num _ => by simp [NestedKey.data, PyData.eqv]
  | .text a, .text b => by
    rw [NestedKey.data, NestedKey.data, PyData.eqv, Bool.eq_iff_iff]
    simp
  | .text _, .tup _ => by simp [NestedKey.data, PyData.eqv]
  | .tup _, .none => by simp [NestedKey.data, PyData.eqv]
  | .tup _, .num _ => by simp [NestedKey.data, PyData.eqv]
  | .tup _, .text _ => by simp [NestedKey.data, PyData.eqv]
  | .tup ks, .tup js => by
    rw [NestedKey.data, NestedKey.data, PyData.eqv, eqvs_key ks js]
    simp
theorem eqvs_key : ∀ ks js : List NestedKey, PyData.eqvAll (NestedKey.datas ks) (NestedKey.datas js) = decide (ks = js)
  | [], [] => by simp [NestedKey.datas, PyData.eqvAll]
  | [], _ :: _ => by simp [NestedKey.datas, PyData.eqvAll]
  | _ :: _, [] => by simp [NestedKey.datas, PyData.eqvAll]
  | k :: ks, j :: js => by
    rw [NestedKey.datas, NestedKey.datas, PyData.eqvAll, eqv_key k j, eqvs_key ks js]
    simp
end
end G
namespace G
open PySem L2 Nd
def spPartner : Sp := fun vs H Q _ => ∃ (M : List Addr) (all : Bool) (a tk b : Addr) (k : Nat) (xs ys : List V) (js : List Nat) (old new : List Tree) (t : Tree), vs = [.ref a, .ref tk, .ref b, .int (k : Int), .str (placeOf all)] ∧ H a = some (.lst xs) ∧ H b = some (.lst ys) ∧ H tk = some (.lst (js.map fun (j : Nat) => V.int (j : Int))) ∧
  TrL M H xs old ∧ TrL M H ys new ∧ fitL old = true ∧ fitL new = true ∧ sizeL old < 1000000 ∧ sizeL new < 1000000 ∧ new[k]? = some t ∧ TakenOk all old new k js ∧ ∀ (r : V) (H' : Hp), PartOk all old new k t r → Same H H' → Q r H'
theorem all_flat : ∀ js : List Nat, (js.map fun (j : Nat) => V.int (j : Int)).all flatV = true
  | [] => rfl
  | _ :: js => by rw [List.map_cons, List.all_cons, all_flat js]; rfl
theorem inV_nat (i : Nat) : ∀ js : List Nat, inV (V.int (i : Int)) (js.map fun (j : Nat) => V.int (j : Int)) = decide (i ∈ js)
  | [] => by simp [inV]
  | j :: js => by
    have := inV_nat i js
    unfold inV at this ⊢
    rw [List.map_cons, List.any_cons, this, Bool.eq_iff_iff]
    simp only [eqV, Bool.or_eq_true, decide_eq_true_eq, List.mem_cons, beq_iff_eq]
    constructor
    · rintro (h | h)
      · exact .inl (by omega)
      · exact .inr h
    · rintro (h | h)
      · exact .inl (by omega)
      · exact .inr h
/-- keys compared -/
theorem eqD_key {K : PySem.W.Frag} {H : Hp} {x y : V} {k j : NestedKey} {Q : VK} (hx : NK H x k) (hy : NK H y j) (ok : okN k = true) (oj : okN j = true) (dk : k.depth ≤ 64) (dj : j.depth ≤ 64) (q : Q (.bl (decide (k = j))) H) : rEqD K x y H Q :=
  ⟨k.data, j.data, nk_dp k _ hx, nk_dp j _ hy, shaped_key ok dk, shaped_key oj dj, by rw [eqv_key]; exact q⟩
theorem flK_ok {k : NestedKey} (h : flK k = true) : okN k = true := by
  rw [flK, Bool.and_eq_true] at h
  exact h.2
theorem flY_ok {k : NestedKey} (h : flY k = true) : okN k = true := by
  rw [flY, Bool.and_eq_true] at h
  exact h.2
/-- pairs of nodes of the law's trees: the nodes stand in H0 -/
inductive PtL (M : List Addr) (H0 H : Hp) : List V → List (Tree × Tree) → Prop
  | nil : PtL M H0 H [] []
  | cons {a : Addr} {x y : V} {t u : Tree} {vs : List V} {ps : List (Tree × Tree)} : H a = some (.tup [x, y]) → TrT M H0 x t → TrT M H0 y u → PtL M H0 H vs ps → PtL M H0 H (.ref a :: vs) ((t, u) :: ps)
theorem PtL.mono {M : List Addr} {H0 H H' : Hp} (e : ∀ b xs, H b = some (.tup xs) → H' b = some (.tup xs)) : ∀ {vs : List V} {ps : List (Tree × Tree)}, PtL M H0 H vs ps → PtL M H0 H' vs ps
  | _, _, .nil => .nil
  | _, _, .cons h1 h2 h3 h4 => .cons (e _ _ h1) h2 h3 (PtL.mono e h4)
theorem PtL.same {M : List Addr} {H0 H H' : Hp} {vs : List V} {ps : List (Tree × Tree)} (h : PtL M H0 H vs ps) (e : Same H H') : PtL M H0 H' vs ps := h.mono fun _ _ q => e _ _ q
theorem PtL.append {M : List Addr} {H0 H : Hp} : ∀ {vs ws : List V} {ps qs : List (Tree × Tree)}, PtL M H0 H vs ps → PtL M H0 H ws qs → PtL M H0 H (vs ++ ws) (ps ++ qs)
  | _, _, _, _, .nil, h => h
  | _, _, _, _, .cons h1 h2 h3 h4, h => .cons h1 h2 h3 (PtL.append h4 h)
theorem PtL.len {M : List Addr} {H0 H : Hp} : ∀ {vs : List V} {ps : List (Tree × Tree)}, PtL M H0 H vs ps → vs.length = ps.length
  | _, _, .nil => rfl
  | _, _, .cons _ _ _ h => by rw [List.length_cons, List.length_cons, PtL.len h]
theorem PtL.get {M : List Addr} {H0 H : Hp} : ∀ {vs : List V} {ps : List (Tree × Tree)} {i : Nat} {v : V}, PtL M H0 H vs ps → vs[i]? = some v → ∃ a x y t u, v = .ref a ∧ ps[i]? = some (t, u) ∧ H a = some (.tup [x, y]) ∧ TrT M H0 x t ∧ TrT M H0 y u
  | _, _, _, _, .nil, e => by simp at e
  | _, _, 0, _, .cons h1 h2 h3 _, e => by simp at e; subst e; exact ⟨_, _, _, _, _, rfl, rfl, h1, h2, h3⟩
  | _, _, i + 1, v, .cons _ _ _ h, e => by
    obtain ⟨a, x, y, t, u, h1, h2, h3⟩ := PtL.get (i := i) (v := v) h (by simpa using e)
    exact ⟨a, x, y, t, u, h1, by simpa using h2, h3⟩
def spPairs (n : Nat) : Sp := fun vs H Q _ => ∃ (H0 : Hp) (M : List Addr) (all : Bool) (a b : Addr) (xs ys : List V) (old new : List Tree), vs = [.ref a, .ref b, .str (placeOf all)] ∧ Same H0 H ∧ H0 a = some (.lst xs) ∧ H0 b = some (.lst ys) ∧
  TrL M H0 xs old ∧ TrL M H0 ys new ∧ fitL old = true ∧ fitL new = true ∧ sizeL old < 1000000 ∧ sizeL new < 1000000 ∧ depL new < n ∧
  ∀ (d : Addr) (vs : List V) (H' : Hp), H d = none → H' d = some (.lst vs) → PtL M H0 H' vs (mL all old [] new) → Same H H' → Q (.ref d) H'
def spTreeSame (C : Addr) (n : Nat) : Sp := fun vs H Q _ => ∃ (N M : List Addr) (a b : Addr) (xs ys : List V) (ts : List Tree), vs = [.ref a, .ref b] ∧ H a = some (.lst xs) ∧ H b = some (.lst ys) ∧ NdL N C H xs ts ∧ TrL M H ys ts ∧ fitL ts = true ∧ depL ts < n ∧ sizeL ts < 1000000 ∧
  ∀ H', Same H H' → Q (.bl true) H'
theorem depthAll_le {n : Nat} : ∀ {ks : List NestedKey}, (∀ k ∈ ks, k.depth ≤ n) → NestedKey.depthAll ks ≤ n
  | [], _ => by simp [NestedKey.depthAll]
  | k :: ks, h => by
    have h1 := h k List.mem_cons_self
    have h2 := depthAll_le (ks := ks) fun j hj => h j (List.mem_cons_of_mem _ hj)
    rw [NestedKey.depthAll]
    omega
theorem mo_depth {all : Bool} {A B : List Tree} (hA : Tups (ownL A)) (hB : Tups (ownL B)) : NestedKey.depthAll ((mL all A [] B).map fun p => .tup [p.1.own, p.2.own]) < 6 := by
  refine Nat.lt_of_le_of_lt (depthAll_le (n := 4) fun k hk => ?_) (by decide)
  obtain ⟨p, hp, rfl⟩ := List.mem_map.mp hk
  have := mo_own all A B (p.1.own, p.2.own) (List.mem_map.mpr ⟨p, hp, rfl⟩)
  have h1 := (hA _ this.1).2.1
  have h2 := (hB _ this.2).2.1
  simp only [NestedKey.depth, NestedKey.depthAll] at *
  omega
theorem pairs_eq2 {H : Hp} {all : Bool} {A B : List Tree} {a b : Addr} {xs ys : List V} (hA : Tups (ownL A)) (hB : Tups (ownL B)) (ha : H a = some (.lst xs)) (hb : H b = some (.lst ys)) (h1 : NKs H xs ((mL all A [] B).map fun p => .tup [p.1.own, p.2.own])) (h2 : NKs H ys ((mL all A [] B).map fun p => .tup [p.1.own, p.2.own])) : Eq2 H 7 (.ref a) (.ref b) :=
  .inr (.inr (.inr (.inr ⟨a, b, xs, ys, rfl, rfl, .inr ⟨ha, hb⟩, by rw [h1.len, h2.len], nks_eq2 _ 6 _ _ h1 h2 (mo_depth hA hB)⟩)))
end G
set_option Elab.async false
set_option linter.all false
set_option maxRecDepth 100000
set_option maxHeartbeats 4000000
namespace G
open PySem L2 Nd
/-! ### tables of addresses -/
section
variable {X : Cx} {o : Expr} {td : TE} {apos cpos : Pos}
def tNClear (P : Program) (w : World) (td : TE) : TE := fun σ H Q => td σ H fun x H1 => ∃ a xs, x = .ref a ∧ H1 a = some (DN P w a xs) ∧ KeysAt H1 xs ∧ Q .non (upd H1 a (DN P w a []))
theorem n_clear (ho : PE X o td) (hbase : attributeBase o "clear" X.env (eval o X.env) = eval o X.env := by rfl) (hline : (apos.endLine == cpos.line) = true := by rfl) : PE X (.Call (.Attribute o "clear" apos) [] [] cpos) (tNClear X.prog X.w td) := by
  refine ⟨fun pins s σ H Q I h => ?_⟩
  refine wpAny_Call_method0_late hbase hline (thn (ho.run pins s σ H _ I h) fun v s1 ⟨x, H1, I1, r1, a, xs, ex, e, ks, q1⟩ => ?_)
  subst ex
  obtain rfl : v = Value.ref a := r1
  exact ⟨"dict", "dict.clear", PySem.F.plainAttrs_dict, PySem.F.slot_dict_clear, PySem.F.type_dict_clear, (dn_ty I1 (.inl e)).1, (dn_ty I1 (.inl e)).2.1, Calls.callWith_builtin rfl (PySem.evalArgs_none (dn_clear I1 e ks fun s' I' => ⟨.non, _, I', rfl, q1⟩))⟩
end
theorem adL_snoc (all : Bool) (above : Adr) (t : Tree) : ∀ (xs pre : List Tree), adL all above pre (xs ++ [t]) = adL all above pre xs ++ adT all above (pre ++ xs) t
  | [], pre => by simp [adL]
  | x :: xs, pre => by
    rw [List.cons_append, adL, adL, adL_snoc all above t xs (pre ++ [x])]
    simp
def tbl (xs : List (Adr × NestedKey)) : List (NestedKey × NestedKey) := xs.map fun p => (p.2, .tup p.1)
theorem tbl_append (a b : List (Adr × NestedKey)) : tbl (a ++ b) = tbl a ++ tbl b := List.map_append
theorem tbl_keys (xs : List (Adr × NestedKey)) : (tbl xs).map (·.1) = xs.map (·.2) := by
  unfold tbl
  rw [List.map_map]
  rfl
/-- a dict with these keys and values, in this order -/
def DicOk (P : Program) (w : World) (H : Hp) (d : Addr) (ps : List (NestedKey × NestedKey)) : Prop := ∃ es, H d = some (DN P w d es) ∧ KeysAt H es ∧ TbL H es ps
theorem Sm.tupD {P : Program} {w : World} {H H' : Hp} {d : Addr} {es : List Ent} (e : Sm [d] H H') (hd : H d = some (DN P w d es)) : ∀ b xs, H b = some (.tup xs) → H' b = some (.tup xs) := fun b xs q => e b _ q fun z => by
  rw [List.mem_singleton.mp z, hd] at q
  cases q
theorem Sm.lstD {P : Program} {w : World} {H H' : Hp} {d : Addr} {es : List Ent} (e : Sm [d] H H') (hd : H d = some (DN P w d es)) : ∀ b xs, H b = some (.lst xs) → H' b = some (.lst xs) := fun b xs q => e b _ q fun z => by
  rw [List.mem_singleton.mp z, hd] at q
  cases q
theorem Sm.insD {P : Program} {w : World} {H H' : Hp} {d : Addr} {es : List Ent} (e : Sm [d] H H') (hd : H d = some (DN P w d es)) : ∀ b C dx fs, H b = some (.ins C dx fs) → H' b = some (.ins C dx fs) := fun b C dx fs q => e b _ q fun z => by
  rw [List.mem_singleton.mp z, hd] at q
  cases q
theorem sm_putD {H : Hp} {d : Addr} {o : HO} : Sm [d] H (L2.upd H d o) := fun b v q nb => by
  rw [upd_ne (fun z => nb (by rw [z]; exact List.mem_singleton.mpr rfl))]
  exact q
theorem Sm.ofSame {M : List Addr} {H H' : Hp} (e : Same H H') : Sm M H H' := fun b o q _ => e _ _ q
def spSlots : Sp := fun vs H Q _ => ∃ (M : List Addr) (all : Bool) (a : Addr) (xs : List V) (ts : List Tree), vs = [.ref a, .str (placeOf all)] ∧ H a = some (.lst xs) ∧ TrL M H xs ts ∧ fitL ts = true ∧ sizeL ts < 1000000 ∧
  ∀ (d : Addr) (vs : List V) (H' : Hp), H d = none → H' d = some (.lst vs) → NKs H' vs (slots all ts) → Same H H' → Q (.ref d) H'
/-- what both tables ask -/
structure AdOk (all : Bool) (n : Nat) (ts : List Tree) (above : Adr) (ps : List (NestedKey × NestedKey)) : Prop where
  nd : (ps.map (·.1) ++ ownL ts).Nodup
  fit : fitL ts = true
  tup : Tups (ownL ts)
  siz : ps.length + sizeL ts < 1000000
  dep : depL ts < n
  len : above.length + depL ts < 1000
def spAddressed (P : Program) (w : World) (n : Nat) : Sp := fun vs H Q _ => ∃ (M : List Addr) (all : Bool) (a ab d : Addr) (xs us : List V) (ts : List Tree) (above : Adr) (ps : List (NestedKey × NestedKey)), vs = [.ref a, .str (placeOf all), .ref ab, .ref d] ∧ H a = some (.lst xs) ∧ TrL M H xs ts ∧ H ab = some (.tup us) ∧ NKs H us above ∧
  DicOk P w H d ps ∧ AdOk all n ts above ps ∧ ∀ H', DicOk P w H' d (ps ++ tbl (adL all above [] ts)) → Sm [d] H H' → Q (.ref d) H'
def spGather (P : Program) (w : World) (C Cn : Addr) (n : Nat) : Sp := fun vs H Q _ => ∃ (all : Bool) (r dx a ab d : Addr) (xs us : List V) (ts : List Tree) (above : Adr) (ps : List (NestedKey × NestedKey)), vs = [.ref r, .ref a, .ref ab, .ref d] ∧ H r = some (.ins C dx (ruF (placeOf all))) ∧ H a = some (.lst xs) ∧ NdL [] Cn H xs ts ∧ H ab = some (.tup us) ∧ NKs H us above ∧
  DicOk P w H d ps ∧ AdOk all n ts above ps ∧ ∀ H', DicOk P w H' d (ps ++ tbl (adL all above [] ts)) → Sm [d] H H' → Q .non H'
def spAddresses (P : Program) (w : World) (C Cn : Addr) (n : Nat) : Sp := fun vs H Q _ => ∃ (all : Bool) (r dx a : Addr) (xs : List V) (ts : List Tree), vs = [.ref r, .ref a] ∧ H r = some (.ins C dx (ruF (placeOf all))) ∧ H a = some (.lst xs) ∧ NdL [] Cn H xs ts ∧ AdOk all n ts [] [] ∧
  ∀ d H', H d = none → DicOk P w H' d (tbl (adr all ts)) → Same H H' → Q (.ref d) H'
/-- one more entry, of a new key -/
theorem DicOk.put {P : Program} {w : World} {H : Hp} {d b : Addr} {es : List Ent} {ps : List (NestedKey × NestedKey)} {k r : NestedKey} {v : V} (hd : H d = some (DN P w d es)) (ks : KeysAt H es) (tb : TbL H es ps) (hk : NK H (.ref b) k) (dk : k.depth ≤ 8) (hv : NK H v r) (nk : k ∉ ps.map (·.1)) :
    DicOk P w (upd H d (DN P w d (putN es k b v))) d (ps ++ [(k, r)]) := by
  have st' : ∀ c xs, H c = some (.tup xs) → upd H d (DN P w d (putN es k b v)) c = some (.tup xs) := keep_tup (H' := H) hd (by intro xs z; cases z)
  refine ⟨_, upd_same, (ks.put hk dk).mono st', ?_⟩
  have e : lookN es k = none := by
    rcases tb.look k with ⟨h, _⟩ | ⟨v', r', h1, _, h3⟩
    · exact h
    · exact absurd (List.mem_map.mpr ⟨_, h3, rfl⟩) nk
  rw [putN_new e]
  exact (tb.snoc hv).mono (by rw [← putN_new e]; exact st')
end G
set_option Elab.async false
set_option linter.all false
set_option maxRecDepth 100000
set_option maxHeartbeats 400000
namespace G
open PySem L2 Nd
/-- no place of a rule -/
def Odd (K : PySem.W.Frag) (H : Hp) (v : V) : Prop := (∃ t, TyX K H v t ∧ PySem.W.kitOne K t (.type "str") = some false) ∨ ∃ z : Str, v = .str z ∧ z ≠ "all" ∧ z ≠ "plain"
def spRuleBad (K : PySem.W.Frag) (C Ce : Addr) : Sp := fun vs H Q E => ∃ (p dx : Addr) (v : V), vs = [.ref p, v] ∧ H p = some (.ins C dx []) ∧ Odd K H v ∧ ∀ d H', Same H H' → H' d = some (.xd [("place", v)]) → E (.ref Ce) (some d) H'
def spRuleEq (C : Addr) (K : PySem.W.Frag) : Sp := fun vs H Q _ => ∃ (p dx : Addr) (z : Str) (y : V), vs = [.ref p, y] ∧ H p = some (.ins C dx (ruF z)) ∧
  ((∃ t, TyX K H y t ∧ PySem.W.kitOne K t (.ref C) = some false ∧ Q (.bl false) H) ∨ ∃ (q dy : Addr) (z' : Str), y = .ref q ∧ H q = some (.ins C dy (ruF z')) ∧ Q (.bl (decide (z = z'))) H)
def spRule (C : Addr) : Sp := fun vs H Q _ => ∃ (i : Int), vs = [.int i] ∧ 0 ≤ i ∧ i < 5 ∧ ∀ (r dx : Addr) (H' : Hp), Same H H' → H' r = some (.ins C dx (ruF (placeOf (decide (i < 3))))) → Q (.ref r) H'
def spRefused (K : PySem.W.Frag) (n : Nat) : Sp := fun vs H Q _ => ∃ (v : V) (P : Addr → Prop) (d : Dat), vs = [v] ∧ Odd K H v ∧ At P H v d ∧ depD d < n ∧ ∀ H', Same H H' → Q (.bl true) H'
theorem TyX.same {K : PySem.W.Frag} {H H' : Hp} {v : V} {t : Value} (h : TyX K H v t) (e : Same H H') : TyX K H' v t := by
  cases h with
  | base h => cases h with
    | non => exact .base .non
    | bl b => exact .base (.bl b)
    | int i => exact .base (.int i)
    | str z => exact .base (.str z)
    | flt z => exact .base (.flt z)
    | lst q => exact .base (.lst (e _ _ q))
    | frz q => exact .base (.frz (e _ _ q))
    | tup q => exact .base (.tup (e _ _ q))
    | dK q => exact .base (.dK (e _ _ q))
    | dT q => exact .base (.dT (e _ _ q))
    | ins q c a b d f => exact .base (.ins (e _ _ q) c a b d f)
  | byt b => exact .byt b
  | set q => exact .set (e _ _ q)
  | kList q c => exact .kList q c
  | kTuple q c => exact .kTuple q c
  | kDict q c => exact .kDict q c
  | fTuple q => exact .fTuple (e _ _ q)
  | fDict q => exact .fDict (e _ _ q)
theorem Odd.same {K : PySem.W.Frag} {H H' : Hp} {v : V} (h : Odd K H v) (e : Same H H') : Odd K H' v := by
  rcases h with ⟨t, h1, h2⟩ | h
  · exact .inl ⟨t, TyX.same h1 e, h2⟩
  · exact .inr h
end G
set_option Elab.async false
set_option linter.all false
set_option maxRecDepth 100000
set_option maxHeartbeats 400000
namespace G
open PySem L2 Nd
theorem hu65 {k : Nat} {A : Around} (hr : Room k A) : A.units + 65 < cLine := by have := hr.un; omega
mutual
def datK : NestedKey → Dat
  | .none => .non
  | .num i => .int i
  | .text z => .str z
  | .tup ks => .tup (datKs ks)
def datKs : List NestedKey → List Dat
  | [] => []
  | k :: ks => datK k :: datKs ks
end
mutual
theorem nk_atK {P : Addr → Prop} {H : Hp} : ∀ (k : NestedKey) (v : V), NK H v k → At P H v (datK k)
  | .none, _, h => by cases h; exact .non
  | .num _, _, h => by cases h; exact .int _
  | .text _, _, h => by cases h; exact .str _
  | .tup ks, _, h => by cases h with | tup a b => exact .tup a (nks_atK ks _ b)
theorem nks_atK {P : Addr → Prop} {H : Hp} : ∀ (ks : List NestedKey) (vs : List V), NKs H vs ks → Ats P H vs (datKs ks)
  | [], _, h => by cases h; exact .nil
  | k :: ks, _, h => by cases h with | cons a b => exact .cons (nk_atK k _ a) (nks_atK ks _ b)
end
mutual
theorem simK : ∀ (k : NestedKey) (n : Nat), k.depth < n → Sim n (datK k) (datK k)
  | _, 0, h => absurd h (by omega)
  | .none, n + 1, _ => True.intro
  | .num i, n + 1, _ => rfl
  | .text z, n + 1, _ => rfl
  | .tup ks, n + 1, h => by
    rw [NestedKey.depth] at h
    exact ⟨rfl, simKs ks n (by omega)⟩
theorem simKs : ∀ (ks : List NestedKey) (n : Nat), NestedKey.depthAll ks < n → ∀ (i : Nat) (u v : Dat), (datKs ks)[i]? = some u → (datKs ks)[i]? = some v → Sim n u v
  | [], n, _, i, u, v, e, _ => by simp [datKs] at e
  | k :: ks, n, h, i, u, v, e, f => by
    rw [NestedKey.depthAll] at h
    cases i with
    | zero => simp [datKs] at e f; subst e f; exact simK k n (by omega)
    | succ i => exact simKs ks n (by omega) i u v (by simpa [datKs] using e) (by simpa [datKs] using f)
end
theorem smv_keys {H : Hp} {a b : Addr} {xs ys : List V} {ks : List NestedKey} {n : Nat} (ha : H a = some (.lst xs)) (hb : H b = some (.lst ys)) (hab : a ≠ b) (h1 : NKs H xs ks) (h2 : NKs H ys ks) (hd : NestedKey.depthAll ks < n) : SmV H (n + 1) (.ref a) (.ref b) :=
  .inr ⟨fun c => c = a, _, _, .lst ha rfl (nks_atK ks _ h1), .lst hb (fun z => hab z.symm) (nks_atK ks _ h2), rfl, simKs ks n hd⟩
theorem odd_at {K : PySem.W.Frag} {P : Addr → Prop} {H : Hp} {v : V} {d : Dat} (h : At P H v d) (g : ∀ z, d = .str z → z ≠ "all" ∧ z ≠ "plain") : Odd K H v := by
  cases h with
  | non => exact .inl ⟨_, .base .non, kit_ty (by decide +kernel)⟩
  | bl b => exact .inl ⟨_, .base (.bl b), kit_ty (by decide +kernel)⟩
  | int i => exact .inl ⟨_, .base (.int i), kit_ty (by decide +kernel)⟩
  | str z => exact .inr ⟨z, rfl, g z rfl⟩
  | lst q _ _ => exact .inl ⟨_, .base (.lst q), kit_ty (by decide +kernel)⟩
  | tup q _ => exact .inl ⟨_, .base (.tup q), kit_ty (by decide +kernel)⟩
  | dic q _ _ _ _ => exact .inl ⟨_, .base (.dK q), kit_ty (by decide +kernel)⟩
def oddL : List Dat := [.non, .bl true, .int 0, .int (10 ^ 30), .str "", .str "All", .str "al", .str "plainx", .str "plain ", .tup [], .tup [.str "all"], .lst [], .lst [.str "plain"], .dic [] [], .dic ["all"] [.int 1]]
theorem oddL_ok : ∀ d ∈ oddL, (∀ z, d = .str z → z ≠ "all" ∧ z ≠ "plain") ∧ depD d < 5 := by
  intro d hd
  simp only [oddL, List.mem_cons, List.not_mem_nil, or_false] at hd
  rcases hd with rfl | rfl | rfl | rfl | rfl | rfl | rfl | rfl | rfl | rfl | rfl | rfl | rfl | rfl | rfl <;>
    refine ⟨fun z e => ?_, by simp [depD, depDs]⟩ <;> first | (cases e; constructor <;> decide +kernel) | cases e
theorem Kd.sm {P : Addr → Prop} {M : List Addr} {H H' : Hp} (l : MutL M H) (e : Sm M H H') (hp : ∀ b, P b → b ∉ M) : Kd P P H H' := ⟨l.tup e, fun b xs pb q => e _ _ q (hp b pb), fun b xs pb q => e _ _ q (hp b pb), fun _ q => q⟩
theorem slots_dep {all : Bool} {ts : List Tree} (h : fitL ts = true) : NestedKey.depthAll (slots all ts) < 5 := by
  refine Nat.lt_of_le_of_lt (depthAll_le (n := 3) fun k hk => ?_) (by decide)
  obtain ⟨i, hi⟩ := List.mem_iff_getElem?.mp hk
  have hl := lt_of hi
  rw [slots_length] at hl
  obtain ⟨t, ht⟩ : ∃ t, ts[i]? = some t := ⟨_, List.getElem?_eq_getElem hl⟩
  rw [slot_at all ht] at hi
  cases hi
  exact slot_depth (fitL_get h ht)
theorem slot_ok {all : Bool} {pre : List Tree} {t : Tree} (h : fitT t = true) : okN (slot all pre t) = true := by
  obtain ⟨h1, h2⟩ := fitT_fl h
  simp [slot, okN, okNs, flK_ok h1, flY_ok h2]
theorem okNs_all : ∀ {ks : List NestedKey}, (∀ k ∈ ks, okN k = true) → okNs ks = true
  | [], _ => rfl
  | k :: ks, h => by rw [okNs, h k List.mem_cons_self, okNs_all fun j hj => h j (List.mem_cons_of_mem _ hj)]; rfl
theorem shaped_keys {ks : List NestedKey} (h : okNs ks = true) (hd : NestedKey.depthAll ks ≤ 60) : SeqAt.shaped (.list (NestedKey.datas ks)) = true := by
  simp only [SeqAt.shaped, PyData.canLay0, PyData.depth, okNs_lay, deps_data, h]
  simp
  omega
theorem any_keys (j : NestedKey) : ∀ ks : List NestedKey, ((NestedKey.datas ks).any fun z => PyData.eqv z j.data) = decide (j ∈ ks)
  | [] => by simp [NestedKey.datas]
  | k :: ks => by
    rw [NestedKey.datas, List.any_cons, any_keys j ks, eqv_key]
    by_cases h : k = j
    · subst h; simp
    · have : ¬ j = k := fun z => h z.symm
      simp [h, this]
theorem slot_fresh {all : Bool} {ts : List Tree} {i : Nat} {t : Tree} (h : ts[i]? = some t) : slot all (ts.take i) t ∉ (slots all ts).take i := fun z => by
  obtain ⟨m, hm⟩ := List.mem_iff_getElem?.mp z
  rw [List.getElem?_take] at hm
  by_cases hmi : m < i
  · rw [if_pos hmi] at hm
    have hl := lt_of hm
    rw [slots_length] at hl
    obtain ⟨u, hu⟩ : ∃ u, ts[m]? = some u := ⟨_, List.getElem?_eq_getElem hl⟩
    rw [slot_at all hu] at hm
    exact slot_lt all hu h hmi (Option.some.inj hm)
  · rw [if_neg hmi] at hm; cases hm
theorem place_int (i : Int) (h0 : 0 ≤ i) : atI [V.str "all", V.str "plain"] (if decide (i > 2) then 1 else 0) = some (V.str (placeOf (decide (i < 3)))) := by
  by_cases h : i > 2
  · have h3 : ¬ i < 3 := by omega
    simp only [h, h3, decide_true, decide_false]
    rfl
  · have h3 : i < 3 := by omega
    simp only [h, h3, decide_true, decide_false]
    rfl
theorem placeOf_inj (a b : Bool) : decide (placeOf a = placeOf b) = decide (a = b) := by cases a <;> cases b <;> decide +kernel
theorem depthAll_mem {k : NestedKey} : ∀ {ks : List NestedKey}, k ∈ ks → k.depth ≤ NestedKey.depthAll ks
  | j :: ks, h => by
    rw [NestedKey.depthAll]
    rcases List.mem_cons.mp h with rfl | h
    · omega
    · have := depthAll_mem h; omega
theorem NKs.take {H : Hp} : ∀ {vs : List V} {ks : List NestedKey} (n : Nat), NKs H vs ks → NKs H (vs.take n) (ks.take n)
  | _, _, 0, _ => .nil
  | _, _, n + 1, .nil => .nil
  | _, _, n + 1, .cons a b => .cons a (NKs.take n b)
end G
set_option Elab.async false
set_option linter.all false
set_option maxRecDepth 100000
set_option maxHeartbeats 1600000
/-! len(set(words)) of a list or a tuple of texts. -/
namespace Sx
open PySem PySem.Spec PyProof.Rows L2
def hasK (r : List Key) (k : Key) : Bool := r.any fun j => decide (j = k)
theorem hasK_iff {r : List Key} {k : Key} : hasK r k = true ↔ k ∈ r := by
  unfold hasK
  rw [List.any_eq_true]
  exact ⟨fun ⟨x, h1, h2⟩ => by rw [← of_decide_eq_true h2]; exact h1, fun h => ⟨k, h, decide_eq_true rfl⟩⟩
/-- how many unlike ones (the last first) -/
def dis : List Key → Nat
  | [] => 0
  | k :: r => dis r + if hasK r k = true then 0 else 1
theorem dis_le : ∀ r : List Key, dis r ≤ r.length
  | [] => Nat.le_refl _
  | k :: r => by
    have := dis_le r
    rw [dis, List.length_cons]
    split <;> omega
theorem dis_nodup : ∀ r : List Key, dis r = r.length ↔ r.Nodup
  | [] => by simp [dis]
  | k :: r => by
    have h1 := dis_le r
    have h2 := dis_nodup r
    rw [dis, List.length_cons, List.nodup_cons]
    by_cases h : hasK r k = true
    · rw [if_pos h]
      constructor
      · intro z; omega
      · intro z; exact absurd (hasK_iff.mp h) z.1
    · rw [if_neg h]
      constructor
      · intro z; exact ⟨fun q => h (hasK_iff.mpr q), h2.mp (by omega)⟩
      · intro z; have := h2.mpr z.2; omega
section
variable {P : Program} {w : World} {A : Around} {R : Result → Shared → Prop} {I : Addr} {fp wr : List Addr} {Gg : Array GenState → Array GenState → Prop} {n : Nat} {Pv : Nat → Value → Prop} {Stt : Nat → Shared → Prop}
theorem loop (W : WalksS P w A.in1 I fp wr Gg n Pv Stt) (S : Addr) (nS : S ∉ fp) (ks : List Key) (hn : ks.length = n) (hv : ∀ i v, Pv i v → ∃ k, ks[i]? = some k ∧ (mixKind P w).is k v = true ∧ v.scannable = true) (hb : n + 1 < scanBound) :
    ∀ (m i : Nat) (s : Shared), n - i = m → i ≤ n → Stt i s → s.heap.SetOf (mixKind P w) S (hasK (ks.take i).reverse) (dis (ks.take i).reverse) →
      (∀ s1, Moved (S :: wr) Gg s s1 → s1.heap.SetOf (mixKind P w) S (hasK ks.reverse) (dis ks.reverse) → R (.ok (.ret .none)) s1) →
      codeAny (model P w) A (.builtin "set.update.loop" ⟨[.ref S, .ref I], []⟩) R s := by
  have nw : S ∉ wr := fun z => nS (W.sub _ z)
  have up : ∀ b ∈ wr, b ∈ S :: wr := fun b z => List.mem_cons_of_mem _ z
  intro m
  induction m with
  | zero =>
    intro i s hm hi st hS k
    obtain rfl : i = n := by omega
    refine codeAny_builtin F.entry_set_update_loop ?_
    rw [Around.under_plainId F.plain_set_update_loop _]
    show wpAny _ A.in1 (pyNext (.ref I) >>= _) _ _ s
    refine wpAny_bind (W.done s _ _ st fun s1 mv => ?_)
    show wpAny _ A.in1 (ret Value.none) _ _ s1
    refine wpAny_pure (k s1 (mv.mono up) ?_)
    rw [← hn, List.take_length] at hS
    obtain ⟨o, es, ep, t, ho, rest⟩ := hS
    exact ⟨o, es, ep, t, mv.heap S _ nw ho, rest⟩
  | succ m ih =>
    intro i s hm hi st hS k
    have lt : i < n := by omega
    refine codeAny_builtin F.entry_set_update_loop ?_
    rw [Around.under_plainId F.plain_set_update_loop _]
    show wpAny _ A.in1 (pyNext (.ref I) >>= _) _ _ s
    refine wpAny_bind (W.item i s _ _ lt st fun v s1 pv st1 mv => ?_)
    obtain ⟨kk, hk, his, hsc⟩ := hv i v pv
    have hS1 : s1.heap.SetOf (mixKind P w) S (hasK (ks.take i).reverse) (dis (ks.take i).reverse) := by
      obtain ⟨o, es, ep, t, ho, rest⟩ := hS
      exact ⟨o, es, ep, t, mv.heap S _ nw ho, rest⟩
    show wpAny _ A.in1 (holding [v] (setAdd S v) >>= _) _ _ s1
    refine wpAny_bind (wpAny_holding ?_)
    unfold setAdd
    refine wpAny_holding (wpAny_bind ((mixKind P w).pyHash (k := kk) his ?_))
    have room : dis (ks.take i).reverse + 1 < scanBound := by
      have := dis_le (ks.take i).reverse
      rw [List.length_reverse, List.length_take] at this
      omega
    refine wpAny_setAddHashed_of (knd := mixKind P w) (s := { s1 with toks := s1.toks + 1 }) his hsc hS1 room fun h2 sb hS2 => ?_
    have tk : (ks.take (i + 1)).reverse = kk :: (ks.take i).reverse := by rw [List.take_succ, hk, List.reverse_append]; rfl
    have hS3 : h2.SetOf (mixKind P w) S (hasK (ks.take (i + 1)).reverse) (dis (ks.take (i + 1)).reverse) := by
      have e1 : hasK (ks.take (i + 1)).reverse = fun k => hasK (ks.take i).reverse k || decide (k = kk) := funext fun k => by
        rw [tk]
        show (decide (kk = k) || hasK (ks.take i).reverse k) = _
        by_cases z : k = kk
        · subst z; simp
        · have z2 : ¬ kk = k := fun q => z q.symm
          simp [z, z2]
      have e2 : dis (ks.take (i + 1)).reverse = if hasK (ks.take i).reverse kk = true then dis (ks.take i).reverse else dis (ks.take i).reverse + 1 := by
        rw [tk, dis]
        split <;> omega
      rw [e1, e2]
      exact hS2
    refine wpAny_pure ⟨plainId_quiet F.plain_set_update_loop _, ih (i + 1) _ (by omega) lt (W.frame _ s1 _ _ st1 (Nat.le_succ _) fun b hb o e => ?_) hS3 fun s3 mv3 hS4 => ?_⟩
    · have : b ≠ S := fun z => nS (z ▸ hb)
      rw [sb.2 b this]
      exact e
    · refine k s3 (Moved.trans W.gtrans ((mv.mono up).then_heap (Nat.le_succ _) fun b o hb e => ?_) mv3) hS4
      have : b ≠ S := fun z => hb (z ▸ List.mem_cons_self)
      rw [sb.2 b this]
      exact e
end
theorem walksT {P : Program} {w : World} {A : Around} (hh : A.handled = none) (I t : Addr) (ne : t ≠ I) (its : Array Value) : Walks P w A I [I, t] [I] its.size (fun i v => its[i]? = some v) (fun i h => h.IsTupleIter I t i ∧ h.IsTuple t its) where
  sub := fun b hb => by simp at hb; simp [hb]
  frame := fun _ _ _ st hk => ⟨by obtain ⟨o, e, r⟩ := st.1; exact ⟨o, hk I (by simp) o e, r⟩, by obtain ⟨o, e, r⟩ := st.2; exact ⟨o, hk t (by simp) o e, r⟩⟩
  item := fun i s Q E hi st hQ => by
    refine wpAny_pyNext_tuple_item st.1 st.2 (x := its[i]) (by simp [hi]) fun h1 it1 sb => ?_
    refine hQ _ h1 s.toks (by simp [hi]) ⟨it1, ?_⟩ fun b o hb e => ?_
    · obtain ⟨o, e, r⟩ := st.2
      exact ⟨o, (sb.2 t ne).trans e, r⟩
    · exact (sb.2 b (fun z => hb (by simp [z]))).trans e
  done := fun s Q E st hQ => wpAny_pyNext_tuple_end hh st.1 st.2 (by simp) fun h1 eb => hQ h1 s.toks fun b o hb e => eb b o (fun z => hb (by simp [z])) e
  self := fun _ _ _ _ st hQ => wpAny_pyIter_tupleiter st.1 hQ
end Sx
set_option Elab.async false
set_option linter.all false
set_option maxRecDepth 100000
set_option maxHeartbeats 3200000
namespace Sx
open PySem PySem.Spec PyProof.Rows L2
abbrev st0 (led : Bool) : Obj := { cls := .type "set", dict := none, data := .set #[] 0 (.fresh 0 0 led) }
section
variable {P : Program} {w : World} {A : Around} {E : Value → Shared → Prop} {s : Shared}

theorem setL {l : Addr} {its : Array Value} {ks : List Key} {Q : Value → Shared → Prop} (hh : A.handled = none) (hl : s.heap.IsList l its) (hk : ks.length = its.size)
    (hv : ∀ (i : Nat) (v : Value), its[i]? = some v → ∃ k, ks[i]? = some k ∧ (mixKind P w).is k v = true ∧ v.scannable = true) (hb : its.size + 1 < scanBound)
    (k : ∀ (h1 : Heap) (tk : Nat), h1.SetOf (mixKind P w) s.heap.objs.size (hasK ks.reverse) (dis ks.reverse) → (∀ b o, b < s.heap.objs.size → s.heap.get? b = some o → h1.get? b = some o) → Q (.ref s.heap.objs.size) { s with heap := h1, toks := tk }) :
    wpAny (model P w) A (call (.type "set") [.ref l]) Q E s := by
  obtain ⟨c, tl, hmro⟩ := F.called_set.mro
  have m1 := F.called_set.made
  have m2 := F.called_set.sub
  refine wpAny_call (codeAny_of_tree ?_)
  show wpAny _ _ (callAny (.type "set") _) _ _ _
  refine wpAny_pure ⟨Code.quiet_builtin _ (by decide +kernel), codeAny_builtin F.entry_type_call ?_⟩
  rw [Around.under_plain (weight_type_call_type "set" [.ref l] []) rfl]
  have m3 := F.called_set.notType
  have m4 := F.called_set.canCreate
  have m5 := F.typeCall_set_1 (.ref l)
  repeat (any_goals (first
    | assumption
    | wp_step))
  refine codeAny_mono (code_set_new_1 (.ref l) (E := E) (Q₁ := fun obj s1 => ∃ led : Bool, obj = .ref s.heap.objs.size ∧ s1 = { s with heap := s.heap.push (st0 led) }) fun led => ⟨led, rfl, rfl⟩) fun r s1 z => ?_
  cases r with
  | error e => exact z
  | ok fl =>
    cases fl with
    | next => exact z.elim
    | brk => exact z.elim
    | cont => exact z.elim
    | ret obj =>
      obtain ⟨led, rfl, rfl⟩ := z
      have hS : (s.heap.push (st0 led)).get? s.heap.objs.size = some (st0 led) := Heap.get?_push_size _ rfl
      have hT : Shared.TypeIs { s with heap := s.heap.push (st0 led) } (.ref s.heap.objs.size) "set" := ⟨_, hS, rfl⟩
      have m6 := F.called_set.init.lookup
      have m7 := F.called_set.init.bind (.ref s.heap.objs.size)
      repeat (any_goals (first
        | assumption
        | wp_step))
      refine codeAny_mono (codeAny_call_builtin (R := wants (fun r s2 => r = .none ∧ ∃ h1 tk, s2 = { s with heap := h1, toks := tk } ∧ h1.SetOf (mixKind P w) s.heap.objs.size (hasK ks.reverse) (dis ks.reverse) ∧
          (∀ b o, b < s.heap.objs.size → s.heap.get? b = some o → h1.get? b = some o)) E) F.called_set.init.plain F.entry_set_init (check_set_init_1 hT ?_)) fun r2 s2 z => ?_
      · obtain ⟨ol, hol, hcl, nl, hdl⟩ := hl
        obtain ⟨ocls, odict, odata, oslots⟩ := ol
        simp only at hcl hdl
        subst hcl
        subst hdl
        have hol1 : (s.heap.push (st0 led)).get? l = some { cls := .type "list", dict := odict, data := .seq its nl, slots := oslots } := Heap.get?_push_of_some _ hol
        have u1 := F.sub_list_set
        have u2 := F.sub_list_frozenset
        have u3 : (Value.type "list" == Value.type "dict") = false := by decide
        have hl1 : (s.heap.push (st0 led)).IsList l its := ⟨_, hol1, rfl, nl, rfl⟩
        have lS : l < s.heap.objs.size := Heap.lt_size hol
        unfold Builtin.«set.__init__» noKeywords Builtin.Frozenset.updateFrom
        generalize hPI : pyIter = PI
        wp_walk
        subst hPI
        refine wpAny_pyIter_list hl1 (wpAny_bind (wpAny_runValue ?_))
        have h3 : A.in1.in1.in1.handled = none := hh
        have n1 : l ≠ (s.heap.push (st0 led)).objs.size := by
          rw [Heap.size_push]
          exact Nat.ne_of_lt (Nat.lt_succ_of_lt lS)
        have n2 : s.heap.objs.size ∉ [(s.heap.push (st0 led)).objs.size, l] := by
          rw [Heap.size_push]
          simp only [List.mem_cons, List.not_mem_nil, or_false, not_or]
          exact ⟨Nat.ne_of_lt (Nat.lt_succ_self _), Nat.ne_of_gt lS⟩
        refine loop ((Walks.list h3 _ l n1 its).toS) s.heap.objs.size n2 ks hk hv hb (its.size - 0) 0 _ (by omega) (Nat.zero_le _) ⟨⟨_, Heap.get?_push_size _ rfl, rfl, rfl⟩, ⟨_, Heap.get?_push_of_some _ hol1, rfl, nl, rfl⟩⟩ ?a1 ?a2
        case a1 =>
          have g0 : ((s.heap.push (st0 led)).push { cls := .type "list_iterator", data := .fields #[.ref l, .int 0 0] }).get? s.heap.objs.size = some (st0 led) := Heap.get?_push_of_some _ hS
          have q0 : (ks.take 0).reverse = [] := by simp
          rw [q0]
          exact ⟨_, #[], 0, _, g0, ⟨rfl, rfl, rfl⟩, rfl, (fun e he => by simp at he), (fun j => by simp [hasK]), (by decide), (by rfl), rfl⟩
        case a2 =>
          intro s3 mv hS3
          obtain ⟨h1, g1, d1, tk1, os1⟩ := s3
          have eg : g1 = s.gens := mv.gens
          have ed : d1 = s.drawn := mv.drawn
          have eo : os1 = s.os := mv.os
          subst eg ed eo
          show wpAny _ _ _ _ _ _
          refine wpAny_pure ?_
          show wpAny _ _ (ret Value.none) _ _ _
          refine wpAny_pure ⟨rfl, h1, tk1, rfl, hS3, fun b o hb e => ?_⟩
          refine mv.heap b o ?_ (Heap.get?_push_of_some _ (Heap.get?_push_of_some _ e))
          rw [Heap.size_push]
          simp only [List.mem_cons, List.not_mem_nil, or_false, not_or]
          exact ⟨Nat.ne_of_lt hb, Nat.ne_of_lt (Nat.lt_succ_of_lt hb)⟩
      · cases r2 with
        | error e => exact z
        | ok f2 =>
          cases f2 with
          | next => exact z.elim
          | brk => exact z.elim
          | cont => exact z.elim
          | ret r =>
            obtain ⟨rfl, h1, tk1, rfl, hS3, kp⟩ := z
            repeat (any_goals (first
              | assumption
              | wp_step))
            exact k _ _ hS3 kp

theorem setT {l : Addr} {its : Array Value} {ks : List Key} {Q : Value → Shared → Prop} (hh : A.handled = none) (hl : s.heap.IsTuple l its) (hk : ks.length = its.size)
    (hv : ∀ (i : Nat) (v : Value), its[i]? = some v → ∃ k, ks[i]? = some k ∧ (mixKind P w).is k v = true ∧ v.scannable = true) (hb : its.size + 1 < scanBound)
    (k : ∀ (h1 : Heap) (tk : Nat), h1.SetOf (mixKind P w) s.heap.objs.size (hasK ks.reverse) (dis ks.reverse) → (∀ b o, b < s.heap.objs.size → s.heap.get? b = some o → h1.get? b = some o) → Q (.ref s.heap.objs.size) { s with heap := h1, toks := tk }) :
    wpAny (model P w) A (call (.type "set") [.ref l]) Q E s := by
  obtain ⟨c, tl, hmro⟩ := F.called_set.mro
  have m1 := F.called_set.made
  have m2 := F.called_set.sub
  refine wpAny_call (codeAny_of_tree ?_)
  show wpAny _ _ (callAny (.type "set") _) _ _ _
  refine wpAny_pure ⟨Code.quiet_builtin _ (by decide +kernel), codeAny_builtin F.entry_type_call ?_⟩
  rw [Around.under_plain (weight_type_call_type "set" [.ref l] []) rfl]
  have m3 := F.called_set.notType
  have m4 := F.called_set.canCreate
  have m5 := F.typeCall_set_1 (.ref l)
  repeat (any_goals (first
    | assumption
    | wp_step))
  refine codeAny_mono (code_set_new_1 (.ref l) (E := E) (Q₁ := fun obj s1 => ∃ led : Bool, obj = .ref s.heap.objs.size ∧ s1 = { s with heap := s.heap.push (st0 led) }) fun led => ⟨led, rfl, rfl⟩) fun r s1 z => ?_
  cases r with
  | error e => exact z
  | ok fl =>
    cases fl with
    | next => exact z.elim
    | brk => exact z.elim
    | cont => exact z.elim
    | ret obj =>
      obtain ⟨led, rfl, rfl⟩ := z
      have hS : (s.heap.push (st0 led)).get? s.heap.objs.size = some (st0 led) := Heap.get?_push_size _ rfl
      have hT : Shared.TypeIs { s with heap := s.heap.push (st0 led) } (.ref s.heap.objs.size) "set" := ⟨_, hS, rfl⟩
      have m6 := F.called_set.init.lookup
      have m7 := F.called_set.init.bind (.ref s.heap.objs.size)
      repeat (any_goals (first
        | assumption
        | wp_step))
      refine codeAny_mono (codeAny_call_builtin (R := wants (fun r s2 => r = .none ∧ ∃ h1 tk, s2 = { s with heap := h1, toks := tk } ∧ h1.SetOf (mixKind P w) s.heap.objs.size (hasK ks.reverse) (dis ks.reverse) ∧
          (∀ b o, b < s.heap.objs.size → s.heap.get? b = some o → h1.get? b = some o)) E) F.called_set.init.plain F.entry_set_init (check_set_init_1 hT ?_)) fun r2 s2 z => ?_
      · obtain ⟨ol, hol, hcl, nl, hdl⟩ := hl
        obtain ⟨ocls, odict, odata, oslots⟩ := ol
        simp only at hcl hdl
        subst hcl
        subst hdl
        have hol1 : (s.heap.push (st0 led)).get? l = some { cls := .type "tuple", dict := odict, data := .seq its nl, slots := oslots } := Heap.get?_push_of_some _ hol
        have u1 := F.sub_tuple_set
        have u2 := F.sub_tuple_frozenset
        have u3 : (Value.type "tuple" == Value.type "dict") = false := by decide
        have hl1 : (s.heap.push (st0 led)).IsTuple l its := ⟨_, hol1, rfl, nl, rfl⟩
        have lS : l < s.heap.objs.size := Heap.lt_size hol
        unfold Builtin.«set.__init__» noKeywords Builtin.Frozenset.updateFrom
        generalize hPI : pyIter = PI
        wp_walk
        subst hPI
        refine wpAny_pyIter_tuple hl1 (wpAny_bind (wpAny_runValue ?_))
        have h3 : A.in1.in1.in1.handled = none := hh
        have n1 : l ≠ (s.heap.push (st0 led)).objs.size := by
          rw [Heap.size_push]
          exact Nat.ne_of_lt (Nat.lt_succ_of_lt lS)
        have n2 : s.heap.objs.size ∉ [(s.heap.push (st0 led)).objs.size, l] := by
          rw [Heap.size_push]
          simp only [List.mem_cons, List.not_mem_nil, or_false, not_or]
          exact ⟨Nat.ne_of_lt (Nat.lt_succ_self _), Nat.ne_of_gt lS⟩
        refine loop ((walksT h3 _ l n1 its).toS) s.heap.objs.size n2 ks hk hv hb (its.size - 0) 0 _ (by omega) (Nat.zero_le _) ⟨⟨_, Heap.get?_push_size _ rfl, rfl, rfl⟩, ⟨_, Heap.get?_push_of_some _ hol1, rfl, nl, rfl⟩⟩ ?a1 ?a2
        case a1 =>
          have g0 : ((s.heap.push (st0 led)).push { cls := .type "tuple_iterator", data := .fields #[.ref l, .int 0 0] }).get? s.heap.objs.size = some (st0 led) := Heap.get?_push_of_some _ hS
          have q0 : (ks.take 0).reverse = [] := by simp
          rw [q0]
          exact ⟨_, #[], 0, _, g0, ⟨rfl, rfl, rfl⟩, rfl, (fun e he => by simp at he), (fun j => by simp [hasK]), (by decide), (by rfl), rfl⟩
        case a2 =>
          intro s3 mv hS3
          obtain ⟨h1, g1, d1, tk1, os1⟩ := s3
          have eg : g1 = s.gens := mv.gens
          have ed : d1 = s.drawn := mv.drawn
          have eo : os1 = s.os := mv.os
          subst eg ed eo
          show wpAny _ _ _ _ _ _
          refine wpAny_pure ?_
          show wpAny _ _ (ret Value.none) _ _ _
          refine wpAny_pure ⟨rfl, h1, tk1, rfl, hS3, fun b o hb e => ?_⟩
          refine mv.heap b o ?_ (Heap.get?_push_of_some _ (Heap.get?_push_of_some _ e))
          rw [Heap.size_push]
          simp only [List.mem_cons, List.not_mem_nil, or_false, not_or]
          exact ⟨Nat.ne_of_lt hb, Nat.ne_of_lt (Nat.lt_succ_of_lt hb)⟩
      · cases r2 with
        | error e => exact z
        | ok f2 =>
          cases f2 with
          | next => exact z.elim
          | brk => exact z.elim
          | cont => exact z.elim
          | ret r =>
            obtain ⟨rfl, h1, tk1, rfl, hS3, kp⟩ := z
            repeat (any_goals (first
              | assumption
              | wp_step))
            exact k _ _ hS3 kp

end
def tLenS (K : PySem.W.Frag) (ta : TE) : TE := fun σ H Q => ta σ H fun x H1 => ∃ (l : Addr) (zs : List Str), x = .ref l ∧ (SqL K H1 l (zs.map V.str) ∨ SqT K H1 l (zs.map V.str)) ∧ zs.length < 60 ∧ Q (.int (dis (zs.map Sum.inr).reverse : Nat)) H1
theorem strs_vals : ∀ {zs : List Str} {us : List Value}, Vals (zs.map V.str) us → ∀ (P : Program) (w : World) (i : Nat) (v : Value), us[i]? = some v → ∃ k : Key, (zs.map Sum.inr)[i]? = some k ∧ (mixKind P w).is k v = true ∧ v.scannable = true
  | [], _, r, _, _, _, _, h => by cases r; simp at h
  | z :: zs, _, r, P, w, i, v, h => by
    cases r with
    | cons a b =>
      obtain ⟨t, rfl⟩ := a
      cases i with
      | zero => simp at h; subst h; exact ⟨_, rfl, mixKind_str P w z t, rfl⟩
      | succ i =>
        obtain ⟨k, h1, h2⟩ := strs_vals b P w i v (by simpa using h)
        exact ⟨k, by simpa using h1, h2⟩
theorem pe_lenS {X : Cx} {a : Expr} {ta : TE} {p p2 q pos : Pos} (hg : Gl X "len") (hm : X.mg "len" = none) (hg2 : Gl X "set") (hm2 : X.mg "set" = none) (ha : PE X a ta) (hc : X.calm = true := by rfl)
    (na : starEach [a] X.env = (false, eval a X.env) :: starEach [] X.env := by rfl) : PE X (.Call (.Name "len" p) [.Call (.Name "set" p2) [a] [] q] [] pos) (tLenS X.K ta) := by
  constructor
  intro pins s σ H Q I h
  refine Call_ (ld_blt I hg hm boot_len ?_)
  refine callWith_builtin1 (args_cons ?_ rfl) rfl rfl
  refine Call_ (ld_blt I hg2 hm2 boot_set ?_)
  refine callWith_type1 (args_cons (thn (ha.run pins s σ H _ I h) ?_) na) na rfl
  rintro v s1 ⟨x, H1, I1, r1, l, zs, rfl, hq, hl, q1⟩
  cases r1
  refine args_nil ?_
  have fin : ∀ (h1 : Heap) (tk : Nat), h1.SetOf (mixKind X.prog X.w) s1.heap.objs.size (hasK (zs.map Sum.inr).reverse) (dis (zs.map Sum.inr).reverse) → (∀ b o, b < s1.heap.objs.size → s1.heap.get? b = some o → h1.get? b = some o) →
      wpAny (model X.prog X.w) X.A (call (.builtin "len") [.ref s1.heap.objs.size]) (EP X pins σ Q) X.xe { s1 with heap := h1, toks := tk } := by
    intro h1 tk hS kp
    obtain ⟨o, es, ep, t, ho, hex, hd, _, _, _, hf, hn⟩ := hS
    have J : Inv X pins σ H1 { s1 with heap := h1, toks := tk } := I1.kept fun b o e => kp b o (Heap.lt_size e) e
    have dl := dis_le (zs.map Sum.inr).reverse
    rw [List.length_reverse, List.length_map] at dl
    exact call_len_set ho hex hd hf (by rw [hn]; omega) ⟨.int (dis (zs.map Sum.inr).reverse : Nat), H1, J.tok _, ⟨_, by rw [hn]⟩, q1⟩
  rcases hq with hq | hq
  · obtain ⟨us, r, pl, hz⟩ := I1.list hq
    have ln : us.length = zs.length := by rw [← r.length, List.length_map]
    exact setL (ks := zs.map Sum.inr) (I1.ok.hd hc) pl.isList (by simp [ln]) (fun i v hv => strs_vals r _ _ i v (by simpa using hv)) (by unfold scanBound; simp [ln]; omega) fun h1 tk hS kp => args_nil (fin h1 tk hS kp)
  · obtain ⟨us, r, pl, hz⟩ := I1.tuple hq
    have ln : us.length = zs.length := by rw [← r.length, List.length_map]
    exact setT (ks := zs.map Sum.inr) (I1.ok.hd hc) (show s1.heap.IsTuple l us.toArray from pl) (by simp [ln]) (fun i v hv => strs_vals r _ _ i v (by simpa using hv)) (by unfold scanBound; simp [ln]; omega) fun h1 tk hS kp => args_nil (fin h1 tk hS kp)
theorem dis_str (zs : List Str) : (dis (zs.map Sum.inr : List Key).reverse = zs.length) ↔ zs.Nodup := by
  have h := dis_nodup (zs.map Sum.inr : List Key).reverse
  rw [List.length_reverse, List.length_map, (List.reverse_perm _).nodup_iff] at h
  rw [h]
  constructor
  · intro z; exact List.Pairwise.of_map Sum.inr (fun a b q r => q (by rw [r])) z
  · intro z; exact z.map _ (fun a b hab q => hab (Sum.inr.inj q))
end Sx
set_option Elab.async false
set_option linter.all false
set_option maxRecDepth 100000
set_option maxHeartbeats 400000
/-! A method called where what it raises depends on the slots (inside of a try). -/
namespace Xo
open PySem PySem.Spec PyProof.Rows L2
section
variable {X : Cx} {cx : CXT} {n : Nat} {g C : Addr} {fd : FuncData} {ps : List Str} {sp : Sp} {EE : L2.St → XK} {mm : Str} {pos ap : Pos} {a1 ob : Expr} {as : List Expr} {to : TE} {t : TA}
def tMethT (C : Addr) (mm : Str) (sp : Sp) (EE : L2.St → XK) (to : TE) (t : TA) : TE := fun σ H Q => tMeth C mm sp [] (EE σ) to t σ H Q
theorem pe_methT {pl : Sem Bool} (he : PE X ob to) (c : Cls X.K C) (hm : Meth X.K C mm g) (F : FnOk X.prog X.w X.K X.mg X.base cx n g fd ps sp) (hr : Room n X.A) (hb : Binds X.K fd ps []) (hx : ∀ σ, PassesAt cx X σ (EE σ)) (ha : PA X (a1 :: as) t)
    (hs : starEach (a1 :: as) X.env = (false, eval a1 X.env) :: starEach as X.env := by rfl) (hp : (backTo pos (starEach as X.env)).any (·.1) = false := by rfl)
    (ht : eval (.Call (.Attribute ob mm ap) (a1 :: as) [] pos) X.env = (do
      let u ← eval ob X.env
      standAt ap.atName
      let (h, fst) ← holding [u] (getMethod u mm pl)
      callWith pos h fst (backTo pos (starEach (a1 :: as) X.env)) (backToKw pos (keywordEach [] X.env))) := by rfl) :
    PE X (.Call (.Attribute ob mm ap) (a1 :: as) [] pos) (tMethT C mm sp EE to t) := by
  constructor
  intro pins s σ H Q I h
  refine PySem.W.methodCall_KW (pl := pl) (thn (he.run pins s σ H _ I h) ?_) ht
  rintro u s1 ⟨x, H1, I1, rx, a, dx, fs, rfl, ea, l, q⟩
  obtain rfl : u = Value.ref a := rx
  refine getmeth_ok I1 ea c hm l (PySem.W.callWith_K (first := [.ref a]) (h₀ := X.base) I.ok.mod.kin hm.kp (thn (ha.run pos pins s1 σ H1 _ I1 q) ?_) hs hp)
  rintro us s2 ⟨vs, H2, I2, r, q2⟩
  refine ⟨I2.kIn, ?_⟩
  have r2 : Vals (.ref a :: (vs ++ [])) (.ref a :: us) := .cons rfl (by rw [List.append_nil]; exact r)
  have ln : (Value.ref a :: us).length = ps.length := by
    rw [← r2.length]; exact F.len _ _ _ _ q2
  have hb2 := hb s2 (.ref a :: us) I2.kIn (by rw [List.append_nil]; exact ln)
  rw [List.append_nil] at hb2
  refine wpAny_call (codeAny_mono (F.run X.A X.stack s2 H2 ⟨.ref a :: us, []⟩ (.ref a :: us) (.ref a :: (vs ++ [])) Q (EE σ) hr I2.env0 hb2 r2 q2) ?_)
  intro z s3 hq
  cases z with
  | error e => exact hx σ pins H2 s2 e s3 I2 hq
  | ok fl =>
    cases fl with
    | next => exact hq.elim
    | brk => exact hq.elim
    | cont => exact hq.elim
    | ret u => exact I2.after hq
end
end Xo
set_option Elab.async false
set_option linter.all false
set_option maxRecDepth 100000
set_option maxHeartbeats 400000
/-! isinstance of a caught error, behind the suite. -/
namespace Xo
open PySem PySem.Spec PyProof.Rows L2
theorem kit_no {K : PySem.W.Frag} {X Y : Addr} (h2 : PySem.W.isClsIn K Y = true) (h3 : PySem.W.typeIn K (.ref Y) = some (.type "type")) (h4 : PySem.W.subIn K (.ref X) (.ref Y) = some false) (h5 : PySem.W.subIn K (.ref Y) (.ref Y) = some true) : PySem.W.kitOne K (.ref X) (.ref Y) = some false := by
  have ne : ¬ X = Y := fun z => by rw [z, h5] at h4; cases h4
  unfold PySem.W.kitOne
  rw [if_neg (fun z => by first | exact ne (Value.ref.inj (beq_iff_eq.mp z)) | exact ne (Value.ref.inj (beq_iff_eq.mp z)).symm)]
  unfold PySem.W.kitCls
  dsimp only
  rw [show (PySem.W.clsIn K Y).isSome = true from h2, h3, h4]
  rfl
section
variable {X : Cx}
def rIsX (K : PySem.W.Frag) : List V → Hp → VK → Prop := fun xs H Q => ∃ (a D dd : Addr) (fs : List (Str × V)) (c : V) (u : Value) (b : Bool), xs = [.ref a, c] ∧ ClsV c u ∧ H a = some (exT a (.ref D) (some dd)) ∧ XfC K D ∧ G.IsiC K D ∧ H dd = some (.xd fs) ∧ PySem.W.kitOne K (.ref D) u = some b ∧ Q (.bl b) H
theorem call_isX : CallR X (.builtin "isinstance") (rIsX X.K) := by
  intro pins s σ H xs us Q I r h
  obtain ⟨a, D, dd, fs, c, u, b, rfl, k, hT, T, N, ea, e, q⟩ := h
  obtain ⟨u1, u2, rfl, r1, r2⟩ := vals2 r
  obtain rfl : u1 = Value.ref a := r1
  have e2 := k.eq r2
  subst e2
  obtain ⟨⟨oe, vs, ha, hc, hdi, hd⟩, _, _⟩ := I.hok a _ hT
  obtain ⟨mA, hns, hr⟩ := (show ObjOk X.prog X.w H s.heap dd (.xd fs) from I.hok dd _ ea)
  obtain ⟨od, ho, hl⟩ := lookIn_ns hns
  have J : PySem.W.InstAt s.heap a oe D (some od) := ⟨ha, hc, by unfold PySem.W.notCls; rw [hd] <;> rfl, by rw [hdi]; exact ho⟩
  obtain ⟨cd, hcd, _⟩ := PySem.W.any_some T.hdC
  exact PySem.W.kia_one (PySem.W.kitx_exc (by rw [hcd]; rfl) T.ga T.gg T.exC N.ha N.hn N.htk N.hm) I.kIn J e (fun z => nomatch z) fun tk => ⟨.bl b, H, I.tok tk, rfl, q⟩
end
end Xo
set_option Elab.async false
set_option linter.all false
set_option maxRecDepth 100000
set_option maxHeartbeats 4000000
namespace G
open PySem L2 Nd
def topS (i : Nat) : Stmt := PySem.Challenge.pw_statestay_k01_shape_parts.main.body.getD i (.Pass ⟨0, 0, 0, 0⟩)
abbrev s_m_InvalidShape_init : Stmt := inClass (topS 2) 0
theorem sc_m_InvalidShape_init : FnScope ["self", "part"] ["self", "part"] (defScope s_m_InvalidShape_init) := ⟨rfl, rfl, rfl, by decide +kernel, rfl, by decide +kernel, by decide +kernel⟩
abbrev s_m_NoList_init : Stmt := inClass (topS 3) 0
theorem sc_m_NoList_init : FnScope ["self", "name"] ["self", "name"] (defScope s_m_NoList_init) := ⟨rfl, rfl, rfl, by decide +kernel, rfl, by decide +kernel, by decide +kernel⟩
abbrev s_p_is_word : Stmt := topS 5
theorem sc_p_is_word : FnScope ["value", "sign"] ["value"] (defScope s_p_is_word) := ⟨rfl, rfl, rfl, by decide +kernel, rfl, by decide +kernel, by decide +kernel⟩
abbrev s_p_are_words : Stmt := topS 6
theorem sc_p_are_words : FnScope ["value", "least", "most", "word"] ["value", "least", "most"] (defScope s_p_are_words) := ⟨rfl, rfl, rfl, by decide +kernel, rfl, by decide +kernel, by decide +kernel⟩
abbrev s_p_has_keys : Stmt := topS 7
theorem sc_p_has_keys : FnScope ["value", "names", "name"] ["value", "names"] (defScope s_p_has_keys) := ⟨rfl, rfl, rfl, by decide +kernel, rfl, by decide +kernel, by decide +kernel⟩
abbrev s_p_lists_have_form : Stmt := topS 9
theorem sc_p_lists_have_form : FnScope ["lists", "most", "deep", "name", "described"] ["lists", "most", "deep"] (defScope s_p_lists_have_form) := ⟨rfl, rfl, rfl, by decide +kernel, rfl, by decide +kernel, by decide +kernel⟩
abbrev s_p_fields_have_form : Stmt := topS 10
theorem sc_p_fields_have_form : FnScope ["fields", "field", "words"] ["fields"] (defScope s_p_fields_have_form) := ⟨rfl, rfl, rfl, by decide +kernel, rfl, by decide +kernel, by decide +kernel⟩
abbrev s_p_all_fields_have_form : Stmt := topS 11
theorem sc_p_all_fields_have_form : FnScope ["lists", "name", "described"] ["lists"] (defScope s_p_all_fields_have_form) := ⟨rfl, rfl, rfl, by decide +kernel, rfl, by decide +kernel, by decide +kernel⟩
abbrev s_p_all_names : Stmt := topS 12
theorem sc_p_all_names : FnScope ["lists", "names", "name"] ["lists"] (defScope s_p_all_names) := ⟨rfl, rfl, rfl, by decide +kernel, rfl, by decide +kernel, by decide +kernel⟩
abbrev s_m_Shape_init : Stmt := inClass (topS 13) 0
theorem sc_m_Shape_init : FnScope ["self", "flags", "lists", "names"] ["self", "flags", "lists"] (defScope s_m_Shape_init) := ⟨rfl, rfl, rfl, by decide +kernel, rfl, by decide +kernel, by decide +kernel⟩
abbrev s_m_Shape_note : Stmt := inClass (topS 13) 1
theorem sc_m_Shape_note : FnScope ["self", "lists", "parent", "name", "described", "inner"] ["self", "lists", "parent"] (defScope s_m_Shape_note) := ⟨rfl, rfl, rfl, by decide +kernel, rfl, by decide +kernel, by decide +kernel⟩
abbrev s_m_Shape_eq : Stmt := inClass (topS 13) 2
theorem sc_m_Shape_eq : FnScope ["self", "other"] ["self", "other"] (defScope s_m_Shape_eq) := ⟨rfl, rfl, rfl, by decide +kernel, rfl, by decide +kernel, by decide +kernel⟩
abbrev s_m_Shape_entry : Stmt := inClass (topS 13) 3
theorem sc_m_Shape_entry : FnScope ["self", "name"] ["self", "name"] (defScope s_m_Shape_entry) := ⟨rfl, rfl, rfl, by decide +kernel, rfl, by decide +kernel, by decide +kernel⟩
abbrev s_m_Shape_outer : Stmt := inClass (topS 13) 4
theorem sc_m_Shape_outer : FnScope ["self", "name"] ["self"] (defScope s_m_Shape_outer) := ⟨rfl, rfl, rfl, by decide +kernel, rfl, by decide +kernel, by decide +kernel⟩
abbrev s_m_Shape_inner : Stmt := inClass (topS 13) 5
theorem sc_m_Shape_inner : FnScope ["self", "name"] ["self", "name"] (defScope s_m_Shape_inner) := ⟨rfl, rfl, rfl, by decide +kernel, rfl, by decide +kernel, by decide +kernel⟩
abbrev s_m_Shape_fields : Stmt := inClass (topS 13) 6
theorem sc_m_Shape_fields : FnScope ["self", "name"] ["self", "name"] (defScope s_m_Shape_fields) := ⟨rfl, rfl, rfl, by decide +kernel, rfl, by decide +kernel, by decide +kernel⟩
abbrev s_m_Shape_parent : Stmt := inClass (topS 13) 7
theorem sc_m_Shape_parent : FnScope ["self", "name"] ["self", "name"] (defScope s_m_Shape_parent) := ⟨rfl, rfl, rfl, by decide +kernel, rfl, by decide +kernel, by decide +kernel⟩
abbrev s_l_stream : Stmt := topS 15
theorem sc_l_stream : FnScope ["_law_script", "_law_cells", "_law_cell"] ["_law_script"] (defScope s_l_stream) := ⟨rfl, rfl, rfl, by decide +kernel, rfl, by decide +kernel, by decide +kernel⟩
abbrev s_l_draw : Stmt := topS 16
theorem sc_l_draw : FnScope ["_law_stream_here", "_law_many", "_law_cells", "_law_step", "_law_at", "_law_cell", "_law_number"] ["_law_stream_here", "_law_many"] (defScope s_l_draw) := ⟨rfl, rfl, rfl, by decide +kernel, rfl, by decide +kernel, by decide +kernel⟩
abbrev s_l_same : Stmt := topS 17
theorem sc_l_same : FnScope ["_law_actual", "_law_expected", "_law_key", "_law_k"] ["_law_actual", "_law_expected"] (defScope s_l_same) := ⟨rfl, rfl, rfl, by decide +kernel, rfl, by decide +kernel, by decide +kernel⟩
abbrev s_l_copy : Stmt := topS 18
theorem sc_l_copy : FnScope ["_law_value", "_law_result", "_law_key", "_law_part"] ["_law_value"] (defScope s_l_copy) := ⟨rfl, rfl, rfl, by decide +kernel, rfl, by decide +kernel, by decide +kernel⟩
abbrev s_l_word : Stmt := topS 19
theorem sc_l_word : FnScope ["_law_stream_here", "_law_letters", "_law_size", "_law_number", "_law_word_here", "_law_k"] ["_law_stream_here"] (defScope s_l_word) := ⟨rfl, rfl, rfl, by decide +kernel, rfl, by decide +kernel, by decide +kernel⟩
abbrev s_l_names : Stmt := topS 20
theorem sc_l_names : FnScope ["_law_stream_here", "_law_many", "_law_taken", "_law_names_here", "_law_k", "_law_word_here", "_law_spares", "_law_spare"] ["_law_stream_here", "_law_many", "_law_taken"] (defScope s_l_names) := ⟨rfl, rfl, rfl, by decide +kernel, rfl, by decide +kernel, by decide +kernel⟩
abbrev s_l_fields : Stmt := topS 21
theorem sc_l_fields : FnScope ["_law_stream_here", "_law_most", "_law_fields_here", "_law_name"] ["_law_stream_here", "_law_most"] (defScope s_l_fields) := ⟨rfl, rfl, rfl, by decide +kernel, rfl, by decide +kernel, by decide +kernel⟩
abbrev s_l_lists : Stmt := topS 22
theorem sc_l_lists : FnScope ["_law_stream_here", "_law_most", "_law_names_here", "_law_lists_here", "_law_k", "_law_inner"] ["_law_stream_here", "_law_most"] (defScope s_l_lists) := ⟨rfl, rfl, rfl, by decide +kernel, rfl, by decide +kernel, by decide +kernel⟩
abbrev s_l_about : Stmt := topS 23
theorem sc_l_about : FnScope ["_law_lists_here", "_law_about_here", "_law_name", "_law_inner"] ["_law_lists_here"] (defScope s_l_about) := ⟨rfl, rfl, rfl, by decide +kernel, rfl, by decide +kernel, by decide +kernel⟩
abbrev s_l_missing : Stmt := topS 24
theorem sc_l_missing : FnScope ["_law_shape", "_law_name", "_law_way", "_law_found", "error"] ["_law_shape", "_law_name", "_law_way"] (defScope s_l_missing) := ⟨rfl, rfl, rfl, by decide +kernel, rfl, by decide +kernel, by decide +kernel⟩
abbrev s_l_told : Stmt := topS 25
theorem sc_l_told : FnScope ["_law_shape", "_law_lists_here", "_law_name", "_law_inside", "_law_inner"] ["_law_shape", "_law_lists_here"] (defScope s_l_told) := ⟨rfl, rfl, rfl, by decide +kernel, rfl, by decide +kernel, by decide +kernel⟩
abbrev s_law : Stmt := topS 26
theorem sc_law : FnScope ["_law_script", "_law_stream_here", "_law_flags", "_law_lists_here", "_law_passed", "_law_shape", "_law_name", "_law_other", "_law_way"] ["_law_script"] (defScope s_law) := ⟨rfl, rfl, rfl, by decide +kernel, rfl, by decide +kernel, by decide +kernel⟩
structure Txt (K : PySem.W.Frag) (mg : Str → Option Value) where
  C_Shape : Addr
  cl_Shape : Cls K C_Shape
  gC_Shape : mg "Shape" = some (.ref C_Shape)
  n_Shape_flags : NoAttr K C_Shape "flags"
  n_Shape_known : NoAttr K C_Shape "known"
  is_Shape : IsiC K C_Shape
  C_StayError : Addr
  gC_StayError : mg "StayError" = some (.ref C_StayError)
  ba_StayError : Xo.BaC K C_StayError
  C_InvalidShape : Addr
  gC_InvalidShape : mg "InvalidShape" = some (.ref C_InvalidShape)
  er_InvalidShape : Xo.ErC K C_InvalidShape
  xf_InvalidShape : XfC K C_InvalidShape
  no_InvalidShape_part : PySem.W.findIn K (.ref C_InvalidShape) "part" = some none
  C_NoList : Addr
  gC_NoList : mg "NoList" = some (.ref C_NoList)
  er_NoList : Xo.ErC K C_NoList
  xf_NoList : XfC K C_NoList
  no_NoList_name : PySem.W.findIn K (.ref C_NoList) "name" = some none
  xm_InvalidShape_StayError : PySem.W.exmOne K (.ref C_InvalidShape) (.ref C_StayError) = some true
  xm_InvalidShape_InvalidShape : PySem.W.exmOne K (.ref C_InvalidShape) (.ref C_InvalidShape) = some true
  xm_InvalidShape_NoList : PySem.W.exmOne K (.ref C_InvalidShape) (.ref C_NoList) = some false
  xm_NoList_StayError : PySem.W.exmOne K (.ref C_NoList) (.ref C_StayError) = some true
  xm_NoList_InvalidShape : PySem.W.exmOne K (.ref C_NoList) (.ref C_InvalidShape) = some false
  xm_NoList_NoList : PySem.W.exmOne K (.ref C_NoList) (.ref C_NoList) = some true
  xi_InvalidShape : IsiC K C_InvalidShape
  ki_InvalidShape_NoList : PySem.W.kitOne K (.ref C_InvalidShape) (.ref C_NoList) = some false
  xi_NoList : IsiC K C_NoList
  ki_NoList_InvalidShape : PySem.W.kitOne K (.ref C_NoList) (.ref C_InvalidShape) = some false
  f_m_InvalidShape_init : Addr
  d_m_InvalidShape_init : FuncData
  F_m_InvalidShape_init : Fun K "__init__" "InvalidShape.__init__" s_m_InvalidShape_init f_m_InvalidShape_init d_m_InvalidShape_init
  b_m_InvalidShape_init : Binds K d_m_InvalidShape_init ["self", "part"] []
  in_InvalidShape : PySem.W.findIn K (.ref C_InvalidShape) "__init__" = some (some (.ref f_m_InvalidShape_init))
  ti_InvalidShape : PySem.W.typeIn K (.ref f_m_InvalidShape_init) = some (.type "function")
  f_m_NoList_init : Addr
  d_m_NoList_init : FuncData
  F_m_NoList_init : Fun K "__init__" "NoList.__init__" s_m_NoList_init f_m_NoList_init d_m_NoList_init
  b_m_NoList_init : Binds K d_m_NoList_init ["self", "name"] []
  in_NoList : PySem.W.findIn K (.ref C_NoList) "__init__" = some (some (.ref f_m_NoList_init))
  ti_NoList : PySem.W.typeIn K (.ref f_m_NoList_init) = some (.type "function")
  f_p_is_word : Addr
  d_p_is_word : FuncData
  g_p_is_word : mg "is_word" = some (.ref f_p_is_word)
  F_p_is_word : Fun K "is_word" "is_word" s_p_is_word f_p_is_word d_p_is_word
  b_p_is_word : Binds K d_p_is_word ["value"] []
  f_p_are_words : Addr
  d_p_are_words : FuncData
  g_p_are_words : mg "are_words" = some (.ref f_p_are_words)
  F_p_are_words : Fun K "are_words" "are_words" s_p_are_words f_p_are_words d_p_are_words
  b_p_are_words : Binds K d_p_are_words ["value", "least", "most"] []
  f_p_has_keys : Addr
  d_p_has_keys : FuncData
  g_p_has_keys : mg "has_keys" = some (.ref f_p_has_keys)
  F_p_has_keys : Fun K "has_keys" "has_keys" s_p_has_keys f_p_has_keys d_p_has_keys
  b_p_has_keys : Binds K d_p_has_keys ["value", "names"] []
  f_p_lists_have_form : Addr
  d_p_lists_have_form : FuncData
  g_p_lists_have_form : mg "lists_have_form" = some (.ref f_p_lists_have_form)
  F_p_lists_have_form : Fun K "lists_have_form" "lists_have_form" s_p_lists_have_form f_p_lists_have_form d_p_lists_have_form
  b_p_lists_have_form : Binds K d_p_lists_have_form ["lists", "most", "deep"] []
  f_p_fields_have_form : Addr
  d_p_fields_have_form : FuncData
  g_p_fields_have_form : mg "fields_have_form" = some (.ref f_p_fields_have_form)
  F_p_fields_have_form : Fun K "fields_have_form" "fields_have_form" s_p_fields_have_form f_p_fields_have_form d_p_fields_have_form
  b_p_fields_have_form : Binds K d_p_fields_have_form ["fields"] []
  f_p_all_fields_have_form : Addr
  d_p_all_fields_have_form : FuncData
  g_p_all_fields_have_form : mg "all_fields_have_form" = some (.ref f_p_all_fields_have_form)
  F_p_all_fields_have_form : Fun K "all_fields_have_form" "all_fields_have_form" s_p_all_fields_have_form f_p_all_fields_have_form d_p_all_fields_have_form
  b_p_all_fields_have_form : Binds K d_p_all_fields_have_form ["lists"] []
  f_p_all_names : Addr
  d_p_all_names : FuncData
  g_p_all_names : mg "all_names" = some (.ref f_p_all_names)
  F_p_all_names : Fun K "all_names" "all_names" s_p_all_names f_p_all_names d_p_all_names
  b_p_all_names : Binds K d_p_all_names ["lists"] []
  f_m_Shape_init : Addr
  d_m_Shape_init : FuncData
  F_m_Shape_init : Fun K "__init__" "Shape.__init__" s_m_Shape_init f_m_Shape_init d_m_Shape_init
  b_m_Shape_init : Binds K d_m_Shape_init ["self", "flags", "lists"] []
  mk_Shape : Mk K C_Shape f_m_Shape_init
  f_m_Shape_note : Addr
  d_m_Shape_note : FuncData
  F_m_Shape_note : Fun K "note" "Shape.note" s_m_Shape_note f_m_Shape_note d_m_Shape_note
  b_m_Shape_note : Binds K d_m_Shape_note ["self", "lists", "parent"] []
  me_m_Shape_note : Meth K C_Shape "note" f_m_Shape_note
  f_m_Shape_eq : Addr
  d_m_Shape_eq : FuncData
  F_m_Shape_eq : Fun K "__eq__" "Shape.__eq__" s_m_Shape_eq f_m_Shape_eq d_m_Shape_eq
  b_m_Shape_eq : Binds K d_m_Shape_eq ["self", "other"] []
  me_m_Shape_eq : Meth K C_Shape "__eq__" f_m_Shape_eq
  f_m_Shape_entry : Addr
  d_m_Shape_entry : FuncData
  F_m_Shape_entry : Fun K "entry" "Shape.entry" s_m_Shape_entry f_m_Shape_entry d_m_Shape_entry
  b_m_Shape_entry : Binds K d_m_Shape_entry ["self", "name"] []
  me_m_Shape_entry : Meth K C_Shape "entry" f_m_Shape_entry
  f_m_Shape_outer : Addr
  d_m_Shape_outer : FuncData
  F_m_Shape_outer : Fun K "outer" "Shape.outer" s_m_Shape_outer f_m_Shape_outer d_m_Shape_outer
  b_m_Shape_outer : Binds K d_m_Shape_outer ["self"] []
  me_m_Shape_outer : Meth K C_Shape "outer" f_m_Shape_outer
  f_m_Shape_inner : Addr
  d_m_Shape_inner : FuncData
  F_m_Shape_inner : Fun K "inner" "Shape.inner" s_m_Shape_inner f_m_Shape_inner d_m_Shape_inner
  b_m_Shape_inner : Binds K d_m_Shape_inner ["self", "name"] []
  me_m_Shape_inner : Meth K C_Shape "inner" f_m_Shape_inner
  f_m_Shape_fields : Addr
  d_m_Shape_fields : FuncData
  F_m_Shape_fields : Fun K "fields" "Shape.fields" s_m_Shape_fields f_m_Shape_fields d_m_Shape_fields
  b_m_Shape_fields : Binds K d_m_Shape_fields ["self", "name"] []
  me_m_Shape_fields : Meth K C_Shape "fields" f_m_Shape_fields
  f_m_Shape_parent : Addr
  d_m_Shape_parent : FuncData
  F_m_Shape_parent : Fun K "parent" "Shape.parent" s_m_Shape_parent f_m_Shape_parent d_m_Shape_parent
  b_m_Shape_parent : Binds K d_m_Shape_parent ["self", "name"] []
  me_m_Shape_parent : Meth K C_Shape "parent" f_m_Shape_parent
  f_l_stream : Addr
  d_l_stream : FuncData
  g_l_stream : mg "_law_stream" = some (.ref f_l_stream)
  F_l_stream : Fun K "_law_stream" "_law_stream" s_l_stream f_l_stream d_l_stream
  b_l_stream : Binds K d_l_stream ["_law_script"] []
  f_l_draw : Addr
  d_l_draw : FuncData
  g_l_draw : mg "_law_draw" = some (.ref f_l_draw)
  F_l_draw : Fun K "_law_draw" "_law_draw" s_l_draw f_l_draw d_l_draw
  b_l_draw : Binds K d_l_draw ["_law_stream_here", "_law_many"] []
  f_l_same : Addr
  d_l_same : FuncData
  g_l_same : mg "_law_same" = some (.ref f_l_same)
  F_l_same : Fun K "_law_same" "_law_same" s_l_same f_l_same d_l_same
  b_l_same : Binds K d_l_same ["_law_actual", "_law_expected"] []
  f_l_copy : Addr
  d_l_copy : FuncData
  g_l_copy : mg "_law_copy" = some (.ref f_l_copy)
  F_l_copy : Fun K "_law_copy" "_law_copy" s_l_copy f_l_copy d_l_copy
  b_l_copy : Binds K d_l_copy ["_law_value"] []
  f_l_word : Addr
  d_l_word : FuncData
  g_l_word : mg "_law_word" = some (.ref f_l_word)
  F_l_word : Fun K "_law_word" "_law_word" s_l_word f_l_word d_l_word
  b_l_word : Binds K d_l_word ["_law_stream_here"] []
  f_l_names : Addr
  d_l_names : FuncData
  g_l_names : mg "_law_names" = some (.ref f_l_names)
  F_l_names : Fun K "_law_names" "_law_names" s_l_names f_l_names d_l_names
  b_l_names : Binds K d_l_names ["_law_stream_here", "_law_many", "_law_taken"] []
  f_l_fields : Addr
  d_l_fields : FuncData
  g_l_fields : mg "_law_fields" = some (.ref f_l_fields)
  F_l_fields : Fun K "_law_fields" "_law_fields" s_l_fields f_l_fields d_l_fields
  b_l_fields : Binds K d_l_fields ["_law_stream_here", "_law_most"] []
  f_l_lists : Addr
  d_l_lists : FuncData
  g_l_lists : mg "_law_lists" = some (.ref f_l_lists)
  F_l_lists : Fun K "_law_lists" "_law_lists" s_l_lists f_l_lists d_l_lists
  b_l_lists : Binds K d_l_lists ["_law_stream_here", "_law_most"] []
  f_l_about : Addr
  d_l_about : FuncData
  g_l_about : mg "_law_about" = some (.ref f_l_about)
  F_l_about : Fun K "_law_about" "_law_about" s_l_about f_l_about d_l_about
  b_l_about : Binds K d_l_about ["_law_lists_here"] []
  f_l_missing : Addr
  d_l_missing : FuncData
  g_l_missing : mg "_law_missing" = some (.ref f_l_missing)
  F_l_missing : Fun K "_law_missing" "_law_missing" s_l_missing f_l_missing d_l_missing
  b_l_missing : Binds K d_l_missing ["_law_shape", "_law_name", "_law_way"] []
  f_l_told : Addr
  d_l_told : FuncData
  g_l_told : mg "_law_told" = some (.ref f_l_told)
  F_l_told : Fun K "_law_told" "_law_told" s_l_told f_l_told d_l_told
  b_l_told : Binds K d_l_told ["_law_shape", "_law_lists_here"] []
  f_law : Addr
  d_law : FuncData
  g_law : mg "law" = some (.ref f_law)
  F_law : Fun K "law" "law" s_law f_law d_law
  b_law : Binds K d_law ["_law_script"] []
  z_all : mg "all" = none
  z_bool : mg "bool" = none
  z_dict : mg "dict" = none
  z_int : mg "int" = none
  z_isinstance : mg "isinstance" = none
  z_len : mg "len" = none
  z_list : mg "list" = none
  z_range : mg "range" = none
  z_set : mg "set" = none
  z_sorted : mg "sorted" = none
  z_str : mg "str" = none
  z_tuple : mg "tuple" = none
end G
set_option Elab.async false
set_option linter.all false
set_option maxRecDepth 100000
set_option maxHeartbeats 4000000
namespace G
open PySem L2 Nd
theorem txt_mk {K : PySem.W.Frag} {h : Heap} {mg : Str → Option Value} (X : K.In h) (G : h.Ns mainGlobals mg)
    {C_Shape : Addr} {C_StayError : Addr} {C_InvalidShape : Addr} {C_NoList : Addr} {f_m_InvalidShape_init : Addr} {oc_m_InvalidShape_init : Value} {kV_m_InvalidShape_init : Value} {dc_m_InvalidShape_init : Value} {pm_m_InvalidShape_init : Value} {cd_m_InvalidShape_init : Value} {ct_m_InvalidShape_init : Value} {od_m_InvalidShape_init : Option Addr} {an_m_InvalidShape_init : Option Addr} {sl_m_InvalidShape_init : Array (Option Value)} {f_m_NoList_init : Addr} {oc_m_NoList_init : Value} {kV_m_NoList_init : Value} {dc_m_NoList_init : Value} {pm_m_NoList_init : Value} {cd_m_NoList_init : Value} {ct_m_NoList_init : Value} {od_m_NoList_init : Option Addr} {an_m_NoList_init : Option Addr} {sl_m_NoList_init : Array (Option Value)} {f_p_is_word : Addr} {oc_p_is_word : Value} {kV_p_is_word : Value} {dc_p_is_word : Value} {pm_p_is_word : Value} {cd_p_is_word : Value} {ct_p_is_word : Value} {od_p_is_word : Option Addr} {an_p_is_word : Option Addr} {sl_p_is_word : Array (Option Value)} {f_p_are_words : Addr} {oc_p_are_words : Value} {kV_p_are_words : Value} {dc_p_are_words : Value} {pm_p_are_words : Value} {cd_p_are_words : Value} {ct_p_are_words : Value} {od_p_are_words : Option Addr} {an_p_are_words : Option Addr} {sl_p_are_words : Array (Option Value)} {f_p_has_keys : Addr} {oc_p_has_keys : Value} {kV_p_has_keys : Value} {dc_p_has_keys : Value} {pm_p_has_keys : Value} {cd_p_has_keys : Value} {ct_p_has_keys : Value} {od_p_has_keys : Option Addr} {an_p_has_keys : Option Addr} {sl_p_has_keys : Array (Option Value)} {f_p_lists_have_form : Addr} {oc_p_lists_have_form : Value} {kV_p_lists_have_form : Value} {dc_p_lists_have_form : Value} {pm_p_lists_have_form : Value} {cd_p_lists_have_form : Value} {ct_p_lists_have_form : Value} {od_p_lists_have_form : Option Addr} {an_p_lists_have_form : Option Addr} {sl_p_lists_have_form : Array (Option Value)} {f_p_fields_have_form : Addr} {oc_p_fields_have_form : Value} {kV_p_fields_have_form : Value} {dc_p_fields_have_form : Value} {pm_p_fields_have_form : Value} {cd_p_fields_have_form : Value} {ct_p_fields_have_form : Value} {od_p_fields_have_form : Option Addr} {an_p_fields_have_form : Option Addr} {sl_p_fields_have_form : Array (Option Value)} {f_p_all_fields_have_form : Addr} {oc_p_all_fields_have_form : Value} {kV_p_all_fields_have_form : Value} {dc_p_all_fields_have_form : Value} {pm_p_all_fields_have_form : Value} {cd_p_all_fields_have_form : Value} {ct_p_all_fields_have_form : Value} {od_p_all_fields_have_form : Option Addr} {an_p_all_fields_have_form : Option Addr} {sl_p_all_fields_have_form : Array (Option Value)} {f_p_all_names : Addr} {oc_p_all_names : Value} {kV_p_all_names : Value} {dc_p_all_names : Value} {pm_p_all_names : Value} {cd_p_all_names : Value} {ct_p_all_names : Value} {od_p_all_names : Option Addr} {an_p_all_names : Option Addr} {sl_p_all_names : Array (Option Value)} {f_m_Shape_init : Addr} {oc_m_Shape_init : Value} {kV_m_Shape_init : Value} {dc_m_Shape_init : Value} {pm_m_Shape_init : Value} {cd_m_Shape_init : Value} {ct_m_Shape_init : Value} {od_m_Shape_init : Option Addr} {an_m_Shape_init : Option Addr} {sl_m_Shape_init : Array (Option Value)} {f_m_Shape_note : Addr} {oc_m_Shape_note : Value} {kV_m_Shape_note : Value} {dc_m_Shape_note : Value} {pm_m_Shape_note : Value} {cd_m_Shape_note : Value} {ct_m_Shape_note : Value} {od_m_Shape_note : Option Addr} {an_m_Shape_note : Option Addr} {sl_m_Shape_note : Array (Option Value)} {f_m_Shape_eq : Addr} {oc_m_Shape_eq : Value} {kV_m_Shape_eq : Value} {dc_m_Shape_eq : Value} {pm_m_Shape_eq : Value} {cd_m_Shape_eq : Value} {ct_m_Shape_eq : Value} {od_m_Shape_eq : Option Addr} {an_m_Shape_eq : Option Addr} {sl_m_Shape_eq : Array (Option Value)} {f_m_Shape_entry : Addr} {oc_m_Shape_entry : Value} {kV_m_Shape_entry : Value} {dc_m_Shape_entry : Value} {pm_m_Shape_entry : Value} {cd_m_Shape_entry : Value} {ct_m_Shape_entry : Value} {od_m_Shape_entry : Option Addr} {an_m_Shape_entry : Option Addr} {sl_m_Shape_entry : Array (Option Value)} {f_m_Shape_outer : Addr} {oc_m_Shape_outer : Value} {kV_m_Shape_outer : Value} {dc_m_Shape_outer : Value} {pm_m_Shape_outer : Value} {cd_m_Shape_outer : Value} {ct_m_Shape_outer : Value} {od_m_Shape_outer : Option Addr} {an_m_Shape_outer : Option Addr} {sl_m_Shape_outer : Array (Option Value)} {f_m_Shape_inner : Addr} {oc_m_Shape_inner : Value} {kV_m_Shape_inner : Value} {dc_m_Shape_inner : Value} {pm_m_Shape_inner : Value} {cd_m_Shape_inner : Value} {ct_m_Shape_inner : Value} {od_m_Shape_inner : Option Addr} {an_m_Shape_inner : Option Addr} {sl_m_Shape_inner : Array (Option Value)} {f_m_Shape_fields : Addr} {oc_m_Shape_fields : Value} {kV_m_Shape_fields : Value} {dc_m_Shape_fields : Value} {pm_m_Shape_fields : Value} {cd_m_Shape_fields : Value} {ct_m_Shape_fields : Value} {od_m_Shape_fields : Option Addr} {an_m_Shape_fields : Option Addr} {sl_m_Shape_fields : Array (Option Value)} {f_m_Shape_parent : Addr} {oc_m_Shape_parent : Value} {kV_m_Shape_parent : Value} {dc_m_Shape_parent : Value} {pm_m_Shape_parent : Value} {cd_m_Shape_parent : Value} {ct_m_Shape_parent : Value} {od_m_Shape_parent : Option Addr} {an_m_Shape_parent : Option Addr} {sl_m_Shape_parent : Array (Option Value)} {f_l_stream : Addr} {oc_l_stream : Value} {kV_l_stream : Value} {dc_l_stream : Value} {pm_l_stream : Value} {cd_l_stream : Value} {ct_l_stream : Value} {od_l_stream : Option Addr} {an_l_stream : Option Addr} {sl_l_stream : Array (Option Value)} {f_l_draw : Addr} {oc_l_draw : Value} {kV_l_draw : Value} {dc_l_draw : Value} {pm_l_draw : Value} {cd_l_draw : Value} {ct_l_draw : Value} {od_l_draw : Option Addr} {an_l_draw : Option Addr} {sl_l_draw : Array (Option Value)} {f_l_same : Addr} {oc_l_same : Value} {kV_l_same : Value} {dc_l_same : Value} {pm_l_same : Value} {cd_l_same : Value} {ct_l_same : Value} {od_l_same : Option Addr} {an_l_same : Option Addr} {sl_l_same : Array (Option Value)} {f_l_copy : Addr} {oc_l_copy : Value} {kV_l_copy : Value} {dc_l_copy : Value} {pm_l_copy : Value} {cd_l_copy : Value} {ct_l_copy : Value} {od_l_copy : Option Addr} {an_l_copy : Option Addr} {sl_l_copy : Array (Option Value)} {f_l_word : Addr} {oc_l_word : Value} {kV_l_word : Value} {dc_l_word : Value} {pm_l_word : Value} {cd_l_word : Value} {ct_l_word : Value} {od_l_word : Option Addr} {an_l_word : Option Addr} {sl_l_word : Array (Option Value)} {f_l_names : Addr} {oc_l_names : Value} {kV_l_names : Value} {dc_l_names : Value} {pm_l_names : Value} {cd_l_names : Value} {ct_l_names : Value} {od_l_names : Option Addr} {an_l_names : Option Addr} {sl_l_names : Array (Option Value)} {f_l_fields : Addr} {oc_l_fields : Value} {kV_l_fields : Value} {dc_l_fields : Value} {pm_l_fields : Value} {cd_l_fields : Value} {ct_l_fields : Value} {od_l_fields : Option Addr} {an_l_fields : Option Addr} {sl_l_fields : Array (Option Value)} {f_l_lists : Addr} {oc_l_lists : Value} {kV_l_lists : Value} {dc_l_lists : Value} {pm_l_lists : Value} {cd_l_lists : Value} {ct_l_lists : Value} {od_l_lists : Option Addr} {an_l_lists : Option Addr} {sl_l_lists : Array (Option Value)} {f_l_about : Addr} {oc_l_about : Value} {kV_l_about : Value} {dc_l_about : Value} {pm_l_about : Value} {cd_l_about : Value} {ct_l_about : Value} {od_l_about : Option Addr} {an_l_about : Option Addr} {sl_l_about : Array (Option Value)} {f_l_missing : Addr} {oc_l_missing : Value} {kV_l_missing : Value} {dc_l_missing : Value} {pm_l_missing : Value} {cd_l_missing : Value} {ct_l_missing : Value} {od_l_missing : Option Addr} {an_l_missing : Option Addr} {sl_l_missing : Array (Option Value)} {f_l_told : Addr} {oc_l_told : Value} {kV_l_told : Value} {dc_l_told : Value} {pm_l_told : Value} {cd_l_told : Value} {ct_l_told : Value} {od_l_told : Option Addr} {an_l_told : Option Addr} {sl_l_told : Array (Option Value)} {f_law : Addr} {oc_law : Value} {kV_law : Value} {dc_law : Value} {pm_law : Value} {cd_law : Value} {ct_law : Value} {od_law : Option Addr} {an_law : Option Addr} {sl_law : Array (Option Value)}
    (aC_Shape : PySem.W.nsIn K mainGlobals "Shape" = some (some (.ref C_Shape)))
    (pg_Shape : PySem.W.plainGet K C_Shape Str.empty = true)
    (hd_Shape : PySem.W.hasDictIn K C_Shape = true)
    (po_Shape : PySem.W.plainOver K C_Shape = true)
    (sa_Shape : PySem.W.findIn K (.ref C_Shape) "__setattr__" = some (some (.builtin "object.__setattr__")))
    (n_Shape_flags : PySem.W.findIn K (.ref C_Shape) "flags" = some none)
    (n_Shape_known : PySem.W.findIn K (.ref C_Shape) "known" = some none)
    (xa_Shape : PySem.W.findIn K (.ref C_Shape) "__class__" = some (some (.builtin "object.__class__")))
    (xn_Shape : PySem.W.specialIn K (.builtin "object.__class__") "__get__" = some (some (.builtin "getset_descriptor.__get__")))
    (xt_Shape : PySem.W.takesIn K (.builtin "object.__class__") = some true)
    (xm_Shape : PySem.W.mroIn K C_Shape (.type "object") = some true)
    (aC_StayError : PySem.W.nsIn K mainGlobals "StayError" = some (some (.ref C_StayError)))
    (ic_StayError : PySem.W.isClsIn K C_StayError = true)
    (e5_StayError : PySem.W.subIn K (.ref C_StayError) (.type "BaseException") = some true)
    (e6_StayError : PySem.W.typeIn K (.ref C_StayError) = some (.type "type"))
    (b1_StayError : PySem.W.specialIn K (.ref C_StayError) "__getattribute__" = some (some (.builtin "type.__getattribute__")))
    (b2_StayError : PySem.W.readsIn K C_StayError (.type "type") = true)
    (b3_StayError : PySem.W.findCls K (.ref C_StayError) (.type "type") "__init__" = some (.val (.builtin "Exception.__init__")))
    (aC_InvalidShape : PySem.W.nsIn K mainGlobals "InvalidShape" = some (some (.ref C_InvalidShape)))
    (ic_InvalidShape : PySem.W.isClsIn K C_InvalidShape = true)
    (e1_InvalidShape : PySem.W.excInitIn K C_InvalidShape Xo.exB "Exception.__new__" = true)
    (e2_InvalidShape : PySem.W.excOver K C_InvalidShape Xo.exB = true)
    (e3_InvalidShape : PySem.W.hasDictIn K C_InvalidShape = true)
    (e4_InvalidShape : PySem.W.findIn K (.ref C_InvalidShape) "__setattr__" = some (some (.builtin "object.__setattr__")))
    (e5_InvalidShape : PySem.W.subIn K (.ref C_InvalidShape) (.type "BaseException") = some true)
    (e6_InvalidShape : PySem.W.typeIn K (.ref C_InvalidShape) = some (.type "type"))
    (e7_InvalidShape : PySem.W.keepIn K (.ref C_InvalidShape) = true)
    (x1_InvalidShape : PySem.W.findIn K (.ref C_InvalidShape) "__getattribute__" = some (some (.builtin "BaseException.__getattribute__")))
    (x2_InvalidShape : PySem.W.findIn K (.ref C_InvalidShape) "__getattr__" = some none)
    (no_InvalidShape_part : PySem.W.findIn K (.ref C_InvalidShape) "part" = some none)
    (aC_NoList : PySem.W.nsIn K mainGlobals "NoList" = some (some (.ref C_NoList)))
    (ic_NoList : PySem.W.isClsIn K C_NoList = true)
    (e1_NoList : PySem.W.excInitIn K C_NoList Xo.exB "Exception.__new__" = true)
    (e2_NoList : PySem.W.excOver K C_NoList Xo.exB = true)
    (e3_NoList : PySem.W.hasDictIn K C_NoList = true)
    (e4_NoList : PySem.W.findIn K (.ref C_NoList) "__setattr__" = some (some (.builtin "object.__setattr__")))
    (e5_NoList : PySem.W.subIn K (.ref C_NoList) (.type "BaseException") = some true)
    (e6_NoList : PySem.W.typeIn K (.ref C_NoList) = some (.type "type"))
    (e7_NoList : PySem.W.keepIn K (.ref C_NoList) = true)
    (x1_NoList : PySem.W.findIn K (.ref C_NoList) "__getattribute__" = some (some (.builtin "BaseException.__getattribute__")))
    (x2_NoList : PySem.W.findIn K (.ref C_NoList) "__getattr__" = some none)
    (no_NoList_name : PySem.W.findIn K (.ref C_NoList) "name" = some none)
    (sb_InvalidShape_StayError : PySem.W.subIn K (.ref C_InvalidShape) (.ref C_StayError) = some true)
    (sb_InvalidShape_InvalidShape : PySem.W.subIn K (.ref C_InvalidShape) (.ref C_InvalidShape) = some true)
    (sb_InvalidShape_NoList : PySem.W.subIn K (.ref C_InvalidShape) (.ref C_NoList) = some false)
    (sb_NoList_StayError : PySem.W.subIn K (.ref C_NoList) (.ref C_StayError) = some true)
    (sb_NoList_InvalidShape : PySem.W.subIn K (.ref C_NoList) (.ref C_InvalidShape) = some false)
    (sb_NoList_NoList : PySem.W.subIn K (.ref C_NoList) (.ref C_NoList) = some true)
    (ya_InvalidShape : PySem.W.findIn K (.ref C_InvalidShape) "__class__" = some (some (.builtin "object.__class__")))
    (yn_InvalidShape : PySem.W.specialIn K (.builtin "object.__class__") "__get__" = some (some (.builtin "getset_descriptor.__get__")))
    (yt_InvalidShape : PySem.W.takesIn K (.builtin "object.__class__") = some true)
    (ym_InvalidShape : PySem.W.mroIn K C_InvalidShape (.type "object") = some true)
    (ya_NoList : PySem.W.findIn K (.ref C_NoList) "__class__" = some (some (.builtin "object.__class__")))
    (yn_NoList : PySem.W.specialIn K (.builtin "object.__class__") "__get__" = some (some (.builtin "getset_descriptor.__get__")))
    (yt_NoList : PySem.W.takesIn K (.builtin "object.__class__") = some true)
    (ym_NoList : PySem.W.mroIn K C_NoList (.type "object") = some true)
    (a_m_InvalidShape_init : PySem.W.findIn K (.ref C_InvalidShape) "__init__" = some (some (.ref f_m_InvalidShape_init)))
    (i_m_InvalidShape_init : PySem.W.isFn K (.ref f_m_InvalidShape_init) = true)
    (l_m_InvalidShape_init : K.lookup f_m_InvalidShape_init = some ⟨oc_m_InvalidShape_init, od_m_InvalidShape_init, .func (PySem.W.fnOf "__init__" "InvalidShape.__init__" (defArgs s_m_InvalidShape_init) (defBody s_m_InvalidShape_init) (defScope s_m_InvalidShape_init) .none kV_m_InvalidShape_init dc_m_InvalidShape_init pm_m_InvalidShape_init an_m_InvalidShape_init cd_m_InvalidShape_init ct_m_InvalidShape_init), sl_m_InvalidShape_init⟩)
    (c_m_InvalidShape_init : PySem.W.codeIn K cd_m_InvalidShape_init "InvalidShape.__init__" = true)
    (k_m_InvalidShape_init : PySem.W.keepIn K (.ref f_m_InvalidShape_init) = true)
    (a_m_NoList_init : PySem.W.findIn K (.ref C_NoList) "__init__" = some (some (.ref f_m_NoList_init)))
    (i_m_NoList_init : PySem.W.isFn K (.ref f_m_NoList_init) = true)
    (l_m_NoList_init : K.lookup f_m_NoList_init = some ⟨oc_m_NoList_init, od_m_NoList_init, .func (PySem.W.fnOf "__init__" "NoList.__init__" (defArgs s_m_NoList_init) (defBody s_m_NoList_init) (defScope s_m_NoList_init) .none kV_m_NoList_init dc_m_NoList_init pm_m_NoList_init an_m_NoList_init cd_m_NoList_init ct_m_NoList_init), sl_m_NoList_init⟩)
    (c_m_NoList_init : PySem.W.codeIn K cd_m_NoList_init "NoList.__init__" = true)
    (k_m_NoList_init : PySem.W.keepIn K (.ref f_m_NoList_init) = true)
    (a_p_is_word : PySem.W.nsIn K mainGlobals "is_word" = some (some (.ref f_p_is_word)))
    (l_p_is_word : K.lookup f_p_is_word = some ⟨oc_p_is_word, od_p_is_word, .func (PySem.W.fnOf "is_word" "is_word" (defArgs s_p_is_word) (defBody s_p_is_word) (defScope s_p_is_word) .none kV_p_is_word dc_p_is_word pm_p_is_word an_p_is_word cd_p_is_word ct_p_is_word), sl_p_is_word⟩)
    (c_p_is_word : PySem.W.codeIn K cd_p_is_word "is_word" = true)
    (k_p_is_word : PySem.W.keepIn K (.ref f_p_is_word) = true)
    (a_p_are_words : PySem.W.nsIn K mainGlobals "are_words" = some (some (.ref f_p_are_words)))
    (l_p_are_words : K.lookup f_p_are_words = some ⟨oc_p_are_words, od_p_are_words, .func (PySem.W.fnOf "are_words" "are_words" (defArgs s_p_are_words) (defBody s_p_are_words) (defScope s_p_are_words) .none kV_p_are_words dc_p_are_words pm_p_are_words an_p_are_words cd_p_are_words ct_p_are_words), sl_p_are_words⟩)
    (c_p_are_words : PySem.W.codeIn K cd_p_are_words "are_words" = true)
    (k_p_are_words : PySem.W.keepIn K (.ref f_p_are_words) = true)
    (a_p_has_keys : PySem.W.nsIn K mainGlobals "has_keys" = some (some (.ref f_p_has_keys)))
    (l_p_has_keys : K.lookup f_p_has_keys = some ⟨oc_p_has_keys, od_p_has_keys, .func (PySem.W.fnOf "has_keys" "has_keys" (defArgs s_p_has_keys) (defBody s_p_has_keys) (defScope s_p_has_keys) .none kV_p_has_keys dc_p_has_keys pm_p_has_keys an_p_has_keys cd_p_has_keys ct_p_has_keys), sl_p_has_keys⟩)
    (c_p_has_keys : PySem.W.codeIn K cd_p_has_keys "has_keys" = true)
    (k_p_has_keys : PySem.W.keepIn K (.ref f_p_has_keys) = true)
    (a_p_lists_have_form : PySem.W.nsIn K mainGlobals "lists_have_form" = some (some (.ref f_p_lists_have_form)))
    (l_p_lists_have_form : K.lookup f_p_lists_have_form = some ⟨oc_p_lists_have_form, od_p_lists_have_form, .func (PySem.W.fnOf "lists_have_form" "lists_have_form" (defArgs s_p_lists_have_form) (defBody s_p_lists_have_form) (defScope s_p_lists_have_form) .none kV_p_lists_have_form dc_p_lists_have_form pm_p_lists_have_form an_p_lists_have_form cd_p_lists_have_form ct_p_lists_have_form), sl_p_lists_have_form⟩)
    (c_p_lists_have_form : PySem.W.codeIn K cd_p_lists_have_form "lists_have_form" = true)
    (k_p_lists_have_form : PySem.W.keepIn K (.ref f_p_lists_have_form) = true)
    (a_p_fields_have_form : PySem.W.nsIn K mainGlobals "fields_have_form" = some (some (.ref f_p_fields_have_form)))
    (l_p_fields_have_form : K.lookup f_p_fields_have_form = some ⟨oc_p_fields_have_form, od_p_fields_have_form, .func (PySem.W.fnOf "fields_have_form" "fields_have_form" (defArgs s_p_fields_have_form) (defBody s_p_fields_have_form) (defScope s_p_fields_have_form) .none kV_p_fields_have_form dc_p_fields_have_form pm_p_fields_have_form an_p_fields_have_form cd_p_fields_have_form ct_p_fields_have_form), sl_p_fields_have_form⟩)
    (c_p_fields_have_form : PySem.W.codeIn K cd_p_fields_have_form "fields_have_form" = true)
    (k_p_fields_have_form : PySem.W.keepIn K (.ref f_p_fields_have_form) = true)
    (a_p_all_fields_have_form : PySem.W.nsIn K mainGlobals "all_fields_have_form" = some (some (.ref f_p_all_fields_have_form)))
    (l_p_all_fields_have_form : K.lookup f_p_all_fields_have_form = some ⟨oc_p_all_fields_have_form, od_p_all_fields_have_form, .func (PySem.W.fnOf "all_fields_have_form" "all_fields_have_form" (defArgs s_p_all_fields_have_form) (defBody s_p_all_fields_have_form) (defScope s_p_all_fields_have_form) .none kV_p_all_fields_have_form dc_p_all_fields_have_form pm_p_all_fields_have_form an_p_all_fields_have_form cd_p_all_fields_have_form ct_p_all_fields_have_form), sl_p_all_fields_have_form⟩)
    (c_p_all_fields_have_form : PySem.W.codeIn K cd_p_all_fields_have_form "all_fields_have_form" = true)
    (k_p_all_fields_have_form : PySem.W.keepIn K (.ref f_p_all_fields_have_form) = true)
    (a_p_all_names : PySem.W.nsIn K mainGlobals "all_names" = some (some (.ref f_p_all_names)))
    (l_p_all_names : K.lookup f_p_all_names = some ⟨oc_p_all_names, od_p_all_names, .func (PySem.W.fnOf "all_names" "all_names" (defArgs s_p_all_names) (defBody s_p_all_names) (defScope s_p_all_names) .none kV_p_all_names dc_p_all_names pm_p_all_names an_p_all_names cd_p_all_names ct_p_all_names), sl_p_all_names⟩)
    (c_p_all_names : PySem.W.codeIn K cd_p_all_names "all_names" = true)
    (k_p_all_names : PySem.W.keepIn K (.ref f_p_all_names) = true)
    (a_m_Shape_init : PySem.W.findIn K (.ref C_Shape) "__init__" = some (some (.ref f_m_Shape_init)))
    (i_m_Shape_init : PySem.W.isFn K (.ref f_m_Shape_init) = true)
    (l_m_Shape_init : K.lookup f_m_Shape_init = some ⟨oc_m_Shape_init, od_m_Shape_init, .func (PySem.W.fnOf "__init__" "Shape.__init__" (defArgs s_m_Shape_init) (defBody s_m_Shape_init) (defScope s_m_Shape_init) .none kV_m_Shape_init dc_m_Shape_init pm_m_Shape_init an_m_Shape_init cd_m_Shape_init ct_m_Shape_init), sl_m_Shape_init⟩)
    (c_m_Shape_init : PySem.W.codeIn K cd_m_Shape_init "Shape.__init__" = true)
    (k_m_Shape_init : PySem.W.keepIn K (.ref f_m_Shape_init) = true)
    (ma_Shape : PySem.W.makesIn K C_Shape = true)
    (kc_Shape : PySem.W.keepIn K (.ref C_Shape) = true)
    (a_m_Shape_note : PySem.W.findIn K (.ref C_Shape) "note" = some (some (.ref f_m_Shape_note)))
    (i_m_Shape_note : PySem.W.isFn K (.ref f_m_Shape_note) = true)
    (l_m_Shape_note : K.lookup f_m_Shape_note = some ⟨oc_m_Shape_note, od_m_Shape_note, .func (PySem.W.fnOf "note" "Shape.note" (defArgs s_m_Shape_note) (defBody s_m_Shape_note) (defScope s_m_Shape_note) .none kV_m_Shape_note dc_m_Shape_note pm_m_Shape_note an_m_Shape_note cd_m_Shape_note ct_m_Shape_note), sl_m_Shape_note⟩)
    (c_m_Shape_note : PySem.W.codeIn K cd_m_Shape_note "Shape.note" = true)
    (k_m_Shape_note : PySem.W.keepIn K (.ref f_m_Shape_note) = true)
    (a_m_Shape_eq : PySem.W.findIn K (.ref C_Shape) "__eq__" = some (some (.ref f_m_Shape_eq)))
    (i_m_Shape_eq : PySem.W.isFn K (.ref f_m_Shape_eq) = true)
    (l_m_Shape_eq : K.lookup f_m_Shape_eq = some ⟨oc_m_Shape_eq, od_m_Shape_eq, .func (PySem.W.fnOf "__eq__" "Shape.__eq__" (defArgs s_m_Shape_eq) (defBody s_m_Shape_eq) (defScope s_m_Shape_eq) .none kV_m_Shape_eq dc_m_Shape_eq pm_m_Shape_eq an_m_Shape_eq cd_m_Shape_eq ct_m_Shape_eq), sl_m_Shape_eq⟩)
    (c_m_Shape_eq : PySem.W.codeIn K cd_m_Shape_eq "Shape.__eq__" = true)
    (k_m_Shape_eq : PySem.W.keepIn K (.ref f_m_Shape_eq) = true)
    (a_m_Shape_entry : PySem.W.findIn K (.ref C_Shape) "entry" = some (some (.ref f_m_Shape_entry)))
    (i_m_Shape_entry : PySem.W.isFn K (.ref f_m_Shape_entry) = true)
    (l_m_Shape_entry : K.lookup f_m_Shape_entry = some ⟨oc_m_Shape_entry, od_m_Shape_entry, .func (PySem.W.fnOf "entry" "Shape.entry" (defArgs s_m_Shape_entry) (defBody s_m_Shape_entry) (defScope s_m_Shape_entry) .none kV_m_Shape_entry dc_m_Shape_entry pm_m_Shape_entry an_m_Shape_entry cd_m_Shape_entry ct_m_Shape_entry), sl_m_Shape_entry⟩)
    (c_m_Shape_entry : PySem.W.codeIn K cd_m_Shape_entry "Shape.entry" = true)
    (k_m_Shape_entry : PySem.W.keepIn K (.ref f_m_Shape_entry) = true)
    (a_m_Shape_outer : PySem.W.findIn K (.ref C_Shape) "outer" = some (some (.ref f_m_Shape_outer)))
    (i_m_Shape_outer : PySem.W.isFn K (.ref f_m_Shape_outer) = true)
    (l_m_Shape_outer : K.lookup f_m_Shape_outer = some ⟨oc_m_Shape_outer, od_m_Shape_outer, .func (PySem.W.fnOf "outer" "Shape.outer" (defArgs s_m_Shape_outer) (defBody s_m_Shape_outer) (defScope s_m_Shape_outer) .none kV_m_Shape_outer dc_m_Shape_outer pm_m_Shape_outer an_m_Shape_outer cd_m_Shape_outer ct_m_Shape_outer), sl_m_Shape_outer⟩)
    (c_m_Shape_outer : PySem.W.codeIn K cd_m_Shape_outer "Shape.outer" = true)
    (k_m_Shape_outer : PySem.W.keepIn K (.ref f_m_Shape_outer) = true)
    (a_m_Shape_inner : PySem.W.findIn K (.ref C_Shape) "inner" = some (some (.ref f_m_Shape_inner)))
    (i_m_Shape_inner : PySem.W.isFn K (.ref f_m_Shape_inner) = true)
    (l_m_Shape_inner : K.lookup f_m_Shape_inner = some ⟨oc_m_Shape_inner, od_m_Shape_inner, .func (PySem.W.fnOf "inner" "Shape.inner" (defArgs s_m_Shape_inner) (defBody s_m_Shape_inner) (defScope s_m_Shape_inner) .none kV_m_Shape_inner dc_m_Shape_inner pm_m_Shape_inner an_m_Shape_inner cd_m_Shape_inner ct_m_Shape_inner), sl_m_Shape_inner⟩)
    (c_m_Shape_inner : PySem.W.codeIn K cd_m_Shape_inner "Shape.inner" = true)
    (k_m_Shape_inner : PySem.W.keepIn K (.ref f_m_Shape_inner) = true)
    (a_m_Shape_fields : PySem.W.findIn K (.ref C_Shape) "fields" = some (some (.ref f_m_Shape_fields)))
    (i_m_Shape_fields : PySem.W.isFn K (.ref f_m_Shape_fields) = true)
    (l_m_Shape_fields : K.lookup f_m_Shape_fields = some ⟨oc_m_Shape_fields, od_m_Shape_fields, .func (PySem.W.fnOf "fields" "Shape.fields" (defArgs s_m_Shape_fields) (defBody s_m_Shape_fields) (defScope s_m_Shape_fields) .none kV_m_Shape_fields dc_m_Shape_fields pm_m_Shape_fields an_m_Shape_fields cd_m_Shape_fields ct_m_Shape_fields), sl_m_Shape_fields⟩)
    (c_m_Shape_fields : PySem.W.codeIn K cd_m_Shape_fields "Shape.fields" = true)
    (k_m_Shape_fields : PySem.W.keepIn K (.ref f_m_Shape_fields) = true)
    (a_m_Shape_parent : PySem.W.findIn K (.ref C_Shape) "parent" = some (some (.ref f_m_Shape_parent)))
    (i_m_Shape_parent : PySem.W.isFn K (.ref f_m_Shape_parent) = true)
    (l_m_Shape_parent : K.lookup f_m_Shape_parent = some ⟨oc_m_Shape_parent, od_m_Shape_parent, .func (PySem.W.fnOf "parent" "Shape.parent" (defArgs s_m_Shape_parent) (defBody s_m_Shape_parent) (defScope s_m_Shape_parent) .none kV_m_Shape_parent dc_m_Shape_parent pm_m_Shape_parent an_m_Shape_parent cd_m_Shape_parent ct_m_Shape_parent), sl_m_Shape_parent⟩)
    (c_m_Shape_parent : PySem.W.codeIn K cd_m_Shape_parent "Shape.parent" = true)
    (k_m_Shape_parent : PySem.W.keepIn K (.ref f_m_Shape_parent) = true)
    (a_l_stream : PySem.W.nsIn K mainGlobals "_law_stream" = some (some (.ref f_l_stream)))
    (l_l_stream : K.lookup f_l_stream = some ⟨oc_l_stream, od_l_stream, .func (PySem.W.fnOf "_law_stream" "_law_stream" (defArgs s_l_stream) (defBody s_l_stream) (defScope s_l_stream) .none kV_l_stream dc_l_stream pm_l_stream an_l_stream cd_l_stream ct_l_stream), sl_l_stream⟩)
    (c_l_stream : PySem.W.codeIn K cd_l_stream "_law_stream" = true)
    (k_l_stream : PySem.W.keepIn K (.ref f_l_stream) = true)
    (a_l_draw : PySem.W.nsIn K mainGlobals "_law_draw" = some (some (.ref f_l_draw)))
    (l_l_draw : K.lookup f_l_draw = some ⟨oc_l_draw, od_l_draw, .func (PySem.W.fnOf "_law_draw" "_law_draw" (defArgs s_l_draw) (defBody s_l_draw) (defScope s_l_draw) .none kV_l_draw dc_l_draw pm_l_draw an_l_draw cd_l_draw ct_l_draw), sl_l_draw⟩)
    (c_l_draw : PySem.W.codeIn K cd_l_draw "_law_draw" = true)
    (k_l_draw : PySem.W.keepIn K (.ref f_l_draw) = true)
    (a_l_same : PySem.W.nsIn K mainGlobals "_law_same" = some (some (.ref f_l_same)))
    (l_l_same : K.lookup f_l_same = some ⟨oc_l_same, od_l_same, .func (PySem.W.fnOf "_law_same" "_law_same" (defArgs s_l_same) (defBody s_l_same) (defScope s_l_same) .none kV_l_same dc_l_same pm_l_same an_l_same cd_l_same ct_l_same), sl_l_same⟩)
    (c_l_same : PySem.W.codeIn K cd_l_same "_law_same" = true)
    (k_l_same : PySem.W.keepIn K (.ref f_l_same) = true)
    (a_l_copy : PySem.W.nsIn K mainGlobals "_law_copy" = some (some (.ref f_l_copy)))
    (l_l_copy : K.lookup f_l_copy = some ⟨oc_l_copy, od_l_copy, .func (PySem.W.fnOf "_law_copy" "_law_copy" (defArgs s_l_copy) (defBody s_l_copy) (defScope s_l_copy) .none kV_l_copy dc_l_copy pm_l_copy an_l_copy cd_l_copy ct_l_copy), sl_l_copy⟩)
    (c_l_copy : PySem.W.codeIn K cd_l_copy "_law_copy" = true)
    (k_l_copy : PySem.W.keepIn K (.ref f_l_copy) = true)
    (a_l_word : PySem.W.nsIn K mainGlobals "_law_word" = some (some (.ref f_l_word)))
    (l_l_word : K.lookup f_l_word = some ⟨oc_l_word, od_l_word, .func (PySem.W.fnOf "_law_word" "_law_word" (defArgs s_l_word) (defBody s_l_word) (defScope s_l_word) .none kV_l_word dc_l_word pm_l_word an_l_word cd_l_word ct_l_word), sl_l_word⟩)
    (c_l_word : PySem.W.codeIn K cd_l_word "_law_word" = true)
    (k_l_word : PySem.W.keepIn K (.ref f_l_word) = true)
    (a_l_names : PySem.W.nsIn K mainGlobals "_law_names" = some (some (.ref f_l_names)))
    (l_l_names : K.lookup f_l_names = some ⟨oc_l_names, od_l_names, .func (PySem.W.fnOf "_law_names" "_law_names" (defArgs s_l_names) (defBody s_l_names) (defScope s_l_names) .none kV_l_names dc_l_names pm_l_names an_l_names cd_l_names ct_l_names), sl_l_names⟩)
    (c_l_names : PySem.W.codeIn K cd_l_names "_law_names" = true)
    (k_l_names : PySem.W.keepIn K (.ref f_l_names) = true)
    (a_l_fields : PySem.W.nsIn K mainGlobals "_law_fields" = some (some (.ref f_l_fields)))
    (l_l_fields : K.lookup f_l_fields = some ⟨oc_l_fields, od_l_fields, .func (PySem.W.fnOf "_law_fields" "_law_fields" (defArgs s_l_fields) (defBody s_l_fields) (defScope s_l_fields) .none kV_l_fields dc_l_fields pm_l_fields an_l_fields cd_l_fields ct_l_fields), sl_l_fields⟩)
    (c_l_fields : PySem.W.codeIn K cd_l_fields "_law_fields" = true)
    (k_l_fields : PySem.W.keepIn K (.ref f_l_fields) = true)
    (a_l_lists : PySem.W.nsIn K mainGlobals "_law_lists" = some (some (.ref f_l_lists)))
    (l_l_lists : K.lookup f_l_lists = some ⟨oc_l_lists, od_l_lists, .func (PySem.W.fnOf "_law_lists" "_law_lists" (defArgs s_l_lists) (defBody s_l_lists) (defScope s_l_lists) .none kV_l_lists dc_l_lists pm_l_lists an_l_lists cd_l_lists ct_l_lists), sl_l_lists⟩)
    (c_l_lists : PySem.W.codeIn K cd_l_lists "_law_lists" = true)
    (k_l_lists : PySem.W.keepIn K (.ref f_l_lists) = true)
    (a_l_about : PySem.W.nsIn K mainGlobals "_law_about" = some (some (.ref f_l_about)))
    (l_l_about : K.lookup f_l_about = some ⟨oc_l_about, od_l_about, .func (PySem.W.fnOf "_law_about" "_law_about" (defArgs s_l_about) (defBody s_l_about) (defScope s_l_about) .none kV_l_about dc_l_about pm_l_about an_l_about cd_l_about ct_l_about), sl_l_about⟩)
    (c_l_about : PySem.W.codeIn K cd_l_about "_law_about" = true)
    (k_l_about : PySem.W.keepIn K (.ref f_l_about) = true)
    (a_l_missing : PySem.W.nsIn K mainGlobals "_law_missing" = some (some (.ref f_l_missing)))
    (l_l_missing : K.lookup f_l_missing = some ⟨oc_l_missing, od_l_missing, .func (PySem.W.fnOf "_law_missing" "_law_missing" (defArgs s_l_missing) (defBody s_l_missing) (defScope s_l_missing) .none kV_l_missing dc_l_missing pm_l_missing an_l_missing cd_l_missing ct_l_missing), sl_l_missing⟩)
    (c_l_missing : PySem.W.codeIn K cd_l_missing "_law_missing" = true)
    (k_l_missing : PySem.W.keepIn K (.ref f_l_missing) = true)
    (a_l_told : PySem.W.nsIn K mainGlobals "_law_told" = some (some (.ref f_l_told)))
    (l_l_told : K.lookup f_l_told = some ⟨oc_l_told, od_l_told, .func (PySem.W.fnOf "_law_told" "_law_told" (defArgs s_l_told) (defBody s_l_told) (defScope s_l_told) .none kV_l_told dc_l_told pm_l_told an_l_told cd_l_told ct_l_told), sl_l_told⟩)
    (c_l_told : PySem.W.codeIn K cd_l_told "_law_told" = true)
    (k_l_told : PySem.W.keepIn K (.ref f_l_told) = true)
    (a_law : PySem.W.nsIn K mainGlobals "law" = some (some (.ref f_law)))
    (l_law : K.lookup f_law = some ⟨oc_law, od_law, .func (PySem.W.fnOf "law" "law" (defArgs s_law) (defBody s_law) (defScope s_law) .none kV_law dc_law pm_law an_law cd_law ct_law), sl_law⟩)
    (c_law : PySem.W.codeIn K cd_law "law" = true)
    (k_law : PySem.W.keepIn K (.ref f_law) = true)
    (z_all : PySem.W.nsIn K mainGlobals "all" = some none)
    (z_bool : PySem.W.nsIn K mainGlobals "bool" = some none)
    (z_dict : PySem.W.nsIn K mainGlobals "dict" = some none)
    (z_int : PySem.W.nsIn K mainGlobals "int" = some none)
    (z_isinstance : PySem.W.nsIn K mainGlobals "isinstance" = some none)
    (z_len : PySem.W.nsIn K mainGlobals "len" = some none)
    (z_list : PySem.W.nsIn K mainGlobals "list" = some none)
    (z_range : PySem.W.nsIn K mainGlobals "range" = some none)
    (z_set : PySem.W.nsIn K mainGlobals "set" = some none)
    (z_sorted : PySem.W.nsIn K mainGlobals "sorted" = some none)
    (z_str : PySem.W.nsIn K mainGlobals "str" = some none)
    (z_tuple : PySem.W.nsIn K mainGlobals "tuple" = some none)
    : ∃ T : Txt K mg, T.f_law = f_law ∧ ∀ (s : Shared) (v : Value), BindsTo s T.d_law ⟨[v], []⟩ [("_law_script", v)] := by
  refine ⟨{
    C_Shape := C_Shape
    cl_Shape := ⟨pg_Shape, hd_Shape, po_Shape, sa_Shape⟩
    gC_Shape := PySem.W.mg_of X G aC_Shape
    n_Shape_flags := n_Shape_flags
    n_Shape_known := n_Shape_known
    is_Shape := ⟨xa_Shape, xn_Shape, xt_Shape, xm_Shape⟩
    C_StayError := C_StayError
    gC_StayError := PySem.W.mg_of X G aC_StayError
    ba_StayError := ⟨b1_StayError, b2_StayError, b3_StayError⟩
    C_InvalidShape := C_InvalidShape
    gC_InvalidShape := PySem.W.mg_of X G aC_InvalidShape
    er_InvalidShape := ⟨e1_InvalidShape, e2_InvalidShape, e3_InvalidShape, e4_InvalidShape, e5_InvalidShape, e6_InvalidShape, e7_InvalidShape⟩
    xf_InvalidShape := ⟨x1_InvalidShape, x2_InvalidShape, e5_InvalidShape, e3_InvalidShape⟩
    no_InvalidShape_part := no_InvalidShape_part
    C_NoList := C_NoList
    gC_NoList := PySem.W.mg_of X G aC_NoList
    er_NoList := ⟨e1_NoList, e2_NoList, e3_NoList, e4_NoList, e5_NoList, e6_NoList, e7_NoList⟩
    xf_NoList := ⟨x1_NoList, x2_NoList, e5_NoList, e3_NoList⟩
    no_NoList_name := no_NoList_name
    xm_InvalidShape_StayError := Xo.exm_mk e5_StayError ic_StayError e6_StayError sb_InvalidShape_StayError
    xm_InvalidShape_InvalidShape := Xo.exm_mk e5_InvalidShape ic_InvalidShape e6_InvalidShape sb_InvalidShape_InvalidShape
    xm_InvalidShape_NoList := Xo.exm_mk e5_NoList ic_NoList e6_NoList sb_InvalidShape_NoList
    xm_NoList_StayError := Xo.exm_mk e5_StayError ic_StayError e6_StayError sb_NoList_StayError
    xm_NoList_InvalidShape := Xo.exm_mk e5_InvalidShape ic_InvalidShape e6_InvalidShape sb_NoList_InvalidShape
    xm_NoList_NoList := Xo.exm_mk e5_NoList ic_NoList e6_NoList sb_NoList_NoList
    xi_InvalidShape := ⟨ya_InvalidShape, yn_InvalidShape, yt_InvalidShape, ym_InvalidShape⟩
    ki_InvalidShape_NoList := Xo.kit_no ic_NoList e6_NoList sb_InvalidShape_NoList sb_NoList_NoList
    xi_NoList := ⟨ya_NoList, yn_NoList, yt_NoList, ym_NoList⟩
    ki_NoList_InvalidShape := Xo.kit_no ic_InvalidShape e6_InvalidShape sb_NoList_InvalidShape sb_InvalidShape_InvalidShape
    f_m_InvalidShape_init := f_m_InvalidShape_init
    d_m_InvalidShape_init := PySem.W.fnOf "__init__" "InvalidShape.__init__" (defArgs s_m_InvalidShape_init) (defBody s_m_InvalidShape_init) (defScope s_m_InvalidShape_init) .none kV_m_InvalidShape_init dc_m_InvalidShape_init pm_m_InvalidShape_init an_m_InvalidShape_init cd_m_InvalidShape_init ct_m_InvalidShape_init
    F_m_InvalidShape_init := fun_mk l_m_InvalidShape_init c_m_InvalidShape_init k_m_InvalidShape_init
    b_m_InvalidShape_init := (fun_mk (st := s_m_InvalidShape_init) l_m_InvalidShape_init c_m_InvalidShape_init k_m_InvalidShape_init).binds (ps := ["self", "part"]) fun _ _ _ _ _ _ us hl => match us, hl with | [_, _], _ => rfl
    in_InvalidShape := a_m_InvalidShape_init
    ti_InvalidShape := beq_iff_eq.mp i_m_InvalidShape_init
    f_m_NoList_init := f_m_NoList_init
    d_m_NoList_init := PySem.W.fnOf "__init__" "NoList.__init__" (defArgs s_m_NoList_init) (defBody s_m_NoList_init) (defScope s_m_NoList_init) .none kV_m_NoList_init dc_m_NoList_init pm_m_NoList_init an_m_NoList_init cd_m_NoList_init ct_m_NoList_init
    F_m_NoList_init := fun_mk l_m_NoList_init c_m_NoList_init k_m_NoList_init
    b_m_NoList_init := (fun_mk (st := s_m_NoList_init) l_m_NoList_init c_m_NoList_init k_m_NoList_init).binds (ps := ["self", "name"]) fun _ _ _ _ _ _ us hl => match us, hl with | [_, _], _ => rfl
    in_NoList := a_m_NoList_init
    ti_NoList := beq_iff_eq.mp i_m_NoList_init
    f_p_is_word := f_p_is_word
    d_p_is_word := PySem.W.fnOf "is_word" "is_word" (defArgs s_p_is_word) (defBody s_p_is_word) (defScope s_p_is_word) .none kV_p_is_word dc_p_is_word pm_p_is_word an_p_is_word cd_p_is_word ct_p_is_word
    g_p_is_word := PySem.W.mg_of X G a_p_is_word
    F_p_is_word := fun_mk l_p_is_word c_p_is_word k_p_is_word
    b_p_is_word := (fun_mk (st := s_p_is_word) l_p_is_word c_p_is_word k_p_is_word).binds (ps := ["value"]) fun _ _ _ _ _ _ us hl => match us, hl with | [_], _ => rfl
    f_p_are_words := f_p_are_words
    d_p_are_words := PySem.W.fnOf "are_words" "are_words" (defArgs s_p_are_words) (defBody s_p_are_words) (defScope s_p_are_words) .none kV_p_are_words dc_p_are_words pm_p_are_words an_p_are_words cd_p_are_words ct_p_are_words
    g_p_are_words := PySem.W.mg_of X G a_p_are_words
    F_p_are_words := fun_mk l_p_are_words c_p_are_words k_p_are_words
    b_p_are_words := (fun_mk (st := s_p_are_words) l_p_are_words c_p_are_words k_p_are_words).binds (ps := ["value", "least", "most"]) fun _ _ _ _ _ _ us hl => match us, hl with | [_, _, _], _ => rfl
    f_p_has_keys := f_p_has_keys
    d_p_has_keys := PySem.W.fnOf "has_keys" "has_keys" (defArgs s_p_has_keys) (defBody s_p_has_keys) (defScope s_p_has_keys) .none kV_p_has_keys dc_p_has_keys pm_p_has_keys an_p_has_keys cd_p_has_keys ct_p_has_keys
    g_p_has_keys := PySem.W.mg_of X G a_p_has_keys
    F_p_has_keys := fun_mk l_p_has_keys c_p_has_keys k_p_has_keys
    b_p_has_keys := (fun_mk (st := s_p_has_keys) l_p_has_keys c_p_has_keys k_p_has_keys).binds (ps := ["value", "names"]) fun _ _ _ _ _ _ us hl => match us, hl with | [_, _], _ => rfl
    f_p_lists_have_form := f_p_lists_have_form
    d_p_lists_have_form := PySem.W.fnOf "lists_have_form" "lists_have_form" (defArgs s_p_lists_have_form) (defBody s_p_lists_have_form) (defScope s_p_lists_have_form) .none kV_p_lists_have_form dc_p_lists_have_form pm_p_lists_have_form an_p_lists_have_form cd_p_lists_have_form ct_p_lists_have_form
    g_p_lists_have_form := PySem.W.mg_of X G a_p_lists_have_form
    F_p_lists_have_form := fun_mk l_p_lists_have_form c_p_lists_have_form k_p_lists_have_form
    b_p_lists_have_form := (fun_mk (st := s_p_lists_have_form) l_p_lists_have_form c_p_lists_have_form k_p_lists_have_form).binds (ps := ["lists", "most", "deep"]) fun _ _ _ _ _ _ us hl => match us, hl with | [_, _, _], _ => rfl
    f_p_fields_have_form := f_p_fields_have_form
    d_p_fields_have_form := PySem.W.fnOf "fields_have_form" "fields_have_form" (defArgs s_p_fields_have_form) (defBody s_p_fields_have_form) (defScope s_p_fields_have_form) .none kV_p_fields_have_form dc_p_fields_have_form pm_p_fields_have_form an_p_fields_have_form cd_p_fields_have_form ct_p_fields_have_form
    g_p_fields_have_form := PySem.W.mg_of X G a_p_fields_have_form
    F_p_fields_have_form := fun_mk l_p_fields_have_form c_p_fields_have_form k_p_fields_have_form
    b_p_fields_have_form := (fun_mk (st := s_p_fields_have_form) l_p_fields_have_form c_p_fields_have_form k_p_fields_have_form).binds (ps := ["fields"]) fun _ _ _ _ _ _ us hl => match us, hl with | [_], _ => rfl
    f_p_all_fields_have_form := f_p_all_fields_have_form
    d_p_all_fields_have_form := PySem.W.fnOf "all_fields_have_form" "all_fields_have_form" (defArgs s_p_all_fields_have_form) (defBody s_p_all_fields_have_form) (defScope s_p_all_fields_have_form) .none kV_p_all_fields_have_form dc_p_all_fields_have_form pm_p_all_fields_have_form an_p_all_fields_have_form cd_p_all_fields_have_form ct_p_all_fields_have_form
    g_p_all_fields_have_form := PySem.W.mg_of X G a_p_all_fields_have_form
    F_p_all_fields_have_form := fun_mk l_p_all_fields_have_form c_p_all_fields_have_form k_p_all_fields_have_form
    b_p_all_fields_have_form := (fun_mk (st := s_p_all_fields_have_form) l_p_all_fields_have_form c_p_all_fields_have_form k_p_all_fields_have_form).binds (ps := ["lists"]) fun _ _ _ _ _ _ us hl => match us, hl with | [_], _ => rfl
    f_p_all_names := f_p_all_names
    d_p_all_names := PySem.W.fnOf "all_names" "all_names" (defArgs s_p_all_names) (defBody s_p_all_names) (defScope s_p_all_names) .none kV_p_all_names dc_p_all_names pm_p_all_names an_p_all_names cd_p_all_names ct_p_all_names
    g_p_all_names := PySem.W.mg_of X G a_p_all_names
    F_p_all_names := fun_mk l_p_all_names c_p_all_names k_p_all_names
    b_p_all_names := (fun_mk (st := s_p_all_names) l_p_all_names c_p_all_names k_p_all_names).binds (ps := ["lists"]) fun _ _ _ _ _ _ us hl => match us, hl with | [_], _ => rfl
    f_m_Shape_init := f_m_Shape_init
    d_m_Shape_init := PySem.W.fnOf "__init__" "Shape.__init__" (defArgs s_m_Shape_init) (defBody s_m_Shape_init) (defScope s_m_Shape_init) .none kV_m_Shape_init dc_m_Shape_init pm_m_Shape_init an_m_Shape_init cd_m_Shape_init ct_m_Shape_init
    F_m_Shape_init := fun_mk l_m_Shape_init c_m_Shape_init k_m_Shape_init
    b_m_Shape_init := (fun_mk (st := s_m_Shape_init) l_m_Shape_init c_m_Shape_init k_m_Shape_init).binds (ps := ["self", "flags", "lists"]) fun _ _ _ _ _ _ us hl => match us, hl with | [_, _, _], _ => rfl
    mk_Shape := ⟨ma_Shape, a_m_Shape_init, i_m_Shape_init, kc_Shape⟩
    f_m_Shape_note := f_m_Shape_note
    d_m_Shape_note := PySem.W.fnOf "note" "Shape.note" (defArgs s_m_Shape_note) (defBody s_m_Shape_note) (defScope s_m_Shape_note) .none kV_m_Shape_note dc_m_Shape_note pm_m_Shape_note an_m_Shape_note cd_m_Shape_note ct_m_Shape_note
    F_m_Shape_note := fun_mk l_m_Shape_note c_m_Shape_note k_m_Shape_note
    b_m_Shape_note := (fun_mk (st := s_m_Shape_note) l_m_Shape_note c_m_Shape_note k_m_Shape_note).binds (ps := ["self", "lists", "parent"]) fun _ _ _ _ _ _ us hl => match us, hl with | [_, _, _], _ => rfl
    me_m_Shape_note := ⟨a_m_Shape_note, i_m_Shape_note, k_m_Shape_note⟩
    f_m_Shape_eq := f_m_Shape_eq
    d_m_Shape_eq := PySem.W.fnOf "__eq__" "Shape.__eq__" (defArgs s_m_Shape_eq) (defBody s_m_Shape_eq) (defScope s_m_Shape_eq) .none kV_m_Shape_eq dc_m_Shape_eq pm_m_Shape_eq an_m_Shape_eq cd_m_Shape_eq ct_m_Shape_eq
    F_m_Shape_eq := fun_mk l_m_Shape_eq c_m_Shape_eq k_m_Shape_eq
    b_m_Shape_eq := (fun_mk (st := s_m_Shape_eq) l_m_Shape_eq c_m_Shape_eq k_m_Shape_eq).binds (ps := ["self", "other"]) fun _ _ _ _ _ _ us hl => match us, hl with | [_, _], _ => rfl
    me_m_Shape_eq := ⟨a_m_Shape_eq, i_m_Shape_eq, k_m_Shape_eq⟩
    f_m_Shape_entry := f_m_Shape_entry
    d_m_Shape_entry := PySem.W.fnOf "entry" "Shape.entry" (defArgs s_m_Shape_entry) (defBody s_m_Shape_entry) (defScope s_m_Shape_entry) .none kV_m_Shape_entry dc_m_Shape_entry pm_m_Shape_entry an_m_Shape_entry cd_m_Shape_entry ct_m_Shape_entry
    F_m_Shape_entry := fun_mk l_m_Shape_entry c_m_Shape_entry k_m_Shape_entry
    b_m_Shape_entry := (fun_mk (st := s_m_Shape_entry) l_m_Shape_entry c_m_Shape_entry k_m_Shape_entry).binds (ps := ["self", "name"]) fun _ _ _ _ _ _ us hl => match us, hl with | [_, _], _ => rfl
    me_m_Shape_entry := ⟨a_m_Shape_entry, i_m_Shape_entry, k_m_Shape_entry⟩
    f_m_Shape_outer := f_m_Shape_outer
    d_m_Shape_outer := PySem.W.fnOf "outer" "Shape.outer" (defArgs s_m_Shape_outer) (defBody s_m_Shape_outer) (defScope s_m_Shape_outer) .none kV_m_Shape_outer dc_m_Shape_outer pm_m_Shape_outer an_m_Shape_outer cd_m_Shape_outer ct_m_Shape_outer
    F_m_Shape_outer := fun_mk l_m_Shape_outer c_m_Shape_outer k_m_Shape_outer
    b_m_Shape_outer := (fun_mk (st := s_m_Shape_outer) l_m_Shape_outer c_m_Shape_outer k_m_Shape_outer).binds (ps := ["self"]) fun _ _ _ _ _ _ us hl => match us, hl with | [_], _ => rfl
    me_m_Shape_outer := ⟨a_m_Shape_outer, i_m_Shape_outer, k_m_Shape_outer⟩
    f_m_Shape_inner := f_m_Shape_inner
    d_m_Shape_inner := PySem.W.fnOf "inner" "Shape.inner" (defArgs s_m_Shape_inner) (defBody s_m_Shape_inner) (defScope s_m_Shape_inner) .none kV_m_Shape_inner dc_m_Shape_inner pm_m_Shape_inner an_m_Shape_inner cd_m_Shape_inner ct_m_Shape_inner
    F_m_Shape_inner := fun_mk l_m_Shape_inner c_m_Shape_inner k_m_Shape_inner
    b_m_Shape_inner := (fun_mk (st := s_m_Shape_inner) l_m_Shape_inner c_m_Shape_inner k_m_Shape_inner).binds (ps := ["self", "name"]) fun _ _ _ _ _ _ us hl => match us, hl with | [_, _], _ => rfl
    me_m_Shape_inner := ⟨a_m_Shape_inner, i_m_Shape_inner, k_m_Shape_inner⟩
    f_m_Shape_fields := f_m_Shape_fields
    d_m_Shape_fields := PySem.W.fnOf "fields" "Shape.fields" (defArgs s_m_Shape_fields) (defBody s_m_Shape_fields) (defScope s_m_Shape_fields) .none kV_m_Shape_fields dc_m_Shape_fields pm_m_Shape_fields an_m_Shape_fields cd_m_Shape_fields ct_m_Shape_fields
    F_m_Shape_fields := fun_mk l_m_Shape_fields c_m_Shape_fields k_m_Shape_fields
    b_m_Shape_fields := (fun_mk (st := s_m_Shape_fields) l_m_Shape_fields c_m_Shape_fields k_m_Shape_fields).binds (ps := ["self", "name"]) fun _ _ _ _ _ _ us hl => match us, hl with | [_, _], _ => rfl
    me_m_Shape_fields := ⟨a_m_Shape_fields, i_m_Shape_fields, k_m_Shape_fields⟩
    f_m_Shape_parent := f_m_Shape_parent
    d_m_Shape_parent := PySem.W.fnOf "parent" "Shape.parent" (defArgs s_m_Shape_parent) (defBody s_m_Shape_parent) (defScope s_m_Shape_parent) .none kV_m_Shape_parent dc_m_Shape_parent pm_m_Shape_parent an_m_Shape_parent cd_m_Shape_parent ct_m_Shape_parent
    F_m_Shape_parent := fun_mk l_m_Shape_parent c_m_Shape_parent k_m_Shape_parent
    b_m_Shape_parent := (fun_mk (st := s_m_Shape_parent) l_m_Shape_parent c_m_Shape_parent k_m_Shape_parent).binds (ps := ["self", "name"]) fun _ _ _ _ _ _ us hl => match us, hl with | [_, _], _ => rfl
    me_m_Shape_parent := ⟨a_m_Shape_parent, i_m_Shape_parent, k_m_Shape_parent⟩
    f_l_stream := f_l_stream
    d_l_stream := PySem.W.fnOf "_law_stream" "_law_stream" (defArgs s_l_stream) (defBody s_l_stream) (defScope s_l_stream) .none kV_l_stream dc_l_stream pm_l_stream an_l_stream cd_l_stream ct_l_stream
    g_l_stream := PySem.W.mg_of X G a_l_stream
    F_l_stream := fun_mk l_l_stream c_l_stream k_l_stream
    b_l_stream := (fun_mk (st := s_l_stream) l_l_stream c_l_stream k_l_stream).binds (ps := ["_law_script"]) fun _ _ _ _ _ _ us hl => match us, hl with | [_], _ => rfl
    f_l_draw := f_l_draw
    d_l_draw := PySem.W.fnOf "_law_draw" "_law_draw" (defArgs s_l_draw) (defBody s_l_draw) (defScope s_l_draw) .none kV_l_draw dc_l_draw pm_l_draw an_l_draw cd_l_draw ct_l_draw
    g_l_draw := PySem.W.mg_of X G a_l_draw
    F_l_draw := fun_mk l_l_draw c_l_draw k_l_draw
    b_l_draw := (fun_mk (st := s_l_draw) l_l_draw c_l_draw k_l_draw).binds (ps := ["_law_stream_here", "_law_many"]) fun _ _ _ _ _ _ us hl => match us, hl with | [_, _], _ => rfl
    f_l_same := f_l_same
    d_l_same := PySem.W.fnOf "_law_same" "_law_same" (defArgs s_l_same) (defBody s_l_same) (defScope s_l_same) .none kV_l_same dc_l_same pm_l_same an_l_same cd_l_same ct_l_same
    g_l_same := PySem.W.mg_of X G a_l_same
    F_l_same := fun_mk l_l_same c_l_same k_l_same
    b_l_same := (fun_mk (st := s_l_same) l_l_same c_l_same k_l_same).binds (ps := ["_law_actual", "_law_expected"]) fun _ _ _ _ _ _ us hl => match us, hl with | [_, _], _ => rfl
    f_l_copy := f_l_copy
    d_l_copy := PySem.W.fnOf "_law_copy" "_law_copy" (defArgs s_l_copy) (defBody s_l_copy) (defScope s_l_copy) .none kV_l_copy dc_l_copy pm_l_copy an_l_copy cd_l_copy ct_l_copy
    g_l_copy := PySem.W.mg_of X G a_l_copy
    F_l_copy := fun_mk l_l_copy c_l_copy k_l_copy
    b_l_copy := (fun_mk (st := s_l_copy) l_l_copy c_l_copy k_l_copy).binds (ps := ["_law_value"]) fun _ _ _ _ _ _ us hl => match us, hl with | [_], _ => rfl
    f_l_word := f_l_word
    d_l_word := PySem.W.fnOf "_law_word" "_law_word" (defArgs s_l_word) (defBody s_l_word) (defScope s_l_word) .none kV_l_word dc_l_word pm_l_word an_l_word cd_l_word ct_l_word
    g_l_word := PySem.W.mg_of X G a_l_word
    F_l_word := fun_mk l_l_word c_l_word k_l_word
    b_l_word := (fun_mk (st := s_l_word) l_l_word c_l_word k_l_word).binds (ps := ["_law_stream_here"]) fun _ _ _ _ _ _ us hl => match us, hl with | [_], _ => rfl
    f_l_names := f_l_names
    d_l_names := PySem.W.fnOf "_law_names" "_law_names" (defArgs s_l_names) (defBody s_l_names) (defScope s_l_names) .none kV_l_names dc_l_names pm_l_names an_l_names cd_l_names ct_l_names
    g_l_names := PySem.W.mg_of X G a_l_names
    F_l_names := fun_mk l_l_names c_l_names k_l_names
    b_l_names := (fun_mk (st := s_l_names) l_l_names c_l_names k_l_names).binds (ps := ["_law_stream_here", "_law_many", "_law_taken"]) fun _ _ _ _ _ _ us hl => match us, hl with | [_, _, _], _ => rfl
    f_l_fields := f_l_fields
    d_l_fields := PySem.W.fnOf "_law_fields" "_law_fields" (defArgs s_l_fields) (defBody s_l_fields) (defScope s_l_fields) .none kV_l_fields dc_l_fields pm_l_fields an_l_fields cd_l_fields ct_l_fields
    g_l_fields := PySem.W.mg_of X G a_l_fields
    F_l_fields := fun_mk l_l_fields c_l_fields k_l_fields
    b_l_fields := (fun_mk (st := s_l_fields) l_l_fields c_l_fields k_l_fields).binds (ps := ["_law_stream_here", "_law_most"]) fun _ _ _ _ _ _ us hl => match us, hl with | [_, _], _ => rfl
    f_l_lists := f_l_lists
    d_l_lists := PySem.W.fnOf "_law_lists" "_law_lists" (defArgs s_l_lists) (defBody s_l_lists) (defScope s_l_lists) .none kV_l_lists dc_l_lists pm_l_lists an_l_lists cd_l_lists ct_l_lists
    g_l_lists := PySem.W.mg_of X G a_l_lists
    F_l_lists := fun_mk l_l_lists c_l_lists k_l_lists
    b_l_lists := (fun_mk (st := s_l_lists) l_l_lists c_l_lists k_l_lists).binds (ps := ["_law_stream_here", "_law_most"]) fun _ _ _ _ _ _ us hl => match us, hl with | [_, _], _ => rfl
    f_l_about := f_l_about
    d_l_about := PySem.W.fnOf "_law_about" "_law_about" (defArgs s_l_about) (defBody s_l_about) (defScope s_l_about) .none kV_l_about dc_l_about pm_l_about an_l_about cd_l_about ct_l_about
    g_l_about := PySem.W.mg_of X G a_l_about
    F_l_about := fun_mk l_l_about c_l_about k_l_about
    b_l_about := (fun_mk (st := s_l_about) l_l_about c_l_about k_l_about).binds (ps := ["_law_lists_here"]) fun _ _ _ _ _ _ us hl => match us, hl with | [_], _ => rfl
    f_l_missing := f_l_missing
    d_l_missing := PySem.W.fnOf "_law_missing" "_law_missing" (defArgs s_l_missing) (defBody s_l_missing) (defScope s_l_missing) .none kV_l_missing dc_l_missing pm_l_missing an_l_missing cd_l_missing ct_l_missing
    g_l_missing := PySem.W.mg_of X G a_l_missing
    F_l_missing := fun_mk l_l_missing c_l_missing k_l_missing
    b_l_missing := (fun_mk (st := s_l_missing) l_l_missing c_l_missing k_l_missing).binds (ps := ["_law_shape", "_law_name", "_law_way"]) fun _ _ _ _ _ _ us hl => match us, hl with | [_, _, _], _ => rfl
    f_l_told := f_l_told
    d_l_told := PySem.W.fnOf "_law_told" "_law_told" (defArgs s_l_told) (defBody s_l_told) (defScope s_l_told) .none kV_l_told dc_l_told pm_l_told an_l_told cd_l_told ct_l_told
    g_l_told := PySem.W.mg_of X G a_l_told
    F_l_told := fun_mk l_l_told c_l_told k_l_told
    b_l_told := (fun_mk (st := s_l_told) l_l_told c_l_told k_l_told).binds (ps := ["_law_shape", "_law_lists_here"]) fun _ _ _ _ _ _ us hl => match us, hl with | [_, _], _ => rfl
    f_law := f_law
    d_law := PySem.W.fnOf "law" "law" (defArgs s_law) (defBody s_law) (defScope s_law) .none kV_law dc_law pm_law an_law cd_law ct_law
    g_law := PySem.W.mg_of X G a_law
    F_law := fun_mk l_law c_law k_law
    b_law := (fun_mk (st := s_law) l_law c_law k_law).binds (ps := ["_law_script"]) fun _ _ _ _ _ _ us hl => match us, hl with | [_], _ => rfl
    z_all := PySem.W.mg_none_of X G z_all
    z_bool := PySem.W.mg_none_of X G z_bool
    z_dict := PySem.W.mg_none_of X G z_dict
    z_int := PySem.W.mg_none_of X G z_int
    z_isinstance := PySem.W.mg_none_of X G z_isinstance
    z_len := PySem.W.mg_none_of X G z_len
    z_list := PySem.W.mg_none_of X G z_list
    z_range := PySem.W.mg_none_of X G z_range
    z_set := PySem.W.mg_none_of X G z_set
    z_sorted := PySem.W.mg_none_of X G z_sorted
    z_str := PySem.W.mg_none_of X G z_str
    z_tuple := PySem.W.mg_none_of X G z_tuple
    }, rfl, fun s v => .of_eq rfl⟩
end G
set_option Elab.async false
set_option linter.all false
set_option maxRecDepth 100000
set_option maxHeartbeats 4000000
namespace G
open PySem L2 Nd
section
variable {P : Program} {w : World} {K : PySem.W.Frag} {mg : Str → Option Value} {base : Heap}
theorem ok_l_draw (T : Txt K mg) : FnOk P w K mg base CX0 1 T.f_l_draw T.d_l_draw ["_law_stream_here", "_law_many"] spDraw := by
  refine T.F_l_draw.ok sc_l_draw (fun vs H Q E h => ?_) (fun cdv A outer s H vs Q E hr h => ?_)
  · obtain ⟨st, cs, m, rfl, _⟩ := h
    rfl
  · obtain ⟨st, cs, m, rfl, S, hm, hm2, k⟩ := h
    obtain ⟨ns, j, h1, h2, hne, hlen⟩ := S.ex
    have hne1 : cs ≠ st := Ne.symm S.ne
    have hpos : (0 : Int) < ((ns.map V.int).length : Int) := by
      rw [List.length_map]
      have : 0 < ns.length := List.length_pos_iff.mpr hne
      omega
    refine ⟨_, (pss_cons (ps_set (i := 2) sc_l_draw.nd rfl (Or.inl rfl) (pe_ix ix_list (pv 0) pe_int (fun _ _ => rfl)))
        (pss_cons (ps_set (i := 3) sc_l_draw.nd rfl (Or.inl rfl) (pe_ix ix_list (pv 0) pe_int (fun _ _ => rfl)))
        (pss_cons (ps_asg (pe_op op_add (pv 3) pe_int) (pg_sub (pv 0) pe_int set_list))
        (pss_cons (ps_set (i := 4) sc_l_draw.nd rfl (Or.inl rfl) (pe_op op_modN (pe_callTy call_int1 (by rfl) T.z_int (by decide +kernel) (pa_cons (pv 3) pa_nil)) (pe_callB call_len_seq (by rfl) T.z_len (by decide +kernel) (pa_cons (pv 2) pa_nil))))
        (pss_cons (ps_set (i := 5) sc_l_draw.nd rfl (Or.inl rfl) (pe_ix ix_list (pv 2) (pv 4) (fun _ _ => rfl)))
        (pss_cons (ps_if (pt_cmpR op_ge (pv 5) (pe_op op_pow pe_int pe_int) (nomark _))
          (pss_cons (ps_asg (pe_op op_fdivW (pv 5) (pv 1)) (pg_sub (pv 2) (pv 4) set_list))
          (pss_one (ps_ret (pe_op op_modN (pe_callTy call_int1 (by rfl) T.z_int (by decide +kernel) (pa_cons (pv 5) pa_nil)) (pv 1)))))
          pss_nil)
        (pss_cons (ps_set (i := 6) sc_l_draw.nd rfl (Or.inl rfl) (pe_op op_modN (pe_op op_mul (pe_callTy call_int1 (by rfl) T.z_int (by decide +kernel) (pa_cons (pe_op op_add (pe_op op_add (pv 5) (pe_op op_mul pe_int (pv 3))) pe_int) pa_nil)) pe_int) pe_int))
        (pss_cons (ps_set (i := 6) sc_l_draw.nd rfl (Or.inl rfl) (pe_op op_modN (pe_callTy call_int1 (by rfl) T.z_int (by decide +kernel) (pa_cons (pe_op op_mul (pv 6) (pe_op op_add (pe_op op_fdivN (pv 6) pe_int) pe_int)) pa_nil)) pe_int))
        (pss_cons (ps_set (i := 6) sc_l_draw.nd rfl (Or.inl rfl) (pe_op op_modN (pe_callTy call_int1 (by rfl) T.z_int (by decide +kernel) (pa_cons (pe_op op_mul (pv 6) (pe_op op_add (pe_op op_fdivN (pv 6) pe_int) pe_int)) pa_nil)) pe_int))
        (pss_one (ps_ret (pe_op op_modN (pe_callTy call_int1 (by rfl) T.z_int (by decide +kernel) (pa_cons (pv 6) pa_nil)) (pv 1))))))))))))), ?_⟩
    -- cells, step
    refine ⟨_, rfl, st, _, 0, .ref cs, rfl, rfl, SqL.of h1, rfl, _, rfl, st, _, 1, .int j, rfl, rfl, SqL.of h1, rfl, ?_⟩
    -- stream[1] = step + 1
    refine ⟨_, rfl, _, _, rfl, rfl, _, rfl, st, _, 1, 1, rfl, rfl, h1, rfl, ?_⟩
    have g1 : upd H st (.lst ([V.ref cs, V.int j].set 1 (V.int (j + 1)))) cs = some (.lst (ns.map V.int)) := by rw [upd_ne hne1]; exact h2
    -- at
    refine ⟨_, rfl, .inl ⟨_, rfl, _, rfl, cs, _, rfl, .inl (SqL.of g1), _, _, rfl, rfl, (by show ((ns.map V.int).length : Int) ≠ 0; omega), ?_⟩⟩
    obtain ⟨b1, b2⟩ := fmod_pos (a := j) hpos
    obtain ⟨at', hat⟩ : ∃ n : Nat, j.fmod ((ns.map V.int).length : Int) = (n : Int) := ⟨_, (Int.toNat_of_nonneg b1).symm⟩
    have hlt : at' < ns.length := by rw [hat, List.length_map] at b2; omega
    have hitem : (ns.map V.int)[at']? = some (.int ns[at']) := by rw [List.getElem?_map, List.getElem?_eq_getElem hlt]; rfl
    have S1 : Stm (upd H st (.lst ([V.ref cs, V.int j].set 1 (V.int (j + 1))))) st cs := ⟨S.ne, ns, j + 1, upd_same, g1, hne, hlen⟩
    have R1 : Sm [st, cs] H (upd H st (.lst ([V.ref cs, V.int j].set 1 (V.int (j + 1))))) := (Sm.refl _ _).upd (by simp)
    -- cell
    refine ⟨_, rfl, _, rfl, cs, _, _, .int ns[at'], rfl, rfl, SqL.of g1, at_of hat hitem, ?_⟩
    refine ⟨_, rfl, _, _, rfl, rfl, ⟨by decide, by decide, by decide⟩, _, _, rfl, rfl, _, rfl, ?_⟩
    refine ite2 (fun _ => ?_) (fun _ => ?_)
    · refine ⟨_, rfl, _, rfl, _, _, rfl, rfl, wide_div hm hm2 (by decide) (by decide), _, rfl, _, rfl, cs, _, _, at', rfl, rfl, g1, ixN_of hat (by rw [List.length_map]; exact hlt), ?_⟩
      refine ⟨_, rfl, .inl ⟨_, rfl, _, rfl, _, _, rfl, rfl, Int.ne_of_gt hm, ?_⟩⟩
      obtain ⟨c1, c2⟩ := fmod_pos (a := ns[at']) hm
      have e : (ns.map V.int).set at' (V.int (ns[at'] / m)) = (ns.set at' (ns[at'] / m)).map V.int := by rw [List.map_set]
      refine k _ _ c1 c2 ⟨S.ne, ns.set at' (ns[at'] / m), j + 1, ?_, ?_, ?_, ?_⟩ (R1.upd (by simp))
      · rw [upd_ne S.ne]; exact upd_same
      · rw [← e]; exact upd_same
      · intro z; apply hne; rw [← List.length_eq_zero_iff] at z ⊢; rw [List.length_set] at z; exact z
      · rw [List.length_set]; exact hlen
    · refine ⟨_, rfl, _, rfl, _, _, rfl, rfl, .inl ⟨by decide, by decide⟩, _, _, rfl, rfl, _, _, rfl, rfl, .inl ⟨_, rfl, _, _, rfl, rfl, .inr ⟨by decide, by decide⟩, _, _, rfl, rfl, (by show (2147483647 : Int) ≠ 0; decide), ?_⟩⟩
      refine ⟨_, rfl, _, rfl, _, _, rfl, rfl, ⟨by decide, by decide⟩, _, _, rfl, rfl, _, _, rfl, rfl, .inl (fm64 (by decide) (by decide)), .inl ⟨_, rfl, _, _, rfl, rfl, (by show (2147483647 : Int) ≠ 0; decide), ?_⟩⟩
      refine ⟨_, rfl, _, rfl, _, _, rfl, rfl, ⟨by decide, by decide⟩, _, _, rfl, rfl, _, _, rfl, rfl, .inl (fm64 (by decide) (by decide)), .inl ⟨_, rfl, _, _, rfl, rfl, (by show (2147483399 : Int) ≠ 0; decide), ?_⟩⟩
      exact ⟨_, rfl, .inl ⟨_, rfl, _, rfl, _, _, rfl, rfl, Int.ne_of_gt hm, k _ _ (fmod_pos hm).1 (fmod_pos hm).2 S1 R1⟩⟩
end
end G
set_option Elab.async false
set_option linter.all false
set_option maxRecDepth 100000
set_option maxHeartbeats 400000
/-! Words, lists of words, dicts with given keys: plain readings, promises, a walk over a list or a tuple. -/
namespace G
open PySem L2 Nd
mutual
/-- texts and sequences of at most 1000 -/
def smD : Dat → Bool
  | .str z => decide (z.length ≤ 1000)
  | .lst xs => decide (xs.length ≤ 1000) && smDs xs
  | .tup xs => decide (xs.length ≤ 1000) && smDs xs
  | .dic ks xs => decide (ks.length ≤ 1000) && (ks.all fun z => decide (z.length ≤ 1000)) && smDs xs
  | _ => true
def smDs : List Dat → Bool
  | [] => true
  | d :: ds => smD d && smDs ds
end
def signB (c : Nat) : Bool := decide (97 ≤ c) && decide (c ≤ 122)
def wordZ (z : Str) : Bool := decide (1 ≤ z.length) && decide (z.length ≤ 8) && z.cps.toList.all signB
def isWordD : Dat → Bool
  | .str z => wordZ z
  | _ => false
def textsD : List Dat → List Str
  | .str z :: ds => z :: textsD ds
  | _ :: ds => textsD ds
  | [] => []
def wordsL (lo hi : Int) (ds : List Dat) : Bool := decide (lo ≤ (ds.length : Int)) && decide ((ds.length : Int) ≤ hi) && ds.all isWordD && decide ((textsD ds).Nodup)
def areWordsD (lo hi : Int) : Dat → Bool
  | .lst ds => wordsL lo hi ds
  | .tup ds => wordsL lo hi ds
  | _ => false
def hasKeysD (ns : List Str) : Dat → Bool
  | .dic ks _ => decide (ks.length = ns.length) && ns.all fun n => decide (n ∈ ks)
  | _ => false
def spIsWord : Sp := fun vs H Q _ => ∃ (v : V) (P : Addr → Prop) (d : Dat), vs = [v] ∧ At P H v d ∧ smD d = true ∧ ∀ H', Same H H' → Q (.bl (isWordD d)) H'
def spAreWords : Sp := fun vs H Q _ => ∃ (v : V) (lo hi : Int) (P : Addr → Prop) (d : Dat), vs = [v, .int lo, .int hi] ∧ hi ≤ 50 ∧ At P H v d ∧ smD d = true ∧ ∀ H', Same H H' → Q (.bl (areWordsD lo hi d)) H'
/-- ns stands in the list or tuple at v -/
def TxAt (H : Hp) (v : V) (ns : List Str) : Prop := ∃ a, v = .ref a ∧ (H a = some (.lst (ns.map V.str)) ∨ H a = some (.tup (ns.map V.str)))
def spHasKeys : Sp := fun vs H Q _ => ∃ (v u : V) (P : Addr → Prop) (d : Dat) (ns : List Str), vs = [v, u] ∧ At P H v d ∧ ns.length ≤ 1000 ∧ TxAt H u ns ∧ ∀ H', Same H H' → Q (.bl (hasKeysD ns d)) H'
/-- a walk over a list or a tuple -/
def SeqR (K : PySem.W.Frag) (R : It → Hp → Prop) (a : Addr) (H1 : Hp) : Prop := (∃ xs, SqL K H1 a xs) ∧ R (Itl K a) H1 ∨ (∃ xs, SqT K H1 a xs) ∧ R (Itt K a) H1
def iSeqA (K : PySem.W.Frag) (tl : TE) : TI := fun σ H R => tl σ H fun x H1 => ∃ a, x = .ref a ∧ SeqR K R a H1
theorem pi_seqA {X : Cx} {tg l : Expr} {tl : TE} (hl : PE X l tl) : PI X tg l (iSeqA X.K tl) := by
  refine ⟨fun pins s σ H R I h => ?_⟩
  refine thn (hl.run pins s σ H _ I h) fun v s1 ⟨x, H1, I1, r1, q1⟩ => ?_
  obtain ⟨a, e, ⟨⟨xs, hq⟩, q⟩ | ⟨⟨xs, hq⟩, q⟩⟩ := q1
  · subst e
    cases r1
    obtain ⟨its, rv, p, hz⟩ := I1.list hq
    refine wpAny_pyIter_list p.isList ⟨_, [s1.heap.objs.size], _, _, H1, rfl, I1.kept (t' := s1.toks) fun b o e => Heap.get?_push_of_some _ e, turn_list a _, ⟨_, Heap.get?_push_size _ rfl, rfl, rfl⟩, fun b hb => ?_, q⟩
    obtain rfl : b = s1.heap.objs.size := by simpa using hb
    exact I1.fpOk (Nat.le_refl _) (I1.hok.fresh (Nat.le_refl _))
  · subst e
    cases r1
    obtain ⟨its, rv, p, hz⟩ := I1.tuple hq
    refine wpAny_pyIter_tuple (show s1.heap.IsTuple a its.toArray from p) ⟨_, [s1.heap.objs.size], _, _, H1, rfl, I1.kept (t' := s1.toks) fun b o e => Heap.get?_push_of_some _ e, turn_tuple a _, ⟨_, Heap.get?_push_size _ rfl, rfl, rfl⟩, fun b hb => ?_, q⟩
    obtain rfl : b = s1.heap.objs.size := by simpa using hb
    exact I1.fpOk (Nat.le_refl _) (I1.hok.fresh (Nat.le_refl _))
theorem seqA {K : PySem.W.Frag} {R : It → Hp → Prop} {H1 : Hp} {a : Addr} {vs : List V} {o : HO} (ho : H1 a = some o) (hs : o = .lst vs ∨ o = .tup vs) (h : ∀ J, Walk J vs.length (fun H => H a = some o) (YAt vs) → R J H1) : SeqR K R a H1 := by
  rcases hs with rfl | rfl
  · exact .inl ⟨⟨vs, SqL.of ho⟩, h _ (walk_list.mono (fun H q => SqL.of q) fun _ _ _ _ _ _ y => y)⟩
  · exact .inr ⟨⟨vs, SqT.of ho⟩, h _ (walk_tup.mono (fun H q => SqT.of q) fun _ _ _ _ _ _ y => y)⟩
theorem seqX {K : PySem.W.Frag} {H1 : Hp} {a : Addr} {vs : List V} {o : HO} (ho : H1 a = some o) (hs : o = .lst vs ∨ o = .tup vs) : SqL K H1 a vs ∨ SqT K H1 a vs := by
  rcases hs with rfl | rfl
  · exact .inl (SqL.of ho)
  · exact .inr (SqT.of ho)
theorem at_seq {K : PySem.W.Frag} {P : Addr → Prop} {H : Hp} {v : V} {d : Dat} (h : At P H v d) : (∃ t, TyX K H v t ∧ PySem.W.kitAny K t [.type "list", .type "tuple"] = some false ∧ ∀ lo hi, areWordsD lo hi d = false) ∨
    ∃ (a : Addr) (o : HO) (vs : List V) (ds : List Dat) (t : Value), v = .ref a ∧ H a = some o ∧ (o = .lst vs ∨ o = .tup vs) ∧ Ats P H vs ds ∧ TyX K H v t ∧ PySem.W.kitAny K t [.type "list", .type "tuple"] = some true ∧
      smD d = (decide (ds.length ≤ 1000) && smDs ds) ∧ ∀ lo hi, areWordsD lo hi d = wordsL lo hi ds := by
  have no : ∀ {s : String}, kitB s "list" = some false → kitB s "tuple" = some false → PySem.W.kitAny K (.type s) [.type "list", .type "tuple"] = some false := fun a b =>
    kitAny_cons (kit_ty a) (fun _ => kitAny_cons (kit_ty b) (fun _ => kitAny_nil) (fun z => nomatch z)) (fun z => nomatch z)
  cases h with
  | non => exact .inl ⟨_, .base .non, no (by decide +kernel) (by decide +kernel), fun _ _ => rfl⟩
  | bl b => exact .inl ⟨_, .base (.bl b), no (by decide +kernel) (by decide +kernel), fun _ _ => rfl⟩
  | int i => exact .inl ⟨_, .base (.int i), no (by decide +kernel) (by decide +kernel), fun _ _ => rfl⟩
  | str z => exact .inl ⟨_, .base (.str z), no (by decide +kernel) (by decide +kernel), fun _ _ => rfl⟩
  | dic q _ _ _ _ => exact .inl ⟨_, .base (.dK q), no (by decide +kernel) (by decide +kernel), fun _ _ => rfl⟩
  | lst q _ r => exact .inr ⟨_, _, _, _, _, rfl, q, .inl rfl, r, .base (.lst q), kitAny_cons (b := true) (kit_ty (by decide +kernel)) (fun z => nomatch z) (fun _ => rfl), by rw [smD], fun _ _ => rfl⟩
  | tup q r => exact .inr ⟨_, _, _, _, _, rfl, q, .inr rfl, r, .base (.tup q), kitAny_cons (b := false) (kit_ty (by decide +kernel)) (fun _ => kitAny_cons (b := true) (kit_ty (by decide +kernel)) (fun z => nomatch z) (fun _ => rfl)) (fun z => nomatch z), by rw [smD], fun _ _ => rfl⟩
theorem smDs_get : ∀ {ds : List Dat} {i : Nat} {d : Dat}, smDs ds = true → ds[i]? = some d → smD d = true
  | [], _, _, _, h => by simp at h
  | e :: es, 0, d, s, h => by simp at h; subst h; rw [smDs, Bool.and_eq_true] at s; exact s.1
  | e :: es, i + 1, d, s, h => by rw [smDs, Bool.and_eq_true] at s; exact smDs_get s.2 (by simpa using h)
theorem texts_at {P : Addr → Prop} {H : Hp} : ∀ {vs : List V} {ds : List Dat}, Ats P H vs ds → ds.all isWordD = true → vs = (textsD ds).map V.str ∧ (textsD ds).length = ds.length
  | _, _, .nil, _ => ⟨rfl, rfl⟩
  | _, _, .cons a b, h => by
    rw [List.all_cons, Bool.and_eq_true] at h
    obtain ⟨r1, r2⟩ := texts_at b h.2
    cases a with
    | str z => rw [textsD, List.map_cons, ← r1]; exact ⟨rfl, by rw [List.length_cons, List.length_cons, r2]⟩
    | non => simp [isWordD] at h
    | bl => simp [isWordD] at h
    | int => simp [isWordD] at h
    | lst => simp [isWordD] at h
    | tup => simp [isWordD] at h
    | dic => simp [isWordD] at h
theorem look_some {α : Type} {j : Str} : ∀ {ks : List Str} {vs : List α}, ks.length = vs.length → (lookD ks vs j).isSome = decide (j ∈ ks)
  | [], _, _ => by simp [lookD]
  | _ :: _, [], h => by simp at h
  | k :: ks, v :: vs, h => by
    rw [lookD]
    by_cases e : k = j
    · rw [if_pos e]; simp [e]
    · rw [if_neg e, look_some (by simpa using h)]
      exact decide_eq_decide.mpr ⟨fun z => List.mem_cons_of_mem _ z, fun z => (List.mem_cons.mp z).resolve_left fun y => e y.symm⟩
theorem same_none {H H' : Hp} (h : Same H H') {a : Addr} (n : H' a = none) : H a = none := by
  cases q : H a with
  | none => rfl
  | some o => rw [h a o q] at n; cases n
theorem ifT {p q : Prop} (h : p) : if true = true then p else q := h
theorem ifF {p q : Prop} (h : q) : if false = true then p else q := h
theorem strLt {c d : Nat} : ([c] < [d]) ↔ c < d := by
  constructor
  · intro h
    cases h with
    | rel h => exact h
    | cons h => cases h
  · exact fun h => .rel h
end G
set_option Elab.async false
set_option linter.all false
set_option maxRecDepth 100000
set_option maxHeartbeats 400000
/-! Descriptions of shapes as plain data. -/
namespace G
open PySem L2 Nd
def tupW (ws : List Str) : Dat := .tup (ws.map Dat.str)
def FldD (d : Dat) : Prop := ∃ (ks : List Str) (xs : List Dat), d = .dic ks xs ∧ ks.length ≤ 2 ∧ (∀ k ∈ ks, wordZ k = true) ∧ ∀ x ∈ xs, ∃ ws : List Str, x = tupW ws ∧ wordsL 2 3 (ws.map Dat.str) = true
def DesD (m : Int) (d : Dat) (I : Dat → Prop) : Prop := ∃ (ks : List Str) (xs : List Dat), d = .dic ks xs ∧ (ks.length : Int) ≤ m ∧ (∀ k ∈ ks, wordZ k = true) ∧
  ∀ x ∈ xs, ∃ (js : List Str) (ys : List Dat) (f i : Dat), x = .dic js ys ∧ js.length = 2 ∧ lookD js ys "fields" = some f ∧ lookD js ys "inner" = some i ∧ FldD f ∧ I i
/-- lists, nested n deep -/
def LsD : Nat → Int → Dat → Prop
  | 0, _, d => d = .dic [] []
  | n + 1, m, d => DesD m d (LsD n 1)
def innerD : Dat → Dat
  | .dic js ys => (lookD js ys "inner").getD (.dic [] [])
  | _ => .dic [] []
def fieldsD : Dat → Dat
  | .dic js ys => (lookD js ys "fields").getD (.dic [] [])
  | _ => .dic [] []
def namesZ (f : Dat → List Str) : List Str → List Dat → List Str
  | k :: ks, x :: xs => k :: f (innerD x) ++ namesZ f ks xs
  | _, _ => []
def namesD : Nat → Dat → List Str
  | 0, _ => []
  | n + 1, .dic ks xs => namesZ (namesD n) ks xs
  | _ + 1, _ => []
def spFldForm : Sp := fun vs H Q _ => ∃ (v : V) (P : Addr → Prop) (d : Dat), vs = [v] ∧ At P H v d ∧ FldD d ∧ ∀ H', Same H H' → Q (.bl true) H'
def spLsForm (n : Nat) : Sp := fun vs H Q _ => ∃ (v : V) (m : Int) (P : Addr → Prop) (d : Dat), vs = [v, .int m, .int n] ∧ At P H v d ∧ LsD (n + 1) m d ∧ ∀ H', Same H H' → Q (.bl true) H'
def spAllFld (n : Nat) : Sp := fun vs H Q _ => ∃ (v : V) (m : Int) (P : Addr → Prop) (d : Dat), vs = [v] ∧ At P H v d ∧ LsD n m d ∧ ∀ H', Same H H' → Q (.bl true) H'
def spAllNames (n : Nat) : Sp := fun vs H Q _ => ∃ (v : V) (m : Int) (P : Addr → Prop) (d : Dat), vs = [v] ∧ At P H v d ∧ LsD n m d ∧ (namesD n d).length ≤ 1000 ∧ ∀ (H' : Hp) (p : Addr), Same H H' → H p = none → H' p = some (.lst ((namesD n d).map V.str)) → Q (.ref p) H'
theorem word_sm {z : Str} (h : wordZ z = true) : smD (.str z) = true := by
  rw [wordZ, Bool.and_eq_true, Bool.and_eq_true] at h
  have := of_decide_eq_true h.1.2
  rw [smD]
  exact decide_eq_true (by omega)
theorem isWord_str {z : Str} (h : wordZ z = true) : isWordD (.str z) = true := h
theorem smDs_words : ∀ {ws : List Str}, ((ws.map Dat.str).all isWordD) = true → smDs (ws.map Dat.str) = true
  | [], _ => rfl
  | z :: ws, h => by
    rw [List.map_cons, List.all_cons, Bool.and_eq_true] at h
    rw [List.map_cons, smDs, word_sm h.1, smDs_words h.2]
    rfl
theorem words_sm {ws : List Str} {lo hi : Int} (h : wordsL lo hi (ws.map Dat.str) = true) (hh : hi ≤ 50) : smD (tupW ws) = true := by
  rw [wordsL, Bool.and_eq_true, Bool.and_eq_true, Bool.and_eq_true] at h
  have := of_decide_eq_true h.1.1.2
  rw [tupW, smD, smDs_words h.1.2, Bool.and_true]
  exact decide_eq_true (by omega)
/-- a child of a locked dict -/
theorem kid {P : Addr → Prop} {H H2 : Hp} {e : Addr} {ks : List Str} {xs : List Dat} {vs : List V} {od : Obj} (h : At P H (.ref e) (.dic ks xs)) (he : H e = some (.dK (dkv ks vs))) (l : ks.length = vs.length)
    (s2 : Same (upd H e (.frz od (.dK (dkv ks vs)))) H2) {i : Nat} {v : V} (hv : vs[i]? = some v) : ∃ x, xs[i]? = some x ∧ x ∈ xs ∧ At (fun b => P b ∧ b ≠ e) H2 v x := by
  have h0 := h
  cases h with
  | @dic _ _ ws _ g pg nd lk r =>
    rw [he] at g
    injection g with g
    injection g with g
    obtain ⟨_, g2⟩ := dkv_inj l lk g
    subst g2
    obtain ⟨x, hx, ax⟩ := r.get hv
    have sz := sizDs_get hx
    exact ⟨x, hx, List.mem_of_getElem? hx, At.same (At.keep (Kd.lock he (fun _ z => nomatch z)) _ _ (At.apart h0 x v ax (by rw [sizD]; omega))) s2⟩
theorem has_two {js : List Str} {ys : List Dat} {f i : Dat} (l : js.length = 2) (h1 : lookD js ys "fields" = some f) (h2 : lookD js ys "inner" = some i) : hasKeysD ["fields", "inner"] (.dic js ys) = true := by
  obtain ⟨a, p1, _⟩ := lookD_some h1
  obtain ⟨b, p2, _⟩ := lookD_some h2
  have m1 := List.mem_of_getElem? p1
  have m2 := List.mem_of_getElem? p2
  rw [hasKeysD]
  simp [l, m1, m2]
/-- a part of a description, read -/
theorem at_look {P : Addr → Prop} {H : Hp} {v : V} {js : List Str} {ys : List Dat} {k : Str} {f : Dat} (h : At P H v (.dic js ys)) (h1 : lookD js ys k = some f) : ∃ (b : Addr) (u : V), v = .ref b ∧ DGet H b (.str k) (some u) ∧ At P H u f := by
  cases h with
  | @dic b _ ws _ g pg nd lk r =>
    rcases r.look (k := k) (ks := js) with ⟨_, z⟩ | ⟨u, d, z1, z2, z3⟩
    · rw [h1] at z; cases z
    · rw [h1] at z2
      cases z2
      exact ⟨b, u, rfl, .inl ⟨_, .inr k, .inl g, rfl, by rw [valV_dkv, z1]⟩, z3⟩
theorem namesZ_nil (f : Dat → List Str) : ∀ ks : List Str, namesZ f ks [] = []
  | [] => rfl
  | _ :: _ => rfl
theorem namesZ_split (f : Dat → List Str) : ∀ (j : Nat) (ks : List Str) (xs : List Dat), namesZ f ks xs = namesZ f (ks.take j) (xs.take j) ++ namesZ f (ks.drop j) (xs.drop j)
  | 0, ks, xs => by simp [namesZ]
  | j + 1, [], xs => by simp [namesZ]
  | j + 1, k :: ks, [] => by simp [namesZ, namesZ_nil]
  | j + 1, k :: ks, x :: xs => by
    have ih := namesZ_split f j ks xs
    simp only [List.take_succ_cons, List.drop_succ_cons, namesZ, List.append_assoc, List.cons_append]
    rw [ih]
theorem namesZ_take {f : Dat → List Str} {i : Nat} {ks : List Str} {xs : List Dat} {k : Str} {x : Dat} (h1 : ks[i]? = some k) (h2 : xs[i]? = some x) : namesZ f (ks.take (i + 1)) (xs.take (i + 1)) = namesZ f (ks.take i) (xs.take i) ++ (k :: f (innerD x)) := by
  rw [namesZ_split f i (ks.take (i + 1))]
  have l1 := (List.getElem?_eq_some_iff.mp h1).1
  have l2 := (List.getElem?_eq_some_iff.mp h2).1
  rw [List.take_take, List.take_take, Nat.min_eq_left (Nat.le_succ i), List.take_add_one, List.take_add_one, h1, h2]
  rw [List.drop_append_of_le_length (by simp; omega), List.drop_append_of_le_length (by simp; omega)]
  rw [List.drop_eq_nil_of_le (by simp; omega), List.drop_eq_nil_of_le (by simp; omega)]
  simp [namesZ]
theorem namesZ_len {f : Dat → List Str} {i : Nat} (ks : List Str) (xs : List Dat) : (namesZ f (ks.take i) (xs.take i)).length ≤ (namesZ f ks xs).length := by
  rw [namesZ_split f i ks xs, List.length_append]
  omega
end G
set_option Elab.async false
set_option linter.all false
set_option maxRecDepth 100000
set_option maxHeartbeats 800000
/-! tuple(d): the keys of a dict. -/
namespace Td
open PySem PySem.Spec PyProof.Rows L2
section
variable {prog : Program} {w : World} {A : Around} {E : Value → Shared → Prop} {s : Shared}
theorem new_tuple {T : String} {r d : Addr} {n : Nat} {Pk : Nat → Value → Prop} {OK : Heap → Prop} {Q₁ : Value → Shared → Prop} (K : PySem.W.KdlSrc prog w T r d n Pk OK) (hh : A.handled = none) (hok : OK s.heap) (hT : s.TypeIs (.ref r) T) (hn : n ≤ sizeLine) (ht : T = "dict")
    (h : ∀ (h' : Heap) (tk : Nat) (acc : Array Value), (∀ b o, s.heap.get? b = some o → h'.get? b = some o) → ItemsOf Pk acc n →
      Q₁ (.ref h'.objs.size) { s with heap := h'.push { cls := .type "tuple", data := .seq acc }, toks := tk }) :
    codeAny (model prog w) A (.call (.builtin "tuple.__new__") ⟨[.type "tuple", .ref r], []⟩) (wants Q₁ E) s := by
  subst ht
  refine codeAny_of_tree ?_
  show wpAny _ A.in1 (do checkBuiltinCall "tuple.__new__" ⟨[.type "tuple", .ref r], []⟩; again (.builtin "tuple.__new__" ⟨[.type "tuple", .ref r], []⟩)) _ _ s
  refine wpAny_bind (wpAny_of_eq (F.newCall_tuple_1 _) (wpAny_pure ⟨plainId_quiet F.plain_tuple_new _, codeAny_builtin F.entry_tuple_new ?_⟩))
  rw [Around.under_plainId F.plain_tuple_new _]
  have hsub := sub_tuple_self
  have hinit := init_tuple_lookup
  have hmh := madeHere_tuple
  have hh1 : A.in1.handled = none := hh
  wp_walk using wpAny_typeOf hT, PySem.W.kdu_collect (A := A.in1) K hh1 hok hn
  intro h' tk acc hk hacc
  show wpAny _ _ (Builtin.Tuple.tupleExact acc.toList.toArray >>= fun v => ret v) _ _ _
  unfold Builtin.Tuple.tupleExact
  refine wpAny_bind (wpAny_newObj_type ?_ (by show acc.toList.toArray.size ≤ sizeLine; simp only [Array.toArray_toList]; rw [hacc.1]; exact hn))
  refine wpAny_pure ?_
  rw [Array.toArray_toList]
  exact h h' tk acc hk hacc
end
section
variable {X : Cx}
theorem call_tupleD (hcalm : X.calm = true) : CallR X (.type "tuple") (fun xs H Q => ∃ (a : Addr) (kvs : List (Key × V)), xs = [.ref a] ∧ Rd H a (.dK kvs) ∧ ∀ p, H p = none → Q (.ref p) (upd H p (.tup (kvs.map fun kv => kV kv.1)))) := by
  intro pins s σ H xs us Q I r q
  obtain ⟨a, kvs, rfl, hd, q⟩ := q
  obtain ⟨u, rfl, rx⟩ := vals1 r
  cases rx
  obtain ⟨z, lo, vs, rel, dd⟩ := dk_rd I.hok hd
  obtain ⟨ep, hat⟩ := dd.dictAt
  have ek : (kvs.map fun kv => kV kv.1) = vs.map fun p => kV p.1 := by
    have e := congrArg (List.map kV) rel.keys
    rwa [List.map_map, List.map_map] at e
  have lv : vs.length ≤ sizeLine := by rw [← rel.length]; exact z
  refine callType_codes (Q₁ := fun obj s₁ => s₁.TypeIs obj "tuple" ∧ EP X pins σ Q obj s₁) F.called_tuple (F.typeCall_tuple_1 _) F.entry_object_init
    (new_tuple (A := X.A.in1) (PySem.W.kdl_dict (knd := mixKind X.prog X.w) (kvs := vs) (ep := ep) lo) (I.ok.hd hcalm) hat hat.dictOf.typeIs lv rfl fun h' tk acc hk hacc => ⟨⟨_, Heap.get?_push_size _ rfl, rfl⟩, ?_⟩) fun obj s₁ h₁ => ?_
  · have hv : Vals (vs.map fun p => kV p.1) acc.toList := keys_at (by rw [Array.length_toList]; exact hacc.1) fun j v e => hacc.2 j v (by rw [← Array.getElem?_toList]; exact e)
    have I1 : Inv X pins σ H { s with heap := h', toks := tk } := I.kept hk
    exact ⟨.ref h'.objs.size, upd H h'.objs.size (.tup (kvs.map fun kv => kV kv.1)), I1.laid (t' := tk) (fun b o e => Heap.get?_push_of_some _ e) (Nat.le_refl _)
      (show ObjOk X.prog X.w _ _ _ (.tup (kvs.map fun kv => kV kv.1)) from ⟨by rw [List.length_map]; exact z, acc.toList, by rw [ek]; exact hv, by rw [Array.toArray_toList]; exact IsTup.new _ _⟩), rfl, q _ (I1.hok.fresh (Nat.le_refl _))⟩
  · exact ⟨h₁.1, F.args_object_init_2 obj _, object_init_meets F.called_tuple.init.lookup F.called_tuple.made (by decide) X.prog X.w X.A.in1 _ s₁ ⟨h₁.1, rfl, h₁.2⟩⟩
end
end Td
set_option Elab.async false
set_option linter.all false
set_option maxRecDepth 100000
set_option maxHeartbeats 400000
/-! What a shape keeps of each list. -/
namespace G
open PySem L2 Nd
structure Ent where
  nm : Str
  par : Option Str
  fs : Dat
  inn : List Str
def parV : Option Str → V
  | none => .non
  | some z => .str z
def keysD : Dat → List Str
  | .dic ks _ => ks
  | _ => []
/-- v tells the entry e; its dict is newer than H0 -/
def EntV (H0 H : Hp) (v : V) (e : Ent) : Prop := ∃ (t fd it : Addr), v = .ref t ∧ H t = some (.tup [parV e.par, .ref fd, .ref it]) ∧ At (fun b => b = fd) H (.ref fd) e.fs ∧ H it = some (.tup (e.inn.map V.str)) ∧ H0 fd = none
def EntP (H0 H : Hp) (kv : Key × V) (e : Ent) : Prop := kv.1 = .inr e.nm ∧ EntV H0 H kv.2 e
def entsD : Nat → Option Str → Dat → List Ent
  | n + 1, par, .dic ks xs => ks.flatMap fun k => match lookD ks xs k with
    | some x => ⟨k, par, fieldsD x, keysD (innerD x)⟩ :: entsD n (some k) (innerD x)
    | none => []
  | _, _, _ => []
def nmK (e : Ent) : Key := .inr e.nm
def spNote (C : Addr) (n : Nat) : Sp := fun vs H Q _ => ∃ (p dx kd : Addr) (F : List (Str × V)) (kvs : List (Key × V)) (v : V) (par : Option Str) (P : Addr → Prop) (d : Dat) (m : Int), vs = [.ref p, v, parV par] ∧ H p = some (.ins C dx F) ∧ F.lookup ("known" : Str) = some (V.ref kd) ∧ F.lookup ("note" : Str) = none ∧
  H kd = some (.dK kvs) ∧ At P H v d ∧ ¬ P kd ∧ LsD n m d ∧ (kvs.map Prod.fst ++ (entsD n par d).map nmK).Nodup ∧ kvs.length + (entsD n par d).length ≤ 60 ∧
  ∀ (H' : Hp) (kvs2 : List (Key × V)) (es : List Ent), Sm [kd] H H' → H' kd = some (.dK (kvs ++ kvs2)) → Paired (EntP H H') kvs2 es → es.Perm (entsD n par d) → Q .non H'
theorem putK_fresh {kvs : List (Key × V)} {k : Key} {v : V} (h : k ∉ kvs.map Prod.fst) : putK kvs k v = kvs ++ [(k, v)] := by
  have : (kvs.any fun kv => decide (kv.1 = k)) = false := by
    rw [List.any_eq_false]
    intro kv hk
    simp only [decide_eq_true_eq]
    exact fun z => h (z ▸ List.mem_map_of_mem hk)
  rw [putK, this]
  rfl
theorem Kd.sm1 {P : Addr → Prop} {H H' : Hp} {kd : Addr} {kvs : List (Key × V)} (hk : H kd = some (.dK kvs)) (e : Sm [kd] H H') (hp : ¬ P kd) : Kd P P H H' where
  tup := fun b xs q => e _ _ q fun z => by
    rw [List.mem_singleton] at z; subst z; rw [hk] at q; cases q
  lst := fun b xs pb q => e _ _ q fun z => by
    rw [List.mem_singleton] at z; subst z; exact hp pb
  dic := fun b xs pb q => e _ _ q fun z => by
    rw [List.mem_singleton] at z; subst z; exact hp pb
  sub := fun _ q => q
theorem EntV.sm {H0 H H' : Hp} {kd : Addr} {kvs : List (Key × V)} {v : V} {e : Ent} (h : EntV H0 H v e) (h0 : H0 kd ≠ none) (hk : H kd = some (.dK kvs)) (s : Sm [kd] H H') : EntV H0 H' v e := by
  obtain ⟨t, fd, it, e1, e2, e3, e4, e5⟩ := h
  have k := Kd.sm1 (P := fun b => b = fd) hk s (fun z => h0 (by rw [z]; exact e5))
  exact ⟨t, fd, it, e1, k.tup _ _ e2, At.keep k _ _ e3, k.tup _ _ e4, e5⟩
theorem EntV.old {H0 H1 H : Hp} {v : V} {e : Ent} (h : EntV H1 H v e) (hs : ∀ b, H1 b = none → H0 b = none) : EntV H0 H v e := by
  obtain ⟨t, fd, it, e1, e2, e3, e4, e5⟩ := h
  exact ⟨t, fd, it, e1, e2, e3, e4, hs _ e5⟩
theorem Paired.imp {α β : Type} {F F' : α → β → Prop} (h : ∀ a b, F a b → F' a b) : ∀ {xs : List α} {ys : List β}, Paired F xs ys → Paired F' xs ys
  | _, _, .nil => .nil
  | _, _, .cons a b => .cons (h _ _ a) (Paired.imp h b)
theorem Paired.app {α β : Type} {F : α → β → Prop} : ∀ {xs us : List α} {ys ws : List β}, Paired F xs ys → Paired F us ws → Paired F (xs ++ us) (ys ++ ws)
  | _, _, _, _, .nil, h => h
  | _, _, _, _, .cons a b, h => .cons a (Paired.app b h)
theorem EntP.keys {H0 H : Hp} : ∀ {kvs : List (Key × V)} {es : List Ent}, Paired (EntP H0 H) kvs es → kvs.map Prod.fst = es.map nmK
  | _, _, .nil => rfl
  | _, _, .cons a b => by rw [List.map_cons, List.map_cons, a.1, EntP.keys b]; rfl
theorem EntP.len {H0 H : Hp} : ∀ {kvs : List (Key × V)} {es : List Ent}, Paired (EntP H0 H) kvs es → kvs.length = es.length
  | _, _, .nil => rfl
  | _, _, .cons a b => by rw [List.length_cons, List.length_cons, EntP.len b]
theorem ats_str {P Q : Addr → Prop} {H : Hp} : ∀ {ws : List Str} {vs : List V}, Ats P H vs (ws.map Dat.str) → Ats Q H vs (ws.map Dat.str)
  | [], _, b => by
    rw [List.map_nil] at b ⊢
    cases b
    exact .nil
  | z :: ws, _, b => by
    rw [List.map_cons] at b ⊢
    cases b with
    | cons a b => cases a; exact .cons (.str _) (ats_str b)
/-- tuples of texts hold no lists and no dicts -/
theorem at_tupW {P Q : Addr → Prop} {H : Hp} {v : V} {ws : List Str} (h : At P H v (tupW ws)) : At Q H v (tupW ws) := by
  rw [tupW] at h ⊢
  cases h with
  | tup a b => exact .tup a (ats_str b)
theorem ats_tupW {P Q : Addr → Prop} {H : Hp} : ∀ {vs : List V} {xs : List Dat}, Ats P H vs xs → (∀ x ∈ xs, ∃ ws, x = tupW ws) → Ats Q H vs xs
  | _, _, .nil, _ => .nil
  | _, _, .cons a b, h => by
    obtain ⟨ws, rfl⟩ := h _ (List.mem_cons_self ..)
    exact .cons (at_tupW a) (ats_tupW b fun x hx => h x (List.mem_cons_of_mem _ hx))
/-- the copy of a dict of fields -/
theorem at_copy {P : Addr → Prop} {H : Hp} {a : Addr} {d : Dat} (h : At P H (.ref a) d) (f : FldD d) : ∃ kvs, H a = some (.dK kvs) ∧ ∀ p, H p = none → At (fun b => b = p) (upd H p (.dK kvs)) (.ref p) d := by
  obtain ⟨ks, xs, rfl, _, _, hx⟩ := f
  cases h with
  | dic g pg nd lk r =>
    refine ⟨_, g, fun p hp => .dic upd_same rfl nd lk (Ats.same (ats_tupW r fun x z => ?_) (same_add hp))⟩
    obtain ⟨ws, e, _⟩ := hx x z
    exact ⟨ws, e⟩
theorem dkv_keys : ∀ {ks : List Str} {vs : List V}, ks.length = vs.length → (dkv ks vs).map (fun kv => kV kv.1) = ks.map V.str
  | [], [], _ => rfl
  | [], _ :: _, h => by simp at h
  | _ :: _, [], h => by simp at h
  | k :: ks, v :: vs, h => by rw [dkv, List.map_cons, List.map_cons, dkv_keys (by simpa using h)]; rfl
theorem dkv_fst : ∀ {ks : List Str} {vs : List V}, ks.length = vs.length → (dkv ks vs).map Prod.fst = ks.map Sum.inr
  | [], [], _ => rfl
  | [], _ :: _, h => by simp at h
  | _ :: _, [], h => by simp at h
  | k :: ks, v :: vs, h => by rw [dkv, List.map_cons, List.map_cons, dkv_fst (by simpa using h)]
theorem flat_len {α β : Type} {f : α → List β} : ∀ {ks : List α}, (∀ k ∈ ks, 1 ≤ (f k).length) → ks.length ≤ (ks.flatMap f).length
  | [], _ => Nat.zero_le _
  | k :: ks, h => by
    rw [List.flatMap_cons, List.length_append, List.length_cons]
    have a := h k (List.mem_cons_self ..)
    have b := flat_len (f := f) (ks := ks) fun x hx => h x (List.mem_cons_of_mem _ hx)
    omega
theorem flat_take {α β : Type} {f : α → List β} {ys : List α} {i : Nat} {k : α} (h : ys[i]? = some k) : (ys.take (i + 1)).flatMap f = (ys.take i).flatMap f ++ f k := by
  rw [List.take_add_one, h, List.flatMap_append]
  simp
theorem flat_split {α β : Type} {f : α → List β} {ys : List α} {i : Nat} {k : α} (h : ys[i]? = some k) : ys.flatMap f = ((ys.take i).flatMap f ++ f k) ++ (ys.drop (i + 1)).flatMap f := by
  rw [← flat_take h, ← List.flatMap_append, List.take_append_drop]
/-- what the parts of a list of entries may be put behind -/
theorem nodup_step {A : List Key} {blk : Str → List Ent} {ks ys : List Str} {es es3 : List Ent} {e0 : Ent} {i : Nat} {k : Str} (py : ys.Perm ks) (hk : ys[i]? = some k) (hb : blk k = e0 :: es3) (pe : es.Perm ((ys.take i).flatMap blk))
    (nd : (A ++ (ks.flatMap blk).map nmK).Nodup) : nmK e0 ∉ A ++ es.map nmK ∧ ((A ++ es.map nmK) ++ [nmK e0] ++ es3.map nmK).Nodup := by
  have p1 : (ks.flatMap blk).Perm ((es ++ (e0 :: es3)) ++ (ys.drop (i + 1)).flatMap blk) := by
    refine (py.symm.flatMap_right blk).trans ?_
    rw [flat_split hk, hb]
    exact (pe.symm.append_right _).append_right _
  have p2 : (A ++ (ks.flatMap blk).map nmK).Perm (A ++ ((es ++ (e0 :: es3)) ++ (ys.drop (i + 1)).flatMap blk).map nmK) := (p1.map nmK).append_left A
  have n2 := p2.nodup_iff.mp nd
  have e1 : A ++ ((es ++ (e0 :: es3)) ++ (ys.drop (i + 1)).flatMap blk).map nmK = (((A ++ es.map nmK) ++ [nmK e0]) ++ es3.map nmK) ++ ((ys.drop (i + 1)).flatMap blk).map nmK := by
    simp
  rw [e1] at n2
  have n3 := (List.nodup_append.mp n2).1
  refine ⟨?_, n3⟩
  have n4 := (List.nodup_append.mp (List.nodup_append.mp n3).1).2.2
  exact fun z => n4 _ z _ (List.mem_singleton.mpr rfl) rfl
theorem len_step {blk : Str → List Ent} {ks ys : List Str} {es es3 : List Ent} {e0 : Ent} {i : Nat} {k : Str} (py : ys.Perm ks) (hk : ys[i]? = some k) (hb : blk k = e0 :: es3) (pe : es.Perm ((ys.take i).flatMap blk)) :
    es.length + 1 + es3.length ≤ (ks.flatMap blk).length := by
  rw [← (py.flatMap_right blk).length_eq, flat_split hk, hb, List.length_append, List.length_append, List.length_cons, ← pe.length_eq]
  omega
end G
set_option Elab.async false
set_option linter.all false
set_option maxRecDepth 100000
set_option maxHeartbeats 400000
/-! A shape as an object: what its methods promise. -/
namespace G
open PySem L2 Nd
def shF (ft kd : Addr) : List (Str × V) := [("flags", .ref ft), ("known", .ref kd)]
/-- the shape at p, newer than H0 -/
def ShpAt (C : Addr) (H0 H : Hp) (p : Addr) (fl : List Str) (es : List Ent) : Prop := ∃ (dx ft kd : Addr) (kvs : List (Key × V)), H p = some (.ins C dx (shF ft kd)) ∧ H ft = some (.tup (fl.map V.str)) ∧ H kd = some (.dK kvs) ∧ Paired (EntP H0 H) kvs es ∧ H0 p = none ∧ H0 kd = none
/-- what is newer than H0 stays, and all tuples -/
structure New (H0 H H' : Hp) : Prop where
  new : ∀ b o, H b = some o → H0 b = none → H' b = some o
  tup : ∀ b xs, H b = some (.tup xs) → H' b = some (.tup xs)
theorem New.trans {H0 H H1 H2 : Hp} (a : New H0 H H1) (b : New H0 H1 H2) : New H0 H H2 := ⟨fun c o h z => b.new c o (a.new c o h z) z, fun c xs h => b.tup c xs (a.tup c xs h)⟩
theorem New.same {H0 H H' : Hp} (h : Same H H') : New H0 H H' := ⟨fun b o e _ => h b o e, fun b xs e => h b _ e⟩
theorem EntV.new {H0 H H' : Hp} {v : V} {e : Ent} (h : EntV H0 H v e) (n : New H0 H H') : EntV H0 H' v e := by
  obtain ⟨t, fd, it, e1, e2, e3, e4, e5⟩ := h
  have k : Kd (fun b => b = fd) (fun b => b = fd) H H' := ⟨n.tup, fun b xs z q => n.new _ _ q (by rw [z]; exact e5), fun b xs z q => n.new _ _ q (by rw [z]; exact e5), fun _ z => z⟩
  exact ⟨t, fd, it, e1, n.tup _ _ e2, At.keep k _ _ e3, n.tup _ _ e4, e5⟩
theorem ShpAt.new {C : Addr} {H0 H H' : Hp} {p : Addr} {fl : List Str} {es : List Ent} (h : ShpAt C H0 H p fl es) (n : New H0 H H') : ShpAt C H0 H' p fl es := by
  obtain ⟨dx, ft, kd, kvs, e1, e2, e3, e4, e5, e6⟩ := h
  exact ⟨dx, ft, kd, kvs, n.new _ _ e1 e5, n.tup _ _ e2, n.new _ _ e3 e6, Paired.imp (fun a b z => ⟨z.1, z.2.new n⟩) e4, e5, e6⟩
theorem ent_at {H0 H : Hp} {x : Str} : ∀ {kvs : List (Key × V)} {es : List Ent}, Paired (EntP H0 H) kvs es → (es.find? fun e => decide (e.nm = x)) = none ∧ valV kvs (.inr x) = none ∨ ∃ e v, (es.find? fun e => decide (e.nm = x)) = some e ∧ valV kvs (.inr x) = some v ∧ EntV H0 H v e
  | _, _, .nil => .inl ⟨rfl, rfl⟩
  | (kk, v) :: kvs, e :: es, .cons a b => by
    obtain ⟨a1, a2⟩ := a
    have a1 : kk = .inr e.nm := a1
    subst a1
    by_cases h : e.nm = x
    · refine .inr ⟨e, v, ?_, ?_, a2⟩
      · rw [List.find?_cons]; simp [h]
      · exact valV_pos (by rw [h])
    · have h2 : ¬ ((.inr e.nm : Key) = .inr x) := fun z => h (Sum.inr.inj z)
      rw [valV_neg h2, List.find?_cons]
      simp only [h, decide_false]
      exact ent_at b
def findE (es : List Ent) (x : Str) : Option Ent := es.find? fun e => decide (e.nm = x)
/-- entry: the tuple of a known list, or NoList -/
def spEntry (C Ce : Addr) : Sp := fun vs H Q E => ∃ (p : Addr) (x : Str) (H0 : Hp) (fl : List Str) (es : List Ent), vs = [.ref p, .str x] ∧ ShpAt C H0 H p fl es ∧
  (∀ e v, findE es x = some e → EntV H0 H v e → Q v H) ∧ (findE es x = none → ∀ d H', Same H H' → H' d = some (.xd [("name", .str x)]) → E (.ref Ce) (some d) H')
def spInner (C Ce : Addr) : Sp := fun vs H Q E => ∃ (p : Addr) (x : Str) (H0 : Hp) (fl : List Str) (es : List Ent), vs = [.ref p, .str x] ∧ ShpAt C H0 H p fl es ∧
  (∀ e l, findE es x = some e → H l = none → Q (.ref l) (upd H l (.lst (e.inn.map V.str)))) ∧ (findE es x = none → ∀ d H', Same H H' → H' d = some (.xd [("name", .str x)]) → E (.ref Ce) (some d) H')
def spFields (C Ce : Addr) : Sp := fun vs H Q E => ∃ (p : Addr) (x : Str) (H0 : Hp) (fl : List Str) (es : List Ent), vs = [.ref p, .str x] ∧ ShpAt C H0 H p fl es ∧ (∀ e ∈ es, FldD e.fs) ∧
  (∀ e l kvs, findE es x = some e → H l = none → At (fun b => b = l) (upd H l (.dK kvs)) (.ref l) e.fs → Q (.ref l) (upd H l (.dK kvs))) ∧ (findE es x = none → ∀ d H', Same H H' → H' d = some (.xd [("name", .str x)]) → E (.ref Ce) (some d) H')
def spParent (C Ce : Addr) : Sp := fun vs H Q E => ∃ (p : Addr) (x : Str) (H0 : Hp) (fl : List Str) (es : List Ent), vs = [.ref p, .str x] ∧ ShpAt C H0 H p fl es ∧
  (∀ e, findE es x = some e → Q (parV e.par) H) ∧ (findE es x = none → ∀ d H', Same H H' → H' d = some (.xd [("name", .str x)]) → E (.ref Ce) (some d) H')
def spOuter (C : Addr) : Sp := fun vs H Q _ => ∃ (p : Addr) (H0 : Hp) (fl : List Str) (es : List Ent), vs = [.ref p] ∧ ShpAt C H0 H p fl es ∧ es.length < 60 ∧ (es.map Ent.nm).Nodup ∧
  ∀ (ys : List Str) (l : Addr) (H' : Hp), Same H H' → H l = none → ys.Perm (es.map Ent.nm) → PyProof.Rows.sortedS ys = true → H' l = some (.lst ((ys.filter fun y => decide ((findE es y).bind Ent.par = none)).map V.str)) → Q (.ref l) H'
def spShape (C : Addr) : Sp := fun vs H Q _ => ∃ (p dx : Addr) (fv lv : V) (H0 : Hp) (P1 P2 : Addr → Prop) (fl : List Str) (d : Dat), vs = [.ref p, fv, lv] ∧ H p = some (.ins C dx []) ∧ H0 p = none ∧ (∀ b, H b = none → H0 b = none) ∧
  At P1 H fv (.lst (fl.map Dat.str)) ∧ wordsL 0 2 (fl.map Dat.str) = true ∧ At P2 H lv d ∧ LsD 2 2 d ∧ (namesD 2 d).Nodup ∧ (namesD 2 d).length ≤ 50 ∧ ((entsD 2 none d).map nmK).Nodup ∧ (entsD 2 none d).length ≤ 50 ∧
  ∀ (H' : Hp) (fls : List Str) (es : List Ent), Sm [p] H H' → fls.Perm fl → PyProof.Rows.sortedS fls = true → es.Perm (entsD 2 none d) → ShpAt C H0 H' p fls es → Q .non H'
theorem shF_flags (ft kd : Addr) : (shF ft kd).lookup ("flags" : Str) = some (.ref ft) := by
  rw [shF, List.lookup_cons]
  have : ((("flags" : Str) == ("flags" : Str)) = true) := by decide +kernel
  rw [this]
theorem shF_known (ft kd : Addr) : (shF ft kd).lookup ("known" : Str) = some (.ref kd) := by
  rw [shF, List.lookup_cons]
  have e1 : ((("known" : Str) == ("flags" : Str)) = false) := by decide +kernel
  rw [e1, List.lookup_cons]
  have e2 : ((("known" : Str) == ("known" : Str)) = true) := by decide +kernel
  rw [e2]
theorem shF_no (ft kd : Addr) {m : Str} (h1 : (m == ("flags" : Str)) = false) (h2 : (m == ("known" : Str)) = false) : (shF ft kd).lookup m = none := by
  rw [shF, List.lookup_cons, h1, List.lookup_cons, h2]
  rfl
theorem putF_flags (ft : Addr) : putF ("flags" : Str) (.ref ft) [] = [(("flags" : Str), V.ref ft)] := rfl
theorem putF_known (ft kd : Addr) : putF ("known" : Str) (.ref kd) [(("flags" : Str), V.ref ft)] = shF ft kd := by
  rw [shF]
  simp only [putF]
  have e1 : ¬ (("flags" : Str) = ("known" : Str)) := by decide +kernel
  simp [e1]
theorem texts_map : ∀ fl : List Str, textsD (fl.map Dat.str) = fl
  | [] => rfl
  | z :: zs => by rw [List.map_cons, textsD, texts_map zs]
mutual
theorem At.dom {P : Addr → Prop} {H : Hp} : ∀ (d : Dat) (v : V), At P H v d → At (fun b => P b ∧ H b ≠ none) H v d
  | .non, _, h => by cases h; exact .non
  | .bl _, _, h => by cases h; exact .bl _
  | .int _, _, h => by cases h; exact .int _
  | .str _, _, h => by cases h; exact .str _
  | .lst ds, _, h => by cases h with | lst a b c => exact .lst a ⟨b, by rw [a]; exact fun z => nomatch z⟩ (Ats.dom ds _ c)
  | .tup ds, _, h => by cases h with | tup a c => exact .tup a (Ats.dom ds _ c)
  | .dic ks ds, _, h => by cases h with | dic a b n l c => exact .dic a ⟨b, by rw [a]; exact fun z => nomatch z⟩ n l (Ats.dom ds _ c)
theorem Ats.dom {P : Addr → Prop} {H : Hp} : ∀ (ds : List Dat) (vs : List V), Ats P H vs ds → Ats (fun b => P b ∧ H b ≠ none) H vs ds
  | [], _, h => by cases h; exact .nil
  | d :: ds, _, h => by cases h with | cons a b => exact .cons (At.dom d _ a) (Ats.dom ds _ b)
end
/-- an object is written -/
theorem Kd.obj {P : Addr → Prop} {H : Hp} {p C dx : Addr} {F : List (Str × V)} {o : HO} (hp : H p = some (.ins C dx F)) : Kd P P H (upd H p o) where
  tup := fun b xs q => by rw [upd_ne (show b ≠ p from fun z => by rw [z, hp] at q; cases q)]; exact q
  lst := fun b xs _ q => by rw [upd_ne (show b ≠ p from fun z => by rw [z, hp] at q; cases q)]; exact q
  dic := fun b xs _ q => by rw [upd_ne (show b ≠ p from fun z => by rw [z, hp] at q; cases q)]; exact q
  sub := fun _ q => q
end G
set_option Elab.async false
set_option linter.all false
set_option maxRecDepth 100000
set_option maxHeartbeats 400000
/-! What the law draws: words, names, fields, lists. -/
namespace G
open PySem L2 Nd
def spWord : Sp := fun vs H Q _ => ∃ (st cs : Addr), vs = [.ref st] ∧ Stm H st cs ∧ ∀ (z : Str) (H' : Hp), wordZ z = true → Stm H' st cs → Sm [st, cs] H H' → Q (.str z) H'
def abc : Str := "abcdefghijklmnopqrstuvwxyz"
theorem abc_len : abc.cps.toList.length = 26 := by decide +kernel
theorem abc_all : abc.cps.toList.all signB = true := by decide +kernel
theorem abc_sz : abc.length ≤ sizeLine := by decide +kernel
theorem atI_any {α : Type} {xs : List α} {r : Int} (h0 : 0 ≤ r) (h1 : r < (xs.length : Int)) : ∃ v, atI xs r = some v ∧ v ∈ xs := by
  obtain ⟨n, rfl⟩ : ∃ n : Nat, r = (n : Int) := ⟨_, (Int.toNat_of_nonneg h0).symm⟩
  have hn : n < xs.length := by omega
  refine ⟨xs[n], ?_, List.getElem_mem hn⟩
  unfold atI ixN
  rw [if_pos h0, if_pos h1]
  simp [hn]
theorem letter {n : Int} : ∃ c, atI abc.cps.toList (n.fmod 26) = some c ∧ signB c = true := by
  have a := Int.fmod_nonneg_of_pos n (show (0 : Int) < 26 by decide)
  have b := Int.fmod_lt_of_pos n (show (0 : Int) < 26 by decide)
  obtain ⟨c, h1, h2⟩ := atI_any (xs := abc.cps.toList) a (by rw [abc_len]; exact b)
  exact ⟨c, h1, List.all_eq_true.mp abc_all c h2⟩
/-- n letters -/
def lettersZ (n : Nat) (z : Str) : Prop := z.length = n ∧ z.cps.toList.all signB = true
theorem letters_snoc {n : Nat} {z : Str} {c : Nat} (h : lettersZ n z) (hc : signB c = true) : lettersZ (n + 1) (z ++ ⟨#[c]⟩) := by
  obtain ⟨h1, h2⟩ := h
  have e : (z ++ (⟨#[c]⟩ : Str)).cps = z.cps ++ #[c] := rfl
  refine ⟨?_, ?_⟩
  · show (z ++ (⟨#[c]⟩ : Str)).cps.size = n + 1
    rw [e, Array.size_append]
    have : z.cps.size = n := h1
    rw [this]; rfl
  · rw [e, Array.toList_append, List.all_append, h2]
    simp [hc]
theorem word_letters {n : Nat} {z : Str} (h : lettersZ n z) (h1 : 1 ≤ n) (h8 : n ≤ 8) : wordZ z = true := by
  obtain ⟨e, a⟩ := h
  rw [wordZ, a, e, decide_eq_true h1, decide_eq_true h8]
  rfl
def spNames : Sp := fun vs H Q _ => ∃ (st cs tk : Addr) (m : Nat) (tn : List Str), vs = [.ref st, .int (m : Int), .ref tk] ∧ Stm H st cs ∧ H tk = some (.lst (tn.map V.str)) ∧ tk ∉ [st, cs] ∧ tn.length + m ≤ 20 ∧
  ∀ (p : Addr) (zs : List Str) (H' : Hp), zs.length = m → (∀ z ∈ zs, wordZ z = true) → zs.Nodup → (∀ z ∈ zs, z ∉ tn) → H p = none → H' p = some (.lst (zs.map V.str)) → Stm H' st cs → Sm [st, cs] H H' → Q (.ref p) H'
theorem inV_str (x : Str) : ∀ zs : List Str, inV (.str x) (zs.map V.str) = decide (x ∈ zs)
  | [] => by simp [inV]
  | z :: zs => by
    have ih := inV_str x zs
    unfold inV at ih ⊢
    rw [List.map_cons, List.any_cons, ih]
    by_cases h : z = x
    · subst h; simp [eqV]
    · have h2 : ¬ x = z := fun q => h q.symm
      have e : eqV (V.str z) (V.str x) = false := by simp [eqV, h]
      rw [e, Bool.false_or]
      simp [h2]
theorem flat_strs (zs : List Str) : (zs.map V.str).all flatV = true := by
  rw [List.all_map, List.all_eq_true]
  intro z _
  rfl
theorem nodup_le {α : Type} [DecidableEq α] : ∀ {l r : List α}, l.Nodup → (∀ x ∈ l, x ∈ r) → l.length ≤ r.length
  | [], _, _, _ => Nat.zero_le _
  | a :: l, r, nd, h => by
    have ha := h a (List.mem_cons_self ..)
    have nd' := List.nodup_cons.mp nd
    have ih := nodup_le (l := l) (r := r.erase a) nd'.2 fun x hx => (List.mem_erase_of_ne (show x ≠ a from fun z => nd'.1 (by rw [← z]; exact hx))).mpr (h x (List.mem_cons_of_mem _ hx))
    rw [List.length_erase_of_mem ha] at ih
    have := List.length_pos_of_mem ha
    rw [List.length_cons]
    omega
def abcL : List Str := abc.cps.toList.map fun c => ⟨#[c]⟩
theorem abcL_len : abcL.length = 26 := by decide +kernel
theorem abcL_nd : abcL.Nodup := by decide +kernel
theorem abcL_word : ∀ z ∈ abcL, wordZ z = true := by decide +kernel
def spareL (tn zs : List Str) : List Str := (abcL.filter fun z => !decide (z ∈ tn)).filter fun z => !decide (z ∈ zs)
theorem spare_some {tn zs : List Str} (h : tn.length + zs.length < 26) : ∃ z r, spareL tn zs = z :: r := by
  cases e : spareL tn zs with
  | cons z r => exact ⟨z, r, rfl⟩
  | nil =>
    have := nodup_le (r := tn ++ zs) abcL_nd fun x hx => by
      by_cases a : x ∈ tn
      · exact List.mem_append_left _ a
      by_cases b : x ∈ zs
      · exact List.mem_append_right _ b
      have : x ∈ spareL tn zs := List.mem_filter.mpr ⟨List.mem_filter.mpr ⟨hx, by simp [a]⟩, by simp [b]⟩
      rw [e] at this
      cases this
    rw [abcL_len, List.length_append] at this
    omega
theorem spare_ok {tn zs : List Str} {z : Str} (h : z ∈ spareL tn zs) : wordZ z = true ∧ z ∉ tn ∧ z ∉ zs := by
  obtain ⟨h1, h2⟩ := List.mem_filter.mp h
  obtain ⟨h3, h4⟩ := List.mem_filter.mp h1
  exact ⟨abcL_word z h3, by simpa using h4, by simpa using h2⟩
theorem abcL_get {i c : Nat} (h : abc.cps[i]? = some c) : abcL[i]? = some ⟨#[c]⟩ := by
  rw [abcL, List.getElem?_map]
  have : abc.cps.toList[i]? = some c := by simpa using h
  rw [this]; rfl
theorem filter_take {α : Type} {f : α → Bool} {l : List α} {i : Nat} {x : α} (h : l[i]? = some x) : (l.take (i + 1)).filter f = if f x = true then (l.take i).filter f ++ [x] else (l.take i).filter f := by
  rw [List.take_add_one, h, List.filter_append]
  cases e : f x <;> simp [e]
end G
set_option Elab.async false
set_option linter.all false
set_option maxRecDepth 100000
set_option maxHeartbeats 1200000
namespace G
open PySem L2 Nd
section
variable {P : Program} {w : World} {K : PySem.W.Frag} {mg : Str → Option Value} {base : Heap}
theorem ok_l_word (T : Txt K mg) : FnOk P w K mg base CX0 2 T.f_l_word T.d_l_word ["_law_stream_here"] spWord := by
  have G_l_draw := ok_l_draw (P := P) (w := w) (base := base) T
  refine T.F_l_word.ok sc_l_word (fun vs H Q E h => ?_) (fun cdv A outer s H vs Q E hr h => ?_)
  · obtain ⟨_, _, rfl, _⟩ := h
    rfl
  · obtain ⟨st, cs, rfl, S, k⟩ := h
    refine ⟨_, (pss_cons (ps_set (i := 1) sc_l_word.nd rfl (Or.inl rfl) pe_str)
        (pss_cons (ps_set (i := 2) sc_l_word.nd rfl (Or.inl rfl) (pe_op op_add pe_int (pe_call G_l_draw (hr.mono (by omega)) rfl T.g_l_draw T.F_l_draw.kp T.b_l_draw .nil pass0 (pa_cons (pv 0) (pa_cons pe_int pa_nil)))))
        (Evl.pss_cut (ps_if (pt_cmpR op_gt (pe_call G_l_draw (hr.mono (by omega)) rfl T.g_l_draw T.F_l_draw.kp T.b_l_draw .nil pass0 (pa_cons (pv 0) (pa_cons pe_int pa_nil))) pe_int (nomark _))
          (pss_one (ps_set (i := 2) sc_l_word.nd rfl (Or.inl rfl) (pe_op op_add pe_int (pe_op op_modN (pe_callTy call_int1 (by rfl) T.z_int (by decide +kernel) (pa_cons (pv 2) pa_nil)) pe_int))))
          pss_nil)
        (pss_cons (ps_set (i := 3) sc_l_word.nd rfl (Or.inl rfl) (pe_call G_l_draw (hr.mono (by omega)) rfl T.g_l_draw T.F_l_draw.kp T.b_l_draw .nil pass0 (pa_cons (pv 0) (pa_cons pe_int pa_nil))))
        (pss_cons (ps_set (i := 4) sc_l_word.nd rfl (Or.inl rfl) pe_str)
        (pss_cons (ps_for PassesOwn.never rfl (pi_range1 rfl T.z_range (pa_cons (pv 2) pa_nil)) (pg_name (i := 5) sc_l_word.nd rfl (Or.inl rfl))
          (pss_cons (ps_set (i := 4) sc_l_word.nd rfl (Or.inl rfl) (pe_op op_add_str (pv 4) (pe_ix ix_str (pv 1) (pe_op op_modN (pe_callTy call_int1 (by rfl) T.z_int (by decide +kernel) (pa_cons (pv 3) pa_nil)) pe_int) (fun _ _ => rfl))))
          (pss_one (ps_set (i := 3) sc_l_word.nd rfl (Or.inl rfl) (pe_op op_fdivN (pv 3) pe_int)))))
        (pss_one (ps_ret (pv 4))))))))), ?_⟩
    refine ⟨_, rfl, st, cs, 8, rfl, S, by decide, by decide, fun r1 H1 a1 b1 S1 R1 => ?_⟩
    refine ⟨_, _, rfl, rfl, ?_⟩
    refine ⟨fun σ H2 => ∃ (sz : Int), σ = [some (.ref st), some (.str abc), some (.int sz), none, none, none] ∧ 1 ≤ sz ∧ sz ≤ 8 ∧ Stm H2 st cs ∧ Sm [st, cs] H H2, ?_, ?_⟩
    · refine ⟨_, rfl, st, cs, 3, rfl, S1, by decide, by decide, fun r2 H2 a2 b2 S2 R2 => ?_⟩
      refine ⟨_, _, rfl, rfl, _, rfl, ?_⟩
      cases hc : decide ((0 : Int) < r2) with
      | true =>
        refine ifT ⟨_, rfl, .inl ⟨_, rfl, _, _, rfl, rfl, (show (2 : Int) ≠ 0 by decide), _, _, rfl, rfl, ?_⟩⟩
        have c1 := Int.fmod_nonneg_of_pos (1 + r1) (show (0 : Int) < 2 by decide)
        have c2 := Int.fmod_lt_of_pos (1 + r1) (show (0 : Int) < 2 by decide)
        exact ⟨_, rfl, by omega, by omega, S2, R1.trans R2⟩
      | false =>
        refine ifF ⟨1 + r1, rfl, by omega, by omega, S2, R1.trans R2⟩
    · rintro σ H2 ⟨sz, rfl, g1, g8, S2, R2⟩
      refine ⟨_, rfl, st, cs, 208827064576, rfl, S2, by decide, by decide, fun r3 H3 a3 b3 S3 R3 => ?_⟩
      obtain ⟨n, rfl⟩ : ∃ n : Nat, sz = (n : Int) := ⟨_, (Int.toNat_of_nonneg (by omega)).symm⟩
      refine ⟨_, rfl, (n : Int), rfl, by omega, by omega, for_it walk_range0 (fun i σ H4 => ∃ (num : Int) (z : Str) (c5 : Option V), σ = [some (.ref st), some (.str abc), some (.int (n : Int)), some (.int num), some (.str z), c5] ∧ lettersZ i z ∧ H4 = H3)
        ⟨r3, _, none, rfl, ⟨by decide +kernel, by decide +kernel⟩, rfl⟩ (fun _ _ _ _ _ => True.intro) ?_ ?_⟩
      · rintro i x σ H4 H5 hi ⟨num, z, c5, rfl, lz, rfl⟩ ⟨rfl, rfl⟩
        obtain ⟨c, hc, sc⟩ := letter (n := num)
        have sn := letters_snoc lz sc
        refine ⟨_, rfl, _, rfl, _, rfl, .inl ⟨_, rfl, _, _, rfl, rfl, (show (26 : Int) ≠ 0 by decide), abc, _, c, rfl, rfl, abc_sz, hc, _, _, rfl, rfl, ?_, ?_⟩⟩
        · have e1 : z.length = i := lz.1
          have e2 : (⟨#[c]⟩ : Str).length = 1 := rfl
          have : 9 < sizeLine := by decide +kernel
          rw [e1, e2]
          have hi2 : i < n := by simpa using hi
          omega
        · exact ⟨_, rfl, _, _, rfl, rfl, ⟨by decide, by decide⟩, _, _, _, rfl, sn, rfl⟩
      · rintro σ H4 ⟨num, z, c5, rfl, lz, rfl⟩
        have lz2 : lettersZ n z := by simpa using lz
        exact ⟨_, rfl, k z _ (word_letters lz2 (by omega) (by omega)) S3 (R2.trans R3)⟩

end
end G
set_option Elab.async false
set_option linter.all false
set_option maxRecDepth 100000
set_option maxHeartbeats 1200000
namespace G
open PySem L2 Nd
section
variable {P : Program} {w : World} {K : PySem.W.Frag} {mg : Str → Option Value} {base : Heap}
theorem ok_l_names (T : Txt K mg) : FnOk P w K mg base CX0 3 T.f_l_names T.d_l_names ["_law_stream_here", "_law_many", "_law_taken"] spNames := by
  have G_l_word := ok_l_word (P := P) (w := w) (base := base) T
  refine T.F_l_names.ok sc_l_names (fun vs H Q E h => ?_) (fun cdv A outer s H vs Q E hr h => ?_)
  · obtain ⟨_, _, _, _, _, rfl, _⟩ := h
    rfl
  · obtain ⟨st, cs, tk, m, tn, rfl, S, htk, ntk, lm, k⟩ := h
    refine ⟨_, (pss_cons (ps_set (i := 3) sc_l_names.nd rfl (Or.inr rfl) (pe_lst pa_nil))
        (pss_cons (ps_for PassesOwn.never rfl (pi_range1 rfl T.z_range (pa_cons (pv 1) pa_nil)) (pg_name (i := 4) sc_l_names.nd rfl (Or.inl rfl))
          (pss_cons (ps_set (i := 5) sc_l_names.nd rfl (Or.inl rfl) (pe_call G_l_word (hr.mono (by omega)) rfl T.g_l_word T.F_l_word.kp T.b_l_word .nil pass0 (pa_cons (pv 0) pa_nil)))
          (Evl.pss_cut (ps_if (PW.pt (pw_or (pt_cmpR op_in_seq (pv 5) (pv 2) (by rfl)) (pw_or1 (pt_cmpR op_in_seq (pv 5) (pv 3) (by rfl)))))
            (pss_cons (ps_setLc (i := 6) (own := [("_law_spare", 7)]) (g := gName 7) (te := tVar 7) (tt := tTest (tOp (rIn K true) (tVar 7) (tVar 2))) rfl sc_l_names.nd rfl rfl (sw_true rfl rfl rfl (by decide +kernel)) (pi_str pe_str) (blkOk_by (own := [("_law_spare", 7)]) (N := ["_law_stream_here", "_law_many", "_law_taken", "_law_names_here", "_law_k", "_law_word_here", "_law_spares", "_law_spare"]) (sc := defScope s_l_names) (by decide +kernel)) (fun _ _ _ _ _ => (pg_name (i := 7) sc_l_names.nd rfl (Or.inl rfl))) (fun _ _ _ _ _ => (pts_one (pt_cmpR op_notIn_seq (pv 7) (pv 2) (by rfl)))) (fun _ _ _ _ _ => (pv 7)))
            (pss_one (ps_set (i := 5) sc_l_names.nd rfl (Or.inl rfl) (pe_ix ix_list (pe_lc (own := [("_law_spare", 7)]) (g := gName 7) (te := tVar 7) (tt := tTest (tOp (rIn K true) (tVar 7) (tVar 3))) rfl sc_l_names.nd (pi_list (pv 6)) (blkOk_by (own := [("_law_spare", 7)]) (N := ["_law_stream_here", "_law_many", "_law_taken", "_law_names_here", "_law_k", "_law_word_here", "_law_spares", "_law_spare"]) (sc := defScope s_l_names) (by decide +kernel)) (fun _ _ _ _ _ => (pg_name (i := 7) sc_l_names.nd rfl (Or.inl rfl))) (fun _ _ _ _ _ => (pts_one (pt_cmpR op_notIn_seq (pv 7) (pv 3) (by rfl)))) (fun _ _ _ _ _ => (pv 7))) pe_int (fun _ _ => rfl)))))
            pss_nil)
          (pss_one (ps_expr (pe_bm PySem.F.plainAttrs_list PySem.F.slot_list_append PySem.F.type_list_append mt_append (pv 3) (pa_cons (pv 5) pa_nil)))))))
        (pss_one (ps_ret (pv 3))))), ?_⟩
    refine ⟨Nat.zero_le _, fun p hp => ?_⟩
    have npS : p ∉ [st, cs] := S.mut.new hp
    have ntp : tk ≠ p := ne_of_none htk hp
    have bg : 100 < sizeLine := by decide +kernel
    refine ⟨_, rfl, (m : Int), rfl, by omega, by omega, for_it walk_range0 (fun i σ H2 => ∃ (zs : List Str) (c4 c5 c6 c7 : Option V), σ = [some (.ref st), some (.int (m : Int)), some (.ref tk), some (.ref p), c4, c5, c6, c7] ∧ zs.length = i ∧ (∀ z ∈ zs, wordZ z = true) ∧ zs.Nodup ∧ (∀ z ∈ zs, z ∉ tn) ∧ H2 p = some (.lst (zs.map V.str)) ∧ Stm H2 st cs ∧ Sm [st, cs] H H2)
      ⟨[], none, none, none, none, rfl, rfl, by simp, .nil, by simp, upd_same, S.upd hp, (Sm.refl _ _).new hp⟩ (fun _ _ _ _ _ => True.intro) ?_ ?_⟩
    · rintro i x σ H2 H2' hi ⟨zs, c4, c5, c6, c7, rfl, lz, wz, nz, tz, hz, S2, R2⟩ ⟨rfl, rfl⟩
      have him : i < m := by simpa using hi
      refine ⟨_, rfl, st, cs, rfl, S2, fun z H3 wz3 S3 R3 => ?_⟩
      have htk3 : H3 tk = some (.lst (tn.map V.str)) := R3 _ _ (R2 _ _ htk ntk) ntk
      have hz3 := R3 _ _ hz npS
      have R03 := R2.trans R3
      have i1 : (if (false = true) then !inV (V.str z) (tn.map V.str) else inV (V.str z) (tn.map V.str)) = decide (z ∈ tn) := by rw [inV_str]; rfl
      have i2 : (if (false = true) then !inV (V.str z) (zs.map V.str) else inV (V.str z) (zs.map V.str)) = decide (z ∈ zs) := by rw [inV_str]; rfl
      have main : ∀ (Qb : Bool → Hp → Prop), (z ∈ tn ∨ z ∈ zs → Qb true H3) → (¬ (z ∈ tn ∨ z ∈ zs) → Qb false H3) → tOr (tTest (tOp (rIn K false) (tVar 5) (tVar 2))) (tTest (tOp (rIn K false) (tVar 5) (tVar 3))) [some (.ref st), some (.int (m : Int)), some (.ref tk), some (.ref p), some (.int (i : Int)), some (.str z), c6, c7] H3 Qb := by
        intro Qb q1 q2
        refine ⟨_, rfl, _, rfl, tk, _, rfl, .inl (SqL.of htk3), rfl, flat_strs tn, _, rfl, ?_⟩
        rw [i1]
        by_cases h1 : z ∈ tn
        · rw [decide_eq_true h1]
          exact ifT (q1 (.inl h1))
        rw [decide_eq_false h1]
        refine ifF ⟨_, rfl, _, rfl, p, _, rfl, .inl (SqL.of hz3), rfl, flat_strs zs, _, rfl, ?_⟩
        rw [i2]
        by_cases h2 : z ∈ zs
        · rw [decide_eq_true h2]; exact q1 (.inr h2)
        · rw [decide_eq_false h2]; exact q2 fun y => y.elim h1 h2
      refine ⟨fun σ H4 => ∃ (y : Str) (d6 d7 : Option V), σ = [some (.ref st), some (.int (m : Int)), some (.ref tk), some (.ref p), some (.int (i : Int)), some (.str y), d6, d7] ∧ wordZ y = true ∧ y ∉ tn ∧ y ∉ zs ∧ Same H3 H4, ?_, ?_⟩
      · refine main _ (fun h => ifT ?_) (fun h => ifF ⟨z, _, _, rfl, wz3, fun y => h (.inl y), fun y => h (.inr y), Same.refl _⟩)
        refine ⟨abc, rfl, fun D hD => ?_⟩
        refine lc_it walk_str (fun j H4 => Same H3 H4 ∧ H4 D = some (.lst (((abcL.take j).filter fun z => !decide (z ∈ tn)).map V.str)))
          ⟨same_add hD, by rw [upd_same]; simp⟩ (fun _ _ _ _ => trivial) ?_ ?_
        · rintro j y H4 H5 hj ⟨s4, h4⟩ ⟨rfl, c, hc, rfl⟩
          have hg := abcL_get hc
          have ft := filter_take (f := fun z => !decide (z ∈ tn)) hg
          refine ⟨rfl, _, rfl, _, rfl, tk, _, rfl, .inl (SqL.of (s4 _ _ htk3)), rfl, flat_strs tn, _, rfl, ?_⟩
          have i3 : (if (true = true) then !inV (V.str ⟨#[c]⟩) (tn.map V.str) else inV (V.str ⟨#[c]⟩) (tn.map V.str)) = !decide ((⟨#[c]⟩ : Str) ∈ tn) := by rw [inV_str]; rfl
          rw [i3]
          cases hb : !decide ((⟨#[c]⟩ : Str) ∈ tn) with
          | true =>
            refine ifT ⟨_, rfl, _, h4, ?_, same_new s4 hD, ?_⟩
            · rw [List.length_map]
              have a1 := List.length_filter_le (fun z => !decide (z ∈ tn)) (abcL.take j)
              have a2 : (abcL.take j).length ≤ 26 := by rw [List.length_take, abcL_len]; omega
              omega
            · rw [upd_same, ft, if_pos hb]; simp
          | false =>
            refine ifF ⟨s4, ?_⟩
            rw [h4, ft, hb]; rfl
        · rintro H4 ⟨s4, h4⟩
          have e26 : abcL.take abc.cps.size = abcL := by
            rw [List.take_of_length_le]
            rw [abcL_len]; decide +kernel
          rw [e26] at h4
          refine ⟨_, rfl, D, rfl, ⟨_, SqL.of h4⟩, fun D2 hD2 => ?_⟩
          have nDD : D ≠ D2 := ne_of_none h4 hD2
          have hD23 : H3 D2 = none := same_none s4 hD2
          refine lc_it (walk_list (xs := (abcL.filter fun z => !decide (z ∈ tn)).map V.str)) (fun j H5 => Same H4 H5 ∧ H5 D2 = some (.lst ((((abcL.filter fun z => !decide (z ∈ tn)).take j).filter fun z => !decide (z ∈ zs)).map V.str)))
            ⟨same_add hD2, by rw [upd_same]; simp⟩ (fun _ _ _ z => SqL.of (z.1 _ _ h4)) ?_ ?_
          · rintro j y H5 H6 hj ⟨s5, h5⟩ ⟨rfl, hy⟩
            rw [List.getElem?_map] at hy
            obtain ⟨y, hg, rfl⟩ := Option.map_eq_some_iff.mp hy
            have ft := filter_take (f := fun z => !decide (z ∈ zs)) hg
            refine ⟨rfl, _, rfl, _, rfl, p, _, rfl, .inl (SqL.of (s5 _ _ (s4 _ _ hz3))), rfl, flat_strs zs, _, rfl, ?_⟩
            have i3 : (if (true = true) then !inV (V.str y) (zs.map V.str) else inV (V.str y) (zs.map V.str)) = !decide (y ∈ zs) := by rw [inV_str]; rfl
            rw [i3]
            cases hb : !decide (y ∈ zs) with
            | true =>
              refine ifT ⟨_, rfl, _, h5, ?_, same_new s5 hD2, ?_⟩
              · rw [List.length_map]
                have a1 := List.length_filter_le (fun z => !decide (z ∈ zs)) ((abcL.filter fun z => !decide (z ∈ tn)).take j)
                have a2 := List.length_filter_le (fun z => !decide (z ∈ tn)) abcL
                rw [abcL_len] at a2
                have a3 : ((abcL.filter fun z => !decide (z ∈ tn)).take j).length ≤ (abcL.filter fun z => !decide (z ∈ tn)).length := by rw [List.length_take]; omega
                omega
              · rw [upd_same, ft, if_pos hb]; simp
            | false =>
              refine ifF ⟨s5, ?_⟩
              rw [h5, ft, hb]; rfl
          · rintro H5 ⟨s5, h5⟩
            rw [List.length_map, List.take_length] at h5
            obtain ⟨y, rr, hy⟩ := spare_some (tn := tn) (zs := zs) (by omega)
            have oy := spare_ok (tn := tn) (zs := zs) (z := y) (by rw [hy]; exact List.mem_cons_self ..)
            have h5' : H5 D2 = some (.lst ((y :: rr).map V.str)) := by rw [← hy]; exact h5
            exact ⟨D2, _, ((0 : Nat) : Int), .str y, rfl, rfl, SqL.of h5', atI_nat rfl, y, _, _, rfl, oy.1, oy.2.1, oy.2.2, s4.trans s5⟩
      · rintro σ H4 ⟨y, d6, d7, rfl, wy, ty, ny, s4⟩
        have hz4 := s4 _ _ hz3
        refine ⟨_, rfl, .inl ⟨rfl, _, SqL.of hz4⟩, _, rfl, p, _, _, rfl, rfl, hz4, by rw [List.length_map]; omega, ?_⟩
        refine ⟨zs ++ [y], _, _, _, _, rfl, by simp [lz], ?_, ?_, ?_, by rw [upd_same]; simp, ?_, ?_⟩
        · intro z hz; rcases List.mem_append.mp hz with h | h
          · exact wz z h
          · rw [List.mem_singleton] at h; subst h; exact wy
        · rw [List.nodup_append]
          exact ⟨nz, by simp, fun a ha b hb => by rw [List.mem_singleton] at hb; subst hb; exact fun z => ny (z ▸ ha)⟩
        · intro z hz; rcases List.mem_append.mp hz with h | h
          · exact tz z h
          · rw [List.mem_singleton] at h; subst h; exact ty
        · rw [List.mem_cons, List.mem_singleton, not_or] at npS
          exact (S3.keep (fun o e => s4 _ _ e) (fun o e => s4 _ _ e)).updn npS.1 npS.2
        · exact (R03.trans (Sm.same s4)).new hp
    · rintro σ H2 ⟨zs, c4, c5, c6, c7, rfl, lz, wz, nz, tz, hz, S2, R2⟩
      exact ⟨_, rfl, k p zs H2 (by simpa using lz) wz nz tz hp hz S2 R2⟩

end
end G
set_option Elab.async false
set_option linter.all false
set_option maxRecDepth 100000
set_option maxHeartbeats 400000
/-! Fields and lists that the law draws. -/
namespace G
open PySem L2 Nd
def spLFields : Sp := fun vs H Q _ => ∃ (st cs : Addr), vs = [.ref st, .int 2] ∧ Stm H st cs ∧ ∀ (p : Addr) (d : Dat) (H' : Hp), H p = none → FldD d → At (fun b => b = p) H' (.ref p) d → Stm H' st cs → Sm [st, cs] H H' → Q (.ref p) H'
theorem dkv_snoc {k : Str} {v : V} : ∀ {ks : List Str} {vs : List V}, ks.length = vs.length → dkv ks vs ++ [(.inr k, v)] = dkv (ks ++ [k]) (vs ++ [v])
  | [], [], _ => rfl
  | [], _ :: _, h => by simp at h
  | _ :: _, [], h => by simp at h
  | j :: ks, u :: vs, h => by rw [List.cons_append, List.cons_append, dkv, dkv, List.cons_append, dkv_snoc (by simpa using h)]
theorem putK_dkv {k : Str} {v : V} {ks : List Str} {vs : List V} (l : ks.length = vs.length) (h : k ∉ ks) : putK (dkv ks vs) (.inr k) v = dkv (ks ++ [k]) (vs ++ [v]) := by
  rw [putK_fresh, dkv_snoc l]
  rw [dkv_fst l]
  intro z
  obtain ⟨j, hj, e⟩ := List.mem_map.mp z
  exact h (by rw [← Sum.inr.inj e]; exact hj)
theorem words_of {ws : List Str} {lo hi : Nat} (h1 : lo ≤ ws.length) (h2 : ws.length ≤ hi) (h3 : ∀ z ∈ ws, wordZ z = true) (h4 : ws.Nodup) : wordsL lo hi (ws.map Dat.str) = true := by
  rw [wordsL, texts_map, decide_eq_true h4, List.length_map, decide_eq_true (show (lo : Int) ≤ (ws.length : Int) by omega), decide_eq_true (show ((ws.length : Nat) : Int) ≤ (hi : Int) by omega), Bool.and_true, Bool.true_and, Bool.true_and]
  rw [List.all_map, List.all_eq_true]
  exact h3
theorem at_words {P : Addr → Prop} {H : Hp} {t : Addr} {ws : List Str} (h : H t = some (.tup (ws.map V.str))) : At P H (.ref t) (tupW ws) := by
  refine .tup h ?_
  clear h
  induction ws with
  | nil => exact .nil
  | cons z zs ih => exact .cons (.str z) ih
end G
set_option Elab.async false
set_option linter.all false
set_option maxRecDepth 100000
set_option maxHeartbeats 1200000
namespace G
open PySem L2 Nd
section
variable {P : Program} {w : World} {K : PySem.W.Frag} {mg : Str → Option Value} {base : Heap}
theorem ok_l_fields (T : Txt K mg) : FnOk P w K mg base CX0 4 T.f_l_fields T.d_l_fields ["_law_stream_here", "_law_most"] spLFields := by
  have G_l_draw := ok_l_draw (P := P) (w := w) (base := base) T
  have G_l_names := ok_l_names (P := P) (w := w) (base := base) T
  refine T.F_l_fields.ok sc_l_fields (fun vs H Q E h => ?_) (fun cdv A outer s H vs Q E hr h => ?_)
  · obtain ⟨_, _, rfl, _⟩ := h
    rfl
  · obtain ⟨st, cs, rfl, S, k⟩ := h
    refine ⟨_, (pss_cons (ps_set (i := 2) sc_l_fields.nd rfl (Or.inl rfl) pe_dnewK)
        (pss_cons (ps_for PassesOwn.never rfl (pi_list (pe_call G_l_names (hr.mono (by omega)) rfl T.g_l_names T.F_l_names.kp T.b_l_names .nil pass0 (pa_cons (pv 0) (pa_cons (pe_call G_l_draw (hr.mono (by omega)) rfl T.g_l_draw T.F_l_draw.kp T.b_l_draw .nil pass0 (pa_cons (pv 0) (pa_cons (pe_op op_add (pv 1) pe_int) pa_nil))) (pa_cons (pe_lst pa_nil) pa_nil))))) (pg_name (i := 3) sc_l_fields.nd rfl (Or.inl rfl))
          (pss_one (ps_dput (hu_of hr) (pv 2) (pv 3) (pe_callTy call_tuple_of (by rfl) T.z_tuple (by decide +kernel) (pa_cons (pe_call G_l_names (hr.mono (by omega)) rfl T.g_l_names T.F_l_names.kp T.b_l_names .nil pass0 (pa_cons (pv 0) (pa_cons (pe_op op_add pe_int (pe_call G_l_draw (hr.mono (by omega)) rfl T.g_l_draw T.F_l_draw.kp T.b_l_draw .nil pass0 (pa_cons (pv 0) (pa_cons pe_int pa_nil)))) (pa_cons (pe_lst pa_nil) pa_nil)))) pa_nil)) rfl)))
        (pss_one (ps_ret (pv 2))))), ?_⟩
    refine fun p hp => ?_
    have npS : p ∉ [st, cs] := S.mut.new hp
    have npS2 := npS
    rw [List.mem_cons, List.mem_singleton, not_or] at npS2
    refine ⟨_, rfl, _, rfl, _, rfl, _, _, rfl, rfl, st, cs, 3, rfl, S.upd hp, by decide, by decide, fun r H1 a1 b1 S1 R1 => ?_⟩
    refine ⟨Nat.zero_le _, fun tk htk => ?_⟩
    obtain ⟨m, rfl⟩ : ∃ m : Nat, r = (m : Int) := ⟨_, (Int.toNat_of_nonneg a1).symm⟩
    refine ⟨st, cs, tk, m, [], rfl, S1.upd htk, upd_same, S1.mut.new htk, by simp; omega, fun nl zs H2 lz wz nz _ hnl0 hnl S2 R2 => ?_⟩
    have R02 : Sm [st, cs] (upd H p (.dK [])) H2 := (R1.trans ((Sm.refl _ _).new htk)).trans R2
    have hp2 : H2 p = some (.dK []) := R02 _ _ upd_same npS
    have R0 : Sm [st, cs] H H2 := ((Sm.refl _ _).new hp).trans R02
    have npl : nl ≠ p := fun z => by
      rw [z] at hnl0
      have := (Sm.refl [st, cs] H1).new (o := .lst []) htk p _ (R1 _ _ upd_same npS) npS
      rw [this] at hnl0
      cases hnl0
    have nlS : nl ∉ [st, cs] := (S1.upd htk).mut.new hnl0
    refine ⟨nl, rfl, ⟨_, SqL.of hnl⟩, for_it (walk_list (xs := zs.map V.str)) (fun i σ H3 => ∃ (vs : List V) (xs : List Dat) (c3 : Option V), σ = [some (.ref st), some (.int 2), some (.ref p), c3] ∧ H3 p = some (.dK (dkv (zs.take i) vs)) ∧ vs.length = i ∧ Ats (fun b => b = p) H3 vs xs ∧ (∀ x ∈ xs, ∃ ws : List Str, x = tupW ws ∧ wordsL 2 3 (ws.map Dat.str) = true) ∧ H3 nl = some (.lst (zs.map V.str)) ∧ Stm H3 st cs ∧ Sm [st, cs] H H3)
      ⟨[], [], _, rfl, hp2, rfl, .nil, by simp, hnl, S2, R0⟩ (fun i σ H3 _ ⟨_, _, _, _, _, _, _, _, z, _⟩ => SqL.of z) ?_ ?_⟩
    · rintro i x σ H3 H3' hi ⟨vs, xs, c3, rfl, h1, h2, h3, h4, h5, S3, R3⟩ ⟨rfl, hx⟩
      rw [List.getElem?_map] at hx
      obtain ⟨z, hz, rfl⟩ := Option.map_eq_some_iff.mp hx
      have lzi : i < zs.length := (List.getElem?_eq_some_iff.mp hz).1
      refine ⟨_, rfl, _, rfl, st, cs, 2, rfl, S3, by decide, by decide, fun r2 H4 a2 b2 S4 R4 => ?_⟩
      obtain ⟨n, rfl⟩ : ∃ n : Nat, r2 = (n : Int) := ⟨_, (Int.toNat_of_nonneg a2).symm⟩
      have e2 : (2 : Int) + (n : Int) = ((2 + n : Nat) : Int) := by omega
      refine ⟨_, _, rfl, rfl, Nat.zero_le _, fun tk2 htk2 => ?_⟩
      refine ⟨st, cs, tk2, 2 + n, [], by rw [← e2]; rfl, S4.upd htk2, upd_same, S4.mut.new htk2, by simp; omega, fun n2 ws H5 lw ww nw _ h20 h2l S5 R5 => ?_⟩
      refine ⟨n2, _, rfl, .inl ⟨SqL.of h2l, fun t ht => ?_⟩⟩
      have R35 : Sm [st, cs] H3' (upd H5 t (.tup (ws.map V.str))) := ((R4.trans ((Sm.refl _ _).new htk2)).trans R5).trans ((Sm.refl _ _).new ht)
      have hp5 := R35 _ _ h1 npS
      have hn5 := R35 _ _ h5 nlS
      have lt : (zs.take i).length = vs.length := by rw [List.length_take, h2]; omega
      have bg : 100 < sizeLine := by decide +kernel
      refine ⟨_, rfl, _, rfl, p, _, rfl, .inl ⟨_, .inr z, hp5, rfl, by rw [dkv_len lt, List.length_take]; omega, rfl⟩, ?_⟩
      have fr : z ∉ zs.take i := fun y => by
        have tk : zs.take (i + 1) = zs.take i ++ [z] := by rw [List.take_add_one, hz]; rfl
        have nn : (zs.take (i + 1)).Nodup := nz.sublist (List.take_sublist _ _)
        rw [tk, List.nodup_append] at nn
        exact nn.2.2 z y z (List.mem_singleton.mpr rfl) rfl
      rw [putK_dkv lt fr]
      have tu : ∀ b xs, H3' b = some (.tup xs) → (upd (upd H5 t (.tup (ws.map V.str))) p (.dK (dkv (zs.take i ++ [z]) (vs ++ [.ref t])))) b = some (.tup xs) := fun b xs q => by
        have q5 := S3.mut.tup R35 b xs q
        rw [upd_ne (show b ≠ p from fun y => by rw [y, hp5] at q5; cases q5)]
        exact q5
      have kq : Kd (fun _ => False) (fun b => b = p) H3' (upd (upd H5 t (.tup (ws.map V.str))) p (.dK (dkv (zs.take i ++ [z]) (vs ++ [.ref t])))) := ⟨tu, fun _ _ y => y.elim, fun _ _ y => y.elim, fun _ y => y.elim⟩
      have nt : t ≠ p := fun y => by
        rw [y] at ht
        have := ((R4.trans ((Sm.refl _ _).new htk2)).trans R5) _ _ h1 npS
        rw [this] at ht
        cases ht
      refine ⟨vs ++ [.ref t], xs ++ [tupW ws], _, rfl, ?_, by simp [h2], ?_, ?_, by rw [upd_ne npl]; exact hn5, ?_, ?_⟩
      · rw [upd_same, List.take_add_one, hz]; rfl
      · refine Ats.append (Ats.keep kq _ _ (ats_tupW h3 fun x hx => ?_)) (.cons (at_words (by rw [upd_ne nt, upd_same])) .nil)
        obtain ⟨ws', e, _⟩ := h4 x hx
        exact ⟨ws', e⟩
      · intro x hx
        rcases List.mem_append.mp hx with y | y
        · exact h4 x y
        · rw [List.mem_singleton] at y
          exact ⟨ws, y, words_of (lo := 2) (hi := 3) (by omega) (by omega) ww nw⟩
      · exact (S5.upd ht).updn npS2.1 npS2.2
      · exact (R3.trans R35).new hp
    · rintro σ H3 ⟨vs, xs, c3, rfl, h1, h2, h3, h4, h5, S3, R3⟩
      rw [List.length_map] at h2
      rw [List.length_map, List.take_length] at h1
      refine ⟨_, rfl, k p (.dic zs xs) H3 hp ⟨zs, xs, rfl, by omega, wz, h4⟩ (.dic h1 rfl nz (by omega) h3) S3 R3⟩

end
end G
set_option Elab.async false
set_option linter.all false
set_option maxRecDepth 100000
set_option maxHeartbeats 400000
/-! The lists that the law draws, as plain data. -/
namespace G
open PySem L2 Nd
def desD (f i : Dat) : Dat := .dic ["fields", "inner"] [f, i]
/-- a list with its fields, and the inner list with its fields -/
structure Lst3 where
  nm : Str
  fs : Dat
  inn : Option (Str × Dat)
def innD : Option (Str × Dat) → Dat
  | none => .dic [] []
  | some (n, g) => .dic [n] [desD g (.dic [] [])]
def lsD (l : List Lst3) : Dat := .dic (l.map Lst3.nm) (l.map fun t => desD t.fs (innD t.inn))
def nms (t : Lst3) : List Str := t.nm :: match t.inn with
  | none => []
  | some (n, _) => [n]
structure OkL (l : List Lst3) : Prop where
  len : l.length ≤ 2
  word : ∀ t ∈ l, ∀ z ∈ nms t, wordZ z = true
  fld : ∀ t ∈ l, FldD t.fs ∧ ∀ n g, t.inn = some (n, g) → FldD g
  nd : (l.flatMap nms).Nodup
def spLLists : Sp := fun vs H Q _ => ∃ (st cs : Addr), vs = [.ref st, .int 2] ∧ Stm H st cs ∧ ∀ (p : Addr) (l : List Lst3) (H' : Hp), H p = none → OkL l → At (fun b => H b = none) H' (.ref p) (lsD l) → Stm H' st cs → Sm [st, cs] H H' → Q (.ref p) H'
theorem merge2 (a b : V) : mergeK [] [((.inr "fields" : Key), a), (.inr "inner", b)] = dkv ["fields", "inner"] [a, b] := by
  have h : ¬ ((Sum.inr ("fields" : Str) : Key) = Sum.inr ("inner" : Str)) := fun z => absurd (Sum.inr.inj z) (by decide +kernel)
  simp [mergeK, putK, dkv, h]
theorem nd2 : (["fields", "inner"] : List Str).Nodup := by decide +kernel
theorem at_des {P : Addr → Prop} {H : Hp} {a : Addr} {u v : V} {f i : Dat} (h : H a = some (.dK (dkv ["fields", "inner"] [u, v]))) (pa : P a) (hf : At P H u f) (hi : At P H v i) : At P H (.ref a) (desD f i) :=
  .dic h pa nd2 rfl (.cons hf (.cons hi .nil))
theorem at_nil {P : Addr → Prop} {H : Hp} {a : Addr} (h : H a = some (.dK [])) (pa : P a) : At P H (.ref a) (.dic [] []) :=
  .dic (ks := []) (vs := []) h pa .nil rfl .nil
theorem okL_of {zs : List Str} {l : List Lst3} (lz : zs.length = 4) (wz : ∀ z ∈ zs, wordZ z = true) (nz : zs.Nodup) (ll : l.length ≤ 2)
    (lj : ∀ (j : Nat) (t : Lst3), l[j]? = some t → zs[j]? = some t.nm ∧ FldD t.fs ∧ ∀ n g, t.inn = some (n, g) → zs[j + 2]? = some n ∧ FldD g) : OkL l := by
  have mem : ∀ t ∈ l, ∃ j : Nat, l[j]? = some t := fun t ht => List.getElem?_of_mem ht
  have wd : ∀ t ∈ l, ∀ z ∈ nms t, wordZ z = true := by
    intro t ht z hz
    obtain ⟨j, hj⟩ := mem t ht
    obtain ⟨g1, _, g3⟩ := lj j t hj
    rw [nms] at hz
    rcases List.mem_cons.mp hz with rfl | hz
    · exact wz _ (List.mem_of_getElem? g1)
    · cases hi : t.inn with
      | none => rw [hi] at hz; cases hz
      | some p =>
        obtain ⟨n, g⟩ := p
        rw [hi] at hz
        rw [List.mem_singleton.mp hz]
        exact wz _ (List.mem_of_getElem? (g3 n g hi).1)
  refine ⟨ll, wd, fun t ht => ?_, ?_⟩
  · obtain ⟨j, hj⟩ := mem t ht
    exact ⟨(lj j t hj).2.1, fun n g h => ((lj j t hj).2.2 n g h).2⟩
  · obtain ⟨z0, z1, z2, z3, rfl⟩ : ∃ a b c d, zs = [a, b, c, d] := by
      match zs, lz with
      | [a, b, c, d], _ => exact ⟨a, b, c, d, rfl⟩
    have nn : z0 ≠ z1 ∧ z0 ≠ z2 ∧ z0 ≠ z3 ∧ z1 ≠ z2 ∧ z1 ≠ z3 ∧ z2 ≠ z3 := by
      simp only [List.nodup_cons, List.mem_cons, List.not_mem_nil, or_false, not_or, List.nodup_nil, and_true, not_false_eq_true] at nz
      exact ⟨nz.1.1, nz.1.2.1, nz.1.2.2, nz.2.1.1, nz.2.1.2, nz.2.2⟩
    obtain ⟨n1, n2, n3, n4, n5, n6⟩ := nn
    match l, ll with
    | [], _ => exact .nil
    | [t], _ =>
      obtain ⟨g1, _, g3⟩ := lj 0 t rfl
      have e1 : z0 = t.nm := by simpa using g1
      rw [List.flatMap_cons, List.flatMap_nil, List.append_nil, nms, ← e1]
      cases hi : t.inn with
      | none => simp
      | some p =>
        obtain ⟨n, g⟩ := p
        have e2 : z2 = n := by simpa using (g3 n g hi).1
        subst e2
        simp [n2]
    | [t, u], _ =>
      obtain ⟨g1, _, g3⟩ := lj 0 t rfl
      obtain ⟨k1, _, k3⟩ := lj 1 u rfl
      have e1 : z0 = t.nm := by simpa using g1
      have e2 : z1 = u.nm := by simpa using k1
      rw [List.flatMap_cons, List.flatMap_cons, List.flatMap_nil, List.append_nil, nms, nms, ← e1, ← e2]
      cases hi : t.inn with
      | none =>
        cases hk : u.inn with
        | none => simp [n1]
        | some p =>
          obtain ⟨n, g⟩ := p
          have e4 : z3 = n := by simpa using (k3 n g hk).1
          subst e4
          simp [n1, n3, n5]
      | some p =>
        obtain ⟨n, g⟩ := p
        have e3 : z2 = n := by simpa using (g3 n g hi).1
        subst e3
        cases hk : u.inn with
        | none => simp [n1, n2, Ne.symm n4]
        | some p =>
          obtain ⟨n, g⟩ := p
          have e4 : z3 = n := by simpa using (k3 n g hk).1
          subst e4
          simp [n1, n2, n3, n5, n6, Ne.symm n4]
theorem nms_nodup {zs : List Str} {l : List Lst3} (lz : zs.length = 4) (nz : zs.Nodup) (ll : l.length ≤ 2)
    (lj : ∀ (j : Nat) (t : Lst3), l[j]? = some t → zs[j]? = some t.nm ∧ FldD t.fs ∧ ∀ n g, t.inn = some (n, g) → zs[j + 2]? = some n ∧ FldD g) : (l.map Lst3.nm).Nodup := by
  have e : l.map Lst3.nm = zs.take l.length := by
    refine List.ext_getElem? fun j => ?_
    rw [List.getElem?_map, List.getElem?_take]
    by_cases h : j < l.length
    · rw [if_pos h, List.getElem?_eq_getElem h]
      exact ((lj j _ (List.getElem?_eq_getElem h)).1).symm
    · rw [if_neg h, List.getElem?_eq_none (by omega)]; rfl
  rw [e]
  exact nz.sublist (List.take_sublist _ _)
end G
set_option Elab.async false
set_option linter.all false
set_option maxRecDepth 100000
set_option maxHeartbeats 1200000
namespace G
open PySem L2 Nd
section
variable {P : Program} {w : World} {K : PySem.W.Frag} {mg : Str → Option Value} {base : Heap}
theorem ok_l_lists (T : Txt K mg) : FnOk P w K mg base CX0 5 T.f_l_lists T.d_l_lists ["_law_stream_here", "_law_most"] spLLists := by
  have G_l_draw := ok_l_draw (P := P) (w := w) (base := base) T
  have G_l_names := ok_l_names (P := P) (w := w) (base := base) T
  have G_l_fields := ok_l_fields (P := P) (w := w) (base := base) T
  refine T.F_l_lists.ok sc_l_lists (fun vs H Q E h => ?_) (fun cdv A outer s H vs Q E hr h => ?_)
  · obtain ⟨_, _, rfl, _⟩ := h
    rfl
  · obtain ⟨st, cs, rfl, S, k⟩ := h
    refine ⟨_, (pss_cons (ps_set (i := 2) sc_l_lists.nd rfl (Or.inl rfl) (pe_call G_l_names (hr.mono (by omega)) rfl T.g_l_names T.F_l_names.kp T.b_l_names .nil pass0 (pa_cons (pv 0) (pa_cons pe_int (pa_cons (pe_lst pa_nil) pa_nil)))))
        (pss_cons (ps_set (i := 3) sc_l_lists.nd rfl (Or.inl rfl) pe_dnewK)
        (pss_cons (ps_for PassesOwn.never rfl (pi_range1 rfl T.z_range (pa_cons (pe_ix ix_tup (pe_tup (pa_cons pe_int (pa_cons pe_int (pa_cons pe_int (pa_cons pe_int (pa_cons pe_int pa_nil)))))) (pe_call G_l_draw (hr.mono (by omega)) rfl T.g_l_draw T.F_l_draw.kp T.b_l_draw .nil pass0 (pa_cons (pv 0) (pa_cons pe_int pa_nil))) (fun _ _ => rfl)) pa_nil)) (pg_name (i := 4) sc_l_lists.nd rfl (Or.inl rfl))
          (pss_cons (ps_set (i := 5) sc_l_lists.nd rfl (Or.inl rfl) pe_dnewK)
          (Evl.pss_cut (ps_if (pt_cmpR op_eq (pe_call G_l_draw (hr.mono (by omega)) rfl T.g_l_draw T.F_l_draw.kp T.b_l_draw .nil pass0 (pa_cons (pv 0) (pa_cons pe_int pa_nil))) pe_int (nomark _))
            (pss_one (ps_dput (hu_of hr) (pv 5) (pe_ix ix_list (pv 2) (pe_op op_add (pv 4) pe_int) (fun _ _ => rfl)) (pe_disp (pps_cons pe_str (pe_call G_l_fields (hr.mono (by omega)) rfl T.g_l_fields T.F_l_fields.kp T.b_l_fields .nil pass0 (pa_cons (pv 0) (pa_cons (pv 1) pa_nil))) (pps_cons pe_str pe_dnewK pps_nil)) (by rfl) (by rfl) (fun z => by cases z) (by decide)) rfl))
            pss_nil)
          (pss_one (ps_dput (hu_of hr) (pv 3) (pe_ix ix_list (pv 2) (pv 4) (fun _ _ => rfl)) (pe_disp (pps_cons pe_str (pe_call G_l_fields (hr.mono (by omega)) rfl T.g_l_fields T.F_l_fields.kp T.b_l_fields .nil pass0 (pa_cons (pv 0) (pa_cons (pv 1) pa_nil))) (pps_cons pe_str (pv 5) pps_nil)) (by rfl) (by rfl) (fun z => by cases z) (by decide)) rfl)))))
        (pss_one (ps_ret (pv 3)))))), ?_⟩
    refine ⟨_, rfl, Nat.zero_le _, fun tk htk => ?_⟩
    refine ⟨st, cs, tk, 4, [], rfl, S.upd htk, upd_same, S.mut.new htk, by decide, fun nl zs H1 lz wz nz _ hn0 hnl S1 R1 => ?_⟩
    refine fun p hp => ?_
    refine ⟨by show 5 ≤ sizeLine; decide, fun tp htp => ?_⟩
    have npl : nl ≠ p := ne_of_none hnl hp
    have nps : p ∉ [st, cs] := S1.mut.new hp
    have nls : nl ∉ [st, cs] := (S.upd htk).mut.new hn0
    have R01 : Sm [st, cs] H H1 := ((Sm.refl _ _).new htk).trans R1
    have hp0 : H p = none := R01.free hp nps
    refine ⟨_, rfl, st, cs, 5, rfl, (S1.upd hp).upd htp, by decide, by decide, fun r H2 a1 b1 S2 R2 => ?_⟩
    have R12 : Sm [st, cs] H1 H2 := (((Sm.refl _ _).new hp).trans ((Sm.refl _ _).new htp)).trans R2
    have ht2 : H2 tp = some (.tup [.int 1, .int 1, .int 2, .int 0, .int 2]) := ((S1.upd hp).upd htp).mut.tup R2 _ _ upd_same
    have hp2 : H2 p = some (.dK []) := R2 _ _ (by rw [upd_ne (ne_of_none upd_same htp)]; exact upd_same) nps
    obtain ⟨v, hv, hm⟩ := atI_small (xs := [V.int 1, .int 1, .int 2, .int 0, .int 2]) a1 b1
    obtain ⟨c, rfl, c2⟩ : ∃ c : Nat, v = .int (c : Int) ∧ c ≤ 2 := by
      simp only [List.mem_cons, List.not_mem_nil, or_false] at hm
      rcases hm with rfl | rfl | rfl | rfl | rfl
      · exact ⟨1, rfl, by decide⟩
      · exact ⟨1, rfl, by decide⟩
      · exact ⟨2, rfl, by decide⟩
      · exact ⟨0, rfl, by decide⟩
      · exact ⟨2, rfl, by decide⟩
    refine ⟨tp, _, _, _, rfl, rfl, SqT.of ht2, hv, (c : Int), rfl, by omega, by omega, for_it walk_range0 (fun i σ H3 => ∃ (l : List Lst3) (vs : List V) (c4 c5 : Option V), σ = [some (.ref st), some (.int 2), some (.ref nl), some (.ref p), c4, c5] ∧ l.length = i ∧
        (∀ j t, l[j]? = some t → zs[j]? = some t.nm ∧ FldD t.fs ∧ ∀ n g, t.inn = some (n, g) → zs[j + 2]? = some n ∧ FldD g) ∧ H3 p = some (.dK (dkv (l.map Lst3.nm) vs)) ∧ vs.length = i ∧
        Ats (fun b => H b = none ∧ b ≠ p) H3 vs (l.map fun t => desD t.fs (innD t.inn)) ∧ H3 nl = some (.lst (zs.map V.str)) ∧ Stm H3 st cs ∧ Sm [st, cs] H H3)
      ⟨[], [], none, none, rfl, rfl, by simp, hp2, rfl, .nil, R12 _ _ hnl nls, S2, R01.trans R12⟩ (fun _ _ _ _ _ => True.intro) ?_ ?_⟩
    · rintro i x σ H3 H3' hi ⟨l, vs, c4, c5, rfl, ll, lj, h1, h2, h3, h4, S3, R3⟩ ⟨rfl, rfl⟩
      have hi2 : i < c := by simpa using hi
      have bg : 100 < sizeLine := by decide +kernel
      have fS : ∀ b, H3' b = none → b ∉ [st, cs] := fun b hb => S3.mut.new hb
      have fP : ∀ b, H3' b = none → H b = none ∧ b ≠ p := fun b hb => ⟨R3.free hb (fS b hb), fun z => by rw [z, h1] at hb; cases hb⟩
      refine fun q hq => ?_
      have nqs := fS q hq
      have nqs2 := nqs
      rw [List.mem_cons, List.mem_singleton, not_or] at nqs2
      refine ⟨fun σ H6 => ∃ o : Option (Str × Dat), σ = [some (.ref st), some (.int 2), some (.ref nl), some (.ref p), some (.int (i : Int)), some (.ref q)] ∧ At (fun b => H3' b = none) H6 (.ref q) (innD o) ∧ (∀ n g, o = some (n, g) → zs[i + 2]? = some n ∧ FldD g) ∧ Stm H6 st cs ∧ Sm [st, cs] H3' H6, ?_, ?_⟩
      · refine ⟨_, rfl, st, cs, 2, rfl, S3.upd hq, by decide, by decide, fun r2 H5 a2 b2 S5 R5 => ?_⟩
        have hq5 := R5 _ _ upd_same nqs
        have R35 : Sm [st, cs] H3' H5 := ((Sm.refl _ _).new hq).trans R5
        refine ⟨rfl, _, rfl, ?_⟩
        cases hc : decide (V.int r2 = V.int 1) with
        | false => exact ifF ⟨none, rfl, at_nil hq5 hq, (fun n g z => nomatch z), S5, R35⟩
        | true =>
          refine ifT ?_
          refine fun a ha => ?_
          refine ⟨_, rfl, _, rfl, st, cs, rfl, S5.upd ha, fun fd g H7 hfd fg afd S7 R7 => ?_⟩
          refine fun e he => ?_
          have nas : a ∉ [st, cs] := S5.mut.new ha
          have nas2 := nas
          rw [List.mem_cons, List.mem_singleton, not_or] at nas2
          have ha7 := R7 _ _ upd_same nas
          have nea : a ≠ e := ne_of_none ha7 he
          have nqa : q ≠ a := ne_of_none hq5 ha
          have hq5a : (upd H5 a (.dK [])) q = some (.dK []) := by rw [upd_ne nqa]; exact hq5
          have hq7 := R7 _ _ hq5a nqs
          have nqe : q ≠ e := ne_of_none hq7 he
          have nqf : q ≠ fd := ne_of_none hq5a hfd
          have naf : a ≠ fd := ne_of_none upd_same hfd
          have nfs : fd ∉ [st, cs] := (S5.upd ha).mut.new hfd
          have hf5 : H5 fd = none := by rw [upd_ne (Ne.symm naf)] at hfd; exact hfd
          have hf3 : H3' fd = none := R35.free hf5 nfs
          have R57 : Sm [st, cs] H5 H7 := ((Sm.refl _ _).new ha).trans R7
          have nes : e ∉ [st, cs] := S7.mut.new he
          have he3 : H3' e = none := R35.free (R57.free he nes) nes
          have ha3 : H3' a = none := R35.free ha nas
          refine ⟨by rw [upd_ne nea]; exact ha7, [(.inr "fields", .ref fd), (.inr "inner", .ref e)], rfl, by show 2 ≤ 15; decide, ?_⟩
          rw [merge2]
          obtain ⟨n, hn⟩ : ∃ n, zs[i + 2]? = some n := ⟨_, List.getElem?_eq_getElem (by omega)⟩
          have R59 : Sm [st, cs] H5 (upd (upd H7 e (.dK [])) a (.dK (dkv ["fields", "inner"] [.ref fd, .ref e]))) := (R57.trans ((Sm.refl _ _).new he)).new ha
          have e2 : (i : Int) + 2 = ((i + 2 : Nat) : Int) := by omega
          have hat : atI (zs.map V.str) ((i : Int) + 2) = some (.str n) := by rw [e2]; exact atI_nat (by rw [List.getElem?_map, hn]; rfl)
          refine ⟨_, rfl, _, rfl, _, rfl, _, _, rfl, rfl, nl, _, _, _, rfl, rfl, SqL.of (R59 _ _ (R35 _ _ h4 nls) nls), hat, q, _, rfl, .inl ⟨[], .inr n, R59 _ _ hq5 nqs, rfl, by show 0 < sizeLine; omega, rfl⟩, ?_⟩
          refine ⟨some (n, g), rfl, ?_, ?_, ((S7.upd he).updn nas2.1 nas2.2).updn nqs2.1 nqs2.2, (R35.trans R59).new hq⟩
          · refine .dic (ks := [n]) (vs := [.ref a]) upd_same hq (by simp) rfl (.cons (at_des (u := .ref fd) (v := .ref e) ?_ ha3 ?_ ?_) .nil)
            · rw [upd_ne (Ne.symm nqa), upd_same]
            · have k1 := At.same afd (same_add (o := HO.dK []) he)
              have k2 := At.keep (Kd.put (P := fun b => b = fd) (o := .dK (dkv ["fields", "inner"] [.ref fd, .ref e])) (show (upd H7 e (.dK [])) a = some (.dK []) by rw [upd_ne nea]; exact ha7) (fun _ z => nomatch z) naf) _ _ k1
              have k3 := At.keep (Kd.put (P := fun b => b = fd) (o := .dK (putK [] (.inr n) (.ref a))) (R59 _ _ hq5 nqs) (fun _ z => nomatch z) nqf) _ _ k2
              exact k3.weak fun b z => by rw [z]; exact hf3
            · refine at_nil ?_ he3
              rw [upd_ne (Ne.symm nqe), upd_ne (Ne.symm nea), upd_same]
          · intro n' g' z
            cases z
            exact ⟨hn, fg⟩
      · rintro σ H6 ⟨o, rfl, aq, ho, S6, R6⟩
        refine fun a ha => ?_
        refine ⟨_, rfl, _, rfl, st, cs, rfl, S6.upd ha, fun fd g H7 hfd fg afd S7 R7 => ?_⟩
        refine ⟨_, rfl, ?_⟩
        have nas : a ∉ [st, cs] := S6.mut.new ha
        have nas2 := nas
        rw [List.mem_cons, List.mem_singleton, not_or] at nas2
        have nps2 := nps
        rw [List.mem_cons, List.mem_singleton, not_or] at nps2
        have ha7 := R7 _ _ upd_same nas
        have naf : a ≠ fd := ne_of_none upd_same hfd
        have R67 : Sm [st, cs] H6 H7 := ((Sm.refl _ _).new ha).trans R7
        have R68 : Sm [st, cs] H6 (upd H7 a (.dK (dkv ["fields", "inner"] [.ref fd, .ref q]))) := R67.new ha
        have R38 := R6.trans R68
        have nfs : fd ∉ [st, cs] := (S6.upd ha).mut.new hfd
        have hf6 : H6 fd = none := by rw [upd_ne (Ne.symm naf)] at hfd; exact hfd
        have hf3 : H3' fd = none := R6.free hf6 nfs
        have ha3 : H3' a = none := R6.free ha nas
        refine ⟨ha7, [(.inr "fields", .ref fd), (.inr "inner", .ref q)], rfl, by show 2 ≤ 15; decide, ?_⟩
        rw [merge2]
        obtain ⟨n, hn⟩ : ∃ n, zs[i]? = some n := ⟨_, List.getElem?_eq_getElem (by omega)⟩
        have lt : (l.map Lst3.nm).length = vs.length := by rw [List.length_map, ll, h2]
        have hp8 := R38 _ _ h1 nps
        refine ⟨_, rfl, _, rfl, _, rfl, nl, _, (i : Int), .str n, rfl, rfl, SqL.of (R38 _ _ h4 nls), atI_nat (by rw [List.getElem?_map, hn]; rfl), p, _, rfl, .inl ⟨_, .inr n, hp8, rfl, by rw [dkv_len lt, lt]; omega, rfl⟩, ?_⟩
        have fr : n ∉ l.map Lst3.nm := fun y => by
          obtain ⟨t, mt, e⟩ := List.mem_map.mp y
          obtain ⟨j, hj⟩ := List.getElem?_of_mem mt
          have g1 := (lj j t hj).1
          have jl := (List.getElem?_eq_some_iff.mp hj).1
          rw [e] at g1
          have := (List.getElem?_inj (i := j) (j := i) (by omega) nz).mp (g1.trans hn.symm)
          omega
        rw [putK_dkv lt fr]
        have kP : ∀ b, (H b = none ∧ b ≠ p) → b ∉ [st, cs] := fun b z => S.mut.new z.1
        have v8 := Ats.keep (Kd.sm (P := fun b => H b = none ∧ b ≠ p) S3.mut R38 kP) _ _ h3
        have q8 := (At.keep (Kd.sm (P := fun b => H3' b = none) S6.mut R68 (fun b z => fS b z)) _ _ aq).weak fP
        have f8 : At (fun b => H b = none ∧ b ≠ p) (upd H7 a (.dK (dkv ["fields", "inner"] [.ref fd, .ref q]))) (.ref fd) g := (At.keep (Kd.put (P := fun b => b = fd) (o := .dK (dkv ["fields", "inner"] [.ref fd, .ref q])) ha7 (fun _ z => nomatch z) naf) _ _ afd).weak (fun b z => by rw [z]; exact fP _ hf3)
        have d8 : At (fun b => H b = none ∧ b ≠ p) (upd H7 a (.dK (dkv ["fields", "inner"] [.ref fd, .ref q]))) (.ref a) (desD g (innD o)) := at_des upd_same (fP _ ha3) f8 q8
        have kp := Kd.put (P := fun b => H b = none ∧ b ≠ p) (o := .dK (dkv (l.map Lst3.nm ++ [n]) (vs ++ [.ref a]))) hp8 (fun _ z => nomatch z) (fun z => z.2 rfl)
        refine ⟨l ++ [⟨n, g, o⟩], vs ++ [.ref a], _, _, rfl, by simp [ll], ?_, by rw [upd_same, List.map_append]; rfl, by simp [h2], ?_, by rw [upd_ne npl]; exact R38 _ _ h4 nls, (S7.updn nas2.1 nas2.2).updn nps2.1 nps2.2, (R3.trans R38).new hp0⟩
        · intro j t hj
          by_cases hjl : j < l.length
          · rw [List.getElem?_append_left hjl] at hj
            exact lj j t hj
          · have jl := (List.getElem?_eq_some_iff.mp hj).1
            rw [List.length_append, List.length_singleton] at jl
            obtain rfl : j = l.length := by omega
            rw [List.getElem?_append_right (Nat.le_refl _), Nat.sub_self] at hj
            cases hj
            rw [ll]
            exact ⟨hn, fg, ho⟩
        · rw [List.map_append]
          exact Ats.append (Ats.keep kp _ _ v8) (.cons (At.keep kp _ _ d8) .nil)
    · rintro σ H3 ⟨l, vs, c4, c5, rfl, ll, lj, h1, h2, h3, h4, S3, R3⟩
      have lc : l.length = c := by simpa using ll
      refine ⟨_, rfl, k p l H3 hp0 (okL_of lz wz nz (by omega) lj) ?_ S3 R3⟩
      refine .dic h1 hp0 ?_ (by rw [List.length_map, h2, ll]) (h3.weak fun b z => z.1)
      exact nms_nodup lz nz (by omega) lj

end
end G
set_option Elab.async false
set_option linter.all false
set_option maxRecDepth 100000
set_option maxHeartbeats 400000
/-! Copies of plain data. -/
namespace G
open PySem L2 Nd
def spCopy (n : Nat) : Sp := fun vs H Q _ => ∃ (v : V) (P : Addr → Prop) (d : Dat), vs = [v] ∧ At P H v d ∧ smD d = true ∧ depD d < n ∧ ∀ (v' : V) (H' : Hp), Same H H' → At (fun b => H b = none) H' v' d → Q v' H'
theorem take_get {α : Type} {l : List α} {i : Nat} {x : α} (h : l[i]? = some x) : l.take (i + 1) = l.take i ++ [x] := by rw [List.take_add_one, h]; rfl
end G
set_option Elab.async false
set_option linter.all false
set_option maxRecDepth 100000
set_option maxHeartbeats 1200000
namespace G
open PySem L2 Nd
section
variable {P : Program} {w : World} {K : PySem.W.Frag} {mg : Str → Option Value} {base : Heap}
theorem ok_l_copy (T : Txt K mg) : ∀ n : Nat, FnOk P w K mg base CX0 (n + 1) T.f_l_copy T.d_l_copy ["_law_value"] (spCopy n)
  | 0 => fn_false fun vs H Q E h => by
    obtain ⟨_, _, _, _, _, _, h, _⟩ := h
    exact absurd h (Nat.not_lt_zero _)
  | n + 1 => by
    have G_l_copy := ok_l_copy T n
    refine T.F_l_copy.ok sc_l_copy (fun vs H Q E h => ?_) (fun cdv A outer s H vs Q E hr h => ?_)
    · obtain ⟨_, _, _, rfl, _⟩ := h
      rfl
    · obtain ⟨v, Pp, d, rfl, hv, sm, dp, k⟩ := h
      refine ⟨_, (pss_cons (ps_if (pt_val (pe_callB call_isi (by rfl) T.z_isinstance (by decide +kernel) (pa_cons (pv 0) (pa_cons (pe_bltn (v := .ty "list") (u := .type "list") rfl T.z_list (by decide +kernel) rfl) pa_nil))))
          (pss_one (ps_ret (pe_lc (own := [("_law_part", 3)]) (g := gName 3) rfl sc_l_copy.nd (pi_seqA (pv 0)) (blkOk_by (own := [("_law_part", 3)]) (N := ["_law_value", "_law_result", "_law_key", "_law_part"]) (sc := defScope s_l_copy) (by decide +kernel)) (fun _ _ _ _ _ => (pg_name (i := 3) sc_l_copy.nd rfl (Or.inl rfl))) (fun _ _ _ _ _ => pts_nil) (fun _ _ _ _ _ => (pe_call G_l_copy (hr.mono (by omega)) rfl T.g_l_copy T.F_l_copy.kp T.b_l_copy .nil pass0 (pa_cons (pv 3) pa_nil))))))
          pss_nil)
        (pss_cons (ps_if (pt_val (pe_callB call_isi (by rfl) T.z_isinstance (by decide +kernel) (pa_cons (pv 0) (pa_cons (pe_bltn (v := .ty "tuple") (u := .type "tuple") rfl T.z_tuple (by decide +kernel) rfl) pa_nil))))
          (pss_one (ps_ret (pe_callTy call_tuple_of (by rfl) T.z_tuple (by decide +kernel) (pa_cons (pe_lc (own := [("_law_part", 3)]) (g := gName 3) rfl sc_l_copy.nd (pi_seqA (pv 0)) (blkOk_by (own := [("_law_part", 3)]) (N := ["_law_value", "_law_result", "_law_key", "_law_part"]) (sc := defScope s_l_copy) (by decide +kernel)) (fun _ _ _ _ _ => (pg_name (i := 3) sc_l_copy.nd rfl (Or.inl rfl))) (fun _ _ _ _ _ => pts_nil) (fun _ _ _ _ _ => (pe_call G_l_copy (hr.mono (by omega)) rfl T.g_l_copy T.F_l_copy.kp T.b_l_copy .nil pass0 (pa_cons (pv 3) pa_nil)))) pa_nil))))
          pss_nil)
        (pss_cons (ps_if (pt_val (pe_callB call_isi (by rfl) T.z_isinstance (by decide +kernel) (pa_cons (pv 0) (pa_cons (pe_bltn (v := .ty "dict") (u := .type "dict") rfl T.z_dict (by decide +kernel) rfl) pa_nil))))
          (pss_cons (ps_set (i := 1) sc_l_copy.nd rfl (Or.inl rfl) pe_dnewK)
          (pss_cons (ps_lock (ps_for PassesOwn.never rfl (pi_keys (pv 0)) (pg_name (i := 2) sc_l_copy.nd rfl (Or.inl rfl))
            (pss_one (ps_dput (hu_of hr) (pv 1) (pv 2) (pe_call G_l_copy (hr.mono (by omega)) rfl T.g_l_copy T.F_l_copy.kp T.b_l_copy .nil pass0 (pa_cons (pe_dget (hu_of hr) (pv 0) (pv 2) (fun _ _ => rfl)) pa_nil)) rfl))))
          (pss_one (ps_ret (pv 1)))))
          pss_nil)
        (pss_one (ps_ret (pv 0)))))), ?_⟩
      have big : 1000 < sizeLine := by decide +kernel
      have h0 := hv
      cases hv with
      | non => exact ⟨_, rfl, _, _, _, _, false, rfl, .ty "list", .base .non, kit_ty (by decide +kernel), false, rfl, ifF ⟨_, rfl, _, _, _, _, false, rfl, .ty "tuple", .base .non, kit_ty (by decide +kernel), false, rfl, ifF ⟨_, rfl, _, _, _, _, false, rfl, .ty "dict", .base .non, kit_ty (by decide +kernel), false, rfl, ifF ⟨_, rfl, k _ _ (Same.refl H) .non⟩⟩⟩⟩
      | bl b => exact ⟨_, rfl, _, _, _, _, false, rfl, .ty "list", .base (.bl b), kit_ty (by decide +kernel), false, rfl, ifF ⟨_, rfl, _, _, _, _, false, rfl, .ty "tuple", .base (.bl b), kit_ty (by decide +kernel), false, rfl, ifF ⟨_, rfl, _, _, _, _, false, rfl, .ty "dict", .base (.bl b), kit_ty (by decide +kernel), false, rfl, ifF ⟨_, rfl, k _ _ (Same.refl H) (.bl b)⟩⟩⟩⟩
      | int i => exact ⟨_, rfl, _, _, _, _, false, rfl, .ty "list", .base (.int i), kit_ty (by decide +kernel), false, rfl, ifF ⟨_, rfl, _, _, _, _, false, rfl, .ty "tuple", .base (.int i), kit_ty (by decide +kernel), false, rfl, ifF ⟨_, rfl, _, _, _, _, false, rfl, .ty "dict", .base (.int i), kit_ty (by decide +kernel), false, rfl, ifF ⟨_, rfl, k _ _ (Same.refl H) (.int i)⟩⟩⟩⟩
      | str z => exact ⟨_, rfl, _, _, _, _, false, rfl, .ty "list", .base (.str z), kit_ty (by decide +kernel), false, rfl, ifF ⟨_, rfl, _, _, _, _, false, rfl, .ty "tuple", .base (.str z), kit_ty (by decide +kernel), false, rfl, ifF ⟨_, rfl, _, _, _, _, false, rfl, .ty "dict", .base (.str z), kit_ty (by decide +kernel), false, rfl, ifF ⟨_, rfl, k _ _ (Same.refl H) (.str z)⟩⟩⟩⟩
      | @lst a ws ds g pg aw =>
        have ln := aw.len
        rw [smD, Bool.and_eq_true] at sm
        rw [depD] at dp
        have l1 := of_decide_eq_true sm.1
        refine ⟨_, rfl, _, _, _, _, true, rfl, .ty "list", .base (.lst g), kit_ty (by decide +kernel), true, rfl, ifT ?_⟩
        refine ⟨_, rfl, a, rfl, seqA g (.inl rfl) fun J wk D hD => ?_⟩
        refine lc_it wk (fun i H2 => Same H H2 ∧ ∃ us, H2 D = some (.lst us) ∧ us.length = i ∧ Ats (fun b => H b = none ∧ b ≠ D) H2 us (ds.take i))
          ⟨same_add hD, [], upd_same, rfl, .nil⟩ (fun _ _ _ q => q.1 _ _ g) ?_ ?_
        · rintro i x H2 H3 hi ⟨s2, us, h3, lu, au⟩ ⟨rfl, hx⟩
          obtain ⟨dd, hd1, hd2⟩ := aw.get hx
          have dl := depDs_get hd1
          refine ⟨rfl, _, rfl, x, Pp, dd, rfl, hd2.same s2, smDs_get sm.2 hd1, by omega, fun v' H4 s4 av => ?_⟩
          refine ⟨us, s4 _ _ h3, by omega, same_new (s2.trans s4) hD, us ++ [v'], upd_same, by simp [lu], ?_⟩
          rw [take_get hd1]
          have kp := Kd.put (P := fun b => H b = none ∧ b ≠ D) (o := .lst (us ++ [v'])) (s4 _ _ h3) (fun _ z => nomatch z) (fun z => z.2 rfl)
          refine Ats.append (Ats.keep kp _ _ (au.same s4)) (.cons (At.keep kp _ _ (av.weak fun b z => ⟨same_none s2 z, fun y => ?_⟩)) .nil)
          rw [y, h3] at z
          cases z
        · rintro H2 ⟨s2, us, h3, lu, au⟩
          rw [ln, List.take_length] at au
          exact k _ _ s2 (.lst h3 hD (au.weak fun b z => z.1))
      | @tup a ws ds g aw =>
        have ln := aw.len
        rw [smD, Bool.and_eq_true] at sm
        rw [depD] at dp
        have l1 := of_decide_eq_true sm.1
        refine ⟨_, rfl, _, _, _, _, false, rfl, .ty "list", .base (.tup g), kit_ty (by decide +kernel), false, rfl, ifF ?_⟩
        refine ⟨_, rfl, _, _, _, _, true, rfl, .ty "tuple", .base (.tup g), kit_ty (by decide +kernel), true, rfl, ifT ?_⟩
        refine ⟨_, rfl, a, rfl, seqA g (.inr rfl) fun J wk D hD => ?_⟩
        refine lc_it wk (fun i H2 => Same H H2 ∧ ∃ us, H2 D = some (.lst us) ∧ us.length = i ∧ Ats (fun b => H b = none ∧ b ≠ D) H2 us (ds.take i))
          ⟨same_add hD, [], upd_same, rfl, .nil⟩ (fun _ _ _ q => q.1 _ _ g) ?_ ?_
        · rintro i x H2 H3 hi ⟨s2, us, h3, lu, au⟩ ⟨rfl, hx⟩
          obtain ⟨dd, hd1, hd2⟩ := aw.get hx
          have dl := depDs_get hd1
          refine ⟨rfl, _, rfl, x, Pp, dd, rfl, hd2.same s2, smDs_get sm.2 hd1, by omega, fun v' H4 s4 av => ?_⟩
          refine ⟨us, s4 _ _ h3, by omega, same_new (s2.trans s4) hD, us ++ [v'], upd_same, by simp [lu], ?_⟩
          rw [take_get hd1]
          have kp := Kd.put (P := fun b => H b = none ∧ b ≠ D) (o := .lst (us ++ [v'])) (s4 _ _ h3) (fun _ z => nomatch z) (fun z => z.2 rfl)
          refine Ats.append (Ats.keep kp _ _ (au.same s4)) (.cons (At.keep kp _ _ (av.weak fun b z => ⟨same_none s2 z, fun y => ?_⟩)) .nil)
          rw [y, h3] at z
          cases z
        · rintro H2 ⟨s2, us, h3, lu, au⟩
          rw [ln, List.take_length] at au
          refine ⟨D, us, rfl, .inl ⟨SqL.of h3, fun t ht => ?_⟩⟩
          exact k _ _ (s2.trans (same_add ht)) (.tup upd_same ((au.weak fun b z => z.1).same (same_add ht)))
      | @dic e ks ws xs g pg nd lk r =>
        have ln := r.len
        rw [smD, Bool.and_eq_true, Bool.and_eq_true] at sm
        rw [depD] at dp
        have l1 := of_decide_eq_true sm.1.1
        refine ⟨_, rfl, _, _, _, _, false, rfl, .ty "list", .base (.dK g), kit_ty (by decide +kernel), false, rfl, ifF ?_⟩
        refine ⟨_, rfl, _, _, _, _, false, rfl, .ty "tuple", .base (.dK g), kit_ty (by decide +kernel), false, rfl, ifF ?_⟩
        refine ⟨_, rfl, _, _, _, _, true, rfl, .ty "dict", .base (.dK g), kit_ty (by decide +kernel), true, rfl, ifT ?_⟩
        refine fun p hp => ?_
        have npe : e ≠ p := ne_of_none g hp
        have gp : (upd H p (.dK [])) e = some (.dK (dkv ks ws)) := by rw [upd_ne npe]; exact g
        refine ⟨e, _, gp, True.intro, fun od => ?_⟩
        have hp0 : (upd H e (.frz od (.dK (dkv ks ws)))) p = none := by rw [upd_ne (Ne.symm npe)]; exact hp
        have fr0 : ∀ b, (upd H e (.frz od (.dK (dkv ks ws)))) b = none → H b = none := fun b z => by
          by_cases y : b = e
          · rw [y, upd_same] at z; cases z
          · rw [upd_ne y] at z; exact z
        refine ⟨_, rfl, e, od, rfl, .inl ⟨_, upd_same, for_it walk_keys (fun i σ H2 => ∃ (c2 : Option V) (us : List V), σ = [some (.ref e), some (.ref p), c2, none] ∧ Same (upd H e (.frz od (.dK (dkv ks ws)))) H2 ∧ H2 p = some (.dK (dkv (ks.take i) us)) ∧ us.length = i ∧ Ats (fun b => H b = none ∧ b ≠ p) H2 us (xs.take i))
          ⟨_, [], rfl, ?_, ?_, rfl, .nil⟩ (fun _ _ _ _ ⟨_, _, _, q, _⟩ => q _ _ upd_same) ?_ ?_⟩⟩
        · intro b o hb
          by_cases z : b = e
          · subst z; rw [upd_same] at hb ⊢; exact hb
          · rw [upd_ne z] at hb ⊢
            rw [upd_ne (ne_of_none hb hp)]
            exact hb
        · rw [upd_ne (Ne.symm npe), upd_same]; rfl
        · rintro i x σ H3 H2 hi ⟨c2, us, rfl, e2, hl, lu, au⟩ ⟨rfl, kq, kv, hg, rfl⟩
          obtain ⟨kk, rfl, g1, g2⟩ := dkv_get hg
          obtain ⟨y, hy, my, ay⟩ := kid h0 g lk e2 g2
          have dl := depDs_get hy
          have li : i < ks.length := (List.getElem?_eq_some_iff.mp g1).1
          have ge : DGet H2 e (.str kk) (some kv) := .inl ⟨_, .inr kk, .inr ⟨od, e2 _ _ upd_same⟩, rfl, by rw [valV_dkv, lookD_at nd g1 g2]⟩
          refine ⟨_, rfl, _, rfl, e, _, rfl, ge, kv, _, y, rfl, ay, smDs_get sm.2 hy, by omega, fun v' H4 s4 av => ?_⟩
          have lt : (ks.take i).length = us.length := by rw [List.length_take, lu]; omega
          have hp4 := s4 _ _ hl
          refine ⟨_, rfl, _, rfl, p, _, rfl, .inl ⟨_, .inr kk, hp4, rfl, by rw [dkv_len lt, lt]; omega, rfl⟩, ?_⟩
          have fr : kk ∉ ks.take i := fun y => by
            have nn : (ks.take (i + 1)).Nodup := nd.sublist (List.take_sublist _ _)
            rw [take_get g1, List.nodup_append] at nn
            exact nn.2.2 kk y kk (List.mem_singleton.mpr rfl) rfl
          rw [putK_dkv lt fr]
          have kp := Kd.put (P := fun b => H b = none ∧ b ≠ p) (o := .dK (dkv (ks.take i ++ [kk]) (us ++ [v']))) hp4 (fun _ z => nomatch z) (fun z => z.2 rfl)
          refine ⟨_, us ++ [v'], rfl, same_new (e2.trans s4) hp0, by rw [upd_same, take_get g1], by simp [lu], ?_⟩
          rw [take_get hy]
          refine Ats.append (Ats.keep kp _ _ (au.same s4)) (.cons (At.keep kp _ _ (av.weak fun b z => ⟨fr0 b (same_none e2 z), fun y => ?_⟩)) .nil)
          rw [y, hl] at z
          cases z
        · rintro σ H2 ⟨c2, us, rfl, e2, hl, lu, au⟩
          obtain ⟨z1, z2⟩ := same_unlock g e2
          have lw : (dkv ks ws).length = ks.length := dkv_len lk
          rw [lw] at lu hl au
          rw [List.take_length] at hl
          rw [show xs.take ks.length = xs by rw [lk, ln, List.take_length]] at au
          have kp := Kd.put (P := fun b => H b = none ∧ b ≠ p) (o := .dK (dkv ks ws)) z1 (fun _ z => nomatch z) (fun z => by rw [g] at z; exact nomatch z.1)
          refine ⟨z1, _, rfl, k _ _ z2 (.dic (by rw [upd_ne (Ne.symm npe)]; exact hl) hp nd lu.symm ((Ats.keep kp _ _ au).weak fun b z => z.1))⟩

end
end G
set_option Elab.async false
set_option linter.all false
set_option maxRecDepth 100000
set_option maxHeartbeats 400000
/-! What a shape tells of the lists it was made of. -/
namespace G
open PySem L2 Nd
section
variable {X : Cx}
/-- a new dict, walked at once: locked for good -/
def tFz (td : TE) : TE := fun σ H Q => td σ H fun x H1 => ∃ d u, x = .ref d ∧ H1 d = some u ∧ Mut (some u) ∧ ∀ od, Q x (upd H1 d (.frz od u))
theorem pe_fz {e : Expr} {td : TE} (he : PE X e td) : PE X e (tFz td) := by
  refine ⟨fun pins s σ H Q I h => ?_⟩
  refine thn (he.run pins s σ H _ I h) fun v s1 ⟨x, H1, I1, rx, d, u, ex, hd, mu, q⟩ => ?_
  obtain ⟨od, I2⟩ := I1.lock hd mu
  exact ⟨x, _, I2, rx, q od⟩
end
theorem at_ne {P Q : Addr → Prop} {H : Hp} {a b : Addr} {d e : Dat} (h : At P H (.ref a) d) (g : At Q H (.ref b) e) (z : sizD d < sizD e) : a ≠ b := fun y => by
  subst y
  have := At.fn _ _ _ h g
  subst this
  omega
def inK (t : Lst3) : List Str := keysD (innD t.inn)
theorem dget_f {H : Hp} {b : Addr} {fu iu : V} (h : H b = some (.dK (dkv ["fields", "inner"] [fu, iu]))) : DGet H b (.str "fields") (some fu) := .inl ⟨_, .inr "fields", .inl h, rfl, by rw [valV_dkv]; exact (lookD_at (i := 0) nd2 rfl rfl).symm⟩
theorem dget_i {H : Hp} {b : Addr} {fu iu : V} (h : H b = some (.dK (dkv ["fields", "inner"] [fu, iu]))) : DGet H b (.str "inner") (some iu) := .inl ⟨_, .inr "inner", .inl h, rfl, by rw [valV_dkv]; exact (lookD_at (i := 1) nd2 rfl rfl).symm⟩
theorem des_inv {P : Addr → Prop} {H : Hp} {v : V} {f i : Dat} (h : At P H v (desD f i)) : ∃ (b : Addr) (fu iu : V), v = .ref b ∧ P b ∧ H b = some (.dK (dkv ["fields", "inner"] [fu, iu])) ∧ At P H fu f ∧ At P H iu i := by
  rw [desD] at h
  cases h with
  | @dic b _ vs _ g pb nd lk r =>
    cases r with
    | cons a r => cases r with
      | cons c r => cases r; exact ⟨b, _, _, rfl, pb, g, a, c⟩
/-- what stands in the dict at e of a list t -/
def RowAt (P : Addr → Prop) (H : Hp) (e : Addr) (v : V) (t : Lst3) : Prop := ∃ (b : Addr) (fu : V) (c : Addr) (us : List V), v = .ref b ∧ P b ∧ P c ∧ b ≠ e ∧ c ≠ e ∧ c ≠ b ∧ H b = some (.dK (dkv ["fields", "inner"] [fu, .ref c])) ∧ At (fun z => P z ∧ z ≠ e) H fu t.fs ∧
  H c = some (.dK (dkv (inK t) us)) ∧ (inK t).length = us.length ∧ (inK t).Nodup ∧ (t.inn = none → us = []) ∧ ∀ n g, t.inn = some (n, g) → ∃ (b2 : Addr) (gu iu : V), us = [.ref b2] ∧ H b2 = some (.dK (dkv ["fields", "inner"] [gu, iu])) ∧ At (fun z => P z ∧ z ≠ e) H gu g ∧ b2 ≠ e ∧ b2 ≠ c ∧ b2 ≠ b
theorem row_at {P : Addr → Prop} {H : Hp} {v : V} {l : List Lst3} (h : At P H v (lsD l)) : ∃ (e : Addr) (ws : List V), v = .ref e ∧ P e ∧ H e = some (.dK (dkv (l.map Lst3.nm) ws)) ∧ (l.map Lst3.nm).Nodup ∧ (l.map Lst3.nm).length = ws.length ∧
    ∀ (i : Nat) (t : Lst3), l[i]? = some t → ∃ u, ws[i]? = some u ∧ RowAt P H e u t := by
  have h0 := h
  rw [lsD] at h
  cases h with
  | @dic e _ ws _ g pe nd lk r =>
    refine ⟨e, ws, rfl, pe, g, nd, lk, fun i t hi => ?_⟩
    have hx : (l.map fun t => desD t.fs (innD t.inn))[i]? = some (desD t.fs (innD t.inn)) := by rw [List.getElem?_map, hi]; rfl
    obtain ⟨u, hu, au⟩ := r.get2 hx
    have zx := sizDs_get hx
    have zl : sizD (lsD l) = 1 + sizDs (l.map fun t => desD t.fs (innD t.inn)) := by rw [lsD, sizD]
    have zd : ∀ f i : Dat, sizD (desD f i) = 1 + (sizD f + (sizD i + 0)) := fun f i => by rw [desD, sizD, sizDs, sizDs, sizDs]
    refine ⟨u, hu, ?_⟩
    obtain ⟨b, fu, iu, rfl, pb, gb, af, ai⟩ := des_inv au
    have zb : b ≠ e := at_ne au h0 (by omega)
    rw [zd] at zx
    have af2 := At.apart h0 _ _ af (by omega)
    have ai0 := ai
    cases hin : t.inn with
    | none =>
      rw [hin] at ai ai0 zx au
      rw [innD] at ai
      cases ai with
      | @dic c _ us _ gc pc nc lc rc =>
        cases rc
        exact ⟨b, fu, c, [], rfl, pb, pc, zb, at_ne ai0 h0 (by omega), at_ne ai0 au (by rw [zd]; omega), gb, af2, by rw [inK, hin]; exact gc, by rw [inK, hin]; rfl, by rw [inK, hin]; exact nc, fun _ => rfl, fun n g z => by rw [hin] at z; cases z⟩
    | some q =>
      obtain ⟨n, g2⟩ := q
      rw [hin] at ai ai0 zx au
      have zi : sizD (innD (some (n, g2))) = 1 + (sizD (desD g2 (.dic [] [])) + 0) := by rw [innD, sizD, sizDs, sizDs]
      rw [innD] at ai
      cases ai with
      | @dic c _ us _ gc pc nc lc rc =>
        cases rc with
        | @cons u2 _ _ _ a2 rc =>
          cases rc
          obtain ⟨b2, gu, iu2, rfl, pb2, gb2, ag, _⟩ := des_inv a2
          have zz := zd g2 (.dic [] [])
          refine ⟨b, fu, c, [.ref b2], rfl, pb, pc, zb, at_ne ai0 h0 (by omega), at_ne ai0 au (by rw [zd]; omega), gb, af2, by rw [inK, hin]; exact gc, by rw [inK, hin]; rfl, by rw [inK, hin]; exact nc, (fun z => by rw [hin] at z; cases z), fun n' g' z => ?_⟩
          rw [hin] at z
          cases z
          exact ⟨b2, gu, iu2, rfl, gb2, At.apart h0 _ _ ag (by omega), at_ne a2 h0 (by omega), at_ne a2 ai0 (by omega), at_ne a2 au (by rw [zd t.fs]; omega)⟩
def entsT (t : Lst3) : List Ent := ⟨t.nm, none, t.fs, inK t⟩ :: match t.inn with
  | none => []
  | some (n, g) => [⟨n, some t.nm, g, []⟩]
theorem flat_congr {α β : Type} {f g : α → List β} : ∀ {l : List α}, (∀ x ∈ l, f x = g x) → l.flatMap f = l.flatMap g
  | [], _ => rfl
  | x :: l, h => by rw [List.flatMap_cons, List.flatMap_cons, h x (List.mem_cons_self ..), flat_congr fun y hy => h y (List.mem_cons_of_mem _ hy)]
theorem des_f (f i : Dat) : fieldsD (desD f i) = f := by
  rw [desD, fieldsD, show lookD ["fields", "inner"] [f, i] ("fields" : Str) = some f from lookD_at (i := 0) nd2 rfl rfl]; rfl
theorem des_i (f i : Dat) : innerD (desD f i) = i := by
  rw [desD, innerD, show lookD ["fields", "inner"] [f, i] ("inner" : Str) = some i from lookD_at (i := 1) nd2 rfl rfl]; rfl
theorem ents_ls {l : List Lst3} (nd : (l.map Lst3.nm).Nodup) : entsD 2 none (lsD l) = l.flatMap entsT := by
  rw [lsD, entsD, List.flatMap_map]
  refine flat_congr fun t ht => ?_
  obtain ⟨i, hi⟩ := List.getElem?_of_mem ht
  have e1 : lookD (l.map Lst3.nm) (l.map fun t => desD t.fs (innD t.inn)) t.nm = some (desD t.fs (innD t.inn)) := lookD_at (i := i) nd (by rw [List.getElem?_map, hi]; rfl) (by rw [List.getElem?_map, hi]; rfl)
  rw [e1]
  show (⟨t.nm, none, fieldsD (desD t.fs (innD t.inn)), keysD (innerD (desD t.fs (innD t.inn)))⟩ : Ent) :: entsD 1 (some t.nm) (innerD (desD t.fs (innD t.inn))) = entsT t
  rw [des_f, des_i, entsT, inK]
  cases t.inn with
  | none => rfl
  | some q =>
    obtain ⟨n, g⟩ := q
    rw [innD, entsD, List.flatMap_cons, List.flatMap_nil, List.append_nil]
    have e2 : lookD [n] [desD g (.dic [] [])] n = some (desD g (.dic [] [])) := by simp [lookD]
    rw [e2]
    show _ :: (⟨n, some t.nm, fieldsD (desD g (.dic [] [])), keysD (innerD (desD g (.dic [] [])))⟩ : Ent) :: entsD 0 (some n) (innerD (desD g (.dic [] []))) = _
    rw [des_f, des_i]
    rfl
theorem entsT_nm (t : Lst3) : (entsT t).map Ent.nm = nms t := by
  rw [entsT, nms]
  cases t.inn with
  | none => rfl
  | some q => rfl
theorem ents_nm : ∀ l : List Lst3, (l.flatMap entsT).map Ent.nm = l.flatMap nms
  | [] => rfl
  | t :: l => by rw [List.flatMap_cons, List.flatMap_cons, List.map_append, entsT_nm, ents_nm l]
theorem names_ls : ∀ l : List Lst3, namesD 2 (lsD l) = l.flatMap nms
  | [] => rfl
  | t :: l => by
    have ih := names_ls l
    rw [lsD, namesD] at ih ⊢
    rw [List.map_cons, List.map_cons, namesZ, des_i, ih, List.flatMap_cons, nms]
    congr 2
    cases t.inn with
    | none => rfl
    | some q =>
      obtain ⟨n, g⟩ := q
      rw [innD, namesD, namesZ, des_i]
      rfl
theorem find_of {e : Ent} : ∀ {es : List Ent}, (es.map Ent.nm).Nodup → e ∈ es → findE es e.nm = some e
  | [], _, h => by cases h
  | f :: es, nd, h => by
    rw [List.map_cons, List.nodup_cons] at nd
    rw [findE, List.find?_cons]
    rcases List.mem_cons.mp h with rfl | h
    · simp
    · have : ¬ f.nm = e.nm := fun z => nd.1 (by rw [z]; exact List.mem_map_of_mem h)
      simp only [this, decide_false]
      exact find_of nd.2 h
theorem find_no {x : Str} {es : List Ent} (h : x ∉ es.map Ent.nm) : findE es x = none := by
  rw [findE, List.find?_eq_none]
  intro e he
  simp only [decide_eq_true_eq]
  exact fun z => h (by rw [← z]; exact List.mem_map_of_mem he)
theorem OkL.ndn {l : List Lst3} (h : OkL l) : (l.map Lst3.nm).Nodup := by
  have : (l.map Lst3.nm).Sublist (l.flatMap nms) := by
    have gen : ∀ l : List Lst3, (l.map Lst3.nm).Sublist (l.flatMap nms) := by
      intro l
      induction l with
      | nil => exact .slnil
      | cons t l ih =>
        rw [List.map_cons, List.flatMap_cons, nms, List.cons_append]
        exact .cons₂ _ (ih.trans (List.sublist_append_right _ _))
    exact gen l
  exact h.nd.sublist this
theorem OkL.len2 {l : List Lst3} (h : OkL l) : (l.flatMap nms).length ≤ 4 := by
  have a := h.len
  have one : ∀ t, (nms t).length ≤ 2 := fun t => by
    rw [nms]
    cases t.inn with
    | none => simp
    | some q => simp
  match l, a with
  | [], _ => simp
  | [t], _ => have := one t; simp; omega
  | [t, u], _ => have := one t; have := one u; simp; omega
theorem OkL.ls {l : List Lst3} (h : OkL l) : LsD 2 2 (lsD l) := by
  have a := h.len
  refine ⟨_, _, rfl, by rw [List.length_map]; omega, fun k hk => ?_, fun x hx => ?_⟩
  · obtain ⟨t, ht, rfl⟩ := List.mem_map.mp hk
    exact h.word t ht _ (by rw [nms]; exact List.mem_cons_self ..)
  · obtain ⟨t, ht, rfl⟩ := List.mem_map.mp hx
    refine ⟨_, _, t.fs, innD t.inn, rfl, rfl, lookD_at (i := 0) nd2 rfl rfl, lookD_at (i := 1) nd2 rfl rfl, (h.fld t ht).1, ?_⟩
    cases hin : t.inn with
    | none => exact ⟨[], [], rfl, by decide, (fun k z => by cases z), fun x z => by cases z⟩
    | some q =>
      obtain ⟨n, g⟩ := q
      refine ⟨[n], [desD g (.dic [] [])], rfl, by show (1 : Int) ≤ 1; decide, fun k hk => ?_, fun x hx => ?_⟩
      · rw [List.mem_singleton] at hk
        subst hk
        exact h.word t ht _ (by rw [nms, hin]; simp)
      · rw [List.mem_singleton] at hx
        subst hx
        exact ⟨_, _, g, .dic [] [], rfl, rfl, lookD_at (i := 0) nd2 rfl rfl, lookD_at (i := 1) nd2 rfl rfl, (h.fld t ht).2 n g hin, rfl⟩
/-- data are the same as themselves -/
theorem sim_at {P : Addr → Prop} {H : Hp} : ∀ (n : Nat) (d : Dat) (v : V), At P H v d → depD d < n → Sim n d d
  | 0, _, _, _, h => absurd h (Nat.not_lt_zero _)
  | n + 1, .non, _, _, _ => True.intro
  | n + 1, .bl _, _, _, _ => rfl
  | n + 1, .int _, _, _, _ => rfl
  | n + 1, .str _, _, _, _ => rfl
  | n + 1, .lst xs, v, h, z => by
    cases h with
    | lst g p r =>
      rw [depD] at z
      refine ⟨rfl, fun i a b ha hb => ?_⟩
      rw [ha] at hb
      cases hb
      obtain ⟨u, _, au⟩ := r.get2 ha
      have := depDs_get ha
      exact sim_at n a u au (by omega)
  | n + 1, .tup xs, v, h, z => by
    cases h with
    | tup g r =>
      rw [depD] at z
      refine ⟨rfl, fun i a b ha hb => ?_⟩
      rw [ha] at hb
      cases hb
      obtain ⟨u, _, au⟩ := r.get2 ha
      have := depDs_get ha
      exact sim_at n a u au (by omega)
  | n + 1, .dic ks xs, v, h, z => by
    cases h with
    | dic g p nd lk r =>
      rw [depD] at z
      refine ⟨rfl, fun i k b hk hb => ⟨b, lookD_at nd hk hb, ?_⟩⟩
      obtain ⟨u, _, au⟩ := r.get2 hb
      have := depDs_get hb
      exact sim_at n b u au (by omega)
theorem depDs_le {n : Nat} : ∀ {ds : List Dat}, (∀ d ∈ ds, depD d ≤ n) → depDs ds ≤ n
  | [], _ => by rw [depDs]; omega
  | d :: ds, h => by
    rw [depDs]
    have a := h d (List.mem_cons_self ..)
    have b := depDs_le (n := n) (ds := ds) fun x hx => h x (List.mem_cons_of_mem _ hx)
    omega
theorem dep_strs (ws : List Str) : depDs (ws.map Dat.str) ≤ 0 := depDs_le fun d hd => by
  obtain ⟨z, _, rfl⟩ := List.mem_map.mp hd
  exact Nat.le_refl _
theorem FldD.dep {d : Dat} (h : FldD d) : depD d ≤ 2 := by
  obtain ⟨ks, xs, rfl, _, _, hx⟩ := h
  rw [depD]
  have : depDs xs ≤ 1 := depDs_le fun x z => by
    obtain ⟨ws, rfl, _⟩ := hx x z
    rw [tupW, depD]
    have := dep_strs ws
    omega
  omega
theorem dep_des (f i : Dat) : depD (desD f i) = 1 + max (depD f) (max (depD i) 0) := by rw [desD, depD, depDs, depDs, depDs]
theorem OkL.dep {l : List Lst3} (h : OkL l) : depD (lsD l) ≤ 6 := by
  rw [lsD, depD]
  have : depDs (l.map fun t => desD t.fs (innD t.inn)) ≤ 5 := depDs_le fun x hx => by
    obtain ⟨t, ht, rfl⟩ := List.mem_map.mp hx
    have a := (h.fld t ht).1.dep
    rw [dep_des]
    cases hin : t.inn with
    | none => rw [innD, depD, depDs]; omega
    | some q =>
      obtain ⟨n, g⟩ := q
      have b := ((h.fld t ht).2 n g hin).dep
      rw [innD, depD, depDs, depDs, dep_des, depD, depDs]
      omega
  omega
theorem smDs_of : ∀ {ds : List Dat}, (∀ d ∈ ds, smD d = true) → smDs ds = true
  | [], _ => rfl
  | d :: ds, h => by rw [smDs, h d (List.mem_cons_self ..), smDs_of fun x hx => h x (List.mem_cons_of_mem _ hx)]; rfl
theorem word_len {z : Str} (h : wordZ z = true) : z.length ≤ 1000 := by
  rw [wordZ, Bool.and_eq_true, Bool.and_eq_true] at h
  have := of_decide_eq_true h.1.2
  omega
theorem sm_dic {ks : List Str} {xs : List Dat} (h1 : ks.length ≤ 1000) (h2 : ∀ k ∈ ks, k.length ≤ 1000) (h3 : ∀ x ∈ xs, smD x = true) : smD (.dic ks xs) = true := by
  rw [smD, decide_eq_true h1, smDs_of h3, Bool.and_true, Bool.true_and, List.all_eq_true]
  exact fun k hk => decide_eq_true (h2 k hk)
theorem FldD.sm {d : Dat} (h : FldD d) : smD d = true := by
  obtain ⟨ks, xs, rfl, h1, h2, hx⟩ := h
  refine sm_dic (by omega) (fun k hk => word_len (h2 k hk)) fun x z => ?_
  obtain ⟨ws, rfl, hw⟩ := hx x z
  exact words_sm hw (by decide)
theorem len_fi : ∀ k ∈ (["fields", "inner"] : List Str), k.length ≤ 1000 := by decide +kernel
theorem sm_des {f i : Dat} (h1 : smD f = true) (h2 : smD i = true) : smD (desD f i) = true := by
  refine sm_dic (by show 2 ≤ 1000; decide) len_fi fun x hx => ?_
  rcases List.mem_cons.mp hx with rfl | hx
  · exact h1
  · rw [List.mem_singleton] at hx
    rw [hx]; exact h2
theorem OkL.sm {l : List Lst3} (h : OkL l) : smD (lsD l) = true := by
  have a := h.len
  have e0 : smD (.dic [] []) = true := sm_dic (Nat.zero_le _) (fun k hk => by cases hk) (fun k hk => by cases hk)
  refine sm_dic (by rw [List.length_map]; omega) (fun k hk => ?_) fun x hx => ?_
  · obtain ⟨t, ht, rfl⟩ := List.mem_map.mp hk
    exact word_len (h.word t ht _ (by rw [nms]; exact List.mem_cons_self ..))
  · obtain ⟨t, ht, rfl⟩ := List.mem_map.mp hx
    refine sm_des (h.fld t ht).1.sm ?_
    cases hin : t.inn with
    | none => exact e0
    | some q =>
      obtain ⟨n, g⟩ := q
      refine sm_dic (by show 1 ≤ 1000; decide) (fun k hk => ?_) fun x hx => ?_
      · rw [List.mem_singleton] at hk
        subst hk
        exact word_len (h.word t ht _ (by rw [nms, hin]; simp))
      · rw [List.mem_singleton] at hx
        subst hx
        exact sm_des ((h.fld t ht).2 n g hin).sm e0
def spAbout : Sp := fun vs H Q _ => ∃ (v : V) (P : Addr → Prop) (l : List Lst3), vs = [v] ∧ At P H v (lsD l) ∧ OkL l ∧ ∀ (p : Addr) (us : List V) (H' : Hp), Same H H' → H p = none → H' p = some (.dK (dkv (l.flatMap nms) us)) → (l.flatMap nms).length = us.length → Q (.ref p) H'
def spMissing (C : Addr) : Sp := fun vs H Q _ => ∃ (p : Addr) (x : Str) (i : Int) (H0 : Hp) (fl : List Str) (es : List Ent), vs = [.ref p, .str x, .int i] ∧ ShpAt C H0 H p fl es ∧ (∀ e ∈ es, FldD e.fs) ∧ findE es x = none ∧ ∀ H', Same H H' → Q (.bl true) H'
def spTold (C : Addr) : Sp := fun vs H Q _ => ∃ (p : Addr) (v : V) (P : Addr → Prop) (H0 : Hp) (fl : List Str) (l : List Lst3) (es : List Ent), vs = [.ref p, v] ∧ ShpAt C H0 H p fl es ∧ (∀ e ∈ es, FldD e.fs) ∧ At P H v (lsD l) ∧ (∀ b, P b → H0 b ≠ none) ∧ es.Perm (l.flatMap entsT) ∧ OkL l ∧ ∀ H', Same H H' → Q (.bl true) H'
end G
set_option Elab.async false
set_option linter.all false
set_option maxRecDepth 100000
set_option maxHeartbeats 1200000
namespace G
open PySem L2 Nd
section
variable {P : Program} {w : World} {K : PySem.W.Frag} {mg : Str → Option Value} {base : Heap}
theorem ok_l_about (T : Txt K mg) : FnOk P w K mg base CX0 1 T.f_l_about T.d_l_about ["_law_lists_here"] spAbout := by
  refine T.F_l_about.ok sc_l_about (fun vs H Q E h => ?_) (fun cdv A outer s H vs Q E hr h => ?_)
  · obtain ⟨_, _, _, rfl, _⟩ := h
    rfl
  · obtain ⟨v, Pp, l, rfl, hv, ok, k⟩ := h
    refine ⟨_, (pss_cons (ps_set (i := 1) sc_l_about.nd rfl (Or.inl rfl) pe_dnewK)
        (pss_cons (ps_lock (ps_for PassesOwn.never rfl (pi_keys (pv 0)) (pg_name (i := 2) sc_l_about.nd rfl (Or.inl rfl))
          (pss_cons (ps_dput (hu_of hr) (pv 1) (pv 2) (pe_dget (hu_of hr) (pv 0) (pv 2) (fun _ _ => rfl)) rfl)
          (pss_one (ps_lock (ps_for PassesOwn.never rfl (pi_keys (pe_dget (hu_of hr) (pe_dget (hu_of hr) (pv 0) (pv 2) (fun _ _ => rfl)) pe_str (fun _ _ => rfl))) (pg_name (i := 3) sc_l_about.nd rfl (Or.inl rfl))
            (pss_one (ps_dput (hu_of hr) (pv 1) (pv 3) (pe_dget (hu_of hr) (pe_dget (hu_of hr) (pe_dget (hu_of hr) (pv 0) (pv 2) (fun _ _ => rfl)) pe_str (fun _ _ => rfl)) (pv 3) (fun _ _ => rfl)) rfl))))))))
        (pss_one (ps_ret (pv 1))))), ?_⟩
    obtain ⟨e, ws, rfl, pe, g, nd, lk, row⟩ := row_at hv
    have bg : 100 < sizeLine := by decide +kernel
    have l4 := ok.len2
    refine fun p hp => ?_
    have npe : e ≠ p := ne_of_none g hp
    have gp : (upd H p (.dK [])) e = some (.dK (dkv (l.map Lst3.nm) ws)) := by rw [upd_ne npe]; exact g
    refine ⟨e, _, gp, True.intro, fun od => ?_⟩
    have hp0 : (upd H e (.frz od (.dK (dkv (l.map Lst3.nm) ws)))) p = none := by rw [upd_ne (Ne.symm npe)]; exact hp
    refine ⟨_, rfl, e, od, rfl, .inl ⟨_, upd_same, for_it walk_keys (fun i σ H2 => ∃ (c2 c3 : Option V) (us : List V), σ = [some (.ref e), some (.ref p), c2, c3] ∧ Same (upd H e (.frz od (.dK (dkv (l.map Lst3.nm) ws)))) H2 ∧ H2 p = some (.dK (dkv ((l.take i).flatMap nms) us)) ∧ ((l.take i).flatMap nms).length = us.length)
      ⟨_, _, [], rfl, ?_, ?_, rfl⟩ (fun _ _ _ _ ⟨_, _, _, _, q, _⟩ => q _ _ upd_same) ?_ ?_⟩⟩
    · intro b o hb
      by_cases z : b = e
      · subst z; rw [upd_same] at hb ⊢; exact hb
      · rw [upd_ne z] at hb ⊢
        rw [upd_ne (ne_of_none hb hp)]
        exact hb
    · rw [upd_ne (Ne.symm npe), upd_same]; rfl
    · rintro i x σ H3 H2 hi ⟨c2, c3, us, rfl, e2, hl, lu⟩ ⟨rfl, kq, kv, hg, rfl⟩
      obtain ⟨kk, rfl, g1, g2⟩ := dkv_get hg
      rw [List.getElem?_map] at g1
      obtain ⟨t, ht, rfl⟩ := Option.map_eq_some_iff.mp g1
      obtain ⟨u, hu, b, fu, c, vs, rfl, pb, pc, nbe, nce, ncb, gb, _, gc, lc, ndc, vn, vy⟩ := row i t ht
      rw [g2] at hu
      cases hu
      have ge : ∀ {H9 : Hp}, Same (upd H e (.frz od (.dK (dkv (l.map Lst3.nm) ws)))) H9 → DGet H9 e (.str t.nm) (some (.ref b)) := fun s9 => .inl ⟨_, .inr t.nm, .inr ⟨od, s9 _ _ upd_same⟩, rfl, by rw [valV_dkv, lookD_at nd (by rw [List.getElem?_map, ht]; rfl) g2]⟩
      have tk : (l.take (i + 1)).flatMap nms = (l.take i).flatMap nms ++ (t.nm :: inK t) := by
        rw [take_get ht, List.flatMap_append, List.flatMap_cons, List.flatMap_nil, List.append_nil, nms, inK]
        cases t.inn with
        | none => rfl
        | some q => rfl
      have sub1 : ((l.take (i + 1)).flatMap nms).Sublist (l.flatMap nms) := by
        conv => rhs; rw [← List.take_append_drop (i + 1) l, List.flatMap_append]
        exact List.sublist_append_left _ _
      have nd1 := ok.nd.sublist sub1
      have ll1 := sub1.length_le
      rw [tk] at nd1 ll1
      rw [List.length_append, List.length_cons] at ll1
      refine ⟨_, rfl, _, rfl, e, _, rfl, ge e2, _, rfl, _, rfl, p, _, rfl, .inl ⟨_, .inr t.nm, hl, rfl, by rw [dkv_len lu]; omega, rfl⟩, ?_⟩
      have fr : t.nm ∉ (l.take i).flatMap nms := fun y => by
        rw [List.nodup_append] at nd1
        exact nd1.2.2 _ y _ (List.mem_cons_self ..) rfl
      rw [putK_dkv lu fr]
      have e3 : Same (upd H e (.frz od (.dK (dkv (l.map Lst3.nm) ws)))) (upd H2 p (.dK (dkv ((l.take i).flatMap nms ++ [t.nm]) (us ++ [.ref b])))) := same_new e2 hp0
      have gc3 := e3 c _ (by rw [upd_ne nce]; exact gc)
      have gcB : (upd H e (.frz od (.dK (dkv (l.map Lst3.nm) ws)))) c = some (.dK (dkv (inK t) vs)) := by rw [upd_ne nce]; exact gc
      have npc : c ≠ p := ne_of_none gc hp
      refine ⟨c, _, gc3, True.intro, fun od2 => ?_⟩
      have e4 : Same (upd (upd H e (.frz od (.dK (dkv (l.map Lst3.nm) ws)))) c (.frz od2 (.dK (dkv (inK t) vs)))) (upd (upd H2 p (.dK (dkv ((l.take i).flatMap nms ++ [t.nm]) (us ++ [.ref b])))) c (.frz od2 (.dK (dkv (inK t) vs)))) := by
        intro y o hy
        by_cases z : y = c
        · subst z; rw [upd_same] at hy ⊢; exact hy
        · rw [upd_ne z] at hy ⊢; exact e3 _ _ hy
      have hpc : (upd (upd H e (.frz od (.dK (dkv (l.map Lst3.nm) ws)))) c (.frz od2 (.dK (dkv (inK t) vs)))) p = none := by rw [upd_ne (Ne.symm npc)]; exact hp0
      have rdE : ∀ {H9 : Hp}, Same (upd (upd H e (.frz od (.dK (dkv (l.map Lst3.nm) ws)))) c (.frz od2 (.dK (dkv (inK t) vs)))) H9 → DGet H9 e (.str t.nm) (some (.ref b)) := fun s9 => .inl ⟨_, .inr t.nm, .inr ⟨od, s9 _ _ (by rw [upd_ne (Ne.symm nce), upd_same])⟩, rfl, by rw [valV_dkv, lookD_at nd (by rw [List.getElem?_map, ht]; rfl) g2]⟩
      have rdB : ∀ {H9 : Hp}, Same (upd (upd H e (.frz od (.dK (dkv (l.map Lst3.nm) ws)))) c (.frz od2 (.dK (dkv (inK t) vs)))) H9 → DGet H9 b (.str "inner") (some (.ref c)) := fun s9 => dget_i (s9 _ _ (by rw [upd_ne (Ne.symm ncb), upd_ne nbe]; exact gb))
      refine ⟨_, rfl, _, rfl, e, _, rfl, rdE e4, b, _, rfl, rdB e4, c, od2, rfl, .inl ⟨_, upd_same, for_it walk_keys (fun j σ H5 => ∃ (c3 : Option V) (us5 : List V), σ = [some (.ref e), some (.ref p), some (.str t.nm), c3] ∧ Same (upd (upd H e (.frz od (.dK (dkv (l.map Lst3.nm) ws)))) c (.frz od2 (.dK (dkv (inK t) vs)))) H5 ∧ H5 p = some (.dK (dkv ((l.take i).flatMap nms ++ (t.nm :: (inK t).take j)) us5)) ∧ ((l.take i).flatMap nms ++ (t.nm :: (inK t).take j)).length = us5.length)
        ⟨_, us ++ [.ref b], rfl, e4, by rw [upd_ne (Ne.symm npc), upd_same]; rfl, by simp [lu]⟩ (fun _ _ _ _ ⟨_, _, _, q, _⟩ => q _ _ upd_same) ?_ ?_⟩⟩
      · rintro j x σ H6 H5 hj ⟨c3', us5, rfl, e5, hl5, lu5⟩ ⟨rfl, kq, kv, hg5, rfl⟩
        obtain ⟨kk, rfl, k1, k2⟩ := dkv_get hg5
        have rdC : DGet H5 c (.str kk) (some kv) := .inl ⟨_, .inr kk, .inr ⟨od2, e5 _ _ upd_same⟩, rfl, by rw [valV_dkv, lookD_at ndc k1 k2]⟩
        have lj : j < (inK t).length := (List.getElem?_eq_some_iff.mp k1).1
        have lt := congrArg List.length (take_get k1)
        rw [List.length_append, List.length_singleton] at lt
        refine ⟨_, rfl, _, rfl, e, _, rfl, rdE e5, b, _, rfl, rdB e5, _, rfl, c, _, rfl, rdC, _, rfl, _, rfl, p, _, rfl, .inl ⟨_, .inr kk, hl5, rfl, ?_, rfl⟩, ?_⟩
        · rw [dkv_len lu5, List.length_append, List.length_cons, List.length_take]; omega
        have fr5 : kk ∉ (l.take i).flatMap nms ++ (t.nm :: (inK t).take j) := fun y => by
          have sb : ((l.take i).flatMap nms ++ (t.nm :: (inK t).take j) ++ [kk]).Sublist ((l.take i).flatMap nms ++ (t.nm :: inK t)) := by
            rw [List.append_assoc, List.cons_append, ← take_get k1]
            exact (List.Sublist.refl _).append (.cons₂ _ (List.take_sublist _ _))
          have n5 := nd1.sublist sb
          rw [List.nodup_append] at n5
          exact n5.2.2 kk y kk (List.mem_singleton.mpr rfl) rfl
        rw [putK_dkv lu5 fr5]
        refine ⟨_, us5 ++ [kv], rfl, same_new e5 hpc, ?_, ?_⟩
        · rw [upd_same, take_get k1, List.append_assoc, List.cons_append]
        · rw [take_get k1]
          simp only [List.length_append, List.length_cons, List.length_nil] at lu5 ⊢
          omega
      · rintro σ H5 ⟨c3', us5, rfl, e5, hl5, lu5⟩
        obtain ⟨z1, z2⟩ := same_unlock gcB e5
        rw [dkv_len lc, List.take_length] at hl5 lu5
        refine ⟨z1, _, _, us5, rfl, z2, ?_, ?_⟩
        · rw [upd_ne (Ne.symm npc), tk]; exact hl5
        · rw [tk]; exact lu5
    · rintro σ H2 ⟨c2, c3, us, rfl, e2, hl, lu⟩
      obtain ⟨z1, z2⟩ := same_unlock g e2
      rw [dkv_len lk, List.length_map, List.take_length] at hl lu
      exact ⟨z1, _, rfl, k p us _ z2 hp (by rw [upd_ne (Ne.symm npe)]; exact hl) lu⟩

end
end G
set_option Elab.async false
set_option linter.all false
set_option maxRecDepth 100000
set_option maxHeartbeats 1200000
namespace G
open PySem L2 Nd
section
variable {P : Program} {w : World} {K : PySem.W.Frag} {mg : Str → Option Value} {base : Heap}
theorem ok_p_is_word (T : Txt K mg) : FnOk P w K mg base CX0 1 T.f_p_is_word T.d_p_is_word ["value"] spIsWord := by
  refine T.F_p_is_word.ok sc_p_is_word (fun vs H Q E h => ?_) (fun cdv A outer s H vs Q E hr h => ?_)
  · obtain ⟨_, _, _, rfl, _⟩ := h
    rfl
  · obtain ⟨v, Pp, d, rfl, hv, sm, q⟩ := h
    refine ⟨_, (pss_cons (ps_if (PW.pt (pw_or (pt_not (pt_val (pe_callB call_isi (by rfl) T.z_isinstance (by decide +kernel) (pa_cons (pv 0) (pa_cons (pe_bltn (v := .ty "str") (u := .type "str") rfl T.z_str (by decide +kernel) rfl) pa_nil))))) (pw_or1 (pt_not (pt_chain op_le op_le pe_int (pe_callB call_len_str (by rfl) T.z_len (by decide +kernel) (pa_cons (pv 0) pa_nil)) pe_int)))))
          (pss_one (ps_ret pe_bl))
          pss_nil)
        (pss_one (ps_ret (pe_callB (cr_all rfl) (by rfl) T.z_all (by decide +kernel) (pa_cons (pe_lc (own := [("sign", 1)]) (g := gName 1) rfl sc_p_is_word.nd (pi_str (pv 0)) (blkOk_by (own := [("sign", 1)]) (N := ["value", "sign"]) (sc := defScope s_p_is_word) (by decide +kernel)) (fun _ _ _ _ _ => (pg_name (i := 1) sc_p_is_word.nd rfl (Or.inl rfl))) (fun _ _ _ _ _ => pts_nil) (fun _ _ _ _ _ => (pe_chain op_le_str op_le_str pe_str (pv 1) pe_str))) pa_nil))))), ?_⟩
    cases hv with
    | str z =>
      have sl : z.length ≤ sizeLine := Nat.le_trans (of_decide_eq_true sm) (by decide +kernel)
      refine ⟨_, rfl, _, _, _, _, true, rfl, .ty "str", .base (.str z), kit_ty (by decide +kernel), true, rfl, ifF ?_⟩
      refine ⟨_, rfl, z, rfl, sl, _, _, rfl, rfl, _, rfl, ?_⟩
      cases h1 : decide ((1 : Int) ≤ z.length) with
      | false =>
        refine ifF ⟨false, rfl, ifT ?_⟩
        have e : isWordD (.str z) = false := by
          have : ¬ 1 ≤ z.length := fun y => of_decide_eq_false h1 (by omega)
          rw [isWordD, wordZ, decide_eq_false this]; rfl
        rw [e] at q
        exact q _ (fun _ _ y => y)
      | true =>
        refine ifT ⟨_, _, rfl, rfl, _, rfl, ?_⟩
        have p1 : 1 ≤ z.length := by have := of_decide_eq_true h1; omega
        cases h2 : decide ((z.length : Int) ≤ 8) with
        | false =>
          refine ifT ?_
          have e : isWordD (.str z) = false := by
            have : ¬ z.length ≤ 8 := fun y => of_decide_eq_false h2 (by omega)
            rw [isWordD, wordZ, decide_eq_false this, Bool.and_false]; rfl
          rw [e] at q
          exact q _ (fun _ _ y => y)
        | true =>
          have p2 : z.length ≤ 8 := by have := of_decide_eq_true h2; omega
          refine ifF ?_
          refine ⟨_, rfl, z, rfl, fun D hD => ?_⟩
          have e : isWordD (.str z) = ((z.cps.toList.map signB).all id) := by
            rw [isWordD, wordZ, decide_eq_true p1, decide_eq_true p2, List.all_map]; rfl
          rw [e] at q
          refine lc_it walk_str (fun i H2 => Same H H2 ∧ H2 D = some (.lst (((z.cps.toList.take i).map signB).map V.bl)))
            ⟨same_add hD, upd_same⟩ (fun _ _ _ _ => trivial) ?_ ?_
          · rintro i x H2 H3 hi ⟨s2, h3⟩ ⟨rfl, c, hc, rfl⟩
            have hl : i < z.cps.toList.length := by simpa using hi
            have hc2 : z.cps.toList[i]? = some c := by simpa using hc
            have tk : z.cps.toList.take (i + 1) = z.cps.toList.take i ++ [c] := by rw [List.take_add_one, hc2]; rfl
            have fin : ∀ b : Bool, b = signB c → ∃ acc, H3 D = some (.lst acc) ∧ acc.length < sizeLine ∧ (Same H (upd H3 D (.lst (acc ++ [V.bl b]))) ∧ (upd H3 D (.lst (acc ++ [V.bl b]))) D = some (.lst (((z.cps.toList.take (i + 1)).map signB).map V.bl))) := by
              rintro b rfl
              refine ⟨_, h3, ?_, same_new s2 hD, ?_⟩
              · simp only [List.length_map, List.length_take]
                have : z.cps.toList.length = z.length := by simp [Str.length]
                have : 8 < sizeLine := by decide +kernel
                omega
              · rw [upd_same, tk]; simp
            have l1 : ((!decide ((⟨#[c]⟩ : Str).cps.toList < (Str.ofString "a").cps.toList)) = decide (97 ≤ c)) := by
              have : (Str.ofString "a").cps.toList = [97] := by decide +kernel
              rw [this, ← decide_not]
              exact decide_eq_decide.mpr (by rw [show (⟨#[c]⟩ : Str).cps.toList = [c] from rfl, strLt]; omega)
            have l2 : ((!decide ((Str.ofString "z").cps.toList < (⟨#[c]⟩ : Str).cps.toList)) = decide (c ≤ 122)) := by
              have : (Str.ofString "z").cps.toList = [122] := by decide +kernel
              rw [this, ← decide_not]
              exact decide_eq_decide.mpr (by rw [show (⟨#[c]⟩ : Str).cps.toList = [c] from rfl, strLt]; omega)
            refine ⟨rfl, _, rfl, _, _, rfl, rfl, _, rfl, ?_⟩
            rw [l1]
            cases h5 : decide (97 ≤ c) with
            | false => exact ifF (fin false (by rw [signB, h5]; rfl))
            | true =>
              refine ifT ⟨_, _, rfl, rfl, ?_⟩
              rw [l2]
              exact fin _ (by rw [signB, h5]; rfl)
          · rintro H2 ⟨s2, h3⟩
            refine ⟨D, z.cps.toList.map signB, rfl, SqL.of ?_, q _ s2⟩
            rw [h3, ← Array.length_toList, List.take_length]
    | non => exact ⟨_, rfl, _, _, _, _, false, rfl, .ty "str", .base .non, kit_ty (by decide +kernel), false, rfl, ifT (ifT (q _ (fun _ _ y => y)))⟩
    | bl b => exact ⟨_, rfl, _, _, _, _, false, rfl, .ty "str", .base (.bl b), kit_ty (by decide +kernel), false, rfl, ifT (ifT (q _ (fun _ _ y => y)))⟩
    | int i => exact ⟨_, rfl, _, _, _, _, false, rfl, .ty "str", .base (.int i), kit_ty (by decide +kernel), false, rfl, ifT (ifT (q _ (fun _ _ y => y)))⟩
    | lst g _ _ => exact ⟨_, rfl, _, _, _, _, false, rfl, .ty "str", .base (.lst g), kit_ty (by decide +kernel), false, rfl, ifT (ifT (q _ (fun _ _ y => y)))⟩
    | tup g _ => exact ⟨_, rfl, _, _, _, _, false, rfl, .ty "str", .base (.tup g), kit_ty (by decide +kernel), false, rfl, ifT (ifT (q _ (fun _ _ y => y)))⟩
    | dic g _ _ _ _ => exact ⟨_, rfl, _, _, _, _, false, rfl, .ty "str", .base (.dK g), kit_ty (by decide +kernel), false, rfl, ifT (ifT (q _ (fun _ _ y => y)))⟩

end
end G
set_option Elab.async false
set_option linter.all false
set_option maxRecDepth 100000
set_option maxHeartbeats 1200000
namespace G
open PySem L2 Nd
section
variable {P : Program} {w : World} {K : PySem.W.Frag} {mg : Str → Option Value} {base : Heap}
theorem ok_p_are_words (T : Txt K mg) : FnOk P w K mg base CX0 3 T.f_p_are_words T.d_p_are_words ["value", "least", "most"] spAreWords := by
  have G_p_is_word := ok_p_is_word (P := P) (w := w) (base := base) T
  refine T.F_p_are_words.ok sc_p_are_words (fun vs H Q E h => ?_) (fun cdv A outer s H vs Q E hr h => ?_)
  · obtain ⟨_, _, _, _, _, rfl, _⟩ := h
    rfl
  · obtain ⟨v, lo, hi, Pp, d, rfl, hh, hv, sm, q⟩ := h
    refine ⟨_, (pss_cons (ps_if (PW.pt (pw_or (pt_not (pt_val (pe_callB call_isiT (by rfl) T.z_isinstance (by decide +kernel) (pa_cons (pv 0) (pa_cons (pe_tup (pa_cons (pe_bltn (v := .ty "list") (u := .type "list") rfl T.z_list (by decide +kernel) rfl) (pa_cons (pe_bltn (v := .ty "tuple") (u := .type "tuple") rfl T.z_tuple (by decide +kernel) rfl) pa_nil))) pa_nil))))) (pw_or1 (pt_not (pt_chain op_le op_le (pv 1) (pe_callB call_len_seq (by rfl) T.z_len (by decide +kernel) (pa_cons (pv 0) pa_nil)) (pv 2))))))
          (pss_one (ps_ret pe_bl))
          pss_nil)
        (pss_cons (ps_if (pt_not (pt_val (pe_callB (cr_all rfl) (by rfl) T.z_all (by decide +kernel) (pa_cons (pe_lc (own := [("word", 3)]) (g := gName 3) rfl sc_p_are_words.nd (pi_seqA (pv 0)) (blkOk_by (own := [("word", 3)]) (N := ["value", "least", "most", "word"]) (sc := defScope s_p_are_words) (by decide +kernel)) (fun _ _ _ _ _ => (pg_name (i := 3) sc_p_are_words.nd rfl (Or.inl rfl))) (fun _ _ _ _ _ => pts_nil) (fun _ _ _ _ _ => (pe_call G_p_is_word (hr.mono (by omega)) rfl T.g_p_is_word T.F_p_is_word.kp T.b_p_is_word .nil pass0 (pa_cons (pv 3) pa_nil)))) pa_nil))))
          (pss_one (ps_ret pe_bl))
          pss_nil)
        (pss_one (ps_ret (pe_cmpR op_eq (Sx.pe_lenS rfl T.z_len rfl T.z_set (pv 0)) (pe_callB call_len_seq (by rfl) T.z_len (by decide +kernel) (pa_cons (pv 0) pa_nil)) (nomark _)))))), ?_⟩
    rcases at_seq (K := K) hv with ⟨t, ty, kk, no⟩ | ⟨a, o, ws, ds, t, rfl, ha, hs, aw, ty, kk, sd, yes⟩
    · rw [no] at q
      refine ⟨_, rfl, by decide +kernel, ?_⟩
      intro tp htp
      exact ⟨_, tp, _, t, _, false, rfl, upd_same, .cons (.ty "list") (.cons (.ty "tuple") .nil), TyX.same ty (same_add htp), kk, false, rfl, ifT (ifT (q _ (same_add htp)))⟩
    · rw [yes] at q
      refine ⟨_, rfl, by decide +kernel, ?_⟩
      intro tp htp
      refine ⟨_, tp, _, t, _, true, rfl, upd_same, .cons (.ty "list") (.cons (.ty "tuple") .nil), TyX.same ty (same_add htp), kk, true, rfl, ifF ?_⟩
      have s1 := same_add (o := HO.tup [V.ty "list", V.ty "tuple"]) htp
      have ln := aw.len
      rw [sd, Bool.and_eq_true] at sm
      refine ⟨_, rfl, _, rfl, a, ws, rfl, seqX (s1 _ _ ha) hs, _, _, rfl, rfl, _, rfl, ?_⟩
      rw [ln]
      cases h1 : decide (lo ≤ (ds.length : Int)) with
      | false =>
        refine ifF ⟨false, rfl, ifT ?_⟩
        have e : wordsL lo hi ds = false := by rw [wordsL, h1]; rfl
        rw [e] at q
        exact q _ s1
      | true =>
        refine ifT ⟨_, rfl, _, _, rfl, rfl, _, rfl, ?_⟩
        cases h2 : decide ((ds.length : Int) ≤ hi) with
        | false =>
          refine ifT ?_
          have e : wordsL lo hi ds = false := by rw [wordsL, h2, Bool.and_false]; rfl
          rw [e] at q
          exact q _ s1
        | true =>
          refine ifF ⟨_, rfl, a, rfl, seqA (s1 _ _ ha) hs fun J wk D hD => ?_⟩
          have e : wordsL lo hi ds = (((ds.map isWordD).all id) && decide ((textsD ds).Nodup)) := by rw [wordsL, h1, h2, List.all_map]; rfl
          rw [e] at q
          have hD0 : H D = none := same_none s1 hD
          refine lc_it wk (fun i H2 => Same H H2 ∧ H2 D = some (.lst (((ds.take i).map isWordD).map V.bl)))
            ⟨fun c o g => same_add hD _ _ (s1 _ _ g), upd_same⟩ (fun _ _ _ g => g.1 _ _ ha) ?_ ?_
          · rintro i x H2 H3 hi ⟨s2, h3⟩ ⟨rfl, hx⟩
            obtain ⟨dd, hd1, hd2⟩ := aw.get hx
            have tk : ds.take (i + 1) = ds.take i ++ [dd] := by rw [List.take_add_one, hd1]; rfl
            refine ⟨rfl, _, rfl, x, Pp, dd, rfl, hd2.same s2, smDs_get sm.2 hd1, fun H4 s4 => ?_⟩
            have hl : i < ds.length := (List.getElem?_eq_some_iff.mp hd1).1
            refine ⟨_, s4 _ _ h3, ?_, ?_, ?_⟩
            · simp only [List.length_map, List.length_take]
              have : 1000 < sizeLine := by decide +kernel
              have := of_decide_eq_true sm.1
              omega
            · exact same_new (fun c o g => s4 _ _ (s2 _ _ g)) hD0
            · rw [upd_same, tk]; simp
          · rintro H2 ⟨s2, h3⟩
            rw [ln, List.take_length] at h3
            refine ⟨D, ds.map isWordD, rfl, SqL.of h3, _, rfl, ?_⟩
            cases h4 : (ds.map isWordD).all id with
            | false =>
              refine ifT ?_
              rw [h4] at q
              exact q _ s2
            | true =>
              refine ifF ?_
              rw [h4] at q
              obtain ⟨r1, r2⟩ := texts_at aw (by rw [List.all_map] at h4; exact h4)
              have ll : (textsD ds).length < 60 := by
                have := of_decide_eq_true h2
                omega
              refine ⟨_, rfl, a, textsD ds, rfl, ?_, ll, _, rfl, a, ws, rfl, seqX (s2 _ _ ha) hs, ?_⟩
              · rw [← r1]; exact seqX (s2 _ _ ha) hs
              · refine ⟨rfl, ?_⟩
                have e2 : decide (V.int (Sx.dis ((textsD ds).map Sum.inr : List Key).reverse : Nat) = V.int (ws.length : Nat)) = (true && decide ((textsD ds).Nodup)) := by
                  rw [Bool.true_and]
                  refine decide_eq_decide.mpr ?_
                  rw [← Sx.dis_str, ln, ← r2]
                  constructor
                  · intro z; injection z with z; omega
                  · intro z; rw [z]
                have q2 := q _ s2
                rw [← e2] at q2
                exact q2

end
end G
set_option Elab.async false
set_option linter.all false
set_option maxRecDepth 100000
set_option maxHeartbeats 1200000
namespace G
open PySem L2 Nd
section
variable {P : Program} {w : World} {K : PySem.W.Frag} {mg : Str → Option Value} {base : Heap}
theorem ok_p_has_keys (T : Txt K mg) : FnOk P w K mg base CX0 1 T.f_p_has_keys T.d_p_has_keys ["value", "names"] spHasKeys := by
  refine T.F_p_has_keys.ok sc_p_has_keys (fun vs H Q E h => ?_) (fun cdv A outer s H vs Q E hr h => ?_)
  · obtain ⟨_, _, _, _, _, rfl, _⟩ := h
    rfl
  · obtain ⟨v, u, Pp, d, ns, rfl, hv, nl, ⟨b, rfl, hb⟩, q⟩ := h
    refine ⟨_, (pss_cons (ps_if (PW.pt (pw_or (pt_not (pt_val (pe_callB call_isi (by rfl) T.z_isinstance (by decide +kernel) (pa_cons (pv 0) (pa_cons (pe_bltn (v := .ty "dict") (u := .type "dict") rfl T.z_dict (by decide +kernel) rfl) pa_nil))))) (pw_or1 (pt_cmpR op_ne (pe_callB call_lenD (by rfl) T.z_len (by decide +kernel) (pa_cons (pv 0) pa_nil)) (pe_callB call_len_seq (by rfl) T.z_len (by decide +kernel) (pa_cons (pv 1) pa_nil)) (nomark _)))))
          (pss_one (ps_ret pe_bl))
          pss_nil)
        (pss_one (ps_ret (pe_callB (cr_all rfl) (by rfl) T.z_all (by decide +kernel) (pa_cons (pe_lc (own := [("name", 2)]) (g := gName 2) rfl sc_p_has_keys.nd (pi_seqA (pv 1)) (blkOk_by (own := [("name", 2)]) (N := ["value", "names", "name"]) (sc := defScope s_p_has_keys) (by decide +kernel)) (fun _ _ _ _ _ => (pg_name (i := 2) sc_p_has_keys.nd rfl (Or.inl rfl))) (fun _ _ _ _ _ => pts_nil) (fun _ _ _ _ _ => (pe_cmp (pc_din (hu_of hr) (pv 2) (pv 0))))) pa_nil))))), ?_⟩
    cases hv with
    | dic g pg nd lk r =>
      rename_i a ks ws ds
      refine ⟨_, rfl, _, _, _, _, true, rfl, .ty "dict", .base (.dK g), kit_ty (by decide +kernel), true, rfl, ifF ?_⟩
      obtain ⟨o, ho, hs⟩ : ∃ o, H b = some o ∧ (o = .lst (ns.map V.str) ∨ o = .tup (ns.map V.str)) := by
        rcases hb with z | z
        · exact ⟨_, z, .inl rfl⟩
        · exact ⟨_, z, .inr rfl⟩
      refine ⟨_, rfl, a, _, rfl, g, _, rfl, b, _, rfl, seqX ho hs, rfl, _, rfl, ?_⟩
      rw [dkv_len lk, List.length_map]
      cases h1 : decide (V.int (ks.length : Nat) = V.int (ns.length : Nat)) with
      | false =>
        refine ifT ?_
        have e : hasKeysD ns (.dic ks ds) = false := by
          have : ¬ ks.length = ns.length := fun z => of_decide_eq_false h1 (by rw [z])
          rw [hasKeysD, decide_eq_false this]; rfl
        rw [e] at q
        exact q _ (fun _ _ y => y)
      | true =>
        refine ifF ⟨_, rfl, b, rfl, seqA ho hs fun J wk D hD => ?_⟩
        have e : hasKeysD ns (.dic ks ds) = ((ns.map fun n => decide (n ∈ ks)).all id) := by
          have z := of_decide_eq_true h1
          injection z with z
          have z2 : ks.length = ns.length := by omega
          rw [hasKeysD, decide_eq_true z2, List.all_map]; rfl
        rw [e] at q
        refine lc_it wk (fun i H2 => Same H H2 ∧ H2 D = some (.lst (((ns.take i).map fun n => decide (n ∈ ks)).map V.bl)))
          ⟨same_add hD, upd_same⟩ (fun _ _ _ g => g.1 _ _ ho) ?_ ?_
        · rintro i x H2 H3 hi ⟨s2, h3⟩ ⟨rfl, hx⟩
          rw [List.getElem?_map] at hx
          obtain ⟨n, hn, rfl⟩ := Option.map_eq_some_iff.mp hx
          have tk : ns.take (i + 1) = ns.take i ++ [n] := by rw [List.take_add_one, hn]; rfl
          refine ⟨rfl, _, rfl, _, rfl, a, _, rfl, DGet.k (k := .inr n) (s2 _ _ g), ?_⟩
          rw [valV_dkv, look_some lk]
          refine ⟨_, h3, ?_, same_new s2 hD, ?_⟩
          · simp only [List.length_map, List.length_take]
            have : 1000 < sizeLine := by decide +kernel
            omega
          · rw [upd_same, tk]; simp
        · rintro H2 ⟨s2, h3⟩
          rw [List.length_map, List.take_length] at h3
          exact ⟨D, ns.map fun n => decide (n ∈ ks), rfl, SqL.of h3, q _ s2⟩
    | non => exact ⟨_, rfl, _, _, _, _, false, rfl, .ty "dict", .base .non, kit_ty (by decide +kernel), false, rfl, ifT (ifT (q _ (fun _ _ y => y)))⟩
    | bl b => exact ⟨_, rfl, _, _, _, _, false, rfl, .ty "dict", .base (.bl b), kit_ty (by decide +kernel), false, rfl, ifT (ifT (q _ (fun _ _ y => y)))⟩
    | int i => exact ⟨_, rfl, _, _, _, _, false, rfl, .ty "dict", .base (.int i), kit_ty (by decide +kernel), false, rfl, ifT (ifT (q _ (fun _ _ y => y)))⟩
    | str z => exact ⟨_, rfl, _, _, _, _, false, rfl, .ty "dict", .base (.str z), kit_ty (by decide +kernel), false, rfl, ifT (ifT (q _ (fun _ _ y => y)))⟩
    | lst g _ _ => exact ⟨_, rfl, _, _, _, _, false, rfl, .ty "dict", .base (.lst g), kit_ty (by decide +kernel), false, rfl, ifT (ifT (q _ (fun _ _ y => y)))⟩
    | tup g _ => exact ⟨_, rfl, _, _, _, _, false, rfl, .ty "dict", .base (.tup g), kit_ty (by decide +kernel), false, rfl, ifT (ifT (q _ (fun _ _ y => y)))⟩

end
end G
set_option Elab.async false
set_option linter.all false
set_option maxRecDepth 100000
set_option maxHeartbeats 1200000
namespace G
open PySem L2 Nd
section
variable {P : Program} {w : World} {K : PySem.W.Frag} {mg : Str → Option Value} {base : Heap}
theorem ok_p_fields_have_form (T : Txt K mg) : FnOk P w K mg base CX0 4 T.f_p_fields_have_form T.d_p_fields_have_form ["fields"] spFldForm := by
  have G_p_is_word := ok_p_is_word (P := P) (w := w) (base := base) T
  have G_p_are_words := ok_p_are_words (P := P) (w := w) (base := base) T
  refine T.F_p_fields_have_form.ok sc_p_fields_have_form (fun vs H Q E h => ?_) (fun cdv A outer s H vs Q E hr h => ?_)
  · obtain ⟨_, _, _, rfl, _⟩ := h
    rfl
  · obtain ⟨v, Pp, d, rfl, hv, ⟨ks, xs, rfl, l2, wk, wx⟩, q⟩ := h
    refine ⟨_, (pss_cons (ps_if (PW.pt (pw_or (pt_not (pt_val (pe_callB call_isi (by rfl) T.z_isinstance (by decide +kernel) (pa_cons (pv 0) (pa_cons (pe_bltn (v := .ty "dict") (u := .type "dict") rfl T.z_dict (by decide +kernel) rfl) pa_nil))))) (pw_or1 (pt_cmpR op_gt (pe_callB call_lenD (by rfl) T.z_len (by decide +kernel) (pa_cons (pv 0) pa_nil)) pe_int (nomark _)))))
          (pss_one (ps_ret pe_bl))
          pss_nil)
        (pss_cons (ps_lock (ps_for PassesOwn.never rfl (pi_keys (pv 0)) (pg_name (i := 1) sc_p_fields_have_form.nd rfl (Or.inl rfl))
          (pss_cons (ps_set (i := 2) sc_p_fields_have_form.nd rfl (Or.inl rfl) (pe_dget (hu_of hr) (pv 0) (pv 1) (fun _ _ => rfl)))
          (pss_one (ps_if (PW.pt (pw_or (pt_not (pt_val (pe_call G_p_is_word (hr.mono (by omega)) rfl T.g_p_is_word T.F_p_is_word.kp T.b_p_is_word .nil pass0 (pa_cons (pv 1) pa_nil)))) (pw_or (pt_not (pt_val (pe_callB call_isi (by rfl) T.z_isinstance (by decide +kernel) (pa_cons (pv 2) (pa_cons (pe_bltn (v := .ty "tuple") (u := .type "tuple") rfl T.z_tuple (by decide +kernel) rfl) pa_nil))))) (pw_or1 (pt_not (pt_val (pe_call G_p_are_words (hr.mono (by omega)) rfl T.g_p_are_words T.F_p_are_words.kp T.b_p_are_words .nil pass0 (pa_cons (pv 2) (pa_cons pe_int (pa_cons pe_int pa_nil))))))))))
            (pss_one (ps_ret pe_bl))
            pss_nil)))))
        (pss_one (ps_ret pe_bl)))), ?_⟩
    have h0 := hv
    cases hv with
    | @dic e _ ws _ g pg nd lk r =>
      refine ⟨_, rfl, _, _, _, _, true, rfl, .ty "dict", .base (.dK g), kit_ty (by decide +kernel), true, rfl, ifF ?_⟩
      refine ⟨_, rfl, e, _, rfl, g, _, _, rfl, rfl, _, rfl, ?_⟩
      rw [decide_eq_false (show ¬ (((dkv ks ws).length : Int) > 2) by rw [dkv_len lk]; omega)]
      refine ifF ⟨e, _, g, True.intro, fun od => ?_⟩
      refine ⟨_, rfl, e, od, rfl, .inl ⟨_, upd_same, for_it walk_keys (fun i σ H2 => ∃ (c1 c2 : Option V), σ = [some (.ref e), c1, c2] ∧ Same (upd H e (.frz od (.dK (dkv ks ws)))) H2) ⟨_, _, rfl, Same.refl _⟩ (fun _ _ _ _ ⟨_, _, _, q⟩ => q _ _ upd_same) ?_ ?_⟩⟩
      · rintro i x σ H3 H2 hi ⟨c1, c2, rfl, e2⟩ ⟨rfl, kq, kv, hg, rfl⟩
        obtain ⟨kk, rfl, g1, g2⟩ := dkv_get hg
        obtain ⟨y, hy, my, ay⟩ := kid h0 g lk e2 g2
        have rd : Rd H2 e (.dK (dkv ks ws)) := .inr ⟨od, e2 _ _ upd_same⟩
        have ge : DGet H2 e (.str kk) (some kv) := .inl ⟨_, .inr kk, rd, rfl, by rw [valV_dkv, lookD_at nd g1 g2]⟩
        have wkk := wk kk (List.mem_of_getElem? g1)
        obtain ⟨wds, rfl, hw⟩ := wx y my
        refine ⟨_, rfl, _, rfl, e, _, rfl, ge, ?_⟩
        refine ⟨_, rfl, .str kk, fun _ => True, .str kk, rfl, .str kk, word_sm wkk, fun H4 s4 => ?_⟩
        rw [isWord_str wkk]
        refine ⟨true, rfl, ifF ?_⟩
        have ay4 := ay.same s4
        cases ay with
        | @tup tp us _ gt rt =>
          refine ⟨_, rfl, _, _, _, _, true, rfl, .ty "tuple", .base (.tup (s4 _ _ gt)), kit_ty (by decide +kernel), true, rfl, ifF ?_⟩
          refine ⟨_, rfl, _, 2, 3, _, tupW wds, rfl, by decide, ay4, words_sm hw (by decide), fun H5 s5 => ?_⟩
          rw [show areWordsD 2 3 (tupW wds) = true from hw]
          refine ⟨true, rfl, ifF ?_⟩
          exact ⟨_, _, rfl, (e2.trans s4).trans s5⟩
      · rintro σ H2 ⟨c1, c2, rfl, e2⟩
        obtain ⟨z1, z2⟩ := same_unlock g e2
        exact ⟨z1, q _ z2⟩

end
end G
set_option Elab.async false
set_option linter.all false
set_option maxRecDepth 100000
set_option maxHeartbeats 1200000
namespace G
open PySem L2 Nd
section
variable {P : Program} {w : World} {K : PySem.W.Frag} {mg : Str → Option Value} {base : Heap}
/-- one call; the calls within by the smaller one -/
def spLsFormB : Nat → Sp
  | 0 => fun _ _ _ _ => False
  | n + 1 => spLsForm n
theorem lhf_step (T : Txt K mg) (n : Nat) (G_p_lists_have_form : FnOk P w K mg base CX0 (n + 1) T.f_p_lists_have_form T.d_p_lists_have_form ["lists", "most", "deep"] (spLsFormB n)) :
    FnOk P w K mg base CX0 (n + 2) T.f_p_lists_have_form T.d_p_lists_have_form ["lists", "most", "deep"] (spLsForm n) := by
  have G_p_is_word := ok_p_is_word (P := P) (w := w) (base := base) T
  have G_p_has_keys := ok_p_has_keys (P := P) (w := w) (base := base) T
  refine T.F_p_lists_have_form.ok sc_p_lists_have_form (fun vs H Q E h => ?_) (fun cdv A outer s H vs Q E hr h => ?_)
  · obtain ⟨_, _, _, _, rfl, _⟩ := h
    rfl
  · obtain ⟨v, m, Pp, d, rfl, hv, ⟨ks, xs, rfl, l2, wk, wx⟩, q⟩ := h
    refine ⟨_, (pss_cons (ps_if (PW.pt (pw_or (pt_not (pt_val (pe_callB call_isi (by rfl) T.z_isinstance (by decide +kernel) (pa_cons (pv 0) (pa_cons (pe_bltn (v := .ty "dict") (u := .type "dict") rfl T.z_dict (by decide +kernel) rfl) pa_nil))))) (pw_or1 (pt_cmpR op_gt (pe_callB call_lenD (by rfl) T.z_len (by decide +kernel) (pa_cons (pv 0) pa_nil)) (pv 1) (nomark _)))))
          (pss_one (ps_ret pe_bl))
          pss_nil)
        (pss_cons (ps_lock (ps_for PassesOwn.never rfl (pi_keys (pv 0)) (pg_name (i := 3) sc_p_lists_have_form.nd rfl (Or.inl rfl))
          (pss_cons (ps_set (i := 4) sc_p_lists_have_form.nd rfl (Or.inl rfl) (pe_dget (hu_of hr) (pv 0) (pv 3) (fun _ _ => rfl)))
          (pss_cons (ps_if (PW.pt (pw_or (pt_not (pt_val (pe_call G_p_is_word (hr.mono (by omega)) rfl T.g_p_is_word T.F_p_is_word.kp T.b_p_is_word .nil pass0 (pa_cons (pv 3) pa_nil)))) (pw_or1 (pt_not (pt_val (pe_call G_p_has_keys (hr.mono (by omega)) rfl T.g_p_has_keys T.F_p_has_keys.kp T.b_p_has_keys .nil pass0 (pa_cons (pv 4) (pa_cons (pe_tup (pa_cons pe_str (pa_cons pe_str pa_nil))) pa_nil))))))))
            (pss_one (ps_ret pe_bl))
            pss_nil)
          (pss_cons (ps_if (PW.pt (pw_and (pt_cmpR op_eq (pv 2) pe_int (nomark _)) (pw_and1 (pt_cmpR (op_ne_dictA (Nat.lt_of_le_of_lt (Nat.le_add_right _ 65) (hu65 hr))) (pe_dget (hu_of hr) (pv 4) pe_str (fun _ _ => rfl)) pe_dnewK (nomark _)))))
            (pss_one (ps_ret pe_bl))
            pss_nil)
          (pss_one (ps_if (PW.pt (pw_and (pt_cmpR op_gt (pv 2) pe_int (nomark _)) (pw_and1 (pt_not (pt_val (pe_call G_p_lists_have_form (hr.mono (by omega)) rfl T.g_p_lists_have_form T.F_p_lists_have_form.kp T.b_p_lists_have_form .nil pass0 (pa_cons (pe_dget (hu_of hr) (pv 4) pe_str (fun _ _ => rfl)) (pa_cons pe_int (pa_cons (pe_op op_sub (pv 2) pe_int) pa_nil)))))))))
            (pss_one (ps_ret pe_bl))
            pss_nil)))))))
        (pss_one (ps_ret pe_bl)))), ?_⟩
    have h0 := hv
    cases hv with
    | @dic e _ ws _ g pg nd lk r =>
      refine ⟨_, rfl, _, _, _, _, true, rfl, .ty "dict", .base (.dK g), kit_ty (by decide +kernel), true, rfl, ifF ?_⟩
      refine ⟨_, rfl, e, _, rfl, g, _, rfl, _, _, rfl, rfl, _, rfl, ?_⟩
      rw [decide_eq_false (show ¬ (((dkv ks ws).length : Int) > m) by rw [dkv_len lk]; omega)]
      refine ifF ⟨e, _, g, True.intro, fun od => ?_⟩
      refine ⟨_, rfl, e, od, rfl, .inl ⟨_, upd_same, for_it walk_keys (fun i σ H2 => ∃ (c1 c2 : Option V), σ = [some (.ref e), some (.int m), some (.int n), c1, c2] ∧ Same (upd H e (.frz od (.dK (dkv ks ws)))) H2) ⟨_, _, rfl, Same.refl _⟩ (fun _ _ _ _ ⟨_, _, _, q⟩ => q _ _ upd_same) ?_ ?_⟩⟩
      · rintro i x σ H3 H2 hi ⟨c1, c2, rfl, e2⟩ ⟨rfl, kq, kv, hg, rfl⟩
        obtain ⟨kk, rfl, g1, g2⟩ := dkv_get hg
        obtain ⟨y, hy, my, ay⟩ := kid h0 g lk e2 g2
        have rd : Rd H2 e (.dK (dkv ks ws)) := .inr ⟨od, e2 _ _ upd_same⟩
        have ge : DGet H2 e (.str kk) (some kv) := .inl ⟨_, .inr kk, rd, rfl, by rw [valV_dkv, lookD_at nd g1 g2]⟩
        have wkk := wk kk (List.mem_of_getElem? g1)
        obtain ⟨js, ys, f, im, rfl, lj, lf, li, hf, hi2⟩ := wx y my
        refine ⟨_, rfl, _, rfl, e, _, rfl, ge, ?_⟩
        refine ⟨_, rfl, .str kk, fun _ => True, .str kk, rfl, .str kk, word_sm wkk, fun H4 s4 => ?_⟩
        rw [isWord_str wkk]
        refine ⟨true, rfl, ifF ?_⟩
        have ay4 := ay.same s4
        refine ⟨_, rfl, by decide +kernel, fun tp htp => ?_⟩
        have s4' := same_add (o := HO.tup [V.str "fields", V.str "inner"]) htp
        refine ⟨kv, .ref tp, _, _, ["fields", "inner"], rfl, ay4.same s4', by decide, ⟨tp, rfl, .inr upd_same⟩, fun H5 s5 => ?_⟩
        rw [has_two lj lf li]
        refine ⟨true, rfl, ifF ?_⟩
        have s45 := s4'.trans s5
        have ay5 := ay4.same s45
        obtain ⟨b, u, rfl, gu, au⟩ := at_look ay5 li
        have t5 := (e2.trans s4).trans s45
        cases n with
        | zero =>
          refine ⟨_, rfl, rfl, _, rfl, ifT ?_⟩
          have hi3 : im = .dic [] [] := hi2
          subst hi3
          refine ⟨_, rfl, b, u, rfl, gu, fun nw hnw => ?_⟩
          cases au with
          | @dic c _ us _ gc pc nc lc rc =>
            cases us with
            | cons => simp at lc
            | nil =>
              have gc2 : H5 c = some (.dK []) := gc
              refine ⟨c, nw, [], [], rfl, rfl, by rw [upd_ne (ne_of_none gc2 hnw)]; exact gc2, upd_same, rfl, (fun p hp => by cases hp), _, rfl, ifF ?_⟩
              refine ⟨_, rfl, _, _, rfl, rfl, _, rfl, ifF ?_⟩
              exact ⟨_, _, rfl, t5.trans (same_add hnw)⟩
        | succ n =>
          refine ⟨_, rfl, rfl, _, rfl, ?_⟩
          rw [decide_eq_false (show ¬ (V.int ((n + 1 : Nat) : Int) = V.int 0) by intro z; injection z with z; omega)]
          refine ifF ⟨_, rfl, _, _, rfl, rfl, _, rfl, ?_⟩
          rw [decide_eq_true (show ((n + 1 : Nat) : Int) > 0 by omega)]
          refine ifT ⟨_, rfl, b, u, rfl, gu, _, rfl, _, _, rfl, rfl, ?_⟩
          refine ⟨u, 1, _, im, ?_, au, hi2, fun H6 s6 => ?_⟩
          · have z : ((n + 1 : Nat) : Int) - 1 = (n : Int) := by omega
            exact congrArg (fun t => [u, V.int 1, V.int t]) z
          · refine ⟨true, rfl, ifF ?_⟩
            exact ⟨_, _, rfl, t5.trans s6⟩
      · rintro σ H2 ⟨c1, c2, rfl, e2⟩
        obtain ⟨z1, z2⟩ := same_unlock g e2
        exact ⟨z1, q _ z2⟩
theorem ok_p_lists_have_form (T : Txt K mg) : ∀ n : Nat, FnOk P w K mg base CX0 (n + 2) T.f_p_lists_have_form T.d_p_lists_have_form ["lists", "most", "deep"] (spLsForm n) := by
  intro n
  induction n with
  | zero => exact lhf_step T 0 (fn_false fun vs H Q E h => h)
  | succ n ih => exact lhf_step T (n + 1) ih

end
end G
set_option Elab.async false
set_option linter.all false
set_option maxRecDepth 100000
set_option maxHeartbeats 1200000
namespace G
open PySem L2 Nd
section
variable {P : Program} {w : World} {K : PySem.W.Frag} {mg : Str → Option Value} {base : Heap}
theorem ok_p_all_fields_have_form (T : Txt K mg) : ∀ n : Nat, FnOk P w K mg base CX0 (n + 5) T.f_p_all_fields_have_form T.d_p_all_fields_have_form ["lists"] (spAllFld n) := by
  have step : ∀ (n : Nat) (SP : Sp), (n = 0 ∨ ∃ m, n = m + 1 ∧ SP = spAllFld m) → FnOk P w K mg base CX0 (n + 4) T.f_p_all_fields_have_form T.d_p_all_fields_have_form ["lists"] SP →
      FnOk P w K mg base CX0 (n + 5) T.f_p_all_fields_have_form T.d_p_all_fields_have_form ["lists"] (spAllFld n) := by
    intro n SP hn G_p_all_fields_have_form
    have G_p_fields_have_form := ok_p_fields_have_form (P := P) (w := w) (base := base) T
    refine T.F_p_all_fields_have_form.ok sc_p_all_fields_have_form (fun vs H Q E h => ?_) (fun cdv A outer s H vs Q E hr h => ?_)
    · obtain ⟨_, _, _, _, rfl, _⟩ := h
      rfl
    · obtain ⟨v, m, Pp, d, rfl, hv, hL, q⟩ := h
      obtain ⟨ks, xs, rfl, wx⟩ : ∃ ks xs, d = .dic ks xs ∧ ∀ x ∈ xs, ∃ (js : List Str) (ys : List Dat) (f i : Dat) (n' : Nat), x = .dic js ys ∧ lookD js ys "fields" = some f ∧ lookD js ys "inner" = some i ∧ FldD f ∧ n = n' + 1 ∧ LsD n' 1 i := by
        cases n with
        | zero => exact ⟨[], [], hL, fun x hx => by cases hx⟩
        | succ n =>
          obtain ⟨ks, xs, rfl, _, _, wx⟩ := hL
          refine ⟨ks, xs, rfl, fun x hx => ?_⟩
          obtain ⟨js, ys, f, i, z1, _, z3, z4, z5, z6⟩ := wx x hx
          exact ⟨js, ys, f, i, n, z1, z3, z4, z5, rfl, z6⟩
      refine ⟨_, (pss_cons (ps_lock (ps_for PassesOwn.never rfl (pi_keys (pv 0)) (pg_name (i := 1) sc_p_all_fields_have_form.nd rfl (Or.inl rfl))
          (pss_cons (ps_set (i := 2) sc_p_all_fields_have_form.nd rfl (Or.inl rfl) (pe_dget (hu_of hr) (pv 0) (pv 1) (fun _ _ => rfl)))
          (pss_one (ps_if (PW.pt (pw_or (pt_not (pt_val (pe_call G_p_fields_have_form (hr.mono (by omega)) rfl T.g_p_fields_have_form T.F_p_fields_have_form.kp T.b_p_fields_have_form .nil pass0 (pa_cons (pe_dget (hu_of hr) (pv 2) pe_str (fun _ _ => rfl)) pa_nil)))) (pw_or1 (pt_not (pt_val (pe_call G_p_all_fields_have_form (hr.mono (by omega)) rfl T.g_p_all_fields_have_form T.F_p_all_fields_have_form.kp T.b_p_all_fields_have_form .nil pass0 (pa_cons (pe_dget (hu_of hr) (pv 2) pe_str (fun _ _ => rfl)) pa_nil)))))))
            (pss_one (ps_ret pe_bl))
            pss_nil)))))
        (pss_one (ps_ret pe_bl))), ?_⟩
      have h0 := hv
      cases hv with
      | @dic e _ ws _ g pg nd lk r =>
        refine ⟨e, _, g, True.intro, fun od => ?_⟩
        refine ⟨_, rfl, e, od, rfl, .inl ⟨_, upd_same, for_it walk_keys (fun i σ H2 => ∃ (c1 c2 : Option V), σ = [some (.ref e), c1, c2] ∧ Same (upd H e (.frz od (.dK (dkv ks ws)))) H2) ⟨_, _, rfl, Same.refl _⟩ (fun _ _ _ _ ⟨_, _, _, q⟩ => q _ _ upd_same) ?_ ?_⟩⟩
        · rintro i x σ H3 H2 hi ⟨c1, c2, rfl, e2⟩ ⟨rfl, kq, kv, hg, rfl⟩
          obtain ⟨kk, rfl, g1, g2⟩ := dkv_get hg
          obtain ⟨y, hy, my, ay⟩ := kid h0 g lk e2 g2
          have rd : Rd H2 e (.dK (dkv ks ws)) := .inr ⟨od, e2 _ _ upd_same⟩
          have ge : DGet H2 e (.str kk) (some kv) := .inl ⟨_, .inr kk, rd, rfl, by rw [valV_dkv, lookD_at nd g1 g2]⟩
          obtain ⟨js, ys, f, im, n', rfl, lf, li, hf, rfl, hi2⟩ := wx y my
          obtain ⟨m', e1, rfl⟩ := hn.resolve_left (Nat.succ_ne_zero _)
          obtain rfl : n' = m' := by omega
          refine ⟨_, rfl, _, rfl, e, _, rfl, ge, ?_⟩
          obtain ⟨b, u, rfl, gu, au⟩ := at_look ay lf
          refine ⟨_, rfl, b, u, rfl, gu, u, _, f, rfl, au, hf, fun H4 s4 => ?_⟩
          refine ⟨true, rfl, ifF ?_⟩
          obtain ⟨b', u', e3, gu', au'⟩ := at_look (ay.same s4) li
          cases e3
          refine ⟨_, rfl, b, u', rfl, gu', u', 1, _, im, rfl, au', hi2, fun H5 s5 => ?_⟩
          refine ⟨true, rfl, ifF ?_⟩
          exact ⟨_, _, rfl, (e2.trans s4).trans s5⟩
        · rintro σ H2 ⟨c1, c2, rfl, e2⟩
          obtain ⟨z1, z2⟩ := same_unlock g e2
          exact ⟨z1, q _ z2⟩
  intro n
  induction n with
  | zero => exact step 0 (fun _ _ _ _ => False) (.inl rfl) (fn_false fun vs H Q E h => h)
  | succ n ih => exact step (n + 1) (spAllFld n) (.inr ⟨n, rfl, rfl⟩) ih

end
end G
set_option Elab.async false
set_option linter.all false
set_option maxRecDepth 100000
set_option maxHeartbeats 1200000
namespace G
open PySem L2 Nd
section
variable {P : Program} {w : World} {K : PySem.W.Frag} {mg : Str → Option Value} {base : Heap}
theorem ok_p_all_names (T : Txt K mg) : ∀ n : Nat, FnOk P w K mg base CX0 (n + 1) T.f_p_all_names T.d_p_all_names ["lists"] (spAllNames n) := by
  have step : ∀ (n : Nat) (SP : Sp), (n = 0 ∨ ∃ m, n = m + 1 ∧ SP = spAllNames m) → FnOk P w K mg base CX0 n T.f_p_all_names T.d_p_all_names ["lists"] SP →
      FnOk P w K mg base CX0 (n + 1) T.f_p_all_names T.d_p_all_names ["lists"] (spAllNames n) := by
    intro n SP hn G_p_all_names
    refine T.F_p_all_names.ok sc_p_all_names (fun vs H Q E h => ?_) (fun cdv A outer s H vs Q E hr h => ?_)
    · obtain ⟨_, _, _, _, rfl, _⟩ := h
      rfl
    · obtain ⟨v, m, Pp, d, rfl, hv, hL, nl, q⟩ := h
      obtain ⟨ks, xs, ff, rfl, eq, wx⟩ : ∃ ks xs ff, d = .dic ks xs ∧ namesD n (.dic ks xs) = namesZ ff ks xs ∧ ∀ x ∈ xs, ∃ (js : List Str) (ys : List Dat) (i : Dat) (n' : Nat), x = .dic js ys ∧ lookD js ys "inner" = some i ∧ n = n' + 1 ∧ LsD n' 1 i ∧ ff = namesD n' := by
        cases n with
        | zero => exact ⟨[], [], fun _ => [], hL, rfl, fun x hx => by cases hx⟩
        | succ n =>
          obtain ⟨ks, xs, rfl, _, _, wx⟩ := hL
          refine ⟨ks, xs, namesD n, rfl, rfl, fun x hx => ?_⟩
          obtain ⟨js, ys, f, i, z1, _, z3, z4, z5, z6⟩ := wx x hx
          exact ⟨js, ys, i, n, z1, z4, rfl, z6, rfl⟩
      rw [eq] at q nl
      refine ⟨_, (pss_cons (ps_set (i := 1) sc_p_all_names.nd rfl (Or.inl rfl) (pe_lst pa_nil))
        (pss_cons (ps_lock (ps_for PassesOwn.never rfl (pi_keys (pv 0)) (pg_name (i := 2) sc_p_all_names.nd rfl (Or.inl rfl))
          (pss_cons (ps_expr (pe_bm PySem.F.plainAttrs_list PySem.F.slot_list_append PySem.F.type_list_append mt_append (pv 1) (pa_cons (pv 2) pa_nil)))
          (pss_one (ps_expr (pe_bm PySem.F.plainAttrs_list PySem.F.slot_list_extend PySem.F.type_list_extend mt_extend (pv 1) (pa_cons (pe_call G_p_all_names (hr.mono (by omega)) rfl T.g_p_all_names T.F_p_all_names.kp T.b_p_all_names .nil pass0 (pa_cons (pe_dget (hu_of hr) (pe_dget (hu_of hr) (pv 0) (pv 2) (fun _ _ => rfl)) pe_str (fun _ _ => rfl)) pa_nil)) pa_nil)))))))
        (pss_one (ps_ret (pv 1))))), ?_⟩
      refine ⟨Nat.zero_le _, fun p hp => ?_⟩
      have h0 := hv
      cases hv with
      | @dic e _ ws _ g pg nd lk r =>
        have npe : e ≠ p := ne_of_none g hp
        have gp : (upd H p (.lst [])) e = some (.dK (dkv ks ws)) := by rw [upd_ne npe]; exact g
        refine ⟨e, _, gp, True.intro, fun od => ?_⟩
        refine ⟨_, rfl, e, od, rfl, .inl ⟨_, upd_same, for_it walk_keys (fun i σ H2 => ∃ (c2 : Option V), σ = [some (.ref e), some (.ref p), c2] ∧ Same (upd H e (.frz od (.dK (dkv ks ws)))) H2 ∧ H2 p = some (.lst ((namesZ ff (ks.take i) (xs.take i)).map V.str)))
          ⟨_, rfl, ?_, ?_⟩ (fun _ _ _ _ ⟨_, _, q, _⟩ => q _ _ upd_same) ?_ ?_⟩⟩
        · intro b o hb
          by_cases z : b = e
          · subst z; rw [upd_same] at hb ⊢; exact hb
          · rw [upd_ne z] at hb ⊢
            rw [upd_ne (ne_of_none hb hp)]
            exact hb
        · rw [upd_ne (Ne.symm npe), upd_same]; simp [namesZ]
        · rintro i x σ H3 H2 hi ⟨c2, rfl, e2, hl⟩ ⟨rfl, kq, kv, hg, rfl⟩
          obtain ⟨kk, rfl, g1, g2⟩ := dkv_get hg
          obtain ⟨y, hy, my, ay⟩ := kid h0 g lk e2 g2
          have rd : Rd H2 e (.dK (dkv ks ws)) := .inr ⟨od, e2 _ _ upd_same⟩
          obtain ⟨js, ys, im, n', rfl, li, rfl, hi2, rfl⟩ := wx y my
          obtain ⟨m', e1, rfl⟩ := hn.resolve_left (Nat.succ_ne_zero _)
          obtain rfl : n' = m' := by omega
          have hp0 : (upd H e (.frz od (.dK (dkv ks ws)))) p = none := by rw [upd_ne (Ne.symm npe)]; exact hp
          have tke := namesZ_take (f := namesD n') g1 hy
          have ie : innerD (.dic js ys) = im := by rw [innerD, li]; rfl
          rw [ie] at tke
          have ll := namesZ_len (f := namesD n') (i := i + 1) ks xs
          rw [tke, List.length_append, List.length_cons] at ll
          have big : 1000 < sizeLine := by decide +kernel
          refine ⟨_, rfl, .inl ⟨rfl, _, SqL.of hl⟩, _, rfl, p, _, _, rfl, rfl, hl, by rw [List.length_map]; omega, ?_⟩
          have e3 : Same (upd H e (.frz od (.dK (dkv ks ws)))) (upd H2 p (.lst ((namesZ (namesD n') (ks.take i) (xs.take i)).map V.str ++ [V.str kk]))) := same_new e2 hp0
          obtain ⟨y2, hy2, my2, ay2⟩ := kid h0 g lk e3 g2
          rw [hy] at hy2
          cases hy2
          have ge3 : DGet (upd H2 p (.lst ((namesZ (namesD n') (ks.take i) (xs.take i)).map V.str ++ [V.str kk]))) e (.str kk) (some kv) := .inl ⟨_, .inr kk, .inr ⟨od, e3 _ _ upd_same⟩, rfl, by rw [valV_dkv, lookD_at nd g1 g2]⟩
          refine ⟨_, rfl, .inl ⟨rfl, _, SqL.of upd_same⟩, ?_⟩
          obtain ⟨b, u, rfl, gu, au⟩ := at_look ay2 li
          refine ⟨_, rfl, _, rfl, e, _, rfl, ge3, b, u, rfl, gu, ?_⟩
          refine ⟨u, 1, _, im, rfl, au, hi2, by omega, fun H4 l s4 hl0 hl4 => ?_⟩
          refine ⟨p, l, _, _, rfl, rfl, s4 _ _ upd_same, hl4, ?_, ?_⟩
          · simp only [List.length_append, List.length_map, List.length_singleton]; omega
          · refine ⟨_, rfl, same_new (e3.trans s4) hp0, ?_⟩
            rw [upd_same, tke]
            simp only [List.map_append, List.map_cons, List.append_assoc, List.cons_append, List.nil_append]
            rfl
        · rintro σ H2 ⟨c2, rfl, e2, hl⟩
          obtain ⟨z1, z2⟩ := same_unlock g e2
          refine ⟨z1, _, rfl, q _ p z2 hp ?_⟩
          rw [upd_ne (Ne.symm npe), hl, dkv_len lk, List.take_length, lk, r.len, List.take_length]
  intro n
  induction n with
  | zero => exact step 0 (fun _ _ _ _ => False) (.inl rfl) (fn_false fun vs H Q E h => h)
  | succ n ih => exact step (n + 1) (spAllNames n) (.inr ⟨n, rfl, rfl⟩) ih

end
end G
set_option Elab.async false
set_option linter.all false
set_option maxRecDepth 100000
set_option maxHeartbeats 1200000
namespace G
open PySem L2 Nd
section
variable {P : Program} {w : World} {K : PySem.W.Frag} {mg : Str → Option Value} {base : Heap}
theorem ok_m_Shape_note (T : Txt K mg) : ∀ n : Nat, FnOk P w K mg base CX0 (n + 1) T.f_m_Shape_note T.d_m_Shape_note ["self", "lists", "parent"] (spNote T.C_Shape n) := by
  have step : ∀ (n : Nat) (SP : Sp), (n = 0 ∨ ∃ m, n = m + 1 ∧ SP = spNote T.C_Shape m) → FnOk P w K mg base CX0 n T.f_m_Shape_note T.d_m_Shape_note ["self", "lists", "parent"] SP →
      FnOk P w K mg base CX0 (n + 1) T.f_m_Shape_note T.d_m_Shape_note ["self", "lists", "parent"] (spNote T.C_Shape n) := by
    intro n SP hn G_m_Shape_note
    refine T.F_m_Shape_note.ok sc_m_Shape_note (fun vs H Q E h => ?_) (fun cdv A outer s H vs Q E hr h => ?_)
    · obtain ⟨_, _, _, _, _, _, _, _, _, _, rfl, _⟩ := h
      rfl
    · obtain ⟨p, dx, kd, F, kvs, v, par, Pp, d, m, rfl, hp, lkn, lno, hkd, hv, npk, hL, nd0, nl, q⟩ := h
      obtain ⟨ks, xs, rfl⟩ : ∃ ks xs, d = .dic ks xs := by
        cases n with
        | zero => exact ⟨[], [], hL⟩
        | succ n => obtain ⟨ks, xs, rfl, _⟩ := hL; exact ⟨ks, xs, rfl⟩
      refine ⟨_, (pss_one (ps_for PassesOwn.never rfl (pi_list (pe_callB (call_sortedD rfl) (by rfl) T.z_sorted (by decide +kernel) (pa_cons (pv 1) pa_nil))) (pg_name (i := 3) sc_m_Shape_note.nd rfl (Or.inl rfl))
          (pss_cons (ps_set (i := 4) sc_m_Shape_note.nd rfl (Or.inl rfl) (pe_dget (hu_of hr) (pv 1) (pv 3) (fun _ _ => rfl)))
          (pss_cons (ps_set (i := 5) sc_m_Shape_note.nd rfl (Or.inl rfl) (pe_callTy (Td.call_tupleD rfl) (by rfl) T.z_tuple (by decide +kernel) (pa_cons (pe_dget (hu_of hr) (pv 4) pe_str (fun _ _ => rfl)) pa_nil)))
          (pss_cons (ps_dput (hu_of hr) (pe_fld (pv 0) rfl) (pv 3) (pe_tup (pa_cons (pv 2) (pa_cons (pe_callTy call_dictD (by rfl) T.z_dict (by decide +kernel) (pa_cons (pe_dget (hu_of hr) (pv 4) pe_str (fun _ _ => rfl)) pa_nil)) (pa_cons (pv 5) pa_nil)))) rfl)
          (pss_one (ps_expr (pe_meth (pv 0) T.cl_Shape T.me_m_Shape_note G_m_Shape_note (hr.mono (by omega)) T.b_m_Shape_note .nil pass0 (pa_cons (pe_dget (hu_of hr) (pv 4) pe_str (fun _ _ => rfl)) (pa_cons (pv 3) pa_nil)))))))))), ?_⟩
      have h0 := hv
      cases hv with
      | @dic e _ ws _ g pg nd lk r =>
        obtain ⟨blk, eb, wx⟩ : ∃ blk : Str → List Ent, entsD n par (.dic ks xs) = ks.flatMap blk ∧ ∀ k ∈ ks, ∃ (js : List Str) (ys : List Dat) (f i : Dat) (n' : Nat), lookD ks xs k = some (.dic js ys) ∧ lookD js ys "fields" = some f ∧ lookD js ys "inner" = some i ∧ FldD f ∧ n = n' + 1 ∧ LsD n' 1 i ∧ blk k = ⟨k, par, f, keysD i⟩ :: entsD n' (some k) i := by
          cases n with
          | zero =>
            have z : Dat.dic ks xs = .dic [] [] := hL
            injection z with z1 z2
            subst z1
            exact ⟨fun _ => [], rfl, fun k hk => by cases hk⟩
          | succ n =>
            obtain ⟨ks', xs', z0, _, _, wx⟩ := hL
            injection z0 with z1 z2
            subst z1 z2
            refine ⟨_, rfl, fun k hk => ?_⟩
            have hs := look_some (j := k) (ks := ks) (vs := xs) (by rw [lk, r.len])
            rw [decide_eq_true hk] at hs
            obtain ⟨x, hx⟩ := Option.isSome_iff_exists.mp hs
            obtain ⟨j, _, hj⟩ := lookD_some hx
            obtain ⟨js, ys, f, i, z1, _, z3, z4, z5, z6⟩ := wx x (List.mem_of_getElem? hj)
            subst z1
            refine ⟨js, ys, f, i, n, hx, z3, z4, z5, rfl, z6, ?_⟩
            simp only [hx]
            have e1 : fieldsD (.dic js ys) = f := by rw [fieldsD, z3]; rfl
            have e2 : innerD (.dic js ys) = i := by rw [innerD, z4]; rfl
            rw [e1, e2]
        rw [eb] at nd0 nl q
        have lks : ks.length ≤ (ks.flatMap blk).length := flat_len fun k hk => by
          obtain ⟨_, _, _, _, _, _, _, _, _, _, _, z⟩ := wx k hk
          rw [z]; simp
        refine ⟨_, rfl, e, _, ks, rfl, .inl g, dkv_fst lk, by omega, fun ys sl py sy hsl => ?_⟩
        have npkd : p ≠ kd := fun z => by rw [z, hkd] at hp; cases hp
        have nsl : kd ≠ sl := ne_of_none hkd hsl
        refine ⟨sl, rfl, ⟨_, SqL.of upd_same⟩, for_it (walk_list (xs := ys.map V.str)) (fun i σ H2 => ∃ (c3 c4 c5 : Option V) (kvs2 : List (Key × V)) (es : List Ent), σ = [some (.ref p), some (.ref e), some (parV par), c3, c4, c5] ∧ H2 kd = some (.dK (kvs ++ kvs2)) ∧ Paired (EntP H H2) kvs2 es ∧ es.Perm ((ys.take i).flatMap blk) ∧ Sm [kd] H H2 ∧ H2 sl = some (.lst (ys.map V.str)))
          ⟨_, _, _, [], [], rfl, by rw [upd_ne nsl, List.append_nil]; exact hkd, .nil, by simp, (Sm.refl _ _).new hsl, upd_same⟩ (fun i σ H2 _ ⟨_, _, _, _, _, _, _, _, _, _, z⟩ => SqL.of z) ?_ ?_⟩
        · rintro i x σ H3 H2 hi ⟨c3, c4, c5, kvs2, es, rfl, k2, pr2, pe2, s2, l2⟩ ⟨rfl, hx⟩
          rw [List.getElem?_map] at hx
          obtain ⟨k, hk, rfl⟩ := Option.map_eq_some_iff.mp hx
          have mk : k ∈ ks := py.mem_iff.mp (List.mem_of_getElem? hk)
          obtain ⟨js, yz, f, im, n', lx, lf, li, hf, rfl, hi2, hb⟩ := wx k mk
          obtain ⟨m', e1, rfl⟩ := hn.resolve_left (Nat.succ_ne_zero _)
          obtain rfl : n' = m' := by omega
          have ae2 := At.keep (Kd.sm1 hkd s2 npk) _ _ h0
          obtain ⟨e', xv, z, gx, ax⟩ := at_look ae2 lx
          cases z
          refine ⟨_, rfl, _, rfl, e, xv, rfl, gx, ?_⟩
          obtain ⟨b, u, rfl, gu, au⟩ := at_look ax li
          obtain ⟨iks, ixs, rfl⟩ : ∃ iks ixs, im = .dic iks ixs := by
            cases n' with
            | zero => exact ⟨[], [], hi2⟩
            | succ n => obtain ⟨a, b, c, _⟩ := hi2; exact ⟨a, b, c⟩
          have au0 := au
          cases au with
          | @dic c _ us _ gc pc nc lc rc =>
            refine ⟨_, rfl, b, _, rfl, gu, c, _, rfl, .inl gc, fun it hit => ?_⟩
            rw [dkv_keys lc]
            have s3 : Same H2 (upd H2 it (.tup (iks.map V.str))) := same_add hit
            obtain ⟨b', fu, z, gf, af⟩ := at_look (ax.same s3) lf
            cases z
            have hf0 := hf
            obtain ⟨fks, fxs, rfl, _⟩ := hf
            obtain ⟨c2, rfl⟩ : ∃ c2, fu = .ref c2 := by cases af; exact ⟨_, rfl⟩
            obtain ⟨kvsF, gF, cpF⟩ := at_copy af hf0
            refine ⟨_, rfl, _, rfl, b, _, rfl, gf, c2, kvsF, rfl, .inl gF, fun fd hfd => ?_⟩
            have s4 := s3.trans (same_add (o := HO.dK kvsF) hfd)
            refine ⟨_, rfl, by show 3 ≤ sizeLine; decide, fun t ht => ?_⟩
            have s45 := same_add (o := HO.tup [parV par, .ref fd, .ref it]) ht
            have s5 := s4.trans s45
            have hp2 := s2 _ _ hp (by simpa using npkd)
            obtain ⟨nn, n3⟩ := nodup_step py hk hb pe2 nd0
            have ll := len_step py hk hb pe2
            have kk2 := EntP.keys pr2
            have kl2 := EntP.len pr2
            have fresh : (.inr k : Key) ∉ (kvs ++ kvs2).map Prod.fst := by
              rw [List.map_append, kk2]; exact nn
            refine ⟨_, rfl, p, T.C_Shape, dx, F, _, rfl, s5 _ _ hp2, T.cl_Shape, T.n_Shape_known, lkn, _, rfl, kd, _, rfl, .inl ⟨kvs ++ kvs2, .inr k, s5 _ _ k2, rfl, ?_, rfl⟩, ?_⟩
            · rw [List.length_append]
              have : 60 < sizeLine := by decide +kernel
              omega
            rw [putK_fresh fresh]
            have s26 : Sm [kd] H2 (upd (upd (upd (upd H2 it (.tup (iks.map V.str))) fd (.dK kvsF)) t (.tup [parV par, .ref fd, .ref it])) kd (.dK (kvs ++ kvs2 ++ [(.inr k, .ref t)]))) := (Sm.same s5).upd (by simp)
            have s06 := s2.trans s26
            obtain ⟨b2, u2, z, gu6, au6⟩ := at_look (At.keep (Kd.sm1 k2 s26 npk) _ _ ax) li
            cases z
            have ntk : kd ≠ t := ne_of_none (s4 _ _ k2) ht
            have nfk : kd ≠ fd := ne_of_none (s3 _ _ k2) hfd
            have nik : kd ≠ it := ne_of_none k2 hit
            have hf2 : H2 fd = none := same_none s3 hfd
            have hf00 : H fd = none := s2.free hf2 (by simpa using Ne.symm nfk)
            refine ⟨_, rfl, p, dx, F, rfl, s26 _ _ hp2 (by simpa using npkd), lno, _, rfl, b, _, rfl, gu6, _, rfl, ?_⟩
            refine ⟨p, dx, kd, F, _, u2, some k, Pp, .dic iks ixs, 1, rfl, s26 _ _ hp2 (by simpa using npkd), lkn, lno, upd_same, au6, npk, hi2, ?_, ?_, fun H7 kvs3 es3 s7 k7 pr7 pe7 => ?_⟩
            · rw [List.map_append, List.map_append, kk2]; exact n3
            · rw [List.length_append, List.length_append, List.length_singleton]; omega
            have hne : H kd ≠ none := by rw [hkd]; exact fun z => nomatch z
            have et : EntV H (upd (upd (upd (upd H2 it (.tup (iks.map V.str))) fd (.dK kvsF)) t (.tup [parV par, .ref fd, .ref it])) kd (.dK (kvs ++ kvs2 ++ [(.inr k, .ref t)]))) (.ref t) ⟨k, par, .dic fks fxs, iks⟩ := by
              refine ⟨t, fd, it, rfl, by rw [upd_ne (Ne.symm ntk), upd_same], ?_, ?_, hf00⟩
              · exact At.keep (Kd.put (s5 _ _ k2) (fun _ z => nomatch z) nfk) _ _ ((cpF fd hfd).same s45)
              · rw [upd_ne (Ne.symm nik)]
                exact s45 _ _ (same_add hfd _ _ upd_same)
            refine ⟨_, _, _, kvs2 ++ [(.inr k, .ref t)] ++ kvs3, es ++ [⟨k, par, .dic fks fxs, iks⟩] ++ es3, rfl, ?_, ?_, ?_, s06.trans s7, (s26.trans s7) _ _ l2 (by simpa using Ne.symm nsl)⟩
            · rw [k7]; simp
            · refine Paired.app (Paired.app ?_ (.cons ⟨rfl, ?_⟩ .nil)) ?_
              · exact Paired.imp (fun a b z => ⟨z.1, z.2.sm hne k2 (s26.trans s7)⟩) pr2
              · exact et.sm hne upd_same s7
              · refine Paired.imp (fun a b z => ⟨z.1, z.2.old fun c hc => ?_⟩) pr7
                exact s06.free hc fun z => by
                  rw [List.mem_singleton] at z
                  subst z
                  rw [upd_same] at hc
                  cases hc
            · rw [flat_take hk, hb, List.append_assoc]
              exact pe2.append (.cons _ pe7)
        · rintro σ H2 ⟨c3, c4, c5, kvs2, es, rfl, k2, pr2, pe2, s2, l2⟩
          rw [List.length_map, List.take_length] at pe2
          exact q _ kvs2 es s2 k2 pr2 (pe2.trans (py.flatMap_right blk))
  intro n
  induction n with
  | zero => exact step 0 (fun _ _ _ _ => False) (.inl rfl) (fn_false fun vs H Q E h => h)
  | succ n ih => exact step (n + 1) (spNote T.C_Shape n) (.inr ⟨n, rfl, rfl⟩) ih

end
end G
set_option Elab.async false
set_option linter.all false
set_option maxRecDepth 100000
set_option maxHeartbeats 1200000
namespace G
open PySem L2 Nd
section
variable {P : Program} {w : World} {K : PySem.W.Frag} {mg : Str → Option Value} {base : Heap}
theorem ok_m_Shape_init (T : Txt K mg) : FnOk P w K mg base CX0 8 T.f_m_Shape_init T.d_m_Shape_init ["self", "flags", "lists"] (spShape T.C_Shape) := by
  have G_p_are_words := ok_p_are_words (P := P) (w := w) (base := base) T
  have G_p_lists_have_form := ok_p_lists_have_form (P := P) (w := w) (base := base) T 1
  have G_p_all_fields_have_form := ok_p_all_fields_have_form (P := P) (w := w) (base := base) T 2
  have G_p_all_names := ok_p_all_names (P := P) (w := w) (base := base) T 2
  have G_m_Shape_note := ok_m_Shape_note (P := P) (w := w) (base := base) T 2
  refine T.F_m_Shape_init.ok sc_m_Shape_init (fun vs H Q E h => ?_) (fun cdv A outer s H vs Q E hr h => ?_)
  · obtain ⟨_, _, _, _, _, _, _, _, _, rfl, _⟩ := h
    rfl
  · obtain ⟨p, dx, fv, lv, H0, P1, P2, fl, d, rfl, hp, hp0, fr, af, wf, al, hL, nn, nl, en, el, q⟩ := h
    refine ⟨_, (pss_cons (ps_if (pt_not (pt_val (pe_call G_p_are_words (hr.mono (by omega)) rfl T.g_p_are_words T.F_p_are_words.kp T.b_p_are_words .nil pass0 (pa_cons (pv 1) (pa_cons pe_int (pa_cons pe_int pa_nil))))))
          (pss_one ps_never)
          pss_nil)
        (pss_cons (ps_if (pt_not (pt_val (pe_call G_p_lists_have_form (hr.mono (by omega)) rfl T.g_p_lists_have_form T.F_p_lists_have_form.kp T.b_p_lists_have_form .nil pass0 (pa_cons (pv 2) (pa_cons pe_int (pa_cons pe_int pa_nil))))))
          (pss_one ps_never)
          pss_nil)
        (pss_cons (ps_if (pt_not (pt_val (pe_call G_p_all_fields_have_form (hr.mono (by omega)) rfl T.g_p_all_fields_have_form T.F_p_all_fields_have_form.kp T.b_p_all_fields_have_form .nil pass0 (pa_cons (pv 2) pa_nil))))
          (pss_one ps_never)
          pss_nil)
        (pss_cons (ps_set (i := 3) sc_m_Shape_init.nd rfl (Or.inl rfl) (pe_call G_p_all_names (hr.mono (by omega)) rfl T.g_p_all_names T.F_p_all_names.kp T.b_p_all_names .nil pass0 (pa_cons (pv 2) pa_nil)))
        (pss_cons (ps_if (pt_cmpR op_ne (Sx.pe_lenS rfl T.z_len rfl T.z_set (pv 3)) (pe_callB call_len_seq (by rfl) T.z_len (by decide +kernel) (pa_cons (pv 3) pa_nil)) (nomark _))
          (pss_one ps_never)
          pss_nil)
        (pss_cons (ps_fld (pv 0) (pe_callTy call_tuple_of (by rfl) T.z_tuple (by decide +kernel) (pa_cons (pe_callB cr_sortedS (by rfl) T.z_sorted (by decide +kernel) (pa_cons (pv 1) pa_nil)) pa_nil)) rfl)
        (pss_cons (ps_fld (pv 0) pe_dnewK rfl)
        (pss_one (ps_expr (pe_meth (pv 0) T.cl_Shape T.me_m_Shape_note G_m_Shape_note (hr.mono (by omega)) T.b_m_Shape_note .nil pass0 (pa_cons (pv 2) (pa_cons pe_non pa_nil)))))))))))), ?_⟩
    have smf : smD (.lst (fl.map Dat.str)) = true := words_sm wf (by decide)
    refine ⟨_, rfl, _, 0, 2, P1, _, rfl, by decide, af, smf, fun H1 s1 => ?_⟩
    rw [show areWordsD 0 2 (.lst (fl.map Dat.str)) = true from wf]
    refine ⟨true, rfl, ifF ?_⟩
    refine ⟨_, rfl, lv, 2, P2, d, rfl, al.same s1, hL, fun H2 s2 => ⟨true, rfl, ifF ?_⟩⟩
    have s02 := s1.trans s2
    refine ⟨_, rfl, lv, 2, P2, d, rfl, al.same s02, hL, fun H3 s3 => ⟨true, rfl, ifF ?_⟩⟩
    have s03 := s02.trans s3
    refine ⟨_, rfl, lv, 2, P2, d, rfl, al.same s03, hL, by omega, fun H4 nm s4 hn0 hn4 => ?_⟩
    have s04 := s03.trans s4
    refine ⟨_, rfl, nm, namesD 2 d, rfl, .inl (SqL.of hn4), by omega, _, rfl, nm, _, rfl, .inl (SqL.of hn4), rfl, ?_⟩
    rw [(Sx.dis_str _).mpr nn, List.length_map, decide_eq_true rfl]
    refine ⟨false, rfl, ifF ?_⟩
    have af4 := af.same s04
    obtain ⟨fa, gfa, rfl⟩ : ∃ fa, H4 fa = some (.lst (fl.map V.str)) ∧ fv = .ref fa := by
      cases af4 with
      | lst a b c =>
        have w2 := wf
        rw [wordsL, Bool.and_eq_true, Bool.and_eq_true, Bool.and_eq_true] at w2
        obtain ⟨r1, _⟩ := texts_at c w2.1.2
        refine ⟨_, ?_, rfl⟩
        rw [a, r1]
        rw [texts_map]
    have lfl : fl.length ≤ 2 := by
      have w2 := wf
      rw [wordsL, Bool.and_eq_true, Bool.and_eq_true, Bool.and_eq_true] at w2
      have := of_decide_eq_true w2.1.1.2
      rw [List.length_map] at this
      omega
    refine ⟨_, rfl, fa, fl, rfl, SqL.of gfa, by omega, fun fls sl pf sf hsl => ?_⟩
    refine ⟨sl, _, rfl, .inl ⟨SqL.of upd_same, fun ft hft => ?_⟩⟩
    have s5 := s04.trans ((same_add (o := HO.lst (fls.map V.str)) hsl).trans (same_add (o := HO.tup (fls.map V.str)) hft))
    refine ⟨_, rfl, p, T.C_Shape, dx, [], rfl, s5 _ _ hp, T.cl_Shape, T.n_Shape_flags, by decide, ?_⟩
    rw [putF_flags]
    refine fun kd hkd => ?_
    have npk : p ≠ kd := ne_of_none upd_same hkd
    refine ⟨_, rfl, p, T.C_Shape, dx, _, rfl, by rw [upd_ne npk]; exact upd_same, T.cl_Shape, T.n_Shape_known, by show 1 < 1000; decide, ?_⟩
    rw [putF_known]
    have hpk : (upd (upd H4 sl (.lst (fls.map V.str))) ft (.tup (fls.map V.str))) kd = none := by
      rw [upd_ne (Ne.symm npk)] at hkd; exact hkd
    have ak : At (fun b => P2 b ∧ b ≠ kd) (upd (upd H4 sl (.lst (fls.map V.str))) ft (.tup (fls.map V.str))) lv d :=
      (At.dom _ _ (al.same s5)).weak fun b z => ⟨z.1, fun y => z.2 (by rw [y]; exact hpk)⟩
    have k1 := Kd.obj (P := fun b => P2 b ∧ b ≠ kd) (o := .ins T.C_Shape dx [(("flags" : Str), V.ref ft)]) (s5 _ _ hp)
    have ak1 := At.same (At.keep k1 _ _ ak) (same_add (o := HO.dK []) hkd)
    have hp6 : (upd (upd (upd (upd H4 sl (.lst (fls.map V.str))) ft (.tup (fls.map V.str))) p (.ins T.C_Shape dx [(("flags" : Str), V.ref ft)])) kd (.dK [])) p = some (.ins T.C_Shape dx [(("flags" : Str), V.ref ft)]) := by
      rw [upd_ne npk, upd_same]
    have ak2 := At.keep (Kd.obj (P := fun b => P2 b ∧ b ≠ kd) (o := .ins T.C_Shape dx (shF ft kd)) hp6) _ _ ak1
    have nft : ft ≠ p := Ne.symm (ne_of_none (s04.trans (same_add hsl) _ _ hp) hft)
    have nfk : ft ≠ kd := ne_of_none upd_same hpk
    have lno := shF_no ft kd (m := "note") (by decide +kernel) (by decide +kernel)
    refine ⟨_, rfl, p, dx, _, rfl, upd_same, lno, _, rfl, ?_⟩
    refine ⟨p, dx, kd, shF ft kd, [], lv, none, _, d, 2, rfl, upd_same, shF_known ft kd, lno, ?_, ak2, fun z => z.2 rfl, hL, by simpa using en, by simpa using (show (entsD 2 none d).length ≤ 60 by omega), fun H7 kvs2 es s7 k7 pr pe => ?_⟩
    · rw [upd_ne (Ne.symm npk), upd_same]
    have hk0 : H kd = none := same_none s5 hpk
    have s6 : Sm [p] H (upd (upd (upd (upd (upd H4 sl (.lst (fls.map V.str))) ft (.tup (fls.map V.str))) p (.ins T.C_Shape dx [(("flags" : Str), V.ref ft)])) kd (.dK [])) p (.ins T.C_Shape dx (shF ft kd))) :=
      (((Sm.same s5).upd (by simp)).new hk0).upd (by simp)
    refine q H7 fls es ?_ pf sf pe ⟨dx, ft, kd, kvs2, s7 _ _ upd_same (by simpa using npk), s7 _ _ ?_ (by simpa using nfk), by simpa using k7, ?_, hp0, fr _ hk0⟩
    · intro b o hb nb
      exact s7 _ _ (s6 _ _ hb nb) fun z => by
        rw [List.mem_singleton] at z
        rw [z, hk0] at hb
        cases hb
    · rw [upd_ne nft, upd_ne nfk, upd_ne nft, upd_same]
    · refine Paired.imp (fun a b z => ⟨z.1, z.2.old fun c hc => ?_⟩) pr
      refine fr _ (s6.free hc fun z => ?_)
      rw [List.mem_singleton] at z
      rw [z, upd_same] at hc
      cases hc

end
end G
set_option Elab.async false
set_option linter.all false
set_option maxRecDepth 100000
set_option maxHeartbeats 1200000
namespace G
open PySem L2 Nd
section
variable {P : Program} {w : World} {K : PySem.W.Frag} {mg : Str → Option Value} {base : Heap}
theorem ok_m_NoList_init (T : Txt K mg) : FnOk P w K mg base CX0 1 T.f_m_NoList_init T.d_m_NoList_init ["self", "name"] (Xo.spErr T.C_NoList "name") := by
  refine T.F_m_NoList_init.ok sc_m_NoList_init (fun vs H Q E h => ?_) (fun cdv A outer s H vs Q E hr h => ?_)
  · obtain ⟨_, _, rfl, _⟩ := h
    rfl
  · obtain ⟨a, v, rfl, ha, k⟩ := h
    refine ⟨_, pss_cons (ps_expr (Xo.pe_binit rfl T.gC_StayError T.ba_StayError (pa_cons (pv 0) (pa_cons pe_str pa_nil)))) (pss_one (Xo.ps_er (pv 0) (pv 1))), ?_⟩
    refine ⟨_, rfl, a, T.C_NoList, _, rfl, by show 1 ≤ 1000; decide, T.er_NoList, ha, ?_⟩
    exact ⟨_, rfl, _, rfl, a, T.C_NoList, rfl, T.er_NoList, T.no_NoList_name, .inl ⟨ha, fun dx n ne => k dx n ne⟩⟩
theorem ok_m_Shape_entry (T : Txt K mg) : FnOk P w K mg base (L2.CX P w) 3 T.f_m_Shape_entry T.d_m_Shape_entry ["self", "name"] (spEntry T.C_Shape T.C_NoList) := by
  have G_m_NoList_init := ok_m_NoList_init (P := P) (w := w) (base := base) T
  refine T.F_m_Shape_entry.okX sc_m_Shape_entry (fun vs H Q E h => ?_) (fun cdv A outer s H vs Q E hr h => ?_)
  · obtain ⟨_, _, _, _, _, rfl, _⟩ := h
    rfl
  · obtain ⟨p, x, H0, fl, es, rfl, sh, q1, q2⟩ := h
    refine ⟨_, (pss_cons (ps_if (pt_cmp (pc_dnotin (hu_of hr) (pv 1) (pe_fld (pv 0) rfl)))
          (pss_one (ps_raise rfl (takes_of rfl rfl rfl rfl) (Xo.pmk_er T.er_NoList T.in_NoList T.ti_NoList G_m_NoList_init (hr.mono (by omega)) T.b_m_NoList_init .nil pass0 rfl T.gC_NoList (pa_cons (pv 1) pa_nil))))
          pss_nil)
        (pss_one (ps_ret (pe_dget (hu_of hr) (pe_fld (pv 0) rfl) (pv 1) (fun _ _ => rfl))))), ?_⟩
    have sh0 := sh
    obtain ⟨dx, ft, kd, kvs, hp, hf, hk, pr, _, _⟩ := sh
    refine ⟨_, rfl, _, rfl, p, T.C_Shape, dx, _, _, rfl, hp, T.cl_Shape, T.n_Shape_known, shF_known ft kd, kd, _, rfl, DGet.k (k := .inr x) hk, _, rfl, ?_⟩
    rcases ent_at (x := x) pr with ⟨z1, z2⟩ | ⟨e, v, z1, z2, z3⟩
    · rw [z2]
      exact ifT ⟨_, rfl, Xo.mk_err (fun d n => q2 z1 d _ (same_add n) upd_same)⟩
    · rw [z2]
      refine ifF ?_
      exact ⟨_, rfl, p, T.C_Shape, dx, _, _, rfl, hp, T.cl_Shape, T.n_Shape_known, shF_known ft kd, _, rfl, kd, v, rfl, z2 ▸ DGet.k (k := .inr x) hk, q1 e v z1 z3⟩
theorem ok_m_Shape_inner (T : Txt K mg) : FnOk P w K mg base (L2.CX P w) 4 T.f_m_Shape_inner T.d_m_Shape_inner ["self", "name"] (spInner T.C_Shape T.C_NoList) := by
  have G_m_Shape_entry := ok_m_Shape_entry (P := P) (w := w) (base := base) T
  refine T.F_m_Shape_inner.okX sc_m_Shape_inner (fun vs H Q E h => ?_) (fun cdv A outer s H vs Q E hr h => ?_)
  · obtain ⟨_, _, _, _, _, rfl, _⟩ := h
    rfl
  · obtain ⟨p, x, H0, fl, es, rfl, sh, q1, q2⟩ := h
    refine ⟨_, (pss_one (ps_ret (pe_callTy call_list_of (by rfl) T.z_list (by decide +kernel) (pa_cons (pe_ix ix_tup (Xo.pe_methT (pv 0) T.cl_Shape T.me_m_Shape_entry G_m_Shape_entry (hr.mono (by omega)) T.b_m_Shape_entry (fun σ => passAt (W := fun c d _ H => E c d H) (takes_of rfl rfl rfl rfl) σ) (pa_cons (pv 1) pa_nil)) pe_int (fun _ _ => rfl)) pa_nil)))), ?_⟩
    have sh0 := sh
    obtain ⟨dx, ft, kd, kvs, hp, _⟩ := sh
    refine ⟨_, rfl, p, dx, _, rfl, hp, shF_no ft kd (m := "entry") (by decide +kernel) (by decide +kernel), _, rfl, p, x, H0, fl, es, rfl, sh0, fun e v fe ev => ?_, fun fe d H' s1 hd => ?_⟩
    · obtain ⟨t, fd, it, rfl, h1, h2, h3, _⟩ := ev
      refine ⟨t, _, 2, _, rfl, rfl, SqT.of h1, rfl, it, _, rfl, .inr (SqT.of h3), fun l hl => q1 e l fe hl⟩
    · exact q2 fe d H' s1 hd
theorem ok_m_Shape_fields (T : Txt K mg) : FnOk P w K mg base (L2.CX P w) 4 T.f_m_Shape_fields T.d_m_Shape_fields ["self", "name"] (spFields T.C_Shape T.C_NoList) := by
  have G_m_Shape_entry := ok_m_Shape_entry (P := P) (w := w) (base := base) T
  refine T.F_m_Shape_fields.okX sc_m_Shape_fields (fun vs H Q E h => ?_) (fun cdv A outer s H vs Q E hr h => ?_)
  · obtain ⟨_, _, _, _, _, rfl, _⟩ := h
    rfl
  · obtain ⟨p, x, H0, fl, es, rfl, sh, ff, q1, q2⟩ := h
    refine ⟨_, (pss_one (ps_ret (pe_callTy call_dictD (by rfl) T.z_dict (by decide +kernel) (pa_cons (pe_ix ix_tup (Xo.pe_methT (pv 0) T.cl_Shape T.me_m_Shape_entry G_m_Shape_entry (hr.mono (by omega)) T.b_m_Shape_entry (fun σ => passAt (W := fun c d _ H => E c d H) (takes_of rfl rfl rfl rfl) σ) (pa_cons (pv 1) pa_nil)) pe_int (fun _ _ => rfl)) pa_nil)))), ?_⟩
    have sh0 := sh
    obtain ⟨dx, ft, kd, kvs, hp, _⟩ := sh
    refine ⟨_, rfl, p, dx, _, rfl, hp, shF_no ft kd (m := "entry") (by decide +kernel) (by decide +kernel), _, rfl, p, x, H0, fl, es, rfl, sh0, fun e v fe ev => ?_, fun fe d H' s1 hd => ?_⟩
    · obtain ⟨t, fd, it, rfl, h1, h2, h3, _⟩ := ev
      obtain ⟨kvs, gk, cp⟩ := at_copy h2 (ff e (List.mem_of_find?_eq_some fe))
      refine ⟨t, _, 1, _, rfl, rfl, SqT.of h1, rfl, fd, kvs, rfl, .inl gk, fun l hl => q1 e l kvs fe hl (cp l hl)⟩
    · exact q2 fe d H' s1 hd
theorem ok_m_Shape_parent (T : Txt K mg) : FnOk P w K mg base (L2.CX P w) 4 T.f_m_Shape_parent T.d_m_Shape_parent ["self", "name"] (spParent T.C_Shape T.C_NoList) := by
  have G_m_Shape_entry := ok_m_Shape_entry (P := P) (w := w) (base := base) T
  refine T.F_m_Shape_parent.okX sc_m_Shape_parent (fun vs H Q E h => ?_) (fun cdv A outer s H vs Q E hr h => ?_)
  · obtain ⟨_, _, _, _, _, rfl, _⟩ := h
    rfl
  · obtain ⟨p, x, H0, fl, es, rfl, sh, q1, q2⟩ := h
    refine ⟨_, (pss_one (ps_ret (pe_ix ix_tup (Xo.pe_methT (pv 0) T.cl_Shape T.me_m_Shape_entry G_m_Shape_entry (hr.mono (by omega)) T.b_m_Shape_entry (fun σ => passAt (W := fun c d _ H => E c d H) (takes_of rfl rfl rfl rfl) σ) (pa_cons (pv 1) pa_nil)) pe_int (fun _ _ => rfl)))), ?_⟩
    have sh0 := sh
    obtain ⟨dx, ft, kd, kvs, hp, _⟩ := sh
    refine ⟨_, rfl, p, dx, _, rfl, hp, shF_no ft kd (m := "entry") (by decide +kernel) (by decide +kernel), _, rfl, p, x, H0, fl, es, rfl, sh0, fun e v fe ev => ?_, fun fe d H' s1 hd => ?_⟩
    · obtain ⟨t, fd, it, rfl, h1, h2, h3, _⟩ := ev
      refine ⟨t, _, 0, _, rfl, rfl, SqT.of h1, rfl, q1 e fe⟩
    · exact q2 fe d H' s1 hd
end
end G
set_option Elab.async false
set_option linter.all false
set_option maxRecDepth 100000
set_option maxHeartbeats 4000000
namespace G
open PySem L2 Nd
section
variable {P : Program} {w : World} {K : PySem.W.Frag} {mg : Str → Option Value} {base : Heap}
theorem ok_l_sameD (T : Txt K mg) : ∀ n : Nat, FnOk P w K mg base CX0 (n + 1) T.f_l_same T.d_l_same ["_law_actual", "_law_expected"] (spSameD n)
  | 0 => fn_false fun vs H Q E h => by
    obtain ⟨_, _, _, ⟨_, _, _, _, h⟩ | ⟨_, _, _, _, _, h⟩, _⟩ := h
    · exact absurd h (Nat.not_lt_zero _)
    · exact h
  | n + 1 => by
    have G_l_same := ok_l_sameD T n
    refine T.F_l_same.ok sc_l_same (fun vs H Q E h => ?_) (fun cdv A outer s H vs Q E hr h => ?_)
    · obtain ⟨_, _, rfl, _⟩ := h
      rfl
    · obtain ⟨x, y, rfl, h, k⟩ := h
      refine ⟨_, (pss_cons (ps_if (pt_cmpR op_isN (pv 1) pe_non (nomark _))
          (pss_one (ps_ret (pe_cmpR op_isN (pv 0) pe_non (nomark _))))
          pss_nil)
          (pss_cons (ps_if (pt_val (pe_callB call_isi (by rfl) T.z_isinstance (by decide +kernel) (pa_cons (pv 1) (pa_cons (pe_bltn (v := .ty "bool") (u := .type "bool") rfl T.z_bool (by decide +kernel) rfl) pa_nil))))
          (pss_one (ps_ret (pe_and (pe_callB call_isi (by rfl) T.z_isinstance (by decide +kernel) (pa_cons (pv 0) (pa_cons (pe_bltn (v := .ty "bool") (u := .type "bool") rfl T.z_bool (by decide +kernel) rfl) pa_nil))) (pe_one (pe_cmpR op_eq (pv 0) (pv 1) (nomark _))))))
          pss_nil)
          (pss_cons (ps_if (pt_val (pe_callB call_isi (by rfl) T.z_isinstance (by decide +kernel) (pa_cons (pv 1) (pa_cons (pe_bltn (v := .ty "int") (u := .type "int") rfl T.z_int (by decide +kernel) rfl) pa_nil))))
          (pss_one (ps_ret (pe_and (pe_callB call_isi (by rfl) T.z_isinstance (by decide +kernel) (pa_cons (pv 0) (pa_cons (pe_bltn (v := .ty "int") (u := .type "int") rfl T.z_int (by decide +kernel) rfl) pa_nil))) (pe_and (pe_not (pe_callB call_isi (by rfl) T.z_isinstance (by decide +kernel) (pa_cons (pv 0) (pa_cons (pe_bltn (v := .ty "bool") (u := .type "bool") rfl T.z_bool (by decide +kernel) rfl) pa_nil)))) (pe_one (pe_cmpR op_eq (pv 0) (pv 1) (nomark _)))))))
          pss_nil)
          (pss_cons (ps_if (pt_val (pe_callB call_isi (by rfl) T.z_isinstance (by decide +kernel) (pa_cons (pv 1) (pa_cons (pe_bltn (v := .ty "str") (u := .type "str") rfl T.z_str (by decide +kernel) rfl) pa_nil))))
          (pss_one (ps_ret (pe_and (pe_callB call_isi (by rfl) T.z_isinstance (by decide +kernel) (pa_cons (pv 0) (pa_cons (pe_bltn (v := .ty "str") (u := .type "str") rfl T.z_str (by decide +kernel) rfl) pa_nil))) (pe_one (pe_cmpR op_eq (pv 0) (pv 1) (nomark _))))))
          pss_nil)
          (pss_cons (ps_if (pt_val (pe_callB call_isi (by rfl) T.z_isinstance (by decide +kernel) (pa_cons (pv 1) (pa_cons (pe_bltn (v := .ty "dict") (u := .type "dict") rfl T.z_dict (by decide +kernel) rfl) pa_nil))))
          (pss_cons (ps_if (PW.pt (pw_or (pt_not (pt_val (pe_callB call_isi (by rfl) T.z_isinstance (by decide +kernel) (pa_cons (pv 0) (pa_cons (pe_bltn (v := .ty "dict") (u := .type "dict") rfl T.z_dict (by decide +kernel) rfl) pa_nil))))) (pw_or1 (pt_cmpR op_ne (pe_callB call_lenD (by rfl) T.z_len (by decide +kernel) (pa_cons (pv 0) pa_nil)) (pe_callB call_lenD (by rfl) T.z_len (by decide +kernel) (pa_cons (pv 1) pa_nil)) (nomark _)))))
            (pss_one (ps_ret pe_bl))
            pss_nil)
          (pss_cons (ps_lock (ps_for PassesOwn.never rfl (pi_keys (pv 1)) (pg_name (i := 2) sc_l_same.nd rfl (Or.inl rfl))
            (pss_one (ps_if (PW.pt (pw_or (pt_cmp (pc_dnotin (hu_of hr) (pv 2) (pv 0))) (pw_or1 (pt_not (pt_val (pe_call G_l_same (hr.mono (by omega)) rfl T.g_l_same T.F_l_same.kp T.b_l_same .nil pass0 (pa_cons (pe_dget (hu_of hr) (pv 0) (pv 2) (fun _ _ => rfl)) (pa_cons (pe_dget (hu_of hr) (pv 1) (pv 2) (fun _ _ => rfl)) pa_nil))))))))
              (pss_one (ps_ret pe_bl))
              pss_nil))))
          (pss_one (ps_ret pe_bl))))
          pss_nil)
          (pss_cons (ps_if (PW.pt (pw_and (pt_val (pe_callB call_isi (by rfl) T.z_isinstance (by decide +kernel) (pa_cons (pv 1) (pa_cons (pe_bltn (v := .ty "tuple") (u := .type "tuple") rfl T.z_tuple (by decide +kernel) rfl) pa_nil)))) (pw_and1 (pt_not (pt_val (pe_callB call_isi (by rfl) T.z_isinstance (by decide +kernel) (pa_cons (pv 0) (pa_cons (pe_bltn (v := .ty "tuple") (u := .type "tuple") rfl T.z_tuple (by decide +kernel) rfl) pa_nil))))))))
          (pss_one (ps_ret pe_bl))
          pss_nil)
          (pss_cons (ps_if (PW.pt (pw_and (pt_val (pe_callB call_isi (by rfl) T.z_isinstance (by decide +kernel) (pa_cons (pv 1) (pa_cons (pe_bltn (v := .ty "list") (u := .type "list") rfl T.z_list (by decide +kernel) rfl) pa_nil)))) (pw_and1 (pt_not (pt_val (pe_callB call_isi (by rfl) T.z_isinstance (by decide +kernel) (pa_cons (pv 0) (pa_cons (pe_bltn (v := .ty "list") (u := .type "list") rfl T.z_list (by decide +kernel) rfl) pa_nil))))))))
          (pss_one (ps_ret pe_bl))
          pss_nil)
          (pss_cons (ps_if (pt_cmpR op_ne (pe_callB call_len_seq (by rfl) T.z_len (by decide +kernel) (pa_cons (pv 0) pa_nil)) (pe_callB call_len_seq (by rfl) T.z_len (by decide +kernel) (pa_cons (pv 1) pa_nil)) (nomark _))
          (pss_one (ps_ret pe_bl))
          pss_nil)
          (pss_cons (ps_for PassesOwn.never rfl (pi_range1 rfl T.z_range (pa_cons (pe_callB call_lenB (by rfl) T.z_len (by decide +kernel) (pa_cons (pv 1) pa_nil)) pa_nil)) (pg_name (i := 3) sc_l_same.nd rfl (Or.inl rfl))
          (pss_one (ps_if (pt_not (pt_val (pe_call G_l_same (hr.mono (by omega)) rfl T.g_l_same T.F_l_same.kp T.b_l_same .nil pass0 (pa_cons (pe_ix ix_any (pv 0) (pv 3) (fun _ _ => rfl)) (pa_cons (pe_ix ix_any (pv 1) (pv 3) (fun _ _ => rfl)) pa_nil)))))
            (pss_one (ps_ret pe_bl))
            pss_nil)))
          (pss_one (ps_ret pe_bl))))))))))), ?_⟩
      cases h.cases with
      | non =>
        refine ⟨_, rfl, rfl, _, rfl, ?_⟩
        refine ite2d (fun _ => ?_) (fun h => absurd rfl h)
        exact ⟨_, rfl, rfl, k _ (Same.refl _)⟩
      | bl b =>
        refine ⟨_, rfl, rfl, _, rfl, ?_⟩
        refine ite2d (fun h => nomatch h) (fun _ => ?_)
        refine ⟨_, rfl, _, _, _, _, _, rfl, .ty "bool", .base (.bl b), kit_ty (r := true) (by decide +kernel), _, rfl, ?_⟩
        refine ⟨_, rfl, _, _, _, _, _, rfl, .ty "bool", .base (.bl b), kit_ty (r := true) (by decide +kernel), _, rfl, ?_⟩
        refine ⟨_, rfl, _, rfl, rfl, ?_⟩
        rw [show decide (V.bl b = V.bl b) = true from decide_eq_true rfl]
        exact k _ (Same.refl _)
      | int i =>
        refine ⟨_, rfl, rfl, _, rfl, ?_⟩
        refine ite2d (fun h => nomatch h) (fun _ => ?_)
        refine ⟨_, rfl, _, _, _, _, _, rfl, .ty "bool", .base (.int i), kit_ty (r := false) (by decide +kernel), _, rfl, ?_⟩
        refine ⟨_, rfl, _, _, _, _, _, rfl, .ty "int", .base (.int i), kit_ty (r := true) (by decide +kernel), _, rfl, ?_⟩
        refine ⟨_, rfl, _, _, _, _, _, rfl, .ty "int", .base (.int i), kit_ty (r := true) (by decide +kernel), _, rfl, ?_⟩
        refine ⟨_, rfl, _, _, _, _, _, rfl, .ty "bool", .base (.int i), kit_ty (r := false) (by decide +kernel), _, rfl, _, rfl, ?_⟩
        refine ⟨_, rfl, _, rfl, rfl, ?_⟩
        rw [show decide (V.int i = V.int i) = true from decide_eq_true rfl]
        exact k _ (Same.refl _)
      | str z =>
        refine ⟨_, rfl, rfl, _, rfl, ?_⟩
        refine ite2d (fun h => nomatch h) (fun _ => ?_)
        refine ⟨_, rfl, _, _, _, _, _, rfl, .ty "bool", .base (.str z), kit_ty (r := false) (by decide +kernel), _, rfl, ?_⟩
        refine ⟨_, rfl, _, _, _, _, _, rfl, .ty "int", .base (.str z), kit_ty (r := false) (by decide +kernel), _, rfl, ?_⟩
        refine ⟨_, rfl, _, _, _, _, _, rfl, .ty "str", .base (.str z), kit_ty (r := true) (by decide +kernel), _, rfl, ?_⟩
        refine ⟨_, rfl, _, _, _, _, _, rfl, .ty "str", .base (.str z), kit_ty (r := true) (by decide +kernel), _, rfl, ?_⟩
        refine ⟨_, rfl, _, rfl, rfl, ?_⟩
        rw [show decide (V.str z = V.str z) = true from decide_eq_true rfl]
        exact k _ (Same.refl _)
      | @tup a b xs ys q1 q2 h4 h6 =>
        refine ⟨_, rfl, rfl, _, rfl, ?_⟩
        refine ite2d (fun h => nomatch h) (fun _ => ?_)
        refine ⟨_, rfl, _, _, _, _, _, rfl, .ty "bool", .base (.tup q2), kit_ty (r := false) (by decide +kernel), _, rfl, ?_⟩
        refine ⟨_, rfl, _, _, _, _, _, rfl, .ty "int", .base (.tup q2), kit_ty (r := false) (by decide +kernel), _, rfl, ?_⟩
        refine ⟨_, rfl, _, _, _, _, _, rfl, .ty "str", .base (.tup q2), kit_ty (r := false) (by decide +kernel), _, rfl, ?_⟩
        refine ⟨_, rfl, _, _, _, _, _, rfl, .ty "dict", .base (.tup q2), kit_ty (r := false) (by decide +kernel), _, rfl, ?_⟩
        refine ⟨_, rfl, _, _, _, _, _, rfl, .ty "tuple", .base (.tup q2), kit_ty (r := true) (by decide +kernel), _, rfl, ?_⟩
        refine ⟨_, rfl, _, _, _, _, _, rfl, .ty "tuple", .base (.tup q1), kit_ty (r := true) (by decide +kernel), _, rfl, ?_⟩
        refine ⟨_, rfl, _, _, _, _, _, rfl, .ty "list", .base (.tup q2), kit_ty (r := false) (by decide +kernel), _, rfl, ?_⟩
        refine ⟨_, rfl, a, xs, rfl, .inr (SqT.of q1), _, rfl, b, ys, rfl, .inr (SqT.of q2), rfl, _, rfl, ?_⟩
        refine ite2n (fun h => absurd (by rw [h4]) h) (fun _ => ?_)
        refine ⟨_, rfl, b, ys, rfl, .inr (SqT.of q2), fun hb => ⟨_, rfl, by omega, line24 hb, ?_⟩⟩
        refine for_it walk_range0 (fun i σ H2 => ∃ (c2 c3 : Option V), σ = [some (.ref a), some (.ref b), c2, c3] ∧ Same H H2) ⟨none, none, rfl, Same.refl _⟩ (fun _ _ _ _ _ => True.intro) ?_ ?_
        · rintro i x σ H2 H3 hi ⟨c2, c3, rfl, e2⟩ ⟨rfl, rfl⟩
          have hi : i < ys.length := hi
          obtain ⟨u, hu⟩ : ∃ u, xs[i]? = some u := ⟨_, List.getElem?_eq_getElem (by omega)⟩
          obtain ⟨v, hv⟩ : ∃ v, ys[i]? = some v := ⟨_, List.getElem?_eq_getElem hi⟩
          refine ⟨_, rfl, _, rfl, .inr ⟨a, xs, (i : Int), u, rfl, rfl, SqT.of (e2 _ _ q1), atI_nat hu, ?_⟩⟩
          refine ⟨_, rfl, _, rfl, .inr ⟨b, ys, (i : Int), v, rfl, rfl, SqT.of (e2 _ _ q2), atI_nat hv, ?_⟩⟩
          refine ⟨u, v, rfl, (h6 i u v hu hv).same e2, fun H4 e4 => ⟨_, rfl, ?_⟩⟩
          exact ⟨_, _, rfl, e2.trans e4⟩
        · rintro σ H2 ⟨c2, c3, rfl, e2⟩
          exact k _ e2
      | @lst a b xs ys q1 q2 h4 h6 =>
        refine ⟨_, rfl, rfl, _, rfl, ?_⟩
        refine ite2d (fun h => nomatch h) (fun _ => ?_)
        refine ⟨_, rfl, _, _, _, _, _, rfl, .ty "bool", .base (.lst q2), kit_ty (r := false) (by decide +kernel), _, rfl, ?_⟩
        refine ⟨_, rfl, _, _, _, _, _, rfl, .ty "int", .base (.lst q2), kit_ty (r := false) (by decide +kernel), _, rfl, ?_⟩
        refine ⟨_, rfl, _, _, _, _, _, rfl, .ty "str", .base (.lst q2), kit_ty (r := false) (by decide +kernel), _, rfl, ?_⟩
        refine ⟨_, rfl, _, _, _, _, _, rfl, .ty "dict", .base (.lst q2), kit_ty (r := false) (by decide +kernel), _, rfl, ?_⟩
        refine ⟨_, rfl, _, _, _, _, _, rfl, .ty "tuple", .base (.lst q2), kit_ty (r := false) (by decide +kernel), _, rfl, ?_⟩
        refine ⟨_, rfl, _, _, _, _, _, rfl, .ty "list", .base (.lst q2), kit_ty (r := true) (by decide +kernel), _, rfl, ?_⟩
        refine ⟨_, rfl, _, _, _, _, _, rfl, .ty "list", .base (.lst q1), kit_ty (r := true) (by decide +kernel), _, rfl, ?_⟩
        refine ⟨_, rfl, a, xs, rfl, .inl (SqL.of q1), _, rfl, b, ys, rfl, .inl (SqL.of q2), rfl, _, rfl, ?_⟩
        refine ite2n (fun h => absurd (by rw [h4]) h) (fun _ => ?_)
        refine ⟨_, rfl, b, ys, rfl, .inl (SqL.of q2), fun hb => ⟨_, rfl, by omega, line24 hb, ?_⟩⟩
        refine for_it walk_range0 (fun i σ H2 => ∃ (c2 c3 : Option V), σ = [some (.ref a), some (.ref b), c2, c3] ∧ Same H H2) ⟨none, none, rfl, Same.refl _⟩ (fun _ _ _ _ _ => True.intro) ?_ ?_
        · rintro i x σ H2 H3 hi ⟨c2, c3, rfl, e2⟩ ⟨rfl, rfl⟩
          have hi : i < ys.length := hi
          obtain ⟨u, hu⟩ : ∃ u, xs[i]? = some u := ⟨_, List.getElem?_eq_getElem (by omega)⟩
          obtain ⟨v, hv⟩ : ∃ v, ys[i]? = some v := ⟨_, List.getElem?_eq_getElem hi⟩
          refine ⟨_, rfl, _, rfl, .inl ⟨a, xs, (i : Int), u, rfl, rfl, SqL.of (e2 _ _ q1), atI_nat hu, ?_⟩⟩
          refine ⟨_, rfl, _, rfl, .inl ⟨b, ys, (i : Int), v, rfl, rfl, SqL.of (e2 _ _ q2), atI_nat hv, ?_⟩⟩
          refine ⟨u, v, rfl, (h6 i u v hu hv).same e2, fun H4 e4 => ⟨_, rfl, ?_⟩⟩
          exact ⟨_, _, rfl, e2.trans e4⟩
        · rintro σ H2 ⟨c2, c3, rfl, e2⟩
          exact k _ e2
      | @dic d e ks js us vs q1 q2 l1 l2 l3 nd h6 =>
        refine ⟨_, rfl, rfl, _, rfl, ?_⟩
        refine ite2d (fun h => nomatch h) (fun _ => ?_)
        refine ⟨_, rfl, _, _, _, _, _, rfl, .ty "bool", .base (.dK q2), kit_ty (r := false) (by decide +kernel), _, rfl, ?_⟩
        refine ⟨_, rfl, _, _, _, _, _, rfl, .ty "int", .base (.dK q2), kit_ty (r := false) (by decide +kernel), _, rfl, ?_⟩
        refine ⟨_, rfl, _, _, _, _, _, rfl, .ty "str", .base (.dK q2), kit_ty (r := false) (by decide +kernel), _, rfl, ?_⟩
        refine ⟨_, rfl, _, _, _, _, _, rfl, .ty "dict", .base (.dK q2), kit_ty (r := true) (by decide +kernel), _, rfl, ?_⟩
        refine ⟨_, rfl, _, _, _, _, _, rfl, .ty "dict", .base (.dK q1), kit_ty (r := true) (by decide +kernel), _, rfl, ?_⟩
        refine ⟨_, rfl, d, _, rfl, q1, _, rfl, e, _, rfl, q2, rfl, _, rfl, ?_⟩
        refine ite2n (fun h => absurd (by rw [dkv_len l1, dkv_len l2, l3]) h) (fun _ => ?_)
        refine ⟨e, _, q2, True.intro, fun od => ?_⟩
        refine ⟨_, rfl, e, od, rfl, .inl ⟨_, upd_same, for_it walk_keys (fun i σ H2 => ∃ (c2 c3 : Option V), σ = [some (.ref d), some (.ref e), c2, c3] ∧ Same (upd H e (.frz od (.dK (dkv js vs)))) H2) ⟨_, _, rfl, Same.refl _⟩ (fun _ _ _ _ ⟨_, _, _, q⟩ => q _ _ upd_same) ?_ ?_⟩⟩
        · rintro i x σ H3 H2 hi ⟨c2, c3, rfl, e2⟩ ⟨rfl, kq, kv, hg, rfl⟩
          obtain ⟨kk, rfl, g1, g2⟩ := dkv_get hg
          obtain ⟨u, lu, hs⟩ := h6 i kk kv g1 g2
          have rd : Rd H2 d (.dK (dkv ks us)) := by
            by_cases z : d = e
            · subst z
              rw [q1] at q2
              injection q2 with q2
              rw [q2]
              exact .inr ⟨od, e2 _ _ upd_same⟩
            · exact .inl (e2 _ _ (by rw [upd_ne z]; exact q1))
          have re : Rd H2 e (.dK (dkv js vs)) := .inr ⟨od, e2 _ _ upd_same⟩
          have gd : DGet H2 d (.str kk) (some u) := .inl ⟨_, .inr kk, rd, rfl, by rw [valV_dkv, lu]⟩
          have ge : DGet H2 e (.str kk) (some kv) := .inl ⟨_, .inr kk, re, rfl, by rw [valV_dkv, lookD_at nd g1 g2]⟩
          refine ⟨_, rfl, _, rfl, d, _, rfl, gd, _, rfl, ?_⟩
          refine iteF ?_
          refine ⟨_, rfl, _, rfl, d, u, rfl, gd, _, rfl, _, rfl, e, kv, rfl, ge, ?_⟩
          refine ⟨u, kv, rfl, hs od H2 e2, fun H4 e4 => ⟨_, rfl, ?_⟩⟩
          exact ⟨_, _, rfl, e2.trans e4⟩
        · rintro σ H2 ⟨c2, c3, rfl, e2⟩
          obtain ⟨z1, z2⟩ := same_unlock q2 e2
          exact ⟨z1, k _ z2⟩
end
end G
set_option Elab.async false
set_option linter.all false
set_option maxRecDepth 100000
set_option maxHeartbeats 1200000
namespace G
open PySem L2 Nd
section
variable {P : Program} {w : World} {K : PySem.W.Frag} {mg : Str → Option Value} {base : Heap}
theorem ok_l_missing (T : Txt K mg) : FnOk P w K mg base CX0 5 T.f_l_missing T.d_l_missing ["_law_shape", "_law_name", "_law_way"] (spMissing T.C_Shape) := by
  have G_m_Shape_inner := ok_m_Shape_inner (P := P) (w := w) (base := base) T
  have G_m_Shape_fields := ok_m_Shape_fields (P := P) (w := w) (base := base) T
  have G_m_Shape_parent := ok_m_Shape_parent (P := P) (w := w) (base := base) T
  have G_l_same : FnOk P w K mg base CX0 2 T.f_l_same T.d_l_same ["_law_actual", "_law_expected"] (spSameD 1) := ok_l_sameD T 1
  refine T.F_l_missing.ok sc_l_missing (fun vs H Q E h => ?_) (fun cdv A outer s H vs Q E hr h => ?_)
  · obtain ⟨_, _, _, _, _, _, rfl, _⟩ := h
    rfl
  · obtain ⟨p, x, i, H0, fl, es, rfl, sh, ff, no, k⟩ := h
    refine ⟨_, (pss_cons (ps_set (i := 3) sc_l_missing.nd rfl (Or.inl rfl) pe_non)
        (pss_cons (Xo.ps_tryT rfl rfl sc_l_missing.nd rfl takes0 (fun W pn xe tk _ => (pss_one (ps_if (pt_cmpR op_eq (pv 2) pe_int (nomark _))
              (pss_one (ps_expr (Xo.pe_methT (pv 0) T.cl_Shape T.me_m_Shape_inner G_m_Shape_inner (hr.mono (by omega)) T.b_m_Shape_inner (fun σ => passAt tk σ) (pa_cons (pv 1) pa_nil))))
              (pss_one (ps_if (pt_cmpR op_eq (pv 2) pe_int (nomark _))
                (pss_one (ps_expr (Xo.pe_methT (pv 0) T.cl_Shape T.me_m_Shape_fields G_m_Shape_fields (hr.mono (by omega)) T.b_m_Shape_fields (fun σ => passAt tk σ) (pa_cons (pv 1) pa_nil))))
                (pss_one (ps_expr (Xo.pe_methT (pv 0) T.cl_Shape T.me_m_Shape_parent G_m_Shape_parent (hr.mono (by omega)) T.b_m_Shape_parent (fun σ => passAt tk σ) (pa_cons (pv 1) pa_nil)))))))))
          (.named (i := 4) ⟨rfl, by decide, .inl T.gC_NoList⟩ rfl rfl (fun a oe cls d pn hz hf => (pss_one (ps_set (i := 3) sc_l_missing.nd rfl (Or.inl rfl) (pv 4)))) .nil))
        (pss_cons (ps_if (PW.pt (pw_or (pt_cmpR op_isN (pv 3) pe_non (nomark _)) (pw_or1 (pt_val (pe_callB Xo.call_isX (by rfl) T.z_isinstance (by decide +kernel) (pa_cons (pv 3) (pa_cons (pe_glob (v := .ref T.C_InvalidShape) rfl T.gC_InvalidShape rfl) pa_nil)))))))
          (pss_one (ps_ret pe_bl))
          pss_nil)
        (pss_one (ps_ret (pe_call G_l_same (hr.mono (by omega)) rfl T.g_l_same T.F_l_same.kp T.b_l_same .nil pass0 (pa_cons (Xo.pe_xv (pv 3)) (pa_cons (pv 1) pa_nil)))))))), ?_⟩
    have sh0 := sh
    obtain ⟨dx, ft, kd, kvs, hp, _⟩ := sh
    have fin : ∀ (d : Addr) (H2 : Hp), Same H H2 → H2 d = some (.xd [("name", .str x)]) → ∀ a, H2 a = none → Same H (upd H2 a (Xo.exT a (.ref T.C_NoList) (some d))) ∧ (upd H2 a (Xo.exT a (.ref T.C_NoList) (some d))) d = some (.xd [("name", .str x)]) := fun d H2 s2 hd a na =>
      ⟨s2.trans (same_add na), same_add na _ _ hd⟩
    refine ⟨_, rfl, rfl, _, rfl, ?_⟩
    refine ite2d (fun _ => ?_) (fun _ => ?_)
    · refine ⟨_, rfl, p, dx, _, rfl, hp, shF_no ft kd (m := "inner") (by decide +kernel) (by decide +kernel), _, rfl, p, x, H0, fl, es, rfl, sh0, (fun e l fe _ => by rw [no] at fe; cases fe), fun _ d H2 s2 hd2 => ?_⟩
      refine ⟨true, T.xm_NoList_NoList, fun _ a na => ?_, (fun z => nomatch z)⟩
      refine ⟨_, rfl, fun na2 => ?_⟩
      obtain ⟨e1, e2⟩ := fin d H2 s2 hd2 a na2
      refine ⟨_, rfl, rfl, _, rfl, ?_⟩
      refine ite2d (fun z => nomatch z) (fun _ => ?_)
      refine ⟨_, rfl, a, T.C_NoList, d, _, _, _, false, rfl, .own T.C_InvalidShape, upd_same, T.xf_NoList, T.xi_NoList, e2, T.ki_NoList_InvalidShape, false, rfl, ifF ?_⟩
      refine ⟨_, rfl, a, T.C_NoList, d, [("name", .str x)], .str x, rfl, upd_same, T.xf_NoList, T.no_NoList_name, e2, rfl, _, rfl, ?_⟩
      exact ⟨_, _, rfl, .inl ⟨fun _ => False, .str x, rfl, .str x, Nat.zero_lt_one⟩, fun H4 e4 => k _ (e1.trans e4)⟩
    · refine ⟨_, rfl, rfl, _, rfl, ?_⟩
      refine ite2d (fun _ => ?_) (fun _ => ?_)
      · refine ⟨_, rfl, p, dx, _, rfl, hp, shF_no ft kd (m := "fields") (by decide +kernel) (by decide +kernel), _, rfl, p, x, H0, fl, es, rfl, sh0, ff, (fun e l kvs fe _ _ => by rw [no] at fe; cases fe), fun _ d H2 s2 hd2 => ?_⟩
        refine ⟨true, T.xm_NoList_NoList, fun _ a na => ?_, (fun z => nomatch z)⟩
        refine ⟨_, rfl, fun na2 => ?_⟩
        obtain ⟨e1, e2⟩ := fin d H2 s2 hd2 a na2
        refine ⟨_, rfl, rfl, _, rfl, ?_⟩
        refine ite2d (fun z => nomatch z) (fun _ => ?_)
        refine ⟨_, rfl, a, T.C_NoList, d, _, _, _, false, rfl, .own T.C_InvalidShape, upd_same, T.xf_NoList, T.xi_NoList, e2, T.ki_NoList_InvalidShape, false, rfl, ifF ?_⟩
        refine ⟨_, rfl, a, T.C_NoList, d, [("name", .str x)], .str x, rfl, upd_same, T.xf_NoList, T.no_NoList_name, e2, rfl, _, rfl, ?_⟩
        exact ⟨_, _, rfl, .inl ⟨fun _ => False, .str x, rfl, .str x, Nat.zero_lt_one⟩, fun H4 e4 => k _ (e1.trans e4)⟩
      · refine ⟨_, rfl, p, dx, _, rfl, hp, shF_no ft kd (m := "parent") (by decide +kernel) (by decide +kernel), _, rfl, p, x, H0, fl, es, rfl, sh0, (fun e fe => by rw [no] at fe; cases fe), fun _ d H2 s2 hd2 => ?_⟩
        refine ⟨true, T.xm_NoList_NoList, fun _ a na => ?_, (fun z => nomatch z)⟩
        refine ⟨_, rfl, fun na2 => ?_⟩
        obtain ⟨e1, e2⟩ := fin d H2 s2 hd2 a na2
        refine ⟨_, rfl, rfl, _, rfl, ?_⟩
        refine ite2d (fun z => nomatch z) (fun _ => ?_)
        refine ⟨_, rfl, a, T.C_NoList, d, _, _, _, false, rfl, .own T.C_InvalidShape, upd_same, T.xf_NoList, T.xi_NoList, e2, T.ki_NoList_InvalidShape, false, rfl, ifF ?_⟩
        refine ⟨_, rfl, a, T.C_NoList, d, [("name", .str x)], .str x, rfl, upd_same, T.xf_NoList, T.no_NoList_name, e2, rfl, _, rfl, ?_⟩
        exact ⟨_, _, rfl, .inl ⟨fun _ => False, .str x, rfl, .str x, Nat.zero_lt_one⟩, fun H4 e4 => k _ (e1.trans e4)⟩

end
end G
set_option Elab.async false
set_option linter.all false
set_option maxRecDepth 100000
set_option maxHeartbeats 400000
namespace G
open PySem L2 Nd
theorem ats_strs {P : Addr → Prop} {H : Hp} : ∀ zs : List Str, Ats P H (zs.map V.str) (zs.map Dat.str)
  | [] => .nil
  | z :: zs => .cons (.str z) (ats_strs zs)
theorem smv_lst {H : Hp} {a b : Addr} {zs : List Str} (ha : H a = some (.lst (zs.map V.str))) (hb : H b = some (.lst (zs.map V.str))) (ne : a ≠ b) : SmV H 10 (.ref a) (.ref b) := by
  have d := dep_strs zs
  refine .inr ⟨fun c => c = a, _, _, .lst ha rfl (ats_strs zs), .lst hb (Ne.symm ne) (ats_strs zs), sim_at (P := fun _ => True) 10 _ (.ref a) (.lst ha trivial (ats_strs zs)) ?_⟩
  rw [depD]; omega
theorem smv_tup {H : Hp} {a b : Addr} {zs : List Str} (ha : H a = some (.tup (zs.map V.str))) (hb : H b = some (.tup (zs.map V.str))) : SmV H 10 (.ref a) (.ref b) := by
  have d := dep_strs zs
  refine .inr ⟨fun c => c = a, _, _, .tup ha (ats_strs zs), .tup hb (ats_strs zs), sim_at (P := fun _ => True) 10 _ (.ref a) (.tup ha (ats_strs zs)) ?_⟩
  rw [depD]; omega
theorem smv_str {H : Hp} {z : Str} : SmV H 10 (.str z) (.str z) := .inl ⟨fun _ => False, .str z, rfl, .str z, by show 0 < 10; decide⟩
/-- a new dict and an old one of the same data -/
theorem smv_new {P : Addr → Prop} {H H1 : Hp} {l : Addr} {y : V} {d : Dat} (h1 : H l = none) (a : At (fun b => b = l) H1 (.ref l) d) (b : At P H y d) (s : Same H H1) (dp : depD d < 10) : SmV H1 10 (.ref l) y :=
  .inr ⟨fun b => b = l, d, d, a, ((At.dom _ _ b).same s).weak fun c z e => by rw [e] at z; exact z.2 h1, sim_at 10 d _ a dp⟩
theorem inK_some {t : Lst3} {j : Nat} {n : Str} (h : (inK t)[j]? = some n) : ∃ g, t.inn = some (n, g) := by
  rw [inK] at h
  cases e : t.inn with
  | none => rw [e] at h; cases h
  | some q =>
    obtain ⟨m, g⟩ := q
    rw [e] at h
    have h2 : ([m] : List Str)[j]? = some n := h
    cases j with
    | zero => simp at h2; subst h2; exact ⟨g, rfl⟩
    | succ j => simp at h2
theorem find_t {l : List Lst3} {es : List Ent} {t : Lst3} (ok : OkL l) (pm : es.Perm (l.flatMap entsT)) (ht : t ∈ l) : findE es t.nm = some ⟨t.nm, none, t.fs, inK t⟩ := by
  have nd : (es.map Ent.nm).Nodup := (pm.map Ent.nm).nodup_iff.mpr (by rw [ents_nm]; exact ok.nd)
  exact find_of (e := ⟨t.nm, none, t.fs, inK t⟩) nd (pm.mem_iff.mpr (List.mem_flatMap.mpr ⟨t, ht, by rw [entsT]; exact List.mem_cons_self ..⟩))
theorem find_i {l : List Lst3} {es : List Ent} {t : Lst3} {n : Str} {g : Dat} (ok : OkL l) (pm : es.Perm (l.flatMap entsT)) (ht : t ∈ l) (hi : t.inn = some (n, g)) : findE es n = some ⟨n, some t.nm, g, []⟩ := by
  have nd : (es.map Ent.nm).Nodup := (pm.map Ent.nm).nodup_iff.mpr (by rw [ents_nm]; exact ok.nd)
  exact find_of (e := ⟨n, some t.nm, g, []⟩) nd (pm.mem_iff.mpr (List.mem_flatMap.mpr ⟨t, ht, by rw [entsT, hi]; simp⟩))
end G
set_option Elab.async false
set_option linter.all false
set_option maxRecDepth 100000
set_option maxHeartbeats 1200000
namespace G
open PySem L2 Nd
section
variable {P : Program} {w : World} {K : PySem.W.Frag} {mg : Str → Option Value} {base : Heap}
theorem ok_l_told (T : Txt K mg) : FnOk P w K mg base CX0 12 T.f_l_told T.d_l_told ["_law_shape", "_law_lists_here"] (spTold T.C_Shape) := by
  have G_m_Shape_inner := ok_m_Shape_inner (P := P) (w := w) (base := base) T
  have G_m_Shape_fields := ok_m_Shape_fields (P := P) (w := w) (base := base) T
  have G_m_Shape_parent := ok_m_Shape_parent (P := P) (w := w) (base := base) T
  have G_l_same : FnOk P w K mg base CX0 11 T.f_l_same T.d_l_same ["_law_actual", "_law_expected"] (spSameD 10) := ok_l_sameD T 10
  refine T.F_l_told.ok sc_l_told (fun vs H Q E h => ?_) (fun cdv A outer s H vs Q E hr h => ?_)
  · obtain ⟨_, _, _, _, _, _, _, rfl, _⟩ := h
    rfl
  · obtain ⟨p, v, Pp, H0, fl, l, es, rfl, sh, ff, hv, hp0, pm, ok, k⟩ := h
    refine ⟨_, (pss_cons (ps_lock (ps_for PassesOwn.never rfl (pi_keys (pv 1)) (pg_name (i := 2) sc_l_told.nd rfl (Or.inl rfl))
          (pss_cons (ps_set (i := 3) sc_l_told.nd rfl (Or.inl rfl) (pe_callTy (call_listD rfl) (by rfl) T.z_list (by decide +kernel) (pa_cons (pe_dget (hu_of hr) (pe_dget (hu_of hr) (pv 1) (pv 2) (fun _ _ => rfl)) pe_str (fun _ _ => rfl)) pa_nil)))
          (pss_cons (ps_if (PW.pt (pw_or (pt_not (pt_val (pe_call G_l_same (hr.mono (by omega)) rfl T.g_l_same T.F_l_same.kp T.b_l_same .nil pass0 (pa_cons (pe_meth (pv 0) T.cl_Shape T.me_m_Shape_inner G_m_Shape_inner (hr.mono (by omega)) T.b_m_Shape_inner .nil passL (pa_cons (pv 2) pa_nil)) (pa_cons (pv 3) pa_nil))))) (pw_or1 (pt_cmpR op_notN (pe_meth (pv 0) T.cl_Shape T.me_m_Shape_parent G_m_Shape_parent (hr.mono (by omega)) T.b_m_Shape_parent .nil passL (pa_cons (pv 2) pa_nil)) pe_non (nomark _)))))
            (pss_one (ps_ret pe_bl))
            pss_nil)
          (pss_cons (ps_if (pt_not (pt_val (pe_call G_l_same (hr.mono (by omega)) rfl T.g_l_same T.F_l_same.kp T.b_l_same .nil pass0 (pa_cons (pe_meth (pv 0) T.cl_Shape T.me_m_Shape_fields G_m_Shape_fields (hr.mono (by omega)) T.b_m_Shape_fields .nil passL (pa_cons (pv 2) pa_nil)) (pa_cons (pe_dget (hu_of hr) (pe_dget (hu_of hr) (pv 1) (pv 2) (fun _ _ => rfl)) pe_str (fun _ _ => rfl)) pa_nil)))))
            (pss_one (ps_ret pe_bl))
            pss_nil)
          (pss_one (ps_for PassesOwn.never rfl (pi_list (pv 3)) (pg_name (i := 4) sc_l_told.nd rfl (Or.inl rfl))
            (pss_cons (ps_if (PW.pt (pw_or (pt_not (pt_val (pe_call G_l_same (hr.mono (by omega)) rfl T.g_l_same T.F_l_same.kp T.b_l_same .nil pass0 (pa_cons (pe_meth (pv 0) T.cl_Shape T.me_m_Shape_inner G_m_Shape_inner (hr.mono (by omega)) T.b_m_Shape_inner .nil passL (pa_cons (pv 4) pa_nil)) (pa_cons (pe_lst pa_nil) pa_nil))))) (pw_or1 (pt_not (pt_val (pe_call G_l_same (hr.mono (by omega)) rfl T.g_l_same T.F_l_same.kp T.b_l_same .nil pass0 (pa_cons (pe_meth (pv 0) T.cl_Shape T.me_m_Shape_parent G_m_Shape_parent (hr.mono (by omega)) T.b_m_Shape_parent .nil passL (pa_cons (pv 4) pa_nil)) (pa_cons (pv 2) pa_nil))))))))
              (pss_one (ps_ret pe_bl))
              pss_nil)
            (pss_one (ps_if (pt_not (pt_val (pe_call G_l_same (hr.mono (by omega)) rfl T.g_l_same T.F_l_same.kp T.b_l_same .nil pass0 (pa_cons (pe_meth (pv 0) T.cl_Shape T.me_m_Shape_fields G_m_Shape_fields (hr.mono (by omega)) T.b_m_Shape_fields .nil passL (pa_cons (pv 4) pa_nil)) (pa_cons (pe_dget (hu_of hr) (pe_dget (hu_of hr) (pe_dget (hu_of hr) (pe_dget (hu_of hr) (pv 1) (pv 2) (fun _ _ => rfl)) pe_str (fun _ _ => rfl)) (pv 4) (fun _ _ => rfl)) pe_str (fun _ _ => rfl)) pa_nil)))))
              (pss_one (ps_ret pe_bl))
              pss_nil))))))))))
        (pss_one (ps_ret pe_bl))), ?_⟩
    obtain ⟨e, ws, rfl, pe, g, nd, lk, row⟩ := row_at hv
    refine ⟨e, _, g, True.intro, fun od => ?_⟩
    have kl : Kd (fun z => Pp z ∧ z ≠ e) (fun z => Pp z ∧ z ≠ e) H (upd H e (.frz od (.dK (dkv (l.map Lst3.nm) ws)))) := Kd.lock g (fun _ z => nomatch z)
    have shN : ∀ {H9 : Hp}, Same (upd H e (.frz od (.dK (dkv (l.map Lst3.nm) ws)))) H9 → ShpAt T.C_Shape H0 H9 p fl es := fun s9 => sh.new ⟨fun b o hb h0 => s9 _ _ (by rw [upd_ne (fun z => hp0 e pe (by rw [← z]; exact h0))]; exact hb), fun b xs hb => s9 _ _ (by rw [upd_ne (fun z => by rw [z, g] at hb; cases hb)]; exact hb)⟩
    refine ⟨_, rfl, e, od, rfl, .inl ⟨_, upd_same, for_it walk_keys (fun i σ H2 => ∃ (c2 c3 c4 : Option V), σ = [some (.ref p), some (.ref e), c2, c3, c4] ∧ Same (upd H e (.frz od (.dK (dkv (l.map Lst3.nm) ws)))) H2)
      ⟨_, _, _, rfl, Same.refl _⟩ (fun _ _ _ _ ⟨_, _, _, _, q⟩ => q _ _ upd_same) ?_ ?_⟩⟩
    · rintro i x σ H3 H2 hi ⟨c2, c3, c4, rfl, e2⟩ ⟨rfl, kq, kv, hg, rfl⟩
      obtain ⟨kk, rfl, g1, g2⟩ := dkv_get hg
      rw [List.getElem?_map] at g1
      obtain ⟨t, ht, rfl⟩ := Option.map_eq_some_iff.mp g1
      have mt := List.mem_of_getElem? ht
      obtain ⟨u, hu, b, fu, c, vs, rfl, pb, pc, nbe, nce, ncb, gb, afu, gc, lc, ndc, vn, vy⟩ := row i t ht
      rw [g2] at hu
      cases hu
      have ge : ∀ {H9 : Hp}, Same (upd H e (.frz od (.dK (dkv (l.map Lst3.nm) ws)))) H9 → DGet H9 e (.str t.nm) (some (.ref b)) := fun s9 => .inl ⟨_, .inr t.nm, .inr ⟨od, s9 _ _ upd_same⟩, rfl, by rw [valV_dkv, lookD_at nd (by rw [List.getElem?_map, ht]; rfl) g2]⟩
      have rb : ∀ {H9 : Hp}, Same (upd H e (.frz od (.dK (dkv (l.map Lst3.nm) ws)))) H9 → H9 b = some (.dK (dkv ["fields", "inner"] [fu, .ref c])) := fun s9 => s9 _ _ (by rw [upd_ne nbe]; exact gb)
      have rc : ∀ {H9 : Hp}, Same (upd H e (.frz od (.dK (dkv (l.map Lst3.nm) ws)))) H9 → H9 c = some (.dK (dkv (inK t) vs)) := fun s9 => s9 _ _ (by rw [upd_ne nce]; exact gc)
      have f1 := find_t ok pm mt
      refine ⟨_, rfl, _, rfl, e, _, rfl, ge e2, b, _, rfl, dget_i (rb e2), c, _, rfl, .inl (rc e2), fun il hil => ?_⟩
      rw [dkv_keys lc]
      have e3 := e2.trans (same_add (o := HO.lst ((inK t).map V.str)) hil)
      have sh3 := shN e3
      have sh30 := sh3
      obtain ⟨dx, ft, kd, kvs, hp3, _⟩ := sh30
      refine ⟨_, rfl, p, dx, _, rfl, hp3, shF_no ft kd (m := "inner") (by decide +kernel) (by decide +kernel), _, rfl, p, t.nm, H0, fl, es, rfl, sh3, (fun e' l' fe hl' => ?_), (fun fe => by rw [f1] at fe; cases fe)⟩
      rw [f1] at fe
      cases fe
      refine ⟨_, rfl, _, _, rfl, smv_lst (zs := inK t) upd_same (by rw [upd_ne (ne_of_none upd_same hl')]; exact upd_same) (Ne.symm (ne_of_none upd_same hl')), fun H5 s5 => ⟨true, rfl, ifF ?_⟩⟩
      have e5 := (e3.trans (same_add hl')).trans s5
      have hil5 : H5 il = some (.lst ((inK t).map V.str)) := s5 _ _ (same_add hl' _ _ upd_same)
      have hp5 := s5 _ _ (same_add hl' _ _ hp3)
      refine ⟨_, rfl, p, dx, _, rfl, hp5, shF_no ft kd (m := "parent") (by decide +kernel) (by decide +kernel), _, rfl, p, t.nm, H0, fl, es, rfl, shN e5, (fun e' fe => ?_), (fun fe => by rw [f1] at fe; cases fe)⟩
      rw [f1] at fe
      cases fe
      refine ⟨rfl, _, rfl, ite2n (fun z => absurd rfl z) fun _ => ?_⟩
      refine ⟨_, rfl, p, dx, _, rfl, hp5, shF_no ft kd (m := "fields") (by decide +kernel) (by decide +kernel), _, rfl, p, t.nm, H0, fl, es, rfl, shN e5, ff, (fun e' l2 kv2 fe hl2 at2 => ?_), (fun fe => by rw [f1] at fe; cases fe)⟩
      rw [f1] at fe
      cases fe
      have s56 := same_add (o := HO.dK kv2) hl2
      have e6 := e5.trans s56
      have dt := (ok.fld t mt).1.dep
      refine ⟨_, rfl, _, rfl, e, _, rfl, ge e6, b, _, rfl, dget_f (rb e6), _, _, rfl, smv_new hl2 at2 ((At.keep kl _ _ afu).same e5) s56 (by show depD t.fs < 10; omega), fun H7 s7 => ⟨true, rfl, ifF ?_⟩⟩
      have e7 := e6.trans s7
      have hil7 := s7 _ _ (s56 _ _ hil5)
      refine ⟨_, rfl, il, rfl, ⟨_, SqL.of hil7⟩, for_it (walk_list (xs := (inK t).map V.str)) (fun j σ H8 => ∃ (c4 : Option V), σ = [some (.ref p), some (.ref e), some (.str t.nm), some (.ref il), c4] ∧ Same H7 H8)
        ⟨_, rfl, Same.refl _⟩ (fun _ _ H8 _ ⟨_, _, z⟩ => SqL.of (z _ _ hil7)) ?_ ?_⟩
      · rintro j x σ H9 H8 hj ⟨c4', rfl, s8⟩ ⟨rfl, hx⟩
        rw [List.getElem?_map] at hx
        obtain ⟨n, hn, rfl⟩ := Option.map_eq_some_iff.mp hx
        obtain ⟨gd, hin⟩ := inK_some hn
        obtain ⟨b2, gu, iu, rfl, gb2, ag, nb2e, _, _⟩ := vy n gd hin
        have f2 := find_i ok pm mt hin
        have dg := ((ok.fld t mt).2 n gd hin).dep
        have e8 := e7.trans s8
        have hp8 := s8 _ _ (s7 _ _ (s56 _ _ hp5))
        refine ⟨_, rfl, p, dx, _, rfl, hp8, shF_no ft kd (m := "inner") (by decide +kernel) (by decide +kernel), _, rfl, p, n, H0, fl, es, rfl, shN e8, (fun e' l' fe hl' => ?_), (fun fe => by rw [f2] at fe; cases fe)⟩
        rw [f2] at fe
        cases fe
        refine ⟨Nat.zero_le _, fun e0 he0 => ?_⟩
        refine ⟨_, _, rfl, smv_lst (zs := []) (by rw [upd_ne (ne_of_none upd_same he0)]; exact upd_same) upd_same (ne_of_none upd_same he0), fun H10 s10 => ⟨true, rfl, ifF ?_⟩⟩
        have s810 := ((same_add (o := HO.lst (([] : List Str).map V.str)) hl').trans (same_add he0)).trans s10
        have e10 := e8.trans s810
        refine ⟨_, rfl, p, dx, _, rfl, s810 _ _ hp8, shF_no ft kd (m := "parent") (by decide +kernel) (by decide +kernel), _, rfl, p, n, H0, fl, es, rfl, shN e10, (fun e' fe => ?_), (fun fe => by rw [f2] at fe; cases fe)⟩
        rw [f2] at fe
        cases fe
        refine ⟨_, rfl, _, _, rfl, smv_str, fun H11 s11 => ⟨true, rfl, ifF ?_⟩⟩
        have s811 := s810.trans s11
        have e11 := e8.trans s811
        refine ⟨_, rfl, p, dx, _, rfl, s811 _ _ hp8, shF_no ft kd (m := "fields") (by decide +kernel) (by decide +kernel), _, rfl, p, n, H0, fl, es, rfl, shN e11, ff, (fun e' l3 kv3 fe hl3 at3 => ?_), (fun fe => by rw [f2] at fe; cases fe)⟩
        rw [f2] at fe
        cases fe
        have s12 := same_add (o := HO.dK kv3) hl3
        have e12 := e11.trans s12
        have rdC : ∀ {H9 : Hp}, Same (upd H e (.frz od (.dK (dkv (l.map Lst3.nm) ws)))) H9 → DGet H9 c (.str n) (some (.ref b2)) := fun s9 => .inl ⟨_, .inr n, .inl (rc s9), rfl, by
          rw [valV_dkv]
          have : inK t = [n] := by rw [inK, hin]; rfl
          rw [this]
          simp [lookD]⟩
        refine ⟨_, rfl, _, rfl, e, _, rfl, ge e12, b, _, rfl, dget_i (rb e12), _, rfl, c, _, rfl, rdC e12, b2, gu, rfl, dget_f (e12 _ _ (by rw [upd_ne nb2e]; exact gb2)), _, _, rfl, smv_new hl3 at3 ((At.keep kl _ _ ag).same e11) s12 (by show depD gd < 10; omega), fun H13 s13 => ⟨true, rfl, ifF ?_⟩⟩
        exact ⟨_, rfl, s8.trans ((s811.trans s12).trans s13)⟩
      · rintro σ H8 ⟨c4', rfl, s8⟩
        exact ⟨_, _, _, rfl, e7.trans s8⟩
    · rintro σ H2 ⟨c2, c3, c4, rfl, e2⟩
      obtain ⟨z1, z2⟩ := same_unlock g e2
      exact ⟨z1, k _ z2⟩

end
end G
set_option Elab.async false
set_option linter.all false
set_option maxRecDepth 100000
set_option maxHeartbeats 1200000
namespace G
open PySem L2 Nd
section
variable {P : Program} {w : World} {K : PySem.W.Frag} {mg : Str → Option Value} {base : Heap}
theorem ok_m_Shape_outer (T : Txt K mg) : FnOk P w K mg base CX0 1 T.f_m_Shape_outer T.d_m_Shape_outer ["self"] (spOuter T.C_Shape) := by
  refine T.F_m_Shape_outer.ok sc_m_Shape_outer (fun vs H Q E h => ?_) (fun cdv A outer s H vs Q E hr h => ?_)
  · obtain ⟨_, _, _, _, rfl, _⟩ := h
    rfl
  · obtain ⟨p, H0, fl, es, rfl, sh, le, nd, q⟩ := h
    refine ⟨_, (pss_one (ps_ret (pe_lc (own := [("name", 1)]) (g := gName 1) (te := tVar 1) (tt := tTest (tOp rIsN (tOp (rIxT K) (tDGet (tFld K (tVar 0) "known") (tVar 1)) (tC (.int 0))) (tC .non))) rfl sc_m_Shape_outer.nd (pi_list (pe_callB (call_sortedD rfl) (by rfl) T.z_sorted (by decide +kernel) (pa_cons (pe_fld (pv 0) rfl) pa_nil))) (blkOk_by (own := [("name", 1)]) (N := ["self", "name"]) (sc := defScope s_m_Shape_outer) (by decide +kernel)) (fun _ _ _ _ _ => (pg_name (i := 1) sc_m_Shape_outer.nd rfl (Or.inl rfl))) (fun _ _ _ _ _ => (pts_one (pt_cmpR op_isN (pe_ix ix_tup (pe_dget (hu_of hr) (pe_fld (pv 0) rfl) (pv 1) (fun _ _ => rfl)) pe_int (fun _ _ => rfl)) pe_non (nomark _)))) (fun _ _ _ _ _ => (pv 1))))), ?_⟩
    have sh0 := sh
    obtain ⟨dx, ft, kd, kvs, hp, hf, hk, pr, h01, h02⟩ := sh
    have kk : kvs.map Prod.fst = (es.map Ent.nm).map Sum.inr := by
      rw [EntP.keys pr, List.map_map]; rfl
    refine ⟨_, rfl, p, T.C_Shape, dx, _, _, rfl, hp, T.cl_Shape, T.n_Shape_known, shF_known ft kd, kd, kvs, es.map Ent.nm, rfl, .inl hk, kk, by rw [List.length_map]; omega, fun ys sl py sy hsl => ?_⟩
    refine ⟨sl, rfl, ⟨_, SqL.of upd_same⟩, fun D hD => ?_⟩
    have hD0 : H D = none := same_none (same_add hsl) hD
    have nsD : sl ≠ D := ne_of_none upd_same hD
    refine lc_it (walk_list (xs := ys.map V.str)) (fun i H2 => Same H H2 ∧ H2 sl = some (.lst (ys.map V.str)) ∧ H2 D = some (.lst (((ys.take i).filter fun y => decide ((findE es y).bind Ent.par = none)).map V.str)))
      ⟨same_new (same_add hsl) hD0, by rw [upd_ne nsD]; exact upd_same, upd_same⟩ (fun i H2 _ z => SqL.of z.2.1) ?_ ?_
    · rintro i x H2 H3 hi ⟨s2, h2, h3⟩ ⟨rfl, hx⟩
      rw [List.getElem?_map] at hx
      obtain ⟨k, hk2, rfl⟩ := Option.map_eq_some_iff.mp hx
      have tk : ys.take (i + 1) = ys.take i ++ [k] := by rw [List.take_add_one, hk2]; rfl
      have mk : k ∈ es.map Ent.nm := py.mem_iff.mp (List.mem_of_getElem? hk2)
      have sh2 : ShpAt T.C_Shape H0 H3 p fl es := sh0.new (New.same s2)
      have pr3 : Paired (EntP H0 H3) kvs es := Paired.imp (fun a b z => ⟨z.1, z.2.new (New.same s2)⟩) pr
      have yl : ys.length < 60 := by rw [py.length_eq, List.length_map]; exact le
      rcases ent_at (x := k) pr3 with ⟨z1, z2⟩ | ⟨e, v, z1, z2, z3⟩
      · obtain ⟨e, me, rfl⟩ := List.mem_map.mp mk
        have := List.find?_eq_none.mp z1 e me
        simp at this
      · have z1' : findE es k = some e := z1
        obtain ⟨t, fd, it, rfl, e1, e2, e3, _⟩ := z3
        refine ⟨rfl, _, rfl, p, T.C_Shape, dx, _, _, rfl, s2 _ _ hp, T.cl_Shape, T.n_Shape_known, shF_known ft kd, _, rfl, kd, _, rfl, z2 ▸ DGet.k (k := .inr k) (s2 _ _ hk), t, _, 0, _, rfl, rfl, SqT.of e1, rfl, rfl, _, rfl, ?_⟩
        have ed : decide (parV e.par = V.non) = decide ((findE es k).bind Ent.par = none) := by
          rw [z1']
          cases hpar : e.par with
          | none => simp [parV, hpar]
          | some z => simp [parV, hpar]
        rw [ed]
        cases hb : decide ((findE es k).bind Ent.par = none) with
        | true =>
          refine ifT ⟨_, rfl, _, h3, ?_, same_new s2 hD0, ?_, ?_⟩
          · rw [List.length_map]
            have a1 := List.length_filter_le (fun y => decide ((findE es y).bind Ent.par = none)) (ys.take i)
            have a2 : (ys.take i).length ≤ ys.length := by rw [List.length_take]; omega
            have : 60 < sizeLine := by decide +kernel
            omega
          · rw [upd_ne nsD]; exact h2
          · rw [upd_same, tk, List.filter_append, List.filter_cons, if_pos hb]
            simp
        | false =>
          refine ifF ⟨s2, h2, ?_⟩
          rw [h3, tk, List.filter_append, List.filter_cons, hb]
          simp
    · rintro H2 ⟨s2, h2, h3⟩
      rw [List.length_map, List.take_length] at h3
      exact q ys D H2 s2 hD0 py sy h3

end
end G
set_option Elab.async false
set_option linter.all false
set_option maxRecDepth 100000
set_option maxHeartbeats 4000000
namespace G
open PySem L2 Nd
section
variable {P : Program} {w : World} {K : PySem.W.Frag} {mg : Str → Option Value} {base : Heap}
theorem ok_l_stream (T : Txt K mg) : FnOk P w K mg base CX0 1 T.f_l_stream T.d_l_stream ["_law_script"] (spStream K) := by
  refine T.F_l_stream.ok sc_l_stream (fun vs H Q E h => ?_) (fun cdv A outer s H vs Q E hr h => ?_)
  · obtain ⟨a, ns, rfl, _⟩ := h
    rfl
  · obtain ⟨a, ns, rfl, hS, hlen, k⟩ := h
    refine ⟨_, (pss_cons (ps_setLc (i := 1) (own := [("_law_cell", 2)]) (g := gName 2) rfl sc_l_stream.nd rfl rfl (sw_true rfl rfl rfl (by decide +kernel)) (pi_list (pe_slice sl_list (pv 0) po_none (po_some pe_int))) (blkOk_by (own := [("_law_cell", 2)]) (N := ["_law_script", "_law_cells", "_law_cell"]) (sc := defScope s_l_stream) (by decide +kernel)) (fun _ _ _ _ _ => (pg_name (i := 2) sc_l_stream.nd rfl (Or.inl rfl))) (fun _ _ _ _ _ => pts_nil) (fun _ _ _ _ _ => (pe_callTy call_int1 (by rfl) T.z_int (by decide +kernel) (pa_cons (pv 2) pa_nil))))
        (pss_cons (ps_if (pt_cmpR (op_eqD hr.units) (pv 1) (pe_lst pa_nil) (nomark _))
          (pss_one (ps_set (i := 1) sc_l_stream.nd rfl (Or.inl rfl) (pe_lst (pa_cons pe_int pa_nil))))
          pss_nil)
        (pss_one (ps_ret (pe_lst (pa_cons (pv 1) (pa_cons pe_int pa_nil))))))), ?_⟩
    obtain ⟨ms, em, hms⟩ := cut_ints ns none (some 63)
    refine ⟨_, rfl, 63, rfl, a, _, rfl, hS, fun p hp => ⟨p, rfl, ⟨_, SqL.of upd_same⟩, fun D hD => ?_⟩⟩
    rw [em] at hD ⊢
    have npD : p ≠ D := ne_of_none upd_same hD
    have hD0 : H D = none := (same_add hp).free hD
    refine lc_it (walk_list (xs := ms.map V.int)) (fun i H2 => Same H H2 ∧ H2 p = some (.lst (ms.map V.int)) ∧ H2 D = some (.lst ((ms.take i).map V.int)))
      ⟨same_new (same_add hp) hD0, by rw [upd_ne npD]; exact upd_same, upd_same⟩ (fun i H2 _ h => SqL.of h.2.1) ?_ ?_
    · rintro i x H2 H3 hi ⟨s2, h2, h3⟩ ⟨rfl, hx⟩
      rw [List.length_map] at hi
      rw [List.getElem?_map, List.getElem?_eq_getElem hi] at hx
      cases hx
      refine ⟨rfl, _, rfl, .inl ⟨_, rfl, _, h3, ?_, same_new s2 hD0, ?_, ?_⟩⟩
      · rw [List.length_map, List.length_take]
        exact Nat.lt_of_le_of_lt (Nat.min_le_left _ _) (Nat.lt_of_lt_of_le hi (Nat.le_trans hms (Nat.le_trans hlen (by decide))))
      · rw [upd_ne npD]; exact h2
      · rw [upd_same, List.take_succ_eq_append_getElem hi, List.map_append]
        rfl
    · rintro H2 ⟨s2, h2, h3⟩
      rw [List.length_map, List.take_length] at h3
      refine ⟨_, rfl, Nat.zero_le _, fun q hq => ⟨_, _, .lst (SqL.of (by rw [upd_ne (ne_of_none h3 hq)]; exact h3)) (dp_ints ms), .lst (SqL.of upd_same) .nil, PySem.W.ke_shaped_ints ms, PySem.W.ke_shaped_ints [], _, rfl, ?_⟩⟩
      have hq0 : H q = none := s2.free hq
      cases ms with
      | nil =>
        refine iteT ⟨by decide, fun c hc => ⟨_, rfl, (by show 2 ≤ sizeLine; decide), fun st hst => ?_⟩⟩
        have hc0 : H c = none := s2.free ((same_add hq).free hc)
        have hs0 : H st = none := s2.free ((same_add hq).free ((same_add hc).free hst))
        exact k st c _ ⟨Ne.symm (ne_of_none upd_same hst), [0], 0, upd_same, by rw [upd_ne (ne_of_none upd_same hst)]; exact upd_same, by decide, by decide⟩ (same_new (same_new (same_new s2 hq0) hc0) hs0)
      | cons m ms =>
        refine iteF ⟨_, rfl, by show 2 ≤ sizeLine; decide, fun st hst => ?_⟩
        have hs0 : H st = none := s2.free ((same_add hq).free hst)
        have hD1 : D ≠ q := ne_of_none h3 hq
        have hD2 : D ≠ st := ne_of_none (by rw [upd_ne hD1]; exact h3) hst
        exact k st D _ ⟨Ne.symm hD2, m :: ms, 0, upd_same, by rw [upd_ne hD2, upd_ne hD1]; exact h3, by simp, Nat.le_trans hms hlen⟩ (same_new (same_new s2 hq0) hs0)
end
end G
set_option Elab.async false
set_option linter.all false
set_option maxRecDepth 100000
set_option maxHeartbeats 400000
namespace G
open PySem L2 Nd
def leS (a b : Str) : Prop := a.cps.toList ≤ b.cps.toList
theorem leS_trans {a b c : Str} (h : leS a b) (g : leS b c) : leS a c := List.le_trans h g
theorem leS_anti {a b : Str} (h : leS a b) (g : leS b a) : a = b := by
  have e : a.cps.toList = b.cps.toList := List.le_antisymm h g
  obtain ⟨x⟩ := a
  obtain ⟨y⟩ := b
  exact congrArg Str.mk (Array.toList_inj.mp e)
theorem rising_pw : ∀ (p : Str) (l : List Str), PyProof.Rows.risingS p l = true → (p :: l).Pairwise leS
  | p, [], _ => List.pairwise_singleton ..
  | p, x :: r, h => by
    have h0 : (!PySem.Spec.ltCps x.cps.toList p.cps.toList && PyProof.Rows.risingS x r) = true := h
    rw [Bool.and_eq_true] at h0
    have ih := rising_pw x r h0.2
    have l1 : leS p x := by
      have := h0.1
      rw [PyProof.Rows.ltCps_eq] at this
      exact List.not_lt.mp (by simpa using this)
    refine List.pairwise_cons.mpr ⟨fun y hy => ?_, ih⟩
    rcases List.mem_cons.mp hy with rfl | hy
    · exact l1
    · exact leS_trans l1 ((List.pairwise_cons.mp ih).1 y hy)
theorem sorted_pw : ∀ {l : List Str}, PyProof.Rows.sortedS l = true → l.Pairwise leS
  | [], _ => .nil
  | x :: r, h => rising_pw x r h
theorem sorted_eq {a b : List Str} (h : a.Pairwise leS) (g : b.Pairwise leS) (p : a.Perm b) : a = b := p.eq_of_pairwise (fun _ _ _ _ => leS_anti) h g
theorem outer_eq {l : List Lst3} {es : List Ent} {ys zs : List Str} (ok : OkL l) (pm : es.Perm (l.flatMap entsT)) (py : ys.Perm (es.map Ent.nm)) (sy : PyProof.Rows.sortedS ys = true) (pz : zs.Perm (l.map Lst3.nm)) (sz : PyProof.Rows.sortedS zs = true) :
    (ys.filter fun y => decide ((findE es y).bind Ent.par = none)) = zs := by
  have key : ∀ l' : List Lst3, (∀ t ∈ l', t ∈ l) → ((l'.flatMap nms).filter fun y => decide ((findE es y).bind Ent.par = none)) = l'.map Lst3.nm := by
    intro l'
    induction l' with
    | nil => intro _; rfl
    | cons t l' ih =>
      intro h
      have ht := h t (List.mem_cons_self ..)
      have i2 := ih fun x hx => h x (List.mem_cons_of_mem _ hx)
      rw [List.flatMap_cons, List.filter_append, i2, List.map_cons]
      have f1 := find_t ok pm ht
      have one : ((nms t).filter fun y => decide ((findE es y).bind Ent.par = none)) = [t.nm] := by
        rw [nms]
        cases hin : t.inn with
        | none => simp [f1]
        | some q =>
          obtain ⟨n, g⟩ := q
          have f2 := find_i ok pm ht hin
          simp [f1, f2]
      rw [one]
      rfl
  refine sorted_eq ((sorted_pw sy).filter _) (sorted_pw sz) ?_
  refine (py.filter _).trans (((pm.map Ent.nm).filter _).trans ?_)
  rw [ents_nm, key l fun _ h => h]
  exact pz.symm
theorem ents_fld {l : List Lst3} {es : List Ent} (ok : OkL l) (pm : es.Perm (l.flatMap entsT)) : ∀ e ∈ es, FldD e.fs := by
  intro e he
  obtain ⟨t, ht, h⟩ := List.mem_flatMap.mp (pm.mem_iff.mp he)
  rw [entsT] at h
  rcases List.mem_cons.mp h with rfl | h
  · exact (ok.fld t ht).1
  · cases hin : t.inn with
    | none => rw [hin] at h; cases h
    | some q =>
      obtain ⟨n, g⟩ := q
      rw [hin] at h
      rw [List.mem_singleton.mp h]
      exact (ok.fld t ht).2 n g hin
theorem fld_des {f i : Dat} (h : FldD (desD f i)) (hf : FldD f) : False := by
  obtain ⟨ks, xs, e, _, _, hx⟩ := h
  rw [desD] at e
  injection e with _ e
  obtain ⟨ws, e2, _⟩ := hx f (by rw [← e]; exact List.mem_cons_self ..)
  obtain ⟨_, _, e3, _⟩ := hf
  rw [e3, tupW] at e2
  cases e2
theorem inn_des {f i : Dat} {o : Option (Str × Dat)} (h : innD o = desD f i) : False := by
  cases o with
  | none => rw [innD, desD] at h; injection h with h; cases h
  | some q =>
    obtain ⟨n, g⟩ := q
    rw [innD, desD] at h
    injection h with h
    injection h with _ h
    cases h
/-- the dicts that are cleared, and how they are reached -/
theorem copy_clr {P : Addr → Prop} {H : Hp} {v : V} {l : List Lst3} (h : At P H v (lsD l)) (ok : OkL l) : ∃ (e : Addr) (ws : List V) (M : Addr → Prop), v = .ref e ∧ P e ∧ H e = some (.dK (dkv (l.map Lst3.nm) ws)) ∧ (l.map Lst3.nm).Nodup ∧ (l.map Lst3.nm).length = ws.length ∧ ¬ M e ∧
    (∀ b, M b → P b ∧ ∃ kvs, H b = some (.dK kvs)) ∧ ∀ (i : Nat) (t : Lst3), l[i]? = some t → ∃ b fa c : Addr, ws[i]? = some (.ref b) ∧ b ≠ e ∧ P b ∧ ¬ M b ∧ H b = some (.dK (dkv ["fields", "inner"] [.ref fa, .ref c])) ∧ M fa ∧ M c := by
  have h0 := h
  rw [lsD] at h
  cases h with
  | @dic e _ ws _ g pe nd lk r =>
    refine ⟨e, ws, fun b => P b ∧ b ≠ e ∧ (∃ kvs, H b = some (.dK kvs)) ∧ ∃ Q d, At Q H (.ref b) d ∧ (FldD d ∨ ∃ o, d = innD o), rfl, pe, g, nd, lk, fun z => z.2.1 rfl, fun b z => ⟨z.1, z.2.2.1⟩, fun i t hi => ?_⟩
    have hx : (l.map fun t => desD t.fs (innD t.inn))[i]? = some (desD t.fs (innD t.inn)) := by rw [List.getElem?_map, hi]; rfl
    obtain ⟨u, hu, au⟩ := r.get2 hx
    have zx := sizDs_get hx
    have zl : sizD (lsD l) = 1 + sizDs (l.map fun t => desD t.fs (innD t.inn)) := by rw [lsD, sizD]
    have zd : ∀ f i : Dat, sizD (desD f i) = 1 + (sizD f + (sizD i + 0)) := fun f i => by rw [desD, sizD, sizDs, sizDs, sizDs]
    have mt := List.mem_of_getElem? hi
    have ft := (ok.fld t mt).1
    obtain ⟨b, fu, iu, rfl, pb, gb, af, ai⟩ := des_inv au
    have zz := zd t.fs (innD t.inn)
    have ft0 := ft
    obtain ⟨ks, xs, ef, _⟩ := ft
    have af0 := af
    rw [ef] at af
    cases af with
    | @dic fa _ fvs _ gf pf nf lf rf =>
      have ai0 := ai
      obtain ⟨iks, ixs, ei⟩ : ∃ iks ixs, innD t.inn = .dic iks ixs := by
        cases t.inn with
        | none => exact ⟨_, _, rfl⟩
        | some q => obtain ⟨n, g⟩ := q; exact ⟨_, _, rfl⟩
      rw [ei] at ai
      cases ai with
      | @dic c _ cvs _ gc pc nc lc rc =>
        refine ⟨b, fa, c, hu, at_ne au h0 (by omega), pb, fun z => ?_, gb, ⟨pf, at_ne af0 h0 (by omega), ⟨_, gf⟩, _, _, af0, .inl ft0⟩, ⟨pc, at_ne ai0 h0 (by omega), ⟨_, gc⟩, _, _, ai0, .inr ⟨_, rfl⟩⟩⟩
        obtain ⟨_, _, _, Q, d, hd, hd2⟩ := z
        have := At.fn _ _ _ hd au
        subst this
        rcases hd2 with q | ⟨o, q⟩
        · exact fld_des q ft0
        · exact inn_des q.symm
theorem notA {l : List Lst3} (ok : OkL l) : ("A" : Str) ∉ l.flatMap nms := fun h => by
  obtain ⟨t, ht, hz⟩ := List.mem_flatMap.mp h
  have := ok.word t ht _ hz
  revert this
  decide +kernel
end G
set_option Elab.async false
set_option linter.all false
set_option maxRecDepth 100000
set_option maxHeartbeats 400000
namespace G
open PySem L2 Nd
theorem same_dom {H H' : Hp} (h : Same H H') {a : Addr} (n : H a ≠ none) : H' a ≠ none := fun z => n (same_none h z)
theorem nodup_inr : ∀ {zs : List Str}, zs.Nodup → (zs.map (Sum.inr : Str → Key)).Nodup
  | [], _ => .nil
  | z :: zs, h => by
    rw [List.nodup_cons] at h
    rw [List.map_cons, List.nodup_cons]
    refine ⟨fun y => ?_, nodup_inr h.2⟩
    obtain ⟨x, hx, e⟩ := List.mem_map.mp y
    exact h.1 (by rw [← Sum.inr.inj e]; exact hx)
theorem OkL.ndK {l : List Lst3} (ok : OkL l) : ((entsD 2 none (lsD l)).map nmK).Nodup := by
  rw [ents_ls ok.ndn]
  have e : (l.flatMap entsT).map nmK = ((l.flatMap entsT).map Ent.nm).map (Sum.inr : Str → Key) := by rw [List.map_map]; rfl
  rw [e, ents_nm]
  exact nodup_inr ok.nd
theorem OkL.lenE {l : List Lst3} (ok : OkL l) : (l.flatMap entsT).length ≤ 4 := by
  have e : (l.flatMap entsT).length = ((l.flatMap entsT).map Ent.nm).length := by rw [List.length_map]
  rw [e, ents_nm]
  exact ok.len2
theorem tyD {K : PySem.W.Frag} {H : Hp} {p : Addr} {kvs : List (Key × V)} (h : H p = some (.dK kvs)) : tyV K "dict" (.ref p) H := .inr (.inr (.inl ⟨rfl, .inl ⟨_, h⟩⟩))
theorem ents_inn {l : List Lst3} {es : List Ent} (pm : es.Perm (l.flatMap entsT)) : ∀ e ∈ es, e.inn.length ≤ 1 := by
  intro e he
  obtain ⟨t, ht, h⟩ := List.mem_flatMap.mp (pm.mem_iff.mp he)
  rw [entsT] at h
  rcases List.mem_cons.mp h with rfl | h
  · show (inK t).length ≤ 1
    rw [inK]
    cases t.inn with
    | none => exact Nat.zero_le _
    | some q => exact Nat.le_refl _
  · cases hin : t.inn with
    | none => rw [hin] at h; cases h
    | some q =>
      obtain ⟨n, g⟩ := q
      rw [hin] at h
      rw [List.mem_singleton.mp h]
      exact Nat.zero_le _
theorem find_nm {l : List Lst3} {es : List Ent} {k : Str} (ok : OkL l) (pm : es.Perm (l.flatMap entsT)) (h : k ∈ l.flatMap nms) : ∃ e, findE es k = some e ∧ e ∈ es := by
  have nd : (es.map Ent.nm).Nodup := (pm.map Ent.nm).nodup_iff.mpr (by rw [ents_nm]; exact ok.nd)
  have h2 : k ∈ es.map Ent.nm := (pm.map Ent.nm).mem_iff.mpr (by rw [ents_nm]; exact h)
  obtain ⟨e, he, rfl⟩ := List.mem_map.mp h2
  exact ⟨e, find_of nd he, he⟩
theorem find_out {l : List Lst3} {es : List Ent} {k : Str} (pm : es.Perm (l.flatMap entsT)) (h : k ∉ l.flatMap nms) : findE es k = none :=
  find_no fun z => h (by rw [← ents_nm]; exact (pm.map Ent.nm).mem_iff.mp z)
end G
set_option Elab.async false
set_option linter.all false
set_option maxRecDepth 100000
set_option maxHeartbeats 1200000
namespace G
open PySem L2 Nd
section
variable {P : Program} {w : World} {K : PySem.W.Frag} {mg : Str → Option Value} {base : Heap}
theorem ok_law (T : Txt K mg) : FnOk P w K mg base CX0 13 T.f_law T.d_law ["_law_script"] (spLaw K) := by
  have G_l_stream := ok_l_stream (P := P) (w := w) (base := base) T
  have G_l_draw := ok_l_draw (P := P) (w := w) (base := base) T
  have G_l_names := ok_l_names (P := P) (w := w) (base := base) T
  have G_l_lists := ok_l_lists (P := P) (w := w) (base := base) T
  have G_l_word := ok_l_word (P := P) (w := w) (base := base) T
  have G_l_copy : FnOk P w K mg base CX0 8 T.f_l_copy T.d_l_copy ["_law_value"] (spCopy 7) := ok_l_copy T 7
  have G_m_Shape_init := ok_m_Shape_init (P := P) (w := w) (base := base) T
  have G_l_same : FnOk P w K mg base CX0 11 T.f_l_same T.d_l_same ["_law_actual", "_law_expected"] (spSameD 10) := ok_l_sameD T 10
  have G_l_about := ok_l_about (P := P) (w := w) (base := base) T
  have G_l_missing := ok_l_missing (P := P) (w := w) (base := base) T
  have G_l_told := ok_l_told (P := P) (w := w) (base := base) T
  have G_m_Shape_outer := ok_m_Shape_outer (P := P) (w := w) (base := base) T
  have G_m_Shape_inner := ok_m_Shape_inner (P := P) (w := w) (base := base) T
  have G_m_Shape_fields := ok_m_Shape_fields (P := P) (w := w) (base := base) T
  refine T.F_law.ok sc_law (fun vs H Q E h => ?_) (fun cdv A outer s H vs Q E hr h => ?_)
  · obtain ⟨_, _, rfl, _⟩ := h
    rfl
  · obtain ⟨a, ns, rfl, hS, hl, k⟩ := h
    refine ⟨_, (pss_cons (ps_set (i := 1) sc_law.nd rfl (Or.inl rfl) (pe_call G_l_stream (hr.mono (by omega)) rfl T.g_l_stream T.F_l_stream.kp T.b_l_stream .nil pass0 (pa_cons (pv 0) pa_nil)))
        (pss_cons (ps_set (i := 2) sc_law.nd rfl (Or.inl rfl) (pe_call G_l_names (hr.mono (by omega)) rfl T.g_l_names T.F_l_names.kp T.b_l_names .nil pass0 (pa_cons (pv 1) (pa_cons (pe_call G_l_draw (hr.mono (by omega)) rfl T.g_l_draw T.F_l_draw.kp T.b_l_draw .nil pass0 (pa_cons (pv 1) (pa_cons pe_int pa_nil))) (pa_cons (pe_lst pa_nil) pa_nil)))))
        (pss_cons (ps_set (i := 3) sc_law.nd rfl (Or.inl rfl) (pe_call G_l_lists (hr.mono (by omega)) rfl T.g_l_lists T.F_l_lists.kp T.b_l_lists .nil pass0 (pa_cons (pv 1) (pa_cons pe_int pa_nil))))
        (pss_cons (ps_set (i := 4) sc_law.nd rfl (Or.inl rfl) (pe_lst (pa_cons (pe_callTy call_list_of (by rfl) T.z_list (by decide +kernel) (pa_cons (pv 2) pa_nil)) (pa_cons (pe_call G_l_copy (hr.mono (by omega)) rfl T.g_l_copy T.F_l_copy.kp T.b_l_copy .nil pass0 (pa_cons (pv 3) pa_nil)) pa_nil))))
        (pss_cons (ps_set (i := 5) sc_law.nd rfl (Or.inl rfl) (pe_make T.mk_Shape G_m_Shape_init (hr.mono (by omega)) rfl T.gC_Shape T.b_m_Shape_init .nil pass0 (pa_cons (pe_ix ix_list (pv 4) pe_int (fun _ _ => rfl)) (pa_cons (pe_ix ix_list (pv 4) pe_int (fun _ _ => rfl)) pa_nil))))
        (pss_cons (ps_if (pt_not (pt_val (pe_call G_l_same (hr.mono (by omega)) rfl T.g_l_same T.F_l_same.kp T.b_l_same .nil pass0 (pa_cons (pv 4) (pa_cons (pe_lst (pa_cons (pv 2) (pa_cons (pv 3) pa_nil))) pa_nil)))))
          (pss_one (ps_ret pe_bl))
          pss_nil)
        (pss_cons (ps_expr (pe_bm0 PySem.F.plainAttrs_list PySem.F.slot_list_clear PySem.F.type_list_clear mt_clear (pe_ix ix_list (pv 4) pe_int (fun _ _ => rfl))))
        (pss_cons (ps_lock (ps_for PassesOwn.never rfl (pi_keys (pv 3)) (pg_name (i := 6) sc_law.nd rfl (Or.inl rfl))
          (pss_cons (ps_expr (pe_dclear (pe_dget (hu_of hr) (pe_dget (hu_of hr) (pe_ix ix_list (pv 4) pe_int (fun _ _ => rfl)) (pv 6) (fun _ _ => rfl)) pe_str (fun _ _ => rfl))))
          (pss_one (ps_expr (pe_dclear (pe_dget (hu_of hr) (pe_dget (hu_of hr) (pe_ix ix_list (pv 4) pe_int (fun _ _ => rfl)) (pv 6) (fun _ _ => rfl)) pe_str (fun _ _ => rfl))))))))
        (pss_cons (ps_expr (pe_dclear (pe_ix ix_list (pv 4) pe_int (fun _ _ => rfl))))
        (pss_cons (ps_set (i := 7) sc_law.nd rfl (Or.inl rfl) (pe_call G_l_word (hr.mono (by omega)) rfl T.g_l_word T.F_l_word.kp T.b_l_word .nil pass0 (pa_cons (pv 1) pa_nil)))
        (Evl.pss_cut (ps_if (pt_cmp (pc_din (hu_of hr) (pv 7) (pe_call G_l_about (hr.mono (by omega)) rfl T.g_l_about T.F_l_about.kp T.b_l_about .nil pass0 (pa_cons (pv 3) pa_nil))))
          (pss_one (ps_set (i := 7) sc_law.nd rfl (Or.inl rfl) pe_str))
          pss_nil)
        (pss_cons (ps_for PassesOwn.never rfl (pi_range1 rfl T.z_range (pa_cons pe_int pa_nil)) (pg_name (i := 8) sc_law.nd rfl (Or.inl rfl))
          (pss_one (ps_if (pt_not (pt_val (pe_call G_l_missing (hr.mono (by omega)) rfl T.g_l_missing T.F_l_missing.kp T.b_l_missing .nil pass0 (pa_cons (pv 5) (pa_cons (pv 7) (pa_cons (pv 8) pa_nil))))))
            (pss_one (ps_ret pe_bl))
            pss_nil)))
        (pss_cons (ps_if (PW.pt (pw_or (pt_not (pt_val (pe_call G_l_same (hr.mono (by omega)) rfl T.g_l_same T.F_l_same.kp T.b_l_same .nil pass0 (pa_cons (pe_fld (pv 5) rfl) (pa_cons (pe_callTy call_tuple_of (by rfl) T.z_tuple (by decide +kernel) (pa_cons (pe_callB cr_sortedS (by rfl) T.z_sorted (by decide +kernel) (pa_cons (pv 2) pa_nil)) pa_nil)) pa_nil))))) (pw_or1 (pt_not (pt_val (pe_call G_l_same (hr.mono (by omega)) rfl T.g_l_same T.F_l_same.kp T.b_l_same .nil pass0 (pa_cons (pe_meth0 (pv 5) T.cl_Shape T.me_m_Shape_outer G_m_Shape_outer (hr.mono (by omega)) T.b_m_Shape_outer .nil pass0) (pa_cons (pe_callB (call_sortedD rfl) (by rfl) T.z_sorted (by decide +kernel) (pa_cons (pv 3) pa_nil)) pa_nil))))))))
          (pss_one (ps_ret pe_bl))
          pss_nil)
        (pss_cons (ps_if (pt_not (pt_val (pe_call G_l_told (hr.mono (by omega)) rfl T.g_l_told T.F_l_told.kp T.b_l_told .nil pass0 (pa_cons (pv 5) (pa_cons (pv 3) pa_nil)))))
          (pss_one (ps_ret pe_bl))
          pss_nil)
        (pss_cons (ps_expr (pe_bm PySem.F.plainAttrs_list PySem.F.slot_list_append PySem.F.type_list_append mt_append (pe_meth0 (pv 5) T.cl_Shape T.me_m_Shape_outer G_m_Shape_outer (hr.mono (by omega)) T.b_m_Shape_outer .nil pass0) (pa_cons pe_str pa_nil)))
        (pss_cons (ps_for PassesOwn.never rfl (pi_keys (pe_fz (pe_call G_l_about (hr.mono (by omega)) rfl T.g_l_about T.F_l_about.kp T.b_l_about .nil pass0 (pa_cons (pv 3) pa_nil)))) (pg_name (i := 6) sc_law.nd rfl (Or.inl rfl))
          (pss_cons (ps_expr (pe_dclear (pe_meth (pv 5) T.cl_Shape T.me_m_Shape_fields G_m_Shape_fields (hr.mono (by omega)) T.b_m_Shape_fields .nil passL (pa_cons (pv 6) pa_nil))))
          (pss_one (ps_expr (pe_bm PySem.F.plainAttrs_list PySem.F.slot_list_append PySem.F.type_list_append mt_append (pe_meth (pv 5) T.cl_Shape T.me_m_Shape_inner G_m_Shape_inner (hr.mono (by omega)) T.b_m_Shape_inner .nil passL (pa_cons (pv 6) pa_nil)) (pa_cons pe_str pa_nil))))))
        (pss_cons (ps_if (PW.pt (pw_or (pt_not (pt_val (pe_call G_l_same (hr.mono (by omega)) rfl T.g_l_same T.F_l_same.kp T.b_l_same .nil pass0 (pa_cons (pe_meth0 (pv 5) T.cl_Shape T.me_m_Shape_outer G_m_Shape_outer (hr.mono (by omega)) T.b_m_Shape_outer .nil pass0) (pa_cons (pe_callB (call_sortedD rfl) (by rfl) T.z_sorted (by decide +kernel) (pa_cons (pv 3) pa_nil)) pa_nil))))) (pw_or1 (pt_not (pt_val (pe_call G_l_missing (hr.mono (by omega)) rfl T.g_l_missing T.F_l_missing.kp T.b_l_missing .nil pass0 (pa_cons (pv 5) (pa_cons (pv 7) (pa_cons pe_int pa_nil)))))))))
          (pss_one (ps_ret pe_bl))
          pss_nil)
        (pss_one (ps_ret (pe_call G_l_told (hr.mono (by omega)) rfl T.g_l_told T.F_l_told.kp T.b_l_told .nil pass0 (pa_cons (pv 5) (pa_cons (pv 3) pa_nil)))))))))))))))))))))), ?_⟩
    have bg : 100 < sizeLine := by decide +kernel
    refine ⟨_, rfl, a, ns, rfl, hS, hl, fun st cs H1 S1 s1 => ?_⟩
    refine ⟨_, rfl, _, rfl, st, cs, 3, rfl, S1, by decide, by decide, fun r H2 a1 b1 S2 R2 => ?_⟩
    obtain ⟨m, rfl⟩ : ∃ m : Nat, r = (m : Int) := ⟨_, (Int.toNat_of_nonneg a1).symm⟩
    refine ⟨Nat.zero_le _, fun tk htk => ?_⟩
    refine ⟨st, cs, tk, m, [], rfl, S2.upd htk, upd_same, S2.mut.new htk, by simp; omega, fun fa zs H3 lz wz nz _ hfa0 hfa S3 R3 => ?_⟩
    have nfa : fa ∉ [st, cs] := (S2.upd htk).mut.new hfa0
    refine ⟨_, rfl, st, cs, rfl, S3, fun e l H4 he0 ok ae S4 R4 => ?_⟩
    have hfa4 := R4 _ _ hfa nfa
    have ae4 := At.dom _ _ ae
    have fP : ∀ b, H3 b = none ∧ H4 b ≠ none → b ∉ [st, cs] := fun b z => S3.mut.new z.1
    refine ⟨_, rfl, fa, _, rfl, .inl (SqL.of hfa4), fun pf hpf => ?_⟩
    have s45 := same_add (o := HO.lst (zs.map V.str)) hpf
    refine ⟨_, rfl, .ref e, _, lsD l, rfl, ae4.same s45, ok.sm, by have := ok.dep; omega, fun v' H5 s5 av => ?_⟩
    refine ⟨by show 2 ≤ sizeLine; decide, fun pa hpa => ?_⟩
    have s56 := same_add (o := HO.lst [.ref pf, v']) hpa
    refine ⟨_, rfl, pa, _, 0, _, rfl, rfl, SqL.of upd_same, rfl, _, rfl, pa, _, 1, _, rfl, rfl, SqL.of upd_same, rfl, fun x dx hx hdx nx => ?_⟩
    have e67 : Same (upd H5 pa (.lst [.ref pf, v'])) (upd (upd (upd H5 pa (.lst [.ref pf, v'])) dx (.own x)) x (.ins T.C_Shape dx [])) := fun b o q => by
      rw [upd_ne (ne_of_none q hx), upd_ne (ne_of_none q hdx)]; exact q
    have hpf6 : (upd H5 pa (.lst [.ref pf, v'])) pf = some (.lst (zs.map V.str)) := s56 _ _ (s5 _ _ upd_same)
    refine ⟨x, dx, .ref pf, v', upd H5 pa (.lst [.ref pf, v']), fun _ => True, _, zs, lsD l, rfl, upd_same, hx, fun b z => same_none e67 z, .lst (e67 _ _ hpf6) trivial (ats_strs zs), words_of (lo := 0) (hi := 2) (Nat.zero_le _) (by omega) wz nz, (av.same s56).same e67, ok.ls, by rw [names_ls]; exact ok.nd, by rw [names_ls]; have := ok.len2; omega, ok.ndK, by rw [ents_ls ok.ndn]; have := ok.lenE; omega, fun H8 fls es sm8 pfl sfl pes sh8 => ?_⟩
    rw [ents_ls ok.ndn] at pes
    have e68 : Same (upd H5 pa (.lst [.ref pf, v'])) H8 := fun b o q => sm8 _ _ (e67 _ _ q) (by rw [List.mem_singleton]; exact ne_of_none q hx)
    have e58 := s56.trans e68
    have e48 := (s45.trans s5).trans e58
    have h4pa : H4 pa = none := same_none (s45.trans s5) hpa
    have nppf : pa ≠ pf := Ne.symm (ne_of_none (s5 _ _ upd_same) hpa)
    have s46 := (s45.trans s5).trans s56
    have hpa8 : H8 pa = some (.lst [.ref pf, v']) := e68 _ _ upd_same
    have hpf8 := e68 _ _ hpf6
    have dom8 : ∀ {b : Addr} {o : HO}, H8 b = some o → H8 b ≠ none := fun q z => by rw [q] at z; cases z
    refine ⟨rfl, _, rfl, _, rfl, _, rfl, by show 2 ≤ sizeLine; decide, fun q hq => ?_⟩
    have s89 := same_add (o := HO.lst [.ref fa, .ref e]) hq
    have av8 : At (fun b => H4 b = none ∧ (upd H5 pa (.lst [.ref pf, v'])) b ≠ none ∧ b ≠ pf ∧ b ≠ pa) H8 v' (lsD l) := by
      refine ((At.dom _ _ av).same e58).weak fun b z => ⟨same_none s45 z.1, same_dom s56 z.2, fun y => ?_, fun y => ?_⟩
      · rw [y, upd_same] at z; exact nomatch z.1
      · rw [y] at z; exact z.2 hpa
    have at1 : At (fun b => H4 b = none ∧ H8 b ≠ none) (upd H8 q (.lst [.ref fa, .ref e])) (.ref pa) (.lst [.lst (zs.map Dat.str), lsD l]) :=
      .lst (s89 _ _ hpa8) ⟨h4pa, dom8 hpa8⟩ (.cons (.lst (s89 _ _ hpf8) ⟨hpf, dom8 hpf8⟩ (ats_strs zs)) (.cons ((av8.weak fun b z => ⟨z.1, same_dom e68 z.2.1⟩).same s89) .nil))
    refine ⟨_, _, rfl, .inr ⟨_, _, _, at1, .lst upd_same (fun z => z.2 hq) (.cons (.lst (s89 _ _ (e48 _ _ hfa4)) (fun z => by rw [hfa4] at z; exact nomatch z.1) (ats_strs zs)) (.cons (((ae4.same e48).same s89).weak fun b z y => z.2 y.1) .nil)), sim_at 10 _ _ at1 ?_⟩, fun H10 s10 => ⟨true, rfl, ifF ?_⟩⟩
    · have d1 := dep_strs zs
      have d2 := ok.dep
      rw [depD, depDs, depDs, depDs, depD]
      omega
    have e810 := s89.trans s10
    have e410 := e48.trans e810
    obtain ⟨e', ws', M, rfl, pe', ge', nd', lk', nMe, hM, row'⟩ := copy_clr (av8.same e810) ok
    obtain ⟨e1, ws, z1, pe, ge, nd, lk, row⟩ := row_at (ae4.same e410)
    cases z1
    have hpf10 := e810 _ _ hpf8
    have hpa10 := e810 _ _ hpa8
    refine ⟨_, rfl, pa, _, 0, _, rfl, rfl, SqL.of hpa10, rfl, .inl ⟨rfl, _, SqL.of hpf10⟩, pf, _, rfl, rfl, hpf10, ?_⟩
    have npe : e ≠ pf := fun z => by rw [z] at pe; exact pe.2 hpf
    have nee : e ≠ e' := fun z => by rw [z] at pe; exact pe.2 pe'.1
    have ge11 : (upd H10 pf (.lst [])) e = some (.dK (dkv (l.map Lst3.nm) ws)) := by rw [upd_ne npe]; exact ge
    have nMe2 : ¬ M e := fun z => pe.2 (hM e z).1.1
    refine ⟨e, _, ge11, True.intro, fun od => ?_⟩
    have k12 : ∀ b o, H10 b = some o → b ≠ pf → b ≠ e → (upd (upd H10 pf (.lst [])) e (.frz od (.dK (dkv (l.map Lst3.nm) ws)))) b = some o := fun b o h z1 z2 => by rw [upd_ne z2, upd_ne z1]; exact h
    refine ⟨_, rfl, e, od, rfl, .inl ⟨_, upd_same, for_it walk_keys (fun i σ H13 => ∃ (c6 : Option V), σ = [some (.ref a), some (.ref st), some (.ref fa), some (.ref e), some (.ref pa), some (.ref x), c6, none, none] ∧
        (∀ b o, (upd (upd H10 pf (.lst [])) e (.frz od (.dK (dkv (l.map Lst3.nm) ws)))) b = some o → ¬ M b → H13 b = some o) ∧ ∀ b, M b → ∃ kvs, H13 b = some (.dK kvs))
      ⟨_, rfl, fun b o h _ => h, fun b mb => ?_⟩ (fun _ _ _ _ ⟨_, _, z, _⟩ => z _ _ upd_same nMe2) ?_ ?_⟩⟩
    · obtain ⟨⟨y1, _, y2, _⟩, kvs, hk⟩ := hM b mb
      exact ⟨kvs, k12 _ _ hk y2 (fun z => pe.2 (by rw [← z]; exact y1))⟩
    · rintro i y σ H14 H13 hi ⟨c6, rfl, g1, g2⟩ ⟨rfl, kq, kv, hg, rfl⟩
      obtain ⟨kk, rfl, k1, _⟩ := dkv_get hg
      have k1' := k1
      rw [List.getElem?_map] at k1
      obtain ⟨t, ht, rfl⟩ := Option.map_eq_some_iff.mp k1
      obtain ⟨b, fi, c, hb, nbe, ⟨pb1, _, pb2, _⟩, nMb, gb, mf, mc⟩ := row' i t ht
      have nef : ∀ b, H4 b = none → b ≠ e := fun b h z => pe.2 (by rw [← z]; exact h)
      have pa13 := g1 pa _ (k12 _ _ hpa10 nppf (nef _ h4pa)) (fun z => (hM _ z).1.2.2.2 rfl)
      have e13 := g1 e' _ (k12 _ _ ge' pe'.2.2.1 (Ne.symm nee)) nMe
      have b13 := g1 b _ (k12 _ _ gb pb2 (nef _ pb1)) nMb
      have rd : ∀ {H9 : Hp}, H9 e' = some (.dK (dkv (l.map Lst3.nm) ws')) → DGet H9 e' (.str t.nm) (some (.ref b)) := fun h9 => .inl ⟨_, .inr t.nm, .inl h9, rfl, by rw [valV_dkv, lookD_at nd' k1' hb]⟩
      obtain ⟨kf, hf13⟩ := g2 fi mf
      refine ⟨_, rfl, pa, _, 1, _, rfl, rfl, SqL.of pa13, rfl, _, rfl, e', _, rfl, rd e13, b, _, rfl, dget_f b13, tyD hf13, fi, _, rfl, rfl, hf13, ?_⟩
      have nM : ∀ {b : Addr}, ¬ M b → b ≠ fi := fun h z => h (by rw [z]; exact mf)
      have nM2 : ∀ {b : Addr}, ¬ M b → b ≠ c := fun h z => h (by rw [z]; exact mc)
      have nMpa : ¬ M pa := fun z => (hM _ z).1.2.2.2 rfl
      obtain ⟨kc, hc14⟩ : ∃ kc, (upd H13 fi (.dK [])) c = some (.dK kc) := by
        by_cases z : c = fi
        · rw [z, upd_same]; exact ⟨_, rfl⟩
        · rw [upd_ne z]; exact g2 c mc
      have pa14 : (upd H13 fi (.dK [])) pa = some (.lst [.ref pf, .ref e']) := by rw [upd_ne (nM nMpa)]; exact pa13
      have b14 : (upd H13 fi (.dK [])) b = some (.dK (dkv ["fields", "inner"] [.ref fi, .ref c])) := by rw [upd_ne (nM nMb)]; exact b13
      have e14 : (upd H13 fi (.dK [])) e' = some (.dK (dkv (l.map Lst3.nm) ws')) := by rw [upd_ne (nM nMe)]; exact e13
      refine ⟨_, rfl, pa, _, 1, _, rfl, rfl, SqL.of pa14, rfl, _, rfl, e', _, rfl, rd e14, b, _, rfl, dget_i b14, tyD hc14, c, _, rfl, rfl, hc14, ?_⟩
      refine ⟨_, rfl, fun b o h nb => ?_, fun b mb => ?_⟩
      · rw [upd_ne (nM2 nb), upd_ne (nM nb)]; exact g1 b o h nb
      · by_cases z : b = c
        · rw [z, upd_same]; exact ⟨_, rfl⟩
        · rw [upd_ne z]
          by_cases z2 : b = fi
          · rw [z2, upd_same]; exact ⟨_, rfl⟩
          · rw [upd_ne z2]; exact g2 b mb
    rintro σ H13 ⟨c6, rfl, g1, g2⟩
    refine ⟨g1 _ _ upd_same nMe2, ?_⟩
    have nef : ∀ b, H4 b = none → b ≠ e := fun b h z => pe.2 (by rw [← z]; exact h)
    have pa13 := g1 pa _ (k12 _ _ hpa10 nppf (nef _ h4pa)) (fun z => (hM _ z).1.2.2.2 rfl)
    have e13 := g1 e' _ (k12 _ _ ge' pe'.2.2.1 (Ne.symm nee)) nMe
    have npae : pa ≠ e := nef _ h4pa
    have e16 : (upd H13 e (.dK (dkv (l.map Lst3.nm) ws))) e' = some (.dK (dkv (l.map Lst3.nm) ws')) := by rw [upd_ne (Ne.symm nee)]; exact e13
    have pa16 : (upd H13 e (.dK (dkv (l.map Lst3.nm) ws))) pa = some (.lst [.ref pf, .ref e']) := by rw [upd_ne npae]; exact pa13
    refine ⟨_, rfl, pa, _, 1, _, rfl, rfl, SqL.of pa16, rfl, tyD e16, e', _, rfl, rfl, e16, ?_⟩
    have s417 : Same H4 (upd (upd H13 e (.dK (dkv (l.map Lst3.nm) ws))) e' (.dK [])) := fun b o h => by
      have n1 : b ≠ e' := fun z => by rw [z, pe'.1] at h; cases h
      rw [upd_ne n1]
      by_cases z : b = e
      · subst z
        rw [upd_same]
        have := e410 _ _ h
        rw [ge] at this
        exact this
      · rw [upd_ne z]
        exact g1 b o (k12 _ _ (e410 _ _ h) (ne_of_none h hpf) z) (fun y => by rw [(hM b y).1.1] at h; cases h)
    have n817 : New (upd H5 pa (.lst [.ref pf, .ref e'])) H8 (upd (upd H13 e (.dK (dkv (l.map Lst3.nm) ws))) e' (.dK [])) := by
      refine ⟨fun b o h h6 => ?_, fun b xs h => ?_⟩
      · have n1 : b ≠ e' := fun z => by subst z; exact pe'.2.1 h6
        have n2 : b ≠ e := fun z => by subst z; exact same_dom s46 pe.2 h6
        have n3 : b ≠ pf := fun z => by rw [z, hpf6] at h6; cases h6
        rw [upd_ne n1, upd_ne n2]
        exact g1 b o (k12 _ _ (e810 _ _ h) n3 n2) (fun y => (hM b y).1.2.1 h6)
      · have h10 := e810 _ _ h
        have n1 : b ≠ e' := fun z => by rw [z, ge'] at h10; cases h10
        have n2 : b ≠ e := fun z => by rw [z, ge] at h10; cases h10
        have n3 : b ≠ pf := fun z => by rw [z, hpf10] at h10; cases h10
        rw [upd_ne n1, upd_ne n2]
        refine g1 b _ (k12 _ _ h10 n3 n2) fun y => ?_
        obtain ⟨_, kvs, hk⟩ := hM b y
        rw [h10] at hk
        cases hk
    generalize hH17 : upd (upd H13 e (.dK (dkv (l.map Lst3.nm) ws))) e' (.dK []) = H17 at s417 n817 ⊢
    have S17 : Stm H17 st cs := S4.keep (fun o q => s417 _ _ q) (fun o q => s417 _ _ q)
    refine ⟨_, rfl, st, cs, rfl, S17, fun z H18 wz2 S18 R18 => ?_⟩
    have hfa18 := R18 _ _ (s417 _ _ hfa4) nfa
    have ae18 := At.keep (Kd.sm S17.mut R18 fP) _ _ (ae4.same s417)
    have sh18 : ShpAt T.C_Shape (upd H5 pa (.lst [.ref pf, .ref e'])) H18 x fls es := (sh8.new n817).new ⟨fun b o h h6 => R18 _ _ h (fun z => by
      obtain ⟨ys, hy⟩ := S4.mut b z
      rw [s46 _ _ hy] at h6
      cases h6), S17.mut.tup R18⟩
    have hP6 : ∀ b, H3 b = none ∧ H4 b ≠ none → (upd H5 pa (.lst [.ref pf, .ref e'])) b ≠ none := fun b z => same_dom s46 z.2
    generalize upd H5 pa (.lst [.ref pf, .ref e']) = H6 at sh18 hP6
    obtain ⟨e2, ws2, z2, _, ge18, nd18, lk18, _⟩ := row_at ae18
    cases z2
    have ff := ents_fld ok pes
    have lz2 : zs.length ≤ 2 := by omega
    have les : es.length ≤ 4 := by have := pes.length_eq; have := ok.lenE; omega
    have nde : (es.map Ent.nm).Nodup := (pes.map Ent.nm).nodup_iff.mpr (by rw [ents_nm]; exact ok.nd)
    have lnm : (l.map Lst3.nm).length < 64 := by rw [List.length_map]; have := ok.len; omega
    clear hH17 n817 s417 g1 g2 k12 row' hM row at1 av8 av sm8 e67 S17 R18
    refine ⟨fun σ H20 => ∃ o : Str, σ = [some (.ref a), some (.ref st), some (.ref fa), some (.ref e), some (.ref pa), some (.ref x), c6, some (.str o), none] ∧ o ∉ l.flatMap nms ∧ Same H18 H20, ?_, ?_⟩
    · refine ⟨_, rfl, _, rfl, .ref e, _, l, rfl, ae18, ok, fun p1 us H19 s19 hp1 h19 lu => ?_⟩
      refine ⟨p1, _, rfl, DGet.k (k := .inr z) h19, _, rfl, ?_⟩
      rw [valV_dkv, look_some lu]
      cases hz : decide (z ∈ l.flatMap nms) with
      | true => exact ifT ⟨"A", rfl, notA ok, s19⟩
      | false => exact ifF ⟨z, rfl, of_decide_eq_false hz, s19⟩
    rintro σ H20 ⟨o, rfl, ho, s20⟩
    have no := find_out pes ho
    refine ⟨3, rfl, by decide, by decide, for_it walk_range0 (fun i σ H21 => ∃ c8 : Option V, σ = [some (.ref a), some (.ref st), some (.ref fa), some (.ref e), some (.ref pa), some (.ref x), c6, some (.str o), c8] ∧ Same H18 H21) ⟨_, rfl, s20⟩ (fun _ _ _ _ _ => True.intro) ?_ ?_⟩
    · rintro i y σ H22 H21 hi ⟨c8, rfl, s21⟩ ⟨rfl, rfl⟩
      refine ⟨_, rfl, _, rfl, _, rfl, x, o, (i : Int), _, fls, es, rfl, sh18.new (New.same s21), ff, no, fun H23 s23 => ⟨true, rfl, ifF ?_⟩⟩
      exact ⟨_, rfl, s21.trans s23⟩
    rintro σ H21 ⟨c8, rfl, s21⟩
    have sh180 := sh18
    obtain ⟨dx2, ft, kd, kvs, hx18, hft18, _⟩ := sh180
    refine ⟨_, rfl, x, T.C_Shape, dx2, _, _, rfl, s21 _ _ hx18, T.cl_Shape, T.n_Shape_flags, shF_flags ft kd, _, rfl, fa, zs, rfl, SqL.of (s21 _ _ hfa18), by omega, fun ys sl py sy hsl => ?_⟩
    refine ⟨sl, _, rfl, .inl ⟨SqL.of upd_same, fun t2 ht2 => ?_⟩⟩
    have ey : ys = fls := sorted_eq (sorted_pw sy) (sorted_pw sfl) (py.trans pfl.symm)
    subst ey
    have s22 := (same_add (o := HO.lst (ys.map V.str)) hsl).trans (same_add (o := HO.tup (ys.map V.str)) ht2)
    refine ⟨_, _, rfl, smv_tup (zs := ys) (s22 _ _ (s21 _ _ hft18)) upd_same, fun H23 s23 => ⟨true, rfl, ifF ?_⟩⟩
    have s1823 := s21.trans (s22.trans s23)
    refine ⟨_, rfl, x, dx2, _, rfl, s1823 _ _ hx18, shF_no ft kd (m := "outer") (by decide +kernel) (by decide +kernel), x, _, ys, es, rfl, sh18.new (New.same s1823), by omega, nde, fun ys2 l2 H24 s24 hl2 py2 sy2 hl24 => ?_⟩
    have s1824 := s1823.trans s24
    refine ⟨_, rfl, e, _, l.map Lst3.nm, rfl, .inl (s1824 _ _ ge18), dkv_fst lk18, lnm, fun ys3 p3 py3 sy3 hp3 => ?_⟩
    refine ⟨_, _, rfl, smv_lst (zs := ys3) (by rw [upd_ne (ne_of_none hl24 hp3), hl24, outer_eq ok pes py2 sy2 py3 sy3]) upd_same (ne_of_none hl24 hp3), fun H25 s25 => ⟨true, rfl, ifF ?_⟩⟩
    have s1825 := (s1824.trans (same_add hp3)).trans s25
    refine ⟨_, rfl, _, rfl, x, .ref e, _, _, ys, l, es, rfl, sh18.new (New.same s1825), ff, ae18.same s1825, hP6, pes, ok, fun H26 s26 => ⟨true, rfl, ifF ?_⟩⟩
    have s1826 := s1825.trans s26
    refine ⟨_, rfl, x, dx2, _, rfl, s1826 _ _ hx18, shF_no ft kd (m := "outer") (by decide +kernel) (by decide +kernel), x, _, ys, es, rfl, sh18.new (New.same s1826), by omega, nde, fun ys4 l4 H27 s27 hl4 py4 sy4 hl47 => ?_⟩
    refine ⟨.inl ⟨rfl, _, SqL.of hl47⟩, l4, _, _, rfl, rfl, hl47, ?_, ?_⟩
    · rw [List.length_map]
      have l1 := List.length_filter_le (fun y => decide ((findE es y).bind Ent.par = none)) ys4
      have l2 := py4.length_eq
      rw [List.length_map] at l2
      omega
    have s1828 : Same H18 (upd H27 l4 (.lst (((ys4.filter fun y => decide ((findE es y).bind Ent.par = none)).map V.str) ++ [.str "zz"]))) := same_new (s1826.trans s27) (same_none s1826 hl4)
    refine ⟨_, rfl, .ref e, _, l, rfl, ae18.same s1828, ok, fun p5 us5 H29 s29 hp5 h29 lu5 => ?_⟩
    refine ⟨p5, _, rfl, h29, True.intro, fun od5 => ⟨p5, od5, rfl, .inl ⟨_, upd_same, for_it walk_keys (fun i σ H30 => ∃ c6 c8 : Option V, σ = [some (.ref a), some (.ref st), some (.ref fa), some (.ref e), some (.ref pa), some (.ref x), c6, some (.str o), c8] ∧ Same H18 H30 ∧ H30 p5 = some (.frz od5 (.dK (dkv (l.flatMap nms) us5))))
      ⟨_, _, rfl, same_new (s1828.trans s29) (same_none s1828 hp5), upd_same⟩ (fun _ _ _ _ ⟨_, _, _, _, z⟩ => z) ?_ ?_⟩⟩⟩
    · rintro i y σ H31 H30 hi ⟨c6', c8', rfl, s30, h30⟩ ⟨rfl, kq, kv, hg, rfl⟩
      obtain ⟨kk, rfl, k1, _⟩ := dkv_get hg
      obtain ⟨e5, f5, m5⟩ := find_nm ok pes (List.mem_of_getElem? k1)
      refine ⟨_, rfl, x, dx2, _, rfl, s30 _ _ hx18, shF_no ft kd (m := "fields") (by decide +kernel) (by decide +kernel), _, rfl, x, kk, _, ys, es, rfl, sh18.new (New.same s30), ff, (fun e' l6 kv6 fe hl6 at6 => ?_), (fun fe => by rw [f5] at fe; cases fe)⟩
      refine ⟨tyD upd_same, l6, _, rfl, rfl, upd_same, ?_⟩
      have s31 : Same H30 (upd (upd H30 l6 (.dK kv6)) l6 (.dK [])) := same_new (same_add hl6) hl6
      have s1831 := s30.trans s31
      refine ⟨_, rfl, x, dx2, _, rfl, s1831 _ _ hx18, shF_no ft kd (m := "inner") (by decide +kernel) (by decide +kernel), _, rfl, x, kk, _, ys, es, rfl, sh18.new (New.same s1831), (fun e' l7 fe hl7 => ?_), (fun fe => by rw [f5] at fe; cases fe)⟩
      rw [f5] at fe
      cases fe
      have i5 := ents_inn pes e5 m5
      refine ⟨.inl ⟨rfl, _, SqL.of upd_same⟩, l7, _, _, rfl, rfl, upd_same, by rw [List.length_map]; omega, ?_⟩
      have s32 : Same (upd (upd H30 l6 (.dK kv6)) l6 (.dK [])) (upd (upd (upd (upd H30 l6 (.dK kv6)) l6 (.dK [])) l7 (.lst (e5.inn.map V.str))) l7 (.lst (e5.inn.map V.str ++ [.str "zz"]))) := same_new (same_add hl7) hl7
      exact ⟨_, _, rfl, s1831.trans s32, s32 _ _ (s31 _ _ h30)⟩
    rintro σ H30 ⟨c6', c8', rfl, s30, _⟩
    refine ⟨_, rfl, x, dx2, _, rfl, s30 _ _ hx18, shF_no ft kd (m := "outer") (by decide +kernel) (by decide +kernel), x, _, ys, es, rfl, sh18.new (New.same s30), by omega, nde, fun ys6 l6 H34 s34 hl6 py6 sy6 hl64 => ?_⟩
    have s1834 := s30.trans s34
    refine ⟨_, rfl, e, _, l.map Lst3.nm, rfl, .inl (s1834 _ _ ge18), dkv_fst lk18, lnm, fun ys7 p7 py7 sy7 hp7 => ?_⟩
    refine ⟨_, _, rfl, smv_lst (zs := ys7) (by rw [upd_ne (ne_of_none hl64 hp7), hl64, outer_eq ok pes py6 sy6 py7 sy7]) upd_same (ne_of_none hl64 hp7), fun H35 s35 => ⟨true, rfl, ifF ?_⟩⟩
    have s1835 := (s1834.trans (same_add hp7)).trans s35
    refine ⟨_, rfl, _, rfl, x, o, 1, _, ys, es, rfl, sh18.new (New.same s1835), ff, no, fun H36 s36 => ⟨true, rfl, ifF ?_⟩⟩
    have s1836 := s1835.trans s36
    exact ⟨_, rfl, _, rfl, x, .ref e, _, _, ys, l, es, rfl, sh18.new (New.same s1836), ff, ae18.same s1836, hP6, pes, ok, fun H37 s37 => k _⟩

end
end G
set_option linter.all false
namespace G
open PySem L2 Nd
theorem fin {P : Program} {w : World} {K : PySem.W.Frag} {mg : Str → Option Value} {fa f_law : Addr} (hfa : mg "law" = some (.ref fa)) (h : ∃ T : Txt K mg, T.f_law = f_law ∧ ∀ (s : Shared) (v : Value), BindsTo s T.d_law ⟨[v], []⟩ [("_law_script", v)]) :
    ∃ fd : FuncData, (∀ (s : Shared) (v : Value), BindsTo s fd ⟨[v], []⟩ [("_law_script", v)]) ∧ ∀ base : Heap, K.In base → base.Ns mainGlobals mg → FnOk P w K mg base CX0 13 fa fd ["_law_script"] (spLaw K) := by
  obtain ⟨T, e, hb⟩ := h
  have q := T.g_law
  rw [hfa] at q
  cases q
  exact ⟨T.d_law, hb, fun base _ _ => ok_law T⟩
end G
open PySem PySem.W PyProof.Rows
set_option Elab.async false
set_option maxRecDepth 100000
set_option maxHeartbeats 0
open_top hd01 for PySem.Challenge.rw_statestay_k01_shape_parts
open PySem PySem.W PyProof.Rows
set_option maxRecDepth 100000 in
set_option maxHeartbeats 0 in
theorem PySem.Challenge.cw_statestay_k01_shape_parts_holds : PySem.Challenge.rw_statestay_k01_shape_parts.Holds := by
  refine hd01 ?_
  k_fill
  refine L2.walk_of (n := 63) (k := 13) (x := "_law_script") (CX := fun _ => L2.CX0) (sp := fun w => G.spLaw _) rfl (by decide) rfl ⟨rfl, by decide, by decide⟩ (fun w h Y => PySem.W.kIn_of Y) ?F (fun _ _ a ns hl _ hS => ⟨a, ns, rfl, hS, hl, fun _ => rfl⟩) fun _ _ _ _ _ z => z
  case F =>
    intro w mg fa h KX Gn hmg
    refine' G.fin hmg (G.txt_mk KX Gn ?aC_Shape ?pg_Shape ?hd_Shape ?po_Shape ?sa_Shape ?n_Shape_flags ?n_Shape_known ?xa_Shape ?xn_Shape ?xt_Shape ?xm_Shape ?aC_StayError ?ic_StayError ?e5_StayError ?e6_StayError ?b1_StayError ?b2_StayError ?b3_StayError ?aC_InvalidShape ?ic_InvalidShape ?e1_InvalidShape ?e2_InvalidShape ?e3_InvalidShape ?e4_InvalidShape ?e5_InvalidShape ?e6_InvalidShape ?e7_InvalidShape ?x1_InvalidShape ?x2_InvalidShape ?no_InvalidShape_part ?aC_NoList ?ic_NoList ?e1_NoList ?e2_NoList ?e3_NoList ?e4_NoList ?e5_NoList ?e6_NoList ?e7_NoList ?x1_NoList ?x2_NoList ?no_NoList_name ?sb_InvalidShape_StayError ?sb_InvalidShape_InvalidShape ?sb_InvalidShape_NoList ?sb_NoList_StayError ?sb_NoList_InvalidShape ?sb_NoList_NoList ?ya_InvalidShape ?yn_InvalidShape ?yt_InvalidShape ?ym_InvalidShape ?ya_NoList ?yn_NoList ?yt_NoList ?ym_NoList ?a_m_InvalidShape_init ?i_m_InvalidShape_init ?l_m_InvalidShape_init ?c_m_InvalidShape_init ?k_m_InvalidShape_init ?a_m_NoList_init ?i_m_NoList_init ?l_m_NoList_init ?c_m_NoList_init ?k_m_NoList_init ?a_p_is_word ?l_p_is_word ?c_p_is_word ?k_p_is_word ?a_p_are_words ?l_p_are_words ?c_p_are_words ?k_p_are_words ?a_p_has_keys ?l_p_has_keys ?c_p_has_keys ?k_p_has_keys ?a_p_lists_have_form ?l_p_lists_have_form ?c_p_lists_have_form ?k_p_lists_have_form ?a_p_fields_have_form ?l_p_fields_have_form ?c_p_fields_have_form ?k_p_fields_have_form ?a_p_all_fields_have_form ?l_p_all_fields_have_form ?c_p_all_fields_have_form ?k_p_all_fields_have_form ?a_p_all_names ?l_p_all_names ?c_p_all_names ?k_p_all_names ?a_m_Shape_init ?i_m_Shape_init ?l_m_Shape_init ?c_m_Shape_init ?k_m_Shape_init ?ma_Shape ?kc_Shape ?a_m_Shape_note ?i_m_Shape_note ?l_m_Shape_note ?c_m_Shape_note ?k_m_Shape_note ?a_m_Shape_eq ?i_m_Shape_eq ?l_m_Shape_eq ?c_m_Shape_eq ?k_m_Shape_eq ?a_m_Shape_entry ?i_m_Shape_entry ?l_m_Shape_entry ?c_m_Shape_entry ?k_m_Shape_entry ?a_m_Shape_outer ?i_m_Shape_outer ?l_m_Shape_outer ?c_m_Shape_outer ?k_m_Shape_outer ?a_m_Shape_inner ?i_m_Shape_inner ?l_m_Shape_inner ?c_m_Shape_inner ?k_m_Shape_inner ?a_m_Shape_fields ?i_m_Shape_fields ?l_m_Shape_fields ?c_m_Shape_fields ?k_m_Shape_fields ?a_m_Shape_parent ?i_m_Shape_parent ?l_m_Shape_parent ?c_m_Shape_parent ?k_m_Shape_parent ?a_l_stream ?l_l_stream ?c_l_stream ?k_l_stream ?a_l_draw ?l_l_draw ?c_l_draw ?k_l_draw ?a_l_same ?l_l_same ?c_l_same ?k_l_same ?a_l_copy ?l_l_copy ?c_l_copy ?k_l_copy ?a_l_word ?l_l_word ?c_l_word ?k_l_word ?a_l_names ?l_l_names ?c_l_names ?k_l_names ?a_l_fields ?l_l_fields ?c_l_fields ?k_l_fields ?a_l_lists ?l_l_lists ?c_l_lists ?k_l_lists ?a_l_about ?l_l_about ?c_l_about ?k_l_about ?a_l_missing ?l_l_missing ?c_l_missing ?k_l_missing ?a_l_told ?l_l_told ?c_l_told ?k_l_told ?a_law ?l_law ?c_law ?k_law ?z_all ?z_bool ?z_dict ?z_int ?z_isinstance ?z_len ?z_list ?z_range ?z_set ?z_sorted ?z_str ?z_tuple)
    (case aC_Shape => k_is); (case pg_Shape => k_is); (case hd_Shape => k_is); (case po_Shape => k_is)
    (case sa_Shape => k_is); (case n_Shape_flags => k_is); (case n_Shape_known => k_is); (case xa_Shape => k_is)
    (case xn_Shape => k_is); (case xt_Shape => k_is); (case xm_Shape => k_is); (case aC_StayError => k_is)
    (case ic_StayError => k_is); (case e5_StayError => k_is); (case e6_StayError => k_is); (case b1_StayError => k_is)
    (case b2_StayError => k_is); (case b3_StayError => k_is); (case aC_InvalidShape => k_is); (case ic_InvalidShape => k_is)
    (case e1_InvalidShape => kx_is); (case e2_InvalidShape => kx_is); (case e3_InvalidShape => k_is); (case e4_InvalidShape => k_is)
    (case e5_InvalidShape => k_is); (case e6_InvalidShape => k_is); (case e7_InvalidShape => k_is); (case x1_InvalidShape => k_is)
    (case x2_InvalidShape => k_is); (case no_InvalidShape_part => k_is); (case aC_NoList => k_is); (case ic_NoList => k_is)
    (case e1_NoList => kx_is); (case e2_NoList => kx_is); (case e3_NoList => k_is); (case e4_NoList => k_is)
    (case e5_NoList => k_is); (case e6_NoList => k_is); (case e7_NoList => k_is); (case x1_NoList => k_is)
    (case x2_NoList => k_is); (case no_NoList_name => k_is); (case sb_InvalidShape_StayError => k_is); (case sb_InvalidShape_InvalidShape => k_is)
    (case sb_InvalidShape_NoList => k_is); (case sb_NoList_StayError => k_is); (case sb_NoList_InvalidShape => k_is); (case sb_NoList_NoList => k_is)
    (case ya_InvalidShape => k_is); (case yn_InvalidShape => k_is); (case yt_InvalidShape => k_is); (case ym_InvalidShape => k_is)
    (case ya_NoList => k_is); (case yn_NoList => k_is); (case yt_NoList => k_is); (case ym_NoList => k_is)
    (case a_m_InvalidShape_init => k_is); (case i_m_InvalidShape_init => k_is); (case l_m_InvalidShape_init => k_is); (case c_m_InvalidShape_init => k_is)
    (case k_m_InvalidShape_init => k_is); (case a_m_NoList_init => k_is); (case i_m_NoList_init => k_is); (case l_m_NoList_init => k_is)
    (case c_m_NoList_init => k_is); (case k_m_NoList_init => k_is); (case a_p_is_word => k_is); (case l_p_is_word => k_is)
    (case c_p_is_word => k_is); (case k_p_is_word => k_is); (case a_p_are_words => k_is); (case l_p_are_words => k_is)
    (case c_p_are_words => k_is); (case k_p_are_words => k_is); (case a_p_has_keys => k_is); (case l_p_has_keys => k_is)
    (case c_p_has_keys => k_is); (case k_p_has_keys => k_is); (case a_p_lists_have_form => k_is); (case l_p_lists_have_form => k_is)
    (case c_p_lists_have_form => k_is); (case k_p_lists_have_form => k_is); (case a_p_fields_have_form => k_is); (case l_p_fields_have_form => k_is)
    (case c_p_fields_have_form => k_is); (case k_p_fields_have_form => k_is); (case a_p_all_fields_have_form => k_is); (case l_p_all_fields_have_form => k_is)
    (case c_p_all_fields_have_form => k_is); (case k_p_all_fields_have_form => k_is); (case a_p_all_names => k_is); (case l_p_all_names => k_is)
    (case c_p_all_names => k_is); (case k_p_all_names => k_is); (case a_m_Shape_init => k_is); (case i_m_Shape_init => k_is)
    (case l_m_Shape_init => k_is); (case c_m_Shape_init => k_is); (case k_m_Shape_init => k_is); (case ma_Shape => k_is)
    (case kc_Shape => k_is); (case a_m_Shape_note => k_is); (case i_m_Shape_note => k_is); (case l_m_Shape_note => k_is)
    (case c_m_Shape_note => k_is); (case k_m_Shape_note => k_is); (case a_m_Shape_eq => k_is); (case i_m_Shape_eq => k_is)
    (case l_m_Shape_eq => k_is); (case c_m_Shape_eq => k_is); (case k_m_Shape_eq => k_is); (case a_m_Shape_entry => k_is)
    (case i_m_Shape_entry => k_is); (case l_m_Shape_entry => k_is); (case c_m_Shape_entry => k_is); (case k_m_Shape_entry => k_is)
    (case a_m_Shape_outer => k_is); (case i_m_Shape_outer => k_is); (case l_m_Shape_outer => k_is); (case c_m_Shape_outer => k_is)
    (case k_m_Shape_outer => k_is); (case a_m_Shape_inner => k_is); (case i_m_Shape_inner => k_is); (case l_m_Shape_inner => k_is)
    (case c_m_Shape_inner => k_is); (case k_m_Shape_inner => k_is); (case a_m_Shape_fields => k_is); (case i_m_Shape_fields => k_is)
    (case l_m_Shape_fields => k_is); (case c_m_Shape_fields => k_is); (case k_m_Shape_fields => k_is); (case a_m_Shape_parent => k_is)
    (case i_m_Shape_parent => k_is); (case l_m_Shape_parent => k_is); (case c_m_Shape_parent => k_is); (case k_m_Shape_parent => k_is)
    (case a_l_stream => k_is); (case l_l_stream => k_is); (case c_l_stream => k_is); (case k_l_stream => k_is)
    (case a_l_draw => k_is); (case l_l_draw => k_is); (case c_l_draw => k_is); (case k_l_draw => k_is)
    (case a_l_same => k_is); (case l_l_same => k_is); (case c_l_same => k_is); (case k_l_same => k_is)
    (case a_l_copy => k_is); (case l_l_copy => k_is); (case c_l_copy => k_is); (case k_l_copy => k_is)
    (case a_l_word => k_is); (case l_l_word => k_is); (case c_l_word => k_is); (case k_l_word => k_is)
    (case a_l_names => k_is); (case l_l_names => k_is); (case c_l_names => k_is); (case k_l_names => k_is)
    (case a_l_fields => k_is); (case l_l_fields => k_is); (case c_l_fields => k_is); (case k_l_fields => k_is)
    (case a_l_lists => k_is); (case l_l_lists => k_is); (case c_l_lists => k_is); (case k_l_lists => k_is)
    (case a_l_about => k_is); (case l_l_about => k_is); (case c_l_about => k_is); (case k_l_about => k_is)
    (case a_l_missing => k_is); (case l_l_missing => k_is); (case c_l_missing => k_is); (case k_l_missing => k_is)
    (case a_l_told => k_is); (case l_l_told => k_is); (case c_l_told => k_is); (case k_l_told => k_is)
    (case a_law => k_is); (case l_law => k_is); (case c_law => k_is); (case k_law => k_is)
    (case z_all => k_is); (case z_bool => k_is); (case z_dict => k_is); (case z_int => k_is)
    (case z_isinstance => k_is); (case z_len => k_is); (case z_list => k_is); (case z_range => k_is)
    (case z_set => k_is); (case z_sorted => k_is); (case z_str => k_is); (case z_tuple => k_is)
