import PyProof.Rows.All
import Wide.All
import OpenK.AllK
import Wide.FinOn
import KE.KDictKeyed
import HandS.Base
import HandS.Call
import HandS.List
import HandS.Dict
import HandS.Words
import HandS.Iter
import HandS.Walk
import HandS.ForMost
import HandS.More
import HandS.Star
import HandS.Defaults
import HandS.TupAny
import HandS.Wide
import HandS.IsInst
import HandS.Deep
import HandS.Flow
import HandS.Evl
import HandS.Exc
import HandS.ExcInit
import HandS.ExcField
import HandS.WordsExc
import KE.KExcInit
import KE.KExcLine
import HandS.OwnEq
import HandS.ClsMeth
import HandS.CallSlots
import HandS.ExcOwn
import HandS.Style
import HandS.Steps
import PySem.Challenge.RW_statestay_k20_rule_slots
set_option Elab.async false
set_option linter.all false
set_option maxRecDepth 100000
set_option maxHeartbeats 4000000
/-! Dicts whose keys are nested tuples (None, ints, texts, tuples of such), over the hand layer. -/
namespace Nd
open PySem PySem.Spec PyProof.Rows L2

/-! ### a value that is a nested key -/
mutual
inductive NK (H : Hp) : V → NestedKey → Prop
  | non : NK H .non .none
  | int (i : Int) : NK H (.int i) (.num i)
  | str (x : Str) : NK H (.str x) (.text x)
  | tup {a : Addr} {xs : List V} {ks : List NestedKey} : H a = some (.tup xs) → NKs H xs ks → NK H (.ref a) (.tup ks)
inductive NKs (H : Hp) : List V → List NestedKey → Prop
  | nil : NKs H [] []
  | cons {v : V} {k : NestedKey} {vs : List V} {ks : List NestedKey} : NK H v k → NKs H vs ks → NKs H (v :: vs) (k :: ks)
end

mutual
theorem NK.mono {H H' : Hp} (st : ∀ b xs, H b = some (.tup xs) → H' b = some (.tup xs)) : ∀ (k : NestedKey) (v : V), NK H v k → NK H' v k
  | .none, _, r => by cases r; exact .non
  | .num _, _, r => by cases r; exact .int _
  | .text _, _, r => by cases r; exact .str _
  | .tup ks, _, r => by
    cases r with
    | tup h1 h2 => exact .tup (st _ _ h1) (NKs.mono st ks _ h2)
theorem NKs.mono {H H' : Hp} (st : ∀ b xs, H b = some (.tup xs) → H' b = some (.tup xs)) : ∀ (ks : List NestedKey) (vs : List V), NKs H vs ks → NKs H' vs ks
  | [], _, r => by cases r; exact .nil
  | k :: ks, _, r => by
    cases r with
    | cons h1 h2 => exact .cons (NK.mono st k _ h1) (NKs.mono st ks _ h2)
end
theorem NK.same {H H' : Hp} {k : NestedKey} {v : V} (r : NK H v k) (e : Same H H') : NK H' v k := NK.mono (fun b xs h => e b _ h) k v r
theorem NKs.same {H H' : Hp} {ks : List NestedKey} {vs : List V} (r : NKs H vs ks) (e : Same H H') : NKs H' vs ks := NKs.mono (fun b xs h => e b _ h) ks vs r

theorem NKs.snoc {H : Hp} : ∀ {vs : List V} {ks : List NestedKey} {v : V} {k : NestedKey}, NKs H vs ks → NK H v k → NKs H (vs ++ [v]) (ks ++ [k])
  | _, _, _, _, .nil, h => .cons h .nil
  | _, _, _, _, .cons a b, h => .cons a (NKs.snoc b h)
theorem NKs.len {H : Hp} : ∀ {vs : List V} {ks : List NestedKey}, NKs H vs ks → vs.length = ks.length
  | _, _, .nil => rfl
  | _, _, .cons _ b => by rw [List.length_cons, List.length_cons, NKs.len b]
theorem NKs.get {H : Hp} : ∀ {vs : List V} {ks : List NestedKey} {i : Nat} {v : V}, NKs H vs ks → vs[i]? = some v → ∃ k, ks[i]? = some k ∧ NK H v k
  | _, _, _, _, .nil, e => by simp at e
  | _, _, 0, _, .cons a _, e => by simp at e; subst e; exact ⟨_, rfl, a⟩
  | _, _, i + 1, v, .cons _ b, e => by
    obtain ⟨k, h1, h2⟩ := NKs.get (i := i) (v := v) b (by simpa using e)
    exact ⟨k, by simpa using h1, h2⟩
section
variable {X : Cx} {pins : List (Addr × Obj)} {σ : L2.St} {H : Hp} {s : Shared}
mutual
theorem NK.is (I : Inv X pins σ H s) : ∀ (k : NestedKey) (v : V) (u : Value), NK H v k → RelV v u → NestedIs s.heap k u
  | .none, _, _, r, ru => by
    cases r
    cases (show _ = Value.none from ru)
    exact .none
  | .num i, _, _, r, ru => by
    cases r
    obtain ⟨t, rfl⟩ := (show ∃ t, _ = Value.int i t from ru)
    exact .int _ _
  | .text x, _, _, r, ru => by
    cases r
    obtain ⟨t, rfl⟩ := (show ∃ t, _ = Value.str x t from ru)
    exact .text _ _
  | .tup ks, _, _, r, ru => by
    cases r with
    | @tup a xs _ h1 h2 =>
      cases (show _ = Value.ref a from ru)
      obtain ⟨_, its, rv, o, e1, e2, n, e3⟩ := (show ObjOk X.prog X.w H s.heap a (.tup xs) from I.hok a _ h1)
      exact .tup e1 e2 e3 (by simpa using NKs.is I ks xs its h2 rv)
theorem NKs.is (I : Inv X pins σ H s) : ∀ (ks : List NestedKey) (vs : List V) (us : List Value), NKs H vs ks → Vals vs us → NestedAll s.heap ks us
  | [], _, _, r, ru => by
    cases r
    cases ru
    exact .nil
  | k :: ks, _, _, r, ru => by
    cases r with
    | cons h1 h2 =>
      cases ru with
      | cons r1 r2 => exact .cons (NK.is I k _ _ h1 r1) (NKs.is I ks _ _ h2 r2)
end
end

/-! ### the dict -/
abbrev Ent := NestedKey × Addr × V
def EntRel (p : Ent) (q : NestedKey × Addr × Value) : Prop := p.1 = q.1 ∧ p.2.1 = q.2.1 ∧ RelV p.2.2 q.2.2
def lookN (xs : List Ent) (k : NestedKey) : Option V := (xs.find? fun x => decide (x.1 = k)).map fun x => x.2.2
def putN (xs : List Ent) (k : NestedKey) (a : Addr) (v : V) : List Ent :=
  if (lookN xs k).isSome then xs.map fun x => if x.1 = k then (x.1, x.2.1, v) else x else xs ++ [(k, a, v)]
def RawN (P : Program) (w : World) (a : Addr) (xs : List Ent) (h : Heap) : Prop :=
  ∃ vs : List (NestedKey × Addr × Value), Paired EntRel xs vs ∧ ∃ o es ep, h.get? a = some o ∧ o.ExactDict ∧ o.data = .dict es ep ∧ es.toList = vs.map (entryOfKey (nestedKind P w)) ∧ (vs.map (·.1)).Nodup
/-- the dict at a holds the entries xs: key, the key's own place, value -/
def DN (P : Program) (w : World) (a : Addr) (xs : List Ent) : HO := .ext fun h => (xs.length ≤ sizeLine ∧ (a == sysModules) = false) ∧ RawN P w a xs h
/-- the keys stand as tuples -/
def KeysAt (H : Hp) (xs : List Ent) : Prop := ∀ x ∈ xs, NK H (.ref x.2.1) x.1 ∧ x.1.depth ≤ 8
theorem KeysAt.same {H H' : Hp} {xs : List Ent} (r : KeysAt H xs) (e : Same H H') : KeysAt H' xs := fun x hx => ⟨(r x hx).1.same e, (r x hx).2⟩
theorem KeysAt.nil {H : Hp} : KeysAt H [] := fun _ h => nomatch h
theorem KeysAt.mono {H H' : Hp} {xs : List Ent} (r : KeysAt H xs) (st : ∀ b ys, H b = some (.tup ys) → H' b = some (.tup ys)) : KeysAt H' xs := fun x hx => ⟨NK.mono st _ _ (r x hx).1, (r x hx).2⟩
theorem KeysAt.put {H : Hp} {xs : List Ent} {k : NestedKey} {a : Addr} {v : V} (r : KeysAt H xs) (h : NK H (.ref a) k) (hd : k.depth ≤ 8) : KeysAt H (putN xs k a v) := by
  intro x hx
  unfold putN at hx
  split at hx
  · obtain ⟨y, hy, rfl⟩ := List.mem_map.mp hx
    have := r y hy
    split <;> exact this
  · rcases List.mem_append.mp hx with hx | hx
    · exact r x hx
    · obtain rfl := List.mem_singleton.mp hx
      exact ⟨h, hd⟩

theorem lookN_nil (k : NestedKey) : lookN [] k = none := rfl
theorem lookN_map (xs : List Ent) (k : NestedKey) (v : V) (j : NestedKey) : lookN (xs.map fun x => if x.1 = k then (x.1, x.2.1, v) else x) j = if j = k then (lookN xs k).map (fun _ => v) else lookN xs j := by
  induction xs with
  | nil => simp [lookN]
  | cons x xs ih =>
    unfold lookN at ih ⊢
    simp only [List.map_cons, List.find?_cons]
    by_cases h1 : x.1 = k
    · simp only [h1, if_true]
      by_cases h2 : j = k
      · subst h2; simp
      · have : ¬ k = j := fun z => h2 z.symm
        simp only [this, decide_false, h2, if_false] at ih ⊢
        exact ih
    · simp only [h1, if_false, decide_false]
      by_cases h2 : x.1 = j
      · have h3 : ¬ j = k := fun z => h1 (h2.trans z)
        simp [h2, h3]
      · simp only [h2, decide_false]
        exact ih
theorem lookN_put (xs : List Ent) (k : NestedKey) (a : Addr) (v : V) (j : NestedKey) : lookN (putN xs k a v) j = if j = k then some v else lookN xs j := by
  unfold putN
  by_cases h : (lookN xs k).isSome = true
  · rw [if_pos h, lookN_map]
    by_cases e : j = k
    · rw [if_pos e, if_pos e]
      obtain ⟨u, hu⟩ := Option.isSome_iff_exists.mp h
      rw [hu]; rfl
    · rw [if_neg e, if_neg e]
  · rw [if_neg h]
    have h0 : lookN xs k = none := by
      cases q : lookN xs k with
      | none => rfl
      | some u => rw [q] at h; exact absurd rfl h
    unfold lookN at h0 ⊢
    rw [List.find?_append]
    by_cases e : j = k
    · subst e
      rw [Option.map_eq_none_iff] at h0
      rw [h0]
      simp
    · rw [if_neg e]
      cases q : xs.find? fun x => decide (x.1 = j) with
      | some u => simp
      | none =>
        simp
        exact fun z => e z.symm
theorem lookN_mem {xs : List Ent} {k : NestedKey} {v : V} (h : lookN xs k = some v) : ∃ a, (k, a, v) ∈ xs := by
  unfold lookN at h
  obtain ⟨x, hx, rfl⟩ := Option.map_eq_some_iff.mp h
  have h1 := List.mem_of_find?_eq_some hx
  have h2 := List.find?_some hx
  have h3 : x.1 = k := of_decide_eq_true h2
  exact ⟨x.2.1, by rw [← h3]; exact h1⟩
theorem paired_len {xs : List Ent} {vs : List (NestedKey × Addr × Value)} (r : Paired EntRel xs vs) : xs.length = vs.length := Paired.length r
theorem paired_keys : ∀ {xs : List Ent} {vs : List (NestedKey × Addr × Value)}, Paired EntRel xs vs → xs.map (·.1) = vs.map (·.1)
  | _, _, .nil => rfl
  | _, _, .cons r t => by rw [List.map_cons, List.map_cons, paired_keys t, r.1]
theorem paired_at : ∀ {xs : List Ent} {vs : List (NestedKey × Addr × Value)}, Paired EntRel xs vs → ∀ k, RelO (lookN xs k) ((atKey vs k).map (·.2))
  | _, _, .nil, _ => True.intro
  | _, _, @Paired.cons _ _ _ p q ps qs r t, k => by
    by_cases e : p.1 = k
    · have e' : q.1 = k := r.1.symm.trans e
      have h1 : lookN (p :: ps) k = some p.2.2 := by simp [lookN, List.find?_cons, e]
      have h2 : (atKey (q :: qs) k).map (·.2) = some q.2.2 := by simp [atKey, List.find?_cons, e']
      rw [h1, h2]
      exact r.2.2
    · have e' : ¬ q.1 = k := fun z => e (r.1.trans z)
      have h1 : lookN (p :: ps) k = lookN ps k := by simp [lookN, List.find?_cons, e]
      have h2 : (atKey (q :: qs) k) = atKey qs k := by simp [atKey, List.find?_cons, e']
      rw [h1, h2]
      exact paired_at t k
theorem paired_put {xs : List Ent} {vs : List (NestedKey × Addr × Value)} (r : Paired EntRel xs vs) (k : NestedKey) (a : Addr) {v : V} {u : Value} (rv : RelV v u) : Paired EntRel (putN xs k a v) (storedH vs k a u) := by
  have q := (paired_at r k).isSome_eq
  rw [Option.isSome_map] at q
  unfold putN storedH
  rw [q]
  split
  · rename_i hq
    clear q hq
    induction r with
    | nil => exact .nil
    | @cons p q ps qs h t ih =>
      rw [List.map_cons, List.map_cons]
      refine .cons ?_ ih
      unfold putAt
      by_cases e : p.1 = k
      · rw [if_pos e, if_pos (h.1.symm.trans e)]
        exact ⟨h.1, h.2.1, rv⟩
      · rw [if_neg e, if_neg (fun z => e (h.1.trans z))]
        exact h
  · exact Paired.snoc r ⟨rfl, rfl, rv⟩

theorem rawN_stay {P : Program} {w : World} {a : Addr} {xs : List Ent} {h h' : Heap} (r : RawN P w a xs h) (k : ∀ o, h.get? a = some o → h'.get? a = some o) : RawN P w a xs h' := by
  obtain ⟨vs, p, o, es, ep, e, q⟩ := r
  exact ⟨vs, p, o, es, ep, k o e, q⟩
theorem dn_obj {P : Program} {w : World} {H : Hp} {a : Addr} {xs : List Ent} {h : Heap} (z : xs.length ≤ sizeLine) (hs : (a == sysModules) = false) (r : RawN P w a xs h) : ObjOk P w H h a (DN P w a xs) := by
  have ⟨_, _, o, _, _, e, _⟩ := r
  exact ⟨⟨⟨z, hs⟩, r⟩, ⟨o, e⟩, fun h1 h2 p k => ⟨p.1, rawN_stay p.2 k⟩⟩

section
variable {X : Cx} {pins : List (Addr × Obj)} {σ : L2.St} {H : Hp} {s : Shared} {a b : Addr} {xs : List Ent} {k : NestedKey} {A : Around} {E : Value → Shared → Prop}
theorem dn_of (I : Inv X pins σ H s) (e : Rd H a (DN X.prog X.w a xs)) (ks : KeysAt H xs) :
    xs.length ≤ sizeLine ∧ (a == sysModules) = false ∧ ∃ vs, Paired EntRel xs vs ∧ s.heap.DictOfH (nestedKind X.prog X.w) a vs := by
  obtain ⟨⟨⟨z, y⟩, vs, p, o, es, ep, h1, h2, h3, h4, h5⟩, _, _⟩ := (show ObjOk X.prog X.w H s.heap a (DN X.prog X.w a xs) from e.ok I.hok)
  refine ⟨z, y, vs, p, o, es, ep, h1, h2, h3, h4, ?_, h5⟩
  have all : ∀ {l : List Ent} {m : List (NestedKey × Addr × Value)}, Paired EntRel l m → KeysAt H l → ∀ x ∈ m, (nestedKind X.prog X.w).is s.heap x.1 x.2.1 := by
    intro l m q
    induction q with
    | nil => intro _ x hx; exact nomatch hx
    | @cons p q ps qs hq t ih =>
      intro kk x hx
      rcases List.mem_cons.mp hx with e | hx
      · subst e
        have := kk p List.mem_cons_self
        exact ⟨by rw [← hq.1, ← hq.2.1]; exact NK.is I _ _ _ this.1 rfl, by rw [← hq.1]; exact this.2⟩
      · exact ih (fun y hy => kk y (List.mem_cons_of_mem _ hy)) x hx
  exact all p ks
theorem dn_ty (I : Inv X pins σ H s) (e : Rd H a (DN X.prog X.w a xs)) : s.TypeIs (.ref a) "dict" ∧ (∀ b, Value.ref a = .ref b → ∃ ob, s.heap.get? b = some ob ∧ ob.dict = none) ∧ (a == sysModules) = false := by
  obtain ⟨⟨⟨z, y⟩, vs, p, o, es, ep, h1, h2, h3, h4, h5⟩, _, _⟩ := (show ObjOk X.prog X.w H s.heap a (DN X.prog X.w a xs) from e.ok I.hok)
  refine ⟨⟨o, h1, h2.1⟩, fun b q => ?_, y⟩
  cases q
  exact ⟨o, h1, h2.2.1⟩
theorem room8 (hu : A.units + 64 < cLine) : (nestedKind X.prog X.w).room A.in1 := by
  show A.units + 1 + 8 < cLine
  omega
theorem key_is (I : Inv X pins σ H s) (h : NK H (.ref b) k) (hd : k.depth ≤ 8) : (nestedKind X.prog X.w).is s.heap k b := ⟨NK.is I _ _ _ h rfl, hd⟩

/-- d[k] -/
theorem dn_get {v : V} {Q : Value → Shared → Prop} (hu : A.units + 64 < cLine) (I : Inv X pins σ H s) (e : Rd H a (DN X.prog X.w a xs)) (ks : KeysAt H xs) (hk : NK H (.ref b) k) (hd : k.depth ≤ 8) (hv : lookN xs k = some v)
    (h : ∀ w' s', Inv X pins σ H s' → RelV v w' → Q w' s') : wpAny (model X.prog X.w) A (getItem (.ref a) (.ref b)) Q E s := by
  obtain ⟨z, hs, vs, p, dd⟩ := dn_of I e ks
  have q := paired_at p k
  rw [hv] at q
  cases hp : atKey vs k with
  | none => rw [hp] at q; exact (show False from q).elim
  | some x =>
    rw [hp] at q
    exact wpAny_getItem_heap (room8 hu) (key_is I hk hd) dd hp (h _ _ (I.tok _) q)
theorem dn_in {Q : Value → Shared → Prop} (hu : A.units + 64 < cLine) (I : Inv X pins σ H s) (e : Rd H a (DN X.prog X.w a xs)) (ks : KeysAt H xs) (hk : NK H (.ref b) k) (hd : k.depth ≤ 8)
    (h : ∀ s', Inv X pins σ H s' → Q (.bool (lookN xs k).isSome) s') : wpAny (model X.prog X.w) A (compareOp .In (.ref b) (.ref a)) Q E s := by
  obtain ⟨z, hs, vs, p, dd⟩ := dn_of I e ks
  have q := (paired_at p k).isSome_eq
  rw [Option.isSome_map] at q
  refine wpAny_in_heap (room8 hu) (key_is I hk hd) hs dd ?_
  rw [← q]
  exact h _ (I.tok _)
theorem dn_notIn {Q : Value → Shared → Prop} (hu : A.units + 64 < cLine) (I : Inv X pins σ H s) (e : Rd H a (DN X.prog X.w a xs)) (ks : KeysAt H xs) (hk : NK H (.ref b) k) (hd : k.depth ≤ 8)
    (h : ∀ s', Inv X pins σ H s' → Q (.bool (!(lookN xs k).isSome)) s') : wpAny (model X.prog X.w) A (compareOp .NotIn (.ref b) (.ref a)) Q E s := by
  obtain ⟨z, hs, vs, p, dd⟩ := dn_of I e ks
  have q := (paired_at p k).isSome_eq
  refine notIn_keyed (kvs := pairsH vs) (room8 hu) (key_is I hk hd) hs ⟨vs, dd, rfl⟩ ?_
  rw [valueAt_pairsH, ← q]
  exact h _ (I.tok _)
theorem dn_get1 {Q : Value → Shared → Prop} (hu : A.units + 64 < cLine) (I : Inv X pins σ H s) (e : Rd H a (DN X.prog X.w a xs)) (ks : KeysAt H xs) (hk : NK H (.ref b) k) (hd : k.depth ≤ 8)
    (h : ∀ w' s', Inv X pins σ H s' → RelV ((lookN xs k).getD .non) w' → Q w' s') : wpAny (model X.prog X.w) A (call (.builtin "dict.get") [.ref a, .ref b]) Q E s := by
  obtain ⟨z, hs, vs, p, dd⟩ := dn_of I e ks
  refine get_keyed (kvs := pairsH vs) (room8 hu) (key_is I hk hd) hs ⟨vs, dd, rfl⟩ (h _ _ (I.tok _) ?_)
  rw [valueAt_pairsH]
  exact (paired_at p k).getD rfl
theorem dn_get2 {d : V} {r : Value} {Q : Value → Shared → Prop} (hu : A.units + 64 < cLine) (I : Inv X pins σ H s) (e : Rd H a (DN X.prog X.w a xs)) (ks : KeysAt H xs) (hk : NK H (.ref b) k) (hd : k.depth ≤ 8) (rd : RelV d r)
    (h : ∀ w' s', Inv X pins σ H s' → RelV ((lookN xs k).getD d) w' → Q w' s') : wpAny (model X.prog X.w) A (call (.builtin "dict.get") [.ref a, .ref b, r]) Q E s := by
  obtain ⟨z, hs, vs, p, dd⟩ := dn_of I e ks
  refine getOr_keyed (kvs := pairsH vs) (room8 hu) (key_is I hk hd) hs ⟨vs, dd, rfl⟩ (h _ _ (I.tok _) ?_)
  rw [valueAt_pairsH]
  exact (paired_at p k).getD rd
theorem putN_len (xs : List Ent) (k : NestedKey) (a : Addr) (v : V) : (putN xs k a v).length ≤ xs.length + 1 := by
  unfold putN
  split
  · rw [List.length_map]; omega
  · rw [List.length_append, List.length_singleton]; omega
theorem dn_set {v : V} {r : Value} {Q : Unit → Shared → Prop} (hu : A.units + 64 < cLine) (I : Inv X pins σ H s) (e : H a = some (DN X.prog X.w a xs)) (ks : KeysAt H xs) (hk : NK H (.ref b) k) (hd : k.depth ≤ 8) (hl : xs.length < sizeLine) (rv : RelV v r)
    (h : ∀ s', Inv X pins σ (upd H a (DN X.prog X.w a (putN xs k b v))) s' → Q () s') : wpAny (model X.prog X.w) A (setItem (.ref a) (.ref b) r) Q E s := by
  obtain ⟨z, hs, vs, p, dd⟩ := dn_of I (.inl e) ks
  have hz : vs.length ≤ sizeLine := by rw [← paired_len p]; exact z
  refine wpAny_setItem_heap (hsz := hz) (room8 hu) (key_is I hk hd) dd fun h' dd' sb => ?_
  obtain ⟨o, es, ep, h1, h2, h3, h4, h5, h6⟩ := dd'
  have hl2 : (putN xs k b v).length ≤ sizeLine := by have := putN_len xs k b v; omega
  refine h _ (I.write (x := a) (e := a) (by rw [e]; trivial) (.inl rfl) (fun c q hc y => (sb.2 c hc).trans y) ⟨o, h1⟩ (dn_obj hl2 hs ⟨_, paired_put p k b rv, o, es, ep, h1, h2, h3, h4, h6⟩))
theorem dn_len {Q : Value → Shared → Prop} (I : Inv X pins σ H s) (e : Rd H a (DN X.prog X.w a xs)) (ks : KeysAt H xs) (h : ∀ t s', Inv X pins σ H s' → Q (.int xs.length t) s') : wpAny (model X.prog X.w) A (call (.builtin "len") [.ref a]) Q E s := by
  obtain ⟨z, hs, vs, p, dd⟩ := dn_of I e ks
  have hl := paired_len p
  have hz : vs.length ≤ sizeLine := by rw [← hl]; exact z
  have hm : s.heap.DictKeyed (nestedKind X.prog X.w) a (pairsH vs) := ⟨vs, dd, rfl⟩
  refine PyProof.Rows.call_len_slot (n := (pairsH vs).length) hm.typeIs PySem.F.slot_dict_len (fun Q' hq => len_keyed hs hm hq) (by omega) (by rw [pairsH_length]; rw [sizeLine_eq] at hz; omega) ?_
  rw [pairsH_length, ← hl]
  exact h _ _ (I.tok _)
theorem dn_clear {Q : Value → Shared → Prop} (I : Inv X pins σ H s) (e : H a = some (DN X.prog X.w a xs)) (ks : KeysAt H xs) (h : ∀ s', Inv X pins σ (upd H a (DN X.prog X.w a [])) s' → Q .none s') : wpAny (model X.prog X.w) A (call (.builtin "dict.clear") [.ref a]) Q E s := by
  obtain ⟨z, hs, vs, p, dd⟩ := dn_of I (.inl e) ks
  have hz : vs.length ≤ sizeLine := by rw [← paired_len p]; exact z
  refine clear_keyed (kvs := pairsH vs) (hsz := by rw [pairsH_length]; exact hz) ⟨vs, dd, rfl⟩ fun h' dd' sb => ?_
  obtain ⟨ws, ⟨o, es, ep, h1, h2, h3, h4, h5, h6⟩, e0⟩ := dd'
  have ew : ws = [] := by
    cases ws with
    | nil => rfl
    | cons _ _ => simp [pairsH] at e0
  subst ew
  exact h _ (I.write (x := a) (e := a) (t' := s.toks) (by rw [e]; trivial) (.inl rfl) (fun c q hc y => (sb.2 c hc).trans y) ⟨o, h1⟩ (dn_obj (Nat.zero_le _) hs ⟨[], .nil, o, es, ep, h1, h2, h3, h4, h6⟩))
end

/-! ### as rules -/
/-- k and d: the key's tuple at b, the dict at a -/
def AtN (P : Program) (w : World) (H : Hp) (x y : V) (R : Addr → List Ent → NestedKey → Addr → Prop) : Prop :=
  ∃ a b xs k, x = .ref a ∧ y = .ref b ∧ Rd H a (DN P w a xs) ∧ KeysAt H xs ∧ NK H (.ref b) k ∧ k.depth ≤ 8 ∧ R a xs k b
def tNGet (P : Program) (w : World) (td ty : TE) : TE := fun σ H Q => td σ H fun x H1 => ty σ H1 fun y H2 => AtN P w H2 x y fun _ xs k _ => ∃ v, lookN xs k = some v ∧ Q v H2
def tNIn (P : Program) (w : World) (ty td : TE) : TE := fun σ H Q => ty σ H fun y H1 => td σ H1 fun x H2 => AtN P w H2 x y fun _ xs k _ => Q (.bl (lookN xs k).isSome) H2
def tNNotIn (P : Program) (w : World) (ty td : TE) : TE := fun σ H Q => ty σ H fun y H1 => td σ H1 fun x H2 => AtN P w H2 x y fun _ xs k _ => Q (.bl (!(lookN xs k).isSome)) H2
def sNPut (P : Program) (w : World) (td ty tv : TE) : TS := fun D σ H => tv σ H fun v H1 => td σ H1 fun x H2 => ty σ H2 fun y H3 => AtN P w H3 x y fun a xs k b => H3 a = some (DN P w a xs) ∧ xs.length < sizeLine ∧ D.nx σ (upd H3 a (DN P w a (putN xs k b v)))
def IsN (P : Program) (w : World) (H : Hp) (x : V) : Prop := ∃ a xs, x = .ref a ∧ Rd H a (DN P w a xs)
def tNGet1 (P : Program) (w : World) (td ty : TE) : TE := fun σ H Q => td σ H fun x H1 => IsN P w H1 x ∧ ty σ H1 fun y H2 => AtN P w H2 x y fun _ xs k _ => Q ((lookN xs k).getD .non) H2
def tNGet2 (P : Program) (w : World) (td ty tx : TE) : TE := fun σ H Q => td σ H fun x H1 => IsN P w H1 x ∧ ty σ H1 fun y H2 => tx σ H2 fun z H3 => AtN P w H3 x y fun _ xs k _ => Q ((lookN xs k).getD z) H3
def tNNew (P : Program) (w : World) : TE := fun _ H Q => ∀ p, H p = none → Q (.ref p) (upd H p (DN P w p []))
def rNLen (P : Program) (w : World) : List V → Hp → VK → Prop := fun vs H Q => ∃ a xs, vs = [.ref a] ∧ Rd H a (DN P w a xs) ∧ KeysAt H xs ∧ Q (.int xs.length) H

section
variable {X : Cx} {o i e f value : Expr} {pos pos' apos cpos : Pos} {td ty tv tx : TE}
theorem n_get (hu : X.A.units + 64 < cLine) (ho : PE X o td) (hi : PE X i ty) (hs : NoSl i) : PE X (.Subscript o i pos) (tNGet X.prog X.w td ty) := ⟨fun pins s σ H Q I q =>
  subD_of PySem.F.slot_dict_getitem.lookup hs (thn (ho.run pins s σ H _ I q) fun u s1 ⟨x, H1, I1, rx, q1⟩ => thn (hi.run pins s1 σ H1 _ I1 q1) fun iv s2 ⟨y, H2, I2, ry, a, b, xs, k, ex, ey, e, ks, hk, hd, v, hv, q2⟩ => by
    subst ex ey
    obtain rfl : u = Value.ref a := rx
    obtain rfl : iv = Value.ref b := ry
    exact ⟨(dn_ty I2 e).1, dn_get hu I2 e ks hk hd hv fun w' s3 I3 r3 => ⟨v, H2, I3, r3, q2⟩⟩)⟩
theorem n_in (hu : X.A.units + 64 < cLine) (hi : PE X i ty) (ho : PE X o td) : PC X .In i o (tNIn X.prog X.w ty td) := ⟨fun pins s σ H Q I q =>
  thn (hi.run pins s σ H _ I q) fun iv s1 ⟨y, H1, I1, ry, q1⟩ => thn (ho.run pins s1 σ H1 _ I1 q1) fun u s2 ⟨x, H2, I2, rx, a, b, xs, k, ex, ey, e, ks, hk, hd, q2⟩ => by
    subst ex ey
    obtain rfl : u = Value.ref a := rx
    obtain rfl : iv = Value.ref b := ry
    exact dn_in hu I2 e ks hk hd fun s3 I3 => ⟨.bl _, H2, I3, rfl, q2⟩⟩
theorem n_notin (hu : X.A.units + 64 < cLine) (hi : PE X i ty) (ho : PE X o td) : PC X .NotIn i o (tNNotIn X.prog X.w ty td) := ⟨fun pins s σ H Q I q =>
  thn (hi.run pins s σ H _ I q) fun iv s1 ⟨y, H1, I1, ry, q1⟩ => thn (ho.run pins s1 σ H1 _ I1 q1) fun u s2 ⟨x, H2, I2, rx, a, b, xs, k, ex, ey, e, ks, hk, hd, q2⟩ => by
    subst ex ey
    obtain rfl : u = Value.ref a := rx
    obtain rfl : iv = Value.ref b := ry
    exact dn_notIn hu I2 e ks hk hd fun s3 I3 => ⟨.bl _, H2, I3, rfl, q2⟩⟩
theorem n_put (hu : X.A.units + 64 < cLine) (ho : PE X o td) (hi : PE X i ty) (hv : PE X value tv) (hs : swapsWith value (some (.Subscript o i pos')) pos.line X.env = pure false) :
    PS X (.Assign [.Subscript o i pos'] value pos) (sNPut X.prog X.w td ty tv) := ⟨fun pins s σ H D I q =>
  wpAny_Assign_Subscript (thn (hv.run pins s σ H _ I q) fun r s1 ⟨v, H1, I1, rv, q1⟩ => thn (ho.run pins s1 σ H1 _ I1 q1) fun u s2 ⟨x, H2, I2, rx, q2⟩ => thn (hi.run pins s2 σ H2 _ I2 q2) fun iv s3 ⟨y, H3, I3, ry, a, b, xs, k, ex, ey, _, ks, hk, hd, e, hl, q3⟩ => by
    subst ex ey
    obtain rfl : u = Value.ref a := rx
    obtain rfl : iv = Value.ref b := ry
    exact dn_set hu I3 e ks hk hd hl rv fun s4 I4 => ⟨σ, _, I4, q3⟩) hs⟩
theorem n_get1 (hu : X.A.units + 64 < cLine) (ho : PE X o td) (he : PE X e ty) (m : M1 X o "get" apos e cpos) : PE X (.Call (.Attribute o "get" apos) [e] [] cpos) (tNGet1 X.prog X.w td ty) := ⟨fun pins s σ H Q I q =>
  wpAny_Call_method m.base m.few m.line PySem.F.plainAttrs_dict PySem.F.slot_dict_get PySem.F.type_dict_get (thn (ho.run pins s σ H _ I q) fun u s1 ⟨x, H1, I1, rx, ⟨a0, xs0, ex0, e0⟩, q1⟩ => by
    subst ex0
    obtain rfl : u = Value.ref a0 := rx
    refine ⟨(dn_ty I1 e0).1, (dn_ty I1 e0).2.1, ?_⟩
    rw [m.trees]
    refine Calls.callWith_builtin rfl (Calls.evalArgs_plain (Calls.spliced_cons (thn (he.run pins s1 σ H1 _ I1 q1) fun iv s2 ⟨y, H2, I2, ry, a, b, xs, k, ex, ey, e, ks, hk, hd, q2⟩ => Calls.spliced_nil ?_)))
    cases ex
    subst ey
    obtain rfl : iv = Value.ref b := ry
    exact dn_get1 hu I2 e ks hk hd fun w' s3 I3 r3 => ⟨_, H2, I3, r3, q2⟩)⟩
theorem n_get2 (hu : X.A.units + 64 < cLine) (ho : PE X o td) (he : PE X e ty) (hf : PE X f tx) (m : M2 X o "get" apos e f cpos) : PE X (.Call (.Attribute o "get" apos) [e, f] [] cpos) (tNGet2 X.prog X.w td ty tx) := ⟨fun pins s σ H Q I q =>
  wpAny_Call_method m.base m.few m.line PySem.F.plainAttrs_dict PySem.F.slot_dict_get PySem.F.type_dict_get (thn (ho.run pins s σ H _ I q) fun u s1 ⟨x, H1, I1, rx, ⟨a0, xs0, ex0, e0⟩, q1⟩ => by
    subst ex0
    obtain rfl : u = Value.ref a0 := rx
    refine ⟨(dn_ty I1 e0).1, (dn_ty I1 e0).2.1, ?_⟩
    rw [m.trees]
    refine Calls.callWith_builtin rfl (Calls.evalArgs_plain (Calls.spliced_cons (thn (he.run pins s1 σ H1 _ I1 q1) fun iv s2 ⟨y, H2, I2, ry, q2⟩ =>
      Calls.spliced_cons (thn (hf.run pins s2 σ H2 _ I2 q2) fun fv s3 ⟨z, H3, I3, rz, a, b, xs, k, ex, ey, e, ks, hk, hd, q3⟩ => Calls.spliced_nil ?_))))
    cases ex
    subst ey
    obtain rfl : iv = Value.ref b := ry
    exact dn_get2 hu I3 e ks hk hd rz fun w' s4 I4 r4 => ⟨_, H3, I4, r4, q3⟩)⟩
theorem raw_new {P : Program} {w : World} (h : Heap) : RawN P w h.objs.size [] (h.push { cls := .type "dict", data := .dict #[] }) :=
  ⟨[], .nil, _, #[], 0, Heap.get?_push_size _ rfl, ⟨rfl, rfl, rfl⟩, rfl, rfl, List.nodup_nil⟩
theorem n_new : PE X (.Dict [] [] pos) (tNNew X.prog X.w) := ⟨fun pins s σ H Q I q =>
  wpAny_Dict_empty ⟨.ref s.heap.objs.size, _, I.laid (a := s.heap.objs.size) (o := DN X.prog X.w s.heap.objs.size []) (t' := s.toks) (fun _ _ z => Heap.get?_push_of_some _ z) (Nat.le_refl _)
    (dn_obj (Nat.zero_le _) (beq_eq_false_iff_ne.mpr (Nat.ne_of_gt I.big)) (raw_new s.heap)), rfl, q _ (I.hok.fresh (Nat.le_refl _))⟩⟩
theorem n_len : CallR X (.builtin "len") (rNLen X.prog X.w) := by
  intro pins s σ H xs us Q I r h
  obtain ⟨a, es, rfl, e, ks, q⟩ := h
  cases r with
  | cons r1 r2 =>
    cases r2
    cases (show _ = Value.ref a from r1)
    exact dn_len I e ks fun t s' I' => ⟨.int _, H, I', ⟨t, rfl⟩, q⟩
end

/-! ### the keys of a locked dict, one by one -/
def ItN (P : Program) (w : World) (d : Addr) (o : Obj) (xs : List Ent) : It :=
  ⟨fun i H => H d = some (.frz o (DN P w d xs)) ∧ i < xs.length, fun i H x H' => H' = H ∧ ∃ k a v, xs[i]? = some (k, a, v) ∧ x = .ref a, fun i H => H d = some (.frz o (DN P w d xs)) ∧ xs.length ≤ i⟩
section
variable {X : Cx} {pins : List (Addr × Obj)} {σ : L2.St} {H : Hp} {s : Shared} {d : Addr} {o : Obj} {xs : List Ent}
theorem frzN (I : Inv X pins σ H s) (h : H d = some (.frz o (DN X.prog X.w d xs))) :
    (d == sysModules) = false ∧ s.heap.get? d = some o ∧ o.ExactDict ∧ ∃ (es : Array DictEntry) (ep : Nat), o.data = .dict es ep ∧ es.size = xs.length ∧
      ∀ (i : Nat) (k : NestedKey) (a : Addr) (v : V), xs[i]? = some (k, a, v) → ∃ en : DictEntry, es[i]? = some en ∧ en.key = .ref a := by
  obtain ⟨hd, ⟨⟨z, hs⟩, vs, pr, o', es, ep, ho, hx, hdt, he, _⟩, _⟩ := (show ObjOk X.prog X.w H s.heap d (.frz o (DN X.prog X.w d xs)) from I.hok d _ h)
  rw [hd] at ho
  cases ho
  refine ⟨hs, hd, hx, es, ep, hdt, ?_, fun i k a v e => ?_⟩
  · rw [size_of_entries he]
    exact (Paired.length pr).symm
  · obtain ⟨b, hb, e1, e2, _⟩ := paired_get pr e
    have q := entry_at he i
    rw [hb] at q
    exact ⟨_, q, by show Value.ref b.2.1 = _; rw [← e2]⟩
end
section
variable {P : Program} {w : World} {K : PySem.W.Frag} {tg : Expr} {d : Addr} {o : Obj} {es : Array DictEntry} {ep : Nat} {xs : List Ent}
theorem turn_N (it : Addr) (hod : o.data = .dict es ep) : Turn P w K tg (ItN P w d o xs) [it] it (fun i h => h.IsKeyIter it d i xs.length ep) where
  mem := by simp
  obj := fun i h st b hb => by
    obtain rfl : b = it := by simpa using hb
    obtain ⟨oi, e, c, dd⟩ := st
    exact ⟨oi, e, fun v z => by rw [dd] at z; cases z⟩
  keep := fun i h h' st k => st.at fun oi e => k it (by simp) oi e
  item := by
    intro X hP hw hK hc i pins s σ H E I hf st ⟨hd, hi⟩
    subst hP hw hK
    obtain ⟨f0, f1, f2, f3, f4, f5⟩ := hf it (by simp)
    obtain ⟨hs, hgd, hx, es', ep', hdt, hsz, ent⟩ := frzN I hd
    obtain ⟨rfl, rfl⟩ := dict_ep hod hdt
    obtain ⟨⟨k, a, v⟩, hkv⟩ : ∃ p, xs[i]? = some p := ⟨xs[i], List.getElem?_eq_getElem hi⟩
    obtain ⟨en, hen, hkey⟩ := ent i k a v hkv
    refine next_key_item st hgd hdt hsz hen fun h' st' sb => ?_
    have I1 : Inv X pins σ H { s with heap := h' } := I.turned (t' := s.toks) (fun b ob hb e => (sb.2 b hb).trans e) f0 f1 f3 f4 f5
    obtain ⟨oi, e, c, dd⟩ := id st'
    exact ⟨en.key, rfl, go_of (s := { s with heap := h' }) e c dd (by decide) ⟨.ref a, H, I1, hkey, ⟨rfl, k, a, v, hkv, rfl⟩, st', fun b hb => (hf b hb).1⟩⟩
  done := by
    intro X hP hw hK hc i pins s σ H E I hf st ⟨hd, hi⟩
    subst hP hw hK
    obtain ⟨f0, f1, f2, f3, f4, f5⟩ := hf it (by simp)
    obtain ⟨hs, hgd, hx, es', ep', hdt, hsz, ent⟩ := frzN I hd
    obtain ⟨rfl, rfl⟩ := dict_ep hod hdt
    exact next_key_end (I.ok.hd hc) st hgd hdt hsz hi fun h' eb => ⟨rfl, I.turned (t' := s.toks) (fun b ob hb e => eb b ob hb e) f0 f1 f3 f4 f5⟩
  self := fun A i s Q E st h => wpAny_pyIter_keyiter st h
end
def iKeysN (P : Program) (w : World) (td : TE) : TI := fun σ H R => td σ H fun x H1 => ∃ d o xs, x = .ref d ∧ H1 d = some (.frz o (DN P w d xs)) ∧ R (ItN P w d o xs) H1
theorem n_keys {X : Cx} {tg e : Expr} {td : TE} (he : PE X e td) : PI X tg e (iKeysN X.prog X.w td) := ⟨fun pins s σ H R I q =>
  thn (he.run pins s σ H _ I q) fun u s1 ⟨x, H1, I1, rx, d, o, xs, ex, hd, q1⟩ => by
    subst ex
    obtain rfl : u = Value.ref d := rx
    obtain ⟨hs, hgd, hx, es, ep, hdt, hsz, ent⟩ := frzN I1 hd
    refine iter_keys hs hgd hx hdt (pi_one (tk := s1.toks) I1 _ (turn_N _ hdt) ⟨_, Heap.get?_push_size _ rfl, rfl, ?_⟩ q1)
    rw [hsz] <;> rfl⟩
theorem walk_N {P : Program} {w : World} {d : Addr} {o : Obj} {xs : List Ent} : Walk (ItN P w d o xs) xs.length (fun H => H d = some (.frz o (DN P w d xs))) (fun i H x H' => H' = H ∧ ∃ k a v, xs[i]? = some (k, a, v) ∧ x = .ref a) :=
  ⟨fun _ _ hi q => ⟨q, hi⟩, fun _ q => ⟨q, Nat.le_refl _⟩, fun _ _ _ _ _ _ y => y⟩
end Nd
set_option Elab.async false
set_option linter.all false
set_option maxRecDepth 100000
set_option maxHeartbeats 4000000
namespace G
open PySem L2 Nd
/-- the empty tuple stands in the written part -/
def SqT0 (K : PySem.W.Frag) (e : Addr) : Prop := ∀ H, SqT K H e []
theorem sqT0 {K : PySem.W.Frag} {e : Addr} {x2 : Option Addr} {x3 : Nat} {x4 : Array (Option Value)} (h : K.lookup e = some ⟨.type "tuple", x2, .seq #[] x3, x4⟩) : SqT0 K e :=
  fun H => .inr ⟨_, #[], x3, h, rfl, rfl, Nat.zero_le _, .nil⟩

/-! ### all but some places stays -/
def Sm (M : List Addr) (H H' : Hp) : Prop := ∀ b o, H b = some o → b ∉ M → H' b = some o
theorem Sm.refl (M : List Addr) (H : Hp) : Sm M H H := fun _ _ h _ => h
theorem Sm.trans {M : List Addr} {H H1 H2 : Hp} (a : Sm M H H1) (b : Sm M H1 H2) : Sm M H H2 := fun c o h n => b c o (a c o h n) n
theorem Sm.same {M : List Addr} {H H' : Hp} (a : Same H H') : Sm M H H' := fun b o h _ => a b o h
theorem Sm.mono {M M' : List Addr} {H H' : Hp} (a : Sm M H H') (h : ∀ b ∈ M, b ∈ M') : Sm M' H H' := fun b o e n => a b o e fun z => n (h b z)
theorem Sm.upd {M : List Addr} {H H' : Hp} {a : Addr} {o : HO} (h : Sm M H H') (ha : a ∈ M) : Sm M H (upd H' a o) := fun b u e n => by
  rw [upd_ne (fun z => n (by rw [z]; exact ha))]
  exact h b u e n
/-- an object that H does not know is made or changed -/
theorem Sm.new {M : List Addr} {H H' : Hp} {a : Addr} {o : HO} (h : Sm M H H') (ha : H a = none) : Sm M H (L2.upd H' a o) := fun b u e n => by
  rw [upd_ne (ne_of_none e ha)]
  exact h b u e n
theorem Sm.free {M : List Addr} {H H' : Hp} (h : Sm M H H') {a : Addr} (n : H' a = none) (hm : a ∉ M) : H a = none := by
  cases q : H a with
  | none => rfl
  | some o =>
    rw [h a o q hm] at n
    cases n
theorem same_new {H H' : Hp} {a : Addr} {o : HO} (h : Same H H') (ha : H a = none) : Same H (L2.upd H' a o) := fun b u e => by
  rw [upd_ne (ne_of_none e ha)]
  exact h b u e
theorem same_add {H : Hp} {a : Addr} {o : HO} (ha : H a = none) : Same H (L2.upd H a o) := same_new (Same.refl H) ha
/-- the places of M hold lists -/
def MutL (M : List Addr) (H : Hp) : Prop := ∀ a ∈ M, ∃ xs, H a = some (.lst xs)
theorem MutL.tup {M : List Addr} {H H' : Hp} (l : MutL M H) (h : Sm M H H') : ∀ b xs, H b = some (.tup xs) → H' b = some (.tup xs) := fun b xs e => h b _ e fun z => by
  obtain ⟨ys, q⟩ := l b z
  rw [e] at q
  cases q
theorem MutL.new {M : List Addr} {H : Hp} (l : MutL M H) {a : Addr} (n : H a = none) : a ∉ M := fun z => by
  obtain ⟨ys, q⟩ := l a z
  rw [n] at q
  cases q
theorem MutL.upd {M : List Addr} {H : Hp} (l : MutL M H) {a : Addr} {o : HO} (n : a ∉ M) : MutL M (L2.upd H a o) := fun b hb => by
  rw [upd_ne (fun z => n (by rw [← z]; exact hb))]
  exact l b hb

/-! ### the stream of draws -/
structure Stm (H : Hp) (st cs : Addr) : Prop where
  ne : st ≠ cs
  ex : ∃ (ns : List Int) (k : Int), H st = some (.lst [.ref cs, .int k]) ∧ H cs = some (.lst (ns.map V.int)) ∧ ns ≠ [] ∧ ns.length ≤ 63
theorem Stm.keep {H H' : Hp} {st cs : Addr} (s : Stm H st cs) (h1 : ∀ o, H st = some o → H' st = some o) (h2 : ∀ o, H cs = some o → H' cs = some o) : Stm H' st cs := by
  obtain ⟨ns, k, a, b, c⟩ := s.ex
  exact ⟨s.ne, ns, k, h1 _ a, h2 _ b, c⟩
theorem Stm.mut {H : Hp} {st cs : Addr} (s : Stm H st cs) : MutL [st, cs] H := fun a ha => by
  obtain ⟨ns, k, h1, h2, _⟩ := s.ex
  rcases List.mem_cons.mp ha with rfl | ha
  · exact ⟨_, h1⟩
  · obtain rfl := List.mem_singleton.mp ha
    exact ⟨_, h2⟩
theorem Stm.upd {H : Hp} {st cs p : Addr} {o : HO} (s : Stm H st cs) (n : H p = none) : Stm (L2.upd H p o) st cs := by
  obtain ⟨ns, k, h1, h2, _⟩ := s.ex
  exact s.keep (fun o e => by rw [upd_ne (ne_of_none e n)]; exact e) (fun o e => by rw [upd_ne (ne_of_none e n)]; exact e)
theorem Stm.updn {H : Hp} {st cs p : Addr} {o : HO} (s : Stm H st cs) (n1 : p ≠ st) (n2 : p ≠ cs) : Stm (L2.upd H p o) st cs :=
  s.keep (fun o e => by rw [upd_ne (Ne.symm n1)]; exact e) (fun o e => by rw [upd_ne (Ne.symm n2)]; exact e)
theorem cut_to {xs : List V} {k : Nat} {z : Int} (e : z = (k : Int)) : cutV xs none (some z) = xs.take k := by
  subst e
  unfold cutV
  rw [HT.sIx_none, HT.sIx_nat, List.drop_zero, Nat.sub_zero]
  rcases Nat.le_total k xs.length with h | h
  · rw [Nat.min_eq_left h]
  · rw [Nat.min_eq_right h, List.take_length, List.take_of_length_le h]
theorem cut_from {xs : List V} {k : Nat} {z : Int} (e : z = (k : Int)) : cutV xs (some z) none = xs.drop k := by
  subst e
  unfold cutV
  rw [HT.sIx_none, HT.sIx_nat]
  rcases Nat.le_total k xs.length with h | h
  · rw [Nat.min_eq_left h, List.take_of_length_le (by rw [List.length_drop]; exact Nat.le_refl _)]
  · rw [Nat.min_eq_right h, List.drop_of_length_le h, List.drop_of_length_le (Nat.le_refl _), List.take_nil]
theorem cut_ints (ns : List Int) (lo hi : Option Int) : ∃ ms : List Int, cutV (ns.map V.int) lo hi = ms.map V.int ∧ ms.length ≤ ns.length := by
  refine ⟨(ns.drop (HT.sIx (ns.map V.int).length 0 lo)).take (HT.sIx (ns.map V.int).length (ns.map V.int).length hi - HT.sIx (ns.map V.int).length 0 lo), ?_, ?_⟩
  · unfold cutV
    rw [List.map_take, List.map_drop]
  · rw [List.length_take, List.length_drop]
    omega
theorem dp_ints {K : PySem.W.Frag} {H : Hp} : ∀ ms : List Int, DpAll K H (ms.map V.int) (ms.map PyData.int)
  | [] => .nil
  | m :: ms => .cons (.int m) (dp_ints ms)
theorem ite2d {c A B : Prop} [Decidable c] (h1 : c → A) (h2 : ¬ c → B) : if decide c = true then A else B := by
  by_cases h : c
  · rw [if_pos (decide_eq_true h)]; exact h1 h
  · rw [if_neg (by simp [h])]; exact h2 h
theorem ite2n {c A B : Prop} [Decidable c] (h1 : ¬ c → A) (h2 : c → B) : if (!decide c) = true then A else B := by
  by_cases h : c
  · rw [if_neg (by simp [h])]; exact h2 h
  · rw [if_pos (by simp [h])]; exact h1 h
theorem ite2b {b : Bool} {A B : Prop} (h1 : b = true → A) (h2 : b = false → B) : if b = true then A else B := by
  cases b with
  | true => exact h1 rfl
  | false => exact h2 rfl
theorem walk_range0 {n : Nat} : Walk (Itr 0 n) n (fun _ => True) (YFn fun i => .int ((i : Nat) : Int)) := walk_range.mono (fun _ h => h) (fun i H x H' _ _ y => ⟨y.1, by rw [y.2]; simp⟩)
/-- t + u, both tracked -/
def rCatN : R2 := fun x y H Q => ∃ a b xs ys, x = .ref a ∧ y = .ref b ∧ H a = some (.tup xs) ∧ H b = some (.tup ys) ∧ xs.length + ys.length ≤ sizeLine ∧ ∀ p H', Same H H' → H' p = some (.tup (xs ++ ys)) → Q (.ref p) H'
theorem op_catN {X : Cx} : OpR X (binaryOp .Add) rCatN := fun pins s σ H x y v u Q I rx ry h => op_catA pins s σ H x y v u Q I rx ry (by
  obtain ⟨a, b, xs, ys, rfl, rfl, ha, hb, hl, k⟩ := h
  refine ⟨a, b, xs, ys, rfl, rfl, SqT.of ha, SqT.of hb, hl, fun e => k b H (Same.refl H) (by rw [hb, e]; rfl), fun _ e => k a H (Same.refl H) (by rw [ha, e, List.append_nil]), fun _ _ p hp => k p _ (same_add hp) upd_same⟩)
/-! ### promises of the law's helpers -/
def spDraw : Sp := fun vs H Q _ => ∃ (st cs : Addr) (m : Int), vs = [.ref st, .int m] ∧ Stm H st cs ∧ 0 < m ∧ m.natAbs < 2 ^ 200 ∧
  ∀ (r : Int) (H' : Hp), 0 ≤ r → r < m → Stm H' st cs → Sm [st, cs] H H' → Q (.int r) H'
def spStream (K : PySem.W.Frag) : Sp := fun vs H Q _ => ∃ (a : Addr) (ns : List Int), vs = [.ref a] ∧ SqL K H a (ns.map V.int) ∧ ns.length ≤ 63 ∧
  ∀ (st cs : Addr) (H' : Hp), Stm H' st cs → Same H H' → Q (.ref st) H'
theorem fm64 {a b : Int} (h : 0 < b) (hb : b ≤ 2 ^ 62) : -(2 ^ 64) < a.fmod b ∧ a.fmod b < 2 ^ 64 := by
  have h1 := Int.fmod_nonneg_of_pos a h
  have h2 := Int.fmod_lt_of_pos a h
  constructor <;> omega
theorem ixN_of {n j : Nat} {z : Int} (e : z = (j : Int)) (hj : j < n) : ixN n z = some j := by
  subst e
  unfold ixN
  rw [if_pos (Int.natCast_nonneg j), if_pos (by omega)]
  simp
theorem fmod_pos {a b : Int} (hb : 0 < b) : 0 ≤ a.fmod b ∧ a.fmod b < b := ⟨Int.fmod_nonneg_of_pos a hb, Int.fmod_lt_of_pos a hb⟩
end G
set_option Elab.async false
set_option linter.all false
set_option maxRecDepth 100000
set_option maxHeartbeats 4000000
namespace G
open PySem L2 Nd
/-! ### trees -/
inductive Tree where
  | node (kind key own : NestedKey) (below : List Tree)
def Tree.kind : Tree → NestedKey | .node k _ _ _ => k
def Tree.key : Tree → NestedKey | .node _ y _ _ => y
def Tree.own : Tree → NestedKey | .node _ _ o _ => o
def Tree.kids : Tree → List Tree | .node _ _ _ b => b
theorem Tree.eta (t : Tree) : t = .node t.kind t.key t.own t.kids := by cases t; rfl
mutual
def sizeT : Tree → Nat
  | .node _ _ _ b => 1 + sizeL b
def sizeL : List Tree → Nat
  | [] => 0
  | t :: ts => sizeT t + sizeL ts
end
mutual
def depT : Tree → Nat
  | .node _ _ _ b => 1 + depL b
def depL : List Tree → Nat
  | [] => 0
  | t :: ts => max (depT t) (depL ts)
end
mutual
/-- the owners, each before those below it -/
def ownT : Tree → List NestedKey
  | .node _ _ o b => o :: ownL b
def ownL : List Tree → List NestedKey
  | [] => []
  | t :: ts => ownT t ++ ownL ts
end
mutual
/-- its texts are of plain signs -/
def okN : NestedKey → Bool
  | .none => true
  | .num _ => true
  | .text x => PyData.strOk x
  | .tup ks => okNs ks
def okNs : List NestedKey → Bool
  | [] => true
  | k :: ks => okN k && okNs ks
end
def flK (k : NestedKey) : Bool := decide (k.depth = 0) && okN k
def flY (k : NestedKey) : Bool := decide (k.depth ≤ 2) && okN k
theorem flK_dep {k : NestedKey} (h : flK k = true) : k.depth = 0 := by
  rw [flK, Bool.and_eq_true] at h
  exact of_decide_eq_true h.1
mutual
/-- kinds are flat, keys are at most two deep, owners at most three -/
def fitT : Tree → Bool
  | .node k y o b => flK k && flY y && decide (o.depth ≤ 3) && fitL b
def fitL : List Tree → Bool
  | [] => true
  | t :: ts => fitT t && fitL ts
end
theorem sizeL_append (a b : List Tree) : sizeL (a ++ b) = sizeL a + sizeL b := by
  induction a with
  | nil => simp [sizeL]
  | cons t ts ih => simp only [List.cons_append, sizeL, ih]; omega
theorem ownL_append (a b : List Tree) : ownL (a ++ b) = ownL a ++ ownL b := by
  induction a with
  | nil => simp [ownL]
  | cons t ts ih => simp only [List.cons_append, ownL, ih, List.append_assoc]
theorem fitL_append (a b : List Tree) : fitL (a ++ b) = (fitL a && fitL b) := by
  induction a with
  | nil => simp [fitL]
  | cons t ts ih => simp only [List.cons_append, fitL, ih, Bool.and_assoc]
theorem depL_append (a b : List Tree) : depL (a ++ b) = max (depL a) (depL b) := by
  induction a with
  | nil => simp [depL]
  | cons t ts ih => simp only [List.cons_append, depL, ih]; omega
theorem sizeL_len : ∀ ts : List Tree, ts.length ≤ sizeL ts
  | [] => by simp [sizeL]
  | .node k y o b :: ts => by
    have := sizeL_len ts
    simp only [List.length_cons, sizeL, sizeT]
    omega
theorem fitL_get {ts : List Tree} {i : Nat} {t : Tree} (h : fitL ts = true) (e : ts[i]? = some t) : fitT t = true := by
  induction ts generalizing i with
  | nil => simp at e
  | cons u us ih =>
    rw [fitL, Bool.and_eq_true] at h
    cases i with
    | zero => simp at e; subst e; exact h.1
    | succ j => exact ih h.2 (by simpa using e)
theorem fitT_at {t : Tree} (h : fitT t = true) : t.kind.depth = 0 ∧ t.key.depth ≤ 2 ∧ t.own.depth ≤ 3 ∧ fitL t.kids = true := by
  cases t with
  | node k y o b =>
    simp only [fitT, flK, flY, Bool.and_eq_true, decide_eq_true_eq] at h
    exact ⟨h.1.1.1.1, h.1.1.2.1, h.1.2, h.2⟩
theorem fitT_fl {t : Tree} (h : fitT t = true) : flK t.kind = true ∧ flY t.key = true := by
  cases t with
  | node k y o b =>
    simp only [fitT, Bool.and_eq_true, decide_eq_true_eq] at h
    exact ⟨h.1.1.1, h.1.1.2⟩
theorem depL_get {ts : List Tree} {i : Nat} {t : Tree} (e : ts[i]? = some t) : depT t ≤ depL ts := by
  induction ts generalizing i with
  | nil => simp at e
  | cons u us ih =>
    cases i with
    | zero => simp at e; subst e; simp only [depL]; omega
    | succ j => have := ih (by simpa using e); simp only [depL]; omega
theorem depT_below (t : Tree) : depT t = 1 + depL t.kids := by cases t; rfl
theorem sizeL_get {ts : List Tree} {i : Nat} {t : Tree} (e : ts[i]? = some t) : sizeT t ≤ sizeL ts := by
  induction ts generalizing i with
  | nil => simp at e
  | cons u us ih =>
    cases i with
    | zero => simp at e; subst e; simp only [sizeL]; omega
    | succ j => have := ih (by simpa using e); simp only [sizeL]; omega
theorem sizeT_below (t : Tree) : sizeT t = 1 + sizeL t.kids := by cases t; rfl

/-! ### the law's own trees: lists of tuples (kind, key, owner, below) -/
mutual
inductive TrT (M : List Addr) (H : Hp) : V → Tree → Prop
  | mk {a b : Addr} {vk vy vo : V} {vs : List V} {k y o : NestedKey} {ts : List Tree} : H a = some (.tup [vk, vy, vo, .ref b]) → NK H vk k → NK H vy y → NK H vo o → H b = some (.lst vs) → b ∉ M → TrL M H vs ts → TrT M H (.ref a) (.node k y o ts)
inductive TrL (M : List Addr) (H : Hp) : List V → List Tree → Prop
  | nil : TrL M H [] []
  | cons {v : V} {t : Tree} {vs : List V} {ts : List Tree} : TrT M H v t → TrL M H vs ts → TrL M H (v :: vs) (t :: ts)
end
mutual
theorem TrT.keep {M : List Addr} {H H' : Hp} (ht : ∀ b xs, H b = some (.tup xs) → H' b = some (.tup xs)) (hl : ∀ b xs, b ∉ M → H b = some (.lst xs) → H' b = some (.lst xs)) : ∀ (t : Tree) (v : V), TrT M H v t → TrT M H' v t
  | .node _ _ _ ts, _, r => by
    cases r with
    | mk h1 h2 h3 h4 h5 h6 h7 => exact .mk (ht _ _ h1) (NK.mono ht _ _ h2) (NK.mono ht _ _ h3) (NK.mono ht _ _ h4) (hl _ _ h6 h5) h6 (TrL.keep ht hl ts _ h7)
theorem TrL.keep {M : List Addr} {H H' : Hp} (ht : ∀ b xs, H b = some (.tup xs) → H' b = some (.tup xs)) (hl : ∀ b xs, b ∉ M → H b = some (.lst xs) → H' b = some (.lst xs)) : ∀ (ts : List Tree) (vs : List V), TrL M H vs ts → TrL M H' vs ts
  | [], _, r => by cases r; exact .nil
  | t :: ts, _, r => by
    cases r with
    | cons h1 h2 => exact .cons (TrT.keep ht hl t _ h1) (TrL.keep ht hl ts _ h2)
end
theorem TrL.sm {M : List Addr} {H H' : Hp} {vs : List V} {ts : List Tree} (r : TrL M H vs ts) (l : MutL M H) (e : Sm M H H') : TrL M H' vs ts := TrL.keep (l.tup e) (fun b xs n h => e b _ h n) ts vs r
theorem TrL.same {M : List Addr} {H H' : Hp} {vs : List V} {ts : List Tree} (r : TrL M H vs ts) (e : Same H H') : TrL M H' vs ts := TrL.keep (fun b xs h => e b _ h) (fun b xs _ h => e b _ h) ts vs r
theorem TrT.sm {M : List Addr} {H H' : Hp} {v : V} {t : Tree} (r : TrT M H v t) (l : MutL M H) (e : Sm M H H') : TrT M H' v t := TrT.keep (l.tup e) (fun b xs n h => e b _ h n) t v r
theorem TrT.same {M : List Addr} {H H' : Hp} {v : V} {t : Tree} (r : TrT M H v t) (e : Same H H') : TrT M H' v t := TrT.keep (fun b xs h => e b _ h) (fun b xs _ h => e b _ h) t v r
theorem TrL.len {M : List Addr} {H : Hp} : ∀ {vs : List V} {ts : List Tree}, TrL M H vs ts → vs.length = ts.length
  | _, _, .nil => rfl
  | _, _, .cons _ r => by rw [List.length_cons, List.length_cons, TrL.len r]
theorem TrL.get {M : List Addr} {H : Hp} : ∀ {vs : List V} {ts : List Tree} {i : Nat} {v : V}, TrL M H vs ts → vs[i]? = some v → ∃ t, ts[i]? = some t ∧ TrT M H v t
  | _, _, _, _, .nil, e => by simp at e
  | _, _, 0, _, .cons r _, e => by simp at e; subst e; exact ⟨_, rfl, r⟩
  | _, _, i + 1, v, .cons _ r, e => by
    obtain ⟨t, h1, h2⟩ := TrL.get (i := i) (v := v) r (by simpa using e)
    exact ⟨t, by simpa using h1, h2⟩
theorem TrL.append {M : List Addr} {H : Hp} : ∀ {vs ws : List V} {ts us : List Tree}, TrL M H vs ts → TrL M H ws us → TrL M H (vs ++ ws) (ts ++ us)
  | _, _, _, _, .nil, s => s
  | _, _, _, _, .cons r t, s => .cons r (TrL.append t s)
theorem TrL.take {M : List Addr} {H : Hp} : ∀ {vs : List V} {ts : List Tree} (n : Nat), TrL M H vs ts → TrL M H (vs.take n) (ts.take n)
  | _, _, 0, _ => .nil
  | _, _, _ + 1, .nil => .nil
  | _, _, n + 1, .cons r t => .cons r (TrL.take n t)
theorem TrL.drop {M : List Addr} {H : Hp} : ∀ {vs : List V} {ts : List Tree} (n : Nat), TrL M H vs ts → TrL M H (vs.drop n) (ts.drop n)
  | _, _, 0, r => r
  | _, _, _ + 1, .nil => .nil
  | _, _, n + 1, .cons _ t => TrL.drop n t
theorem TrL.snoc {M : List Addr} {H : Hp} {vs : List V} {ts : List Tree} {v : V} {t : Tree} (r : TrL M H vs ts) (h : TrT M H v t) : TrL M H (vs ++ [v]) (ts ++ [t]) := r.append (.cons h .nil)

mutual
theorem TrT.weak {M M' : List Addr} {H : Hp} (h : ∀ b, b ∈ M' → b ∈ M) : ∀ (t : Tree) (v : V), TrT M H v t → TrT M' H v t
  | .node _ _ _ ts, _, r => by
    cases r with
    | mk h1 h2 h3 h4 h5 h6 h7 => exact .mk h1 h2 h3 h4 h5 (fun z => h6 (h _ z)) (TrL.weak h ts _ h7)
theorem TrL.weak {M M' : List Addr} {H : Hp} (h : ∀ b, b ∈ M' → b ∈ M) : ∀ (ts : List Tree) (vs : List V), TrL M H vs ts → TrL M' H vs ts
  | [], _, r => by cases r; exact .nil
  | t :: ts, _, r => by
    cases r with
    | cons h1 h2 => exact .cons (TrT.weak h t _ h1) (TrL.weak h ts _ h2)
end
mutual
theorem TrT.out {M M' : List Addr} {H : Hp} (h : ∀ b xs, H b = some (.lst xs) → b ∉ M → b ∉ M') : ∀ (t : Tree) (v : V), TrT M H v t → TrT M' H v t
  | .node _ _ _ ts, _, r => by
    cases r with
    | mk h1 h2 h3 h4 h5 h6 h7 => exact .mk h1 h2 h3 h4 h5 (h _ _ h5 h6) (TrL.out h ts _ h7)
theorem TrL.out {M M' : List Addr} {H : Hp} (h : ∀ b xs, H b = some (.lst xs) → b ∉ M → b ∉ M') : ∀ (ts : List Tree) (vs : List V), TrL M H vs ts → TrL M' H vs ts
  | [], _, r => by cases r; exact .nil
  | t :: ts, _, r => by
    cases r with
    | cons h1 h2 => exact .cons (TrT.out h t _ h1) (TrL.out h ts _ h2)
end
theorem TrL.tail {M : List Addr} {D : Addr} {H : Hp} {vs : List V} {ts : List Tree} (r : TrL (D :: M) H vs ts) : TrL M H vs ts := TrL.weak (fun b h => List.mem_cons_of_mem _ h) ts vs r
/-- a list of M is written -/
theorem TrL.put {M : List Addr} {D : Addr} {H : Hp} {vs xs : List V} {ts : List Tree} {o : HO} (r : TrL M H vs ts) (hD : H D = some (.lst xs)) (hm : D ∈ M) : TrL M (L2.upd H D o) vs ts :=
  TrL.keep (fun b ys e => by rw [upd_ne (ne_of e hD (by intro z; cases z))]; exact e) (fun b ys n e => by rw [upd_ne (fun z => n (by rw [z]; exact hm))]; exact e) ts vs r
/-! ### the program's nodes: instances of the class C -/
def ndF (vk vy vo vb : V) : List (Str × V) := putF "nodes" vb (putF "owner" vo (putF "key" vy (putF "kind" vk [])))
mutual
inductive NdT (M : List Addr) (C : Addr) (H : Hp) : V → Tree → Prop
  | mk {a dx b : Addr} {vk vy vo : V} {vs : List V} {k y o : NestedKey} {ts : List Tree} : H a = some (.ins C dx (ndF vk vy vo (.ref b))) → NK H vk k → NK H vy y → NK H vo o → H b = some (.lst vs) → b ∉ M → NdL M C H vs ts → NdT M C H (.ref a) (.node k y o ts)
inductive NdL (M : List Addr) (C : Addr) (H : Hp) : List V → List Tree → Prop
  | nil : NdL M C H [] []
  | cons {v : V} {t : Tree} {vs : List V} {ts : List Tree} : NdT M C H v t → NdL M C H vs ts → NdL M C H (v :: vs) (t :: ts)
end
/-- lists of M may change, M may shrink -/
structure Kp (M M' : List Addr) (H H' : Hp) : Prop where
  tup : ∀ b xs, H b = some (.tup xs) → H' b = some (.tup xs)
  lst : ∀ b xs, b ∉ M → H b = some (.lst xs) → H' b = some (.lst xs)
  ins : ∀ b C dx fs, H b = some (.ins C dx fs) → H' b = some (.ins C dx fs)
  sub : ∀ b, b ∈ M' → b ∈ M
mutual
theorem NdT.keep {M M' : List Addr} {C : Addr} {H H' : Hp} (e : Kp M M' H H') : ∀ (t : Tree) (v : V), NdT M C H v t → NdT M' C H' v t
  | .node _ _ _ ts, _, r => by
    cases r with
    | mk h1 h2 h3 h4 h5 h6 h7 => exact .mk (e.ins _ _ _ _ h1) (NK.mono e.tup _ _ h2) (NK.mono e.tup _ _ h3) (NK.mono e.tup _ _ h4) (e.lst _ _ h6 h5) (fun z => h6 (e.sub _ z)) (NdL.keep e ts _ h7)
theorem NdL.keep {M M' : List Addr} {C : Addr} {H H' : Hp} (e : Kp M M' H H') : ∀ (ts : List Tree) (vs : List V), NdL M C H vs ts → NdL M' C H' vs ts
  | [], _, r => by cases r; exact .nil
  | t :: ts, _, r => by
    cases r with
    | cons h1 h2 => exact .cons (NdT.keep e t _ h1) (NdL.keep e ts _ h2)
end
theorem Kp.same {M : List Addr} {H H' : Hp} (e : Same H H') : Kp M M H H' := ⟨fun b xs h => e _ _ h, fun b xs _ h => e _ _ h, fun b C dx fs h => e _ _ h, fun _ h => h⟩
theorem Kp.weak {M M' : List Addr} {H : Hp} (h : ∀ b, b ∈ M' → b ∈ M) : Kp M M' H H := ⟨fun b xs h => h, fun b xs _ h => h, fun b C dx fs h => h, h⟩
theorem Kp.put {M : List Addr} {H : Hp} {D : Addr} {xs : List V} {o : HO} (hD : H D = some (.lst xs)) (hm : D ∈ M) : Kp M M H (upd H D o) :=
  ⟨fun b ys e => by rw [upd_ne (ne_of e hD (by intro z; cases z))]; exact e, fun b ys n e => by rw [upd_ne (fun z => n (by rw [z]; exact hm))]; exact e,
   fun b C dx fs e => by rw [upd_ne (ne_of e hD (by intro z; cases z))]; exact e, fun _ h => h⟩
theorem NdL.same {M : List Addr} {C : Addr} {H H' : Hp} {vs : List V} {ts : List Tree} (r : NdL M C H vs ts) (e : Same H H') : NdL M C H' vs ts := NdL.keep (Kp.same e) ts vs r
theorem NdT.same {M : List Addr} {C : Addr} {H H' : Hp} {v : V} {t : Tree} (r : NdT M C H v t) (e : Same H H') : NdT M C H' v t := NdT.keep (Kp.same e) t v r
theorem NdL.free {M : List Addr} {C : Addr} {H : Hp} {vs : List V} {ts : List Tree} (r : NdL M C H vs ts) : NdL [] C H vs ts := NdL.keep (Kp.weak fun _ h => by cases h) ts vs r
theorem NdT.free {M : List Addr} {C : Addr} {H : Hp} {v : V} {t : Tree} (r : NdT M C H v t) : NdT [] C H v t := NdT.keep (Kp.weak fun _ h => by cases h) t v r
theorem NdL.len {M : List Addr} {C : Addr} {H : Hp} : ∀ {vs : List V} {ts : List Tree}, NdL M C H vs ts → vs.length = ts.length
  | _, _, .nil => rfl
  | _, _, .cons _ r => by rw [List.length_cons, List.length_cons, NdL.len r]
theorem NdL.get {M : List Addr} {C : Addr} {H : Hp} : ∀ {vs : List V} {ts : List Tree} {i : Nat} {v : V}, NdL M C H vs ts → vs[i]? = some v → ∃ t, ts[i]? = some t ∧ NdT M C H v t
  | _, _, _, _, .nil, e => by simp at e
  | _, _, 0, _, .cons r _, e => by simp at e; subst e; exact ⟨_, rfl, r⟩
  | _, _, i + 1, v, .cons _ r, e => by
    obtain ⟨t, h1, h2⟩ := NdL.get (i := i) (v := v) r (by simpa using e)
    exact ⟨t, by simpa using h1, h2⟩
theorem NdL.append {M : List Addr} {C : Addr} {H : Hp} : ∀ {vs ws : List V} {ts us : List Tree}, NdL M C H vs ts → NdL M C H ws us → NdL M C H (vs ++ ws) (ts ++ us)
  | _, _, _, _, .nil, s => s
  | _, _, _, _, .cons r t, s => .cons r (NdL.append t s)
/-! with every list of it outside of M -/
mutual
theorem NdT.out {M M' : List Addr} {C : Addr} {H : Hp} (h : ∀ b xs, H b = some (.lst xs) → b ∉ M → b ∉ M') : ∀ (t : Tree) (v : V), NdT M C H v t → NdT M' C H v t
  | .node _ _ _ ts, _, r => by
    cases r with
    | mk h1 h2 h3 h4 h5 h6 h7 => exact .mk h1 h2 h3 h4 h5 (h _ _ h5 h6) (NdL.out h ts _ h7)
theorem NdL.out {M M' : List Addr} {C : Addr} {H : Hp} (h : ∀ b xs, H b = some (.lst xs) → b ∉ M → b ∉ M') : ∀ (ts : List Tree) (vs : List V), NdL M C H vs ts → NdL M' C H vs ts
  | [], _, r => by cases r; exact .nil
  | t :: ts, _, r => by
    cases r with
    | cons h1 h2 => exact .cons (NdT.out h t _ h1) (NdL.out h ts _ h2)
end
theorem ndF_kind (vk vy vo vb : V) : (ndF vk vy vo vb).lookup ("kind" : Str) = some vk := by
  unfold ndF
  rw [lookup_putF, if_neg (by decide +kernel), lookup_putF, if_neg (by decide +kernel), lookup_putF, if_neg (by decide +kernel), lookup_putF, if_pos rfl]
theorem ndF_key (vk vy vo vb : V) : (ndF vk vy vo vb).lookup ("key" : Str) = some vy := by
  unfold ndF
  rw [lookup_putF, if_neg (by decide +kernel), lookup_putF, if_neg (by decide +kernel), lookup_putF, if_pos rfl]
theorem ndF_owner (vk vy vo vb : V) : (ndF vk vy vo vb).lookup ("owner" : Str) = some vo := by
  unfold ndF
  rw [lookup_putF, if_neg (by decide +kernel), lookup_putF, if_pos rfl]
theorem ndF_nodes (vk vy vo vb : V) : (ndF vk vy vo vb).lookup ("nodes" : Str) = some vb := by
  unfold ndF
  rw [lookup_putF, if_pos rfl]
theorem ndF_no (vk vy vo vb : V) {m : Str} (h1 : ¬ m = "nodes") (h2 : ¬ m = "owner") (h3 : ¬ m = "key") (h4 : ¬ m = "kind") : (ndF vk vy vo vb).lookup m = none := by
  unfold ndF
  rw [lookup_putF, if_neg h1, lookup_putF, if_neg h2, lookup_putF, if_neg h3, lookup_putF, if_neg h4]
  rfl

/-! ### promises -/
def spKey : Sp := fun vs H Q _ => ∃ (st cs : Addr), vs = [.ref st] ∧ Stm H st cs ∧
  ∀ (v : V) (k : NestedKey) (H' : Hp), NK H' v k → flY k = true → Stm H' st cs → Sm [st, cs] H H' → Q v H'
theorem atI_small {xs : List V} {r : Int} (h0 : 0 ≤ r) (h1 : r < (xs.length : Int)) : ∃ v, atI xs r = some v ∧ v ∈ xs := by
  obtain ⟨n, rfl⟩ : ∃ n : Nat, r = (n : Int) := ⟨_, (Int.toNat_of_nonneg h0).symm⟩
  have hn : n < xs.length := by omega
  exact ⟨xs[n], atI_nat (List.getElem?_eq_getElem hn), List.getElem_mem hn⟩
/-- a tuple of keys that was just laid -/
theorem NK.laid {H : Hp} {p : Addr} {xs : List V} {ks : List NestedKey} (n : H p = none) (h : NKs H xs ks) : NK (L2.upd H p (.tup xs)) (.ref p) (.tup ks) := .tup upd_same (h.same (same_add n))
theorem fn_false {P : Program} {w : World} {K : PySem.W.Frag} {mg : Str → Option Value} {base : Heap} {CX : CXT} {k : Nat} {f : Addr} {fd : FuncData} {ps : List Str} {sp : Sp} (h : ∀ vs H Q E, ¬ sp vs H Q E) : FnOk P w K mg base CX k f fd ps sp :=
  ⟨fun vs H Q E q => (h _ _ _ _ q).elim, fun A outer s H args us vs Q E _ _ _ _ q => (h _ _ _ _ q).elim⟩
theorem MutL.cons {M : List Addr} {H : Hp} {D : Addr} {xs : List V} (l : MutL M H) (h : H D = some (.lst xs)) : MutL (D :: M) H := fun a ha => by
  rcases List.mem_cons.mp ha with rfl | ha
  · exact ⟨_, h⟩
  · exact l a ha
theorem MutL.put {M : List Addr} {H : Hp} {D : Addr} {xs : List V} (l : MutL M H) : MutL M (L2.upd H D (.lst xs)) := fun a ha => by
  by_cases h : a = D
  · subst h; exact ⟨_, upd_same⟩
  · rw [upd_ne h]; exact l a ha
theorem MutL.tail {M : List Addr} {H : Hp} {D : Addr} (l : MutL (D :: M) H) : MutL M H := fun a ha => l a (List.mem_cons_of_mem _ ha)
theorem MutL.same {M : List Addr} {H H' : Hp} (l : MutL M H) (e : Same H H') : MutL M H' := fun a ha => let ⟨xs, q⟩ := l a ha; ⟨xs, e _ _ q⟩
theorem MutL.step {M : List Addr} {H H' : Hp} {st cs : Addr} (l : MutL M H) (S : Stm H' st cs) (e : Sm [st, cs] H H') : MutL M H' := fun a ha => by
  by_cases h1 : a = st
  · subst h1
    obtain ⟨ns, k, q, _⟩ := S.ex
    exact ⟨_, q⟩
  · by_cases h2 : a = cs
    · subst h2
      obtain ⟨ns, k, _, q, _⟩ := S.ex
      exact ⟨_, q⟩
    · obtain ⟨xs, q⟩ := l a ha
      exact ⟨xs, e a _ q (by simp [h1, h2])⟩
/-- the owner of a drawn node: its path, one number -/
def ownOf (p : List Int) (r : Int) : NestedKey := .tup [.tup (p.map .num), .tup [.num r]]
theorem ownOf_inj {p q : List Int} {r s : Int} (h : ownOf p r = ownOf q s) : p = q := by
  unfold ownOf at h
  injection h with h
  injection h with h _
  injection h with h
  exact List.map_inj_right (fun a b e => by injection e) |>.mp h
structure OwnOk (path : List Int) (ts : List Tree) : Prop where
  nd : (ownL ts).Nodup
  at_ : ∀ o ∈ ownL ts, ∃ (k : Nat) (rest : List Int) (r : Int), k < ts.length ∧ o = ownOf (path ++ (k : Int) :: rest) r
theorem OwnOk.nil (path : List Int) : OwnOk path [] := ⟨List.nodup_nil, fun o h => nomatch h⟩
theorem OwnOk.snoc {path : List Int} {ts bs : List Tree} {k y : NestedKey} {r : Int} (h : OwnOk path ts) (hb : OwnOk (path ++ [(ts.length : Int), 0]) bs) :
    OwnOk path (ts ++ [.node k y (ownOf (path ++ [(ts.length : Int)]) r) bs]) := by
  have e : ownL (ts ++ [.node k y (ownOf (path ++ [(ts.length : Int)]) r) bs]) = ownL ts ++ (ownOf (path ++ [(ts.length : Int)]) r :: ownL bs) := by
    rw [ownL_append]; simp [ownL, ownT]
  constructor
  · rw [e, List.nodup_append]
    refine ⟨h.nd, List.nodup_cons.mpr ⟨fun hm => ?_, hb.nd⟩, fun a ha b hb' hab => ?_⟩
    · obtain ⟨k, rest, r', _, q⟩ := hb.at_ _ hm
      have := congrArg List.length (ownOf_inj q)
      simp at this
    · subst hab
      obtain ⟨k, rest, r', hk, q⟩ := h.at_ _ ha
      have key : ∀ (x : List Int) (y : Int), a = ownOf (path ++ (ts.length : Int) :: x) y → False := fun x y z => by
        have := ownOf_inj (q.symm.trans z)
        have := List.append_cancel_left this
        injection this with h1 _
        omega
      rcases List.mem_cons.mp hb' with z | z
      · exact key [] r z
      · obtain ⟨k2, rest2, r2, _, q2⟩ := hb.at_ _ z
        exact key (0 :: (k2 : Int) :: rest2) r2 (by rw [q2]; simp)
  · intro o ho
    rw [e, List.mem_append] at ho
    rw [List.length_append, List.length_singleton]
    rcases ho with ho | ho
    · obtain ⟨k, rest, r', hk, q⟩ := h.at_ _ ho
      exact ⟨k, rest, r', by omega, q⟩
    · rcases List.mem_cons.mp ho with z | z
      · exact ⟨ts.length, [], r, by omega, z⟩
      · obtain ⟨k2, rest2, r2, _, q2⟩ := hb.at_ _ z
        exact ⟨ts.length, 0 :: (k2 : Int) :: rest2, r2, by omega, by rw [q2]; simp⟩
def bnd (m : Nat) : Nat → Nat
  | 0 => 0
  | n + 1 => m * (1 + bnd m n)
/-- a drawn tree -/
structure Drawn (m n : Nat) (path : List Int) (ts : List Tree) : Prop where
  own : OwnOk path ts
  fit : fitL ts = true
  dep : depL ts ≤ n
  siz : sizeL ts ≤ bnd m n
  len : ts.length ≤ m
def spTree (m n : Nat) : Sp := fun vs H Q _ => ∃ (M : List Addr) (st cs pl : Addr) (path : List Int), vs = [.ref st, .int (m : Int), .int (n : Int), .ref pl] ∧ 0 < n ∧ m < 100 ∧ path.length + 2 * n < 1000 ∧ bnd m n < 1000000 ∧ Stm H st cs ∧ MutL M H ∧ st ∈ M ∧ cs ∈ M ∧ H pl = some (.tup (path.map V.int)) ∧
  ∀ (a : Addr) (xs : List V) (ts : List Tree) (H' : Hp), H' a = some (.lst xs) → H a = none → TrL M H' xs ts → Drawn m n path ts → Stm H' st cs → Sm [st, cs] H H' → Q (.ref a) H'
def spBuilt (C : Addr) (n : Nat) : Sp := fun vs H Q _ => ∃ (M N : List Addr) (a : Addr) (xs : List V) (ts : List Tree), vs = [.ref a] ∧ H a = some (.lst xs) ∧ TrL M H xs ts ∧ depL ts < n ∧ sizeL ts < 1000000 ∧ MutL N H ∧
  ∀ (b : Addr) (ys : List V) (H' : Hp), H b = none → H' b = some (.lst ys) → NdL N C H' ys ts → Same H H' → Q (.ref b) H'
theorem bnd_le {m n i : Nat} (h : i ≤ m) : i * (1 + bnd m n) ≤ bnd m (n + 1) := Nat.mul_le_mul_right _ h
theorem bnd_step (m n : Nat) (hm : 0 < m) : bnd m n ≤ bnd m (n + 1) := by
  show bnd m n ≤ m * (1 + bnd m n)
  have : 1 * (1 + bnd m n) ≤ m * (1 + bnd m n) := Nat.mul_le_mul_right _ hm
  omega
theorem nk_menu {H : Hp} {v : V} (h : v ∈ [V.non, V.str "p", V.str "q"]) : ∃ k : NestedKey, NK H v k ∧ flK k = true := by
  simp only [List.mem_cons, List.not_mem_nil, or_false] at h
  rcases h with rfl | rfl | rfl
  · exact ⟨_, .non, by decide +kernel⟩
  · exact ⟨_, .str _, by decide +kernel⟩
  · exact ⟨_, .str _, by decide +kernel⟩
theorem NK.flat {H H' : Hp} {v : V} {k : NestedKey} (h : NK H v k) (hd : k.depth = 0) : NK H' v k := by
  cases h with
  | non => exact .non
  | int i => exact .int i
  | str x => exact .str x
  | tup _ _ => simp [NestedKey.depth] at hd
theorem nat200 {z : Int} (h0 : 0 ≤ z) (h : z < 1000000) : z.natAbs < 2 ^ 200 := Nat.lt_of_lt_of_le (show z.natAbs < 1000000 by omega) (by decide)
theorem ints_depth : ∀ p : List Int, NestedKey.depthAll (p.map NestedKey.num) = 0
  | [] => rfl
  | x :: p => by simp [NestedKey.depthAll, NestedKey.depth, ints_depth p]
theorem ownOf_depth (p : List Int) (r : Int) : (ownOf p r).depth = 2 := by
  simp [ownOf, NestedKey.depth, NestedKey.depthAll, ints_depth]
theorem nks_ints {H : Hp} : ∀ p : List Int, NKs H (p.map V.int) (p.map NestedKey.num)
  | [] => .nil
  | x :: p => .cons (.int x) (nks_ints p)
end G
set_option Elab.async false
set_option linter.all false
namespace G
open PySem
/-! ### slots, matched nodes: the mathematics -/
def cntK (ts : List Tree) (k y : NestedKey) : Nat := (ts.filter fun u => decide (u.kind = k) && decide (u.key = y)).length
def cntN (ts : List Tree) : Nat := (ts.filter fun u => decide (u.key = .none)).length
def numAt (all : Bool) (pre : List Tree) (t : Tree) : Nat := if t.key = .none then (if all then pre.length else cntN pre) else cntK pre t.kind t.key
def slot (all : Bool) (pre : List Tree) (t : Tree) : NestedKey := .tup [t.kind, t.key, .num (numAt all pre t : Int)]
def slotsFrom (all : Bool) : List Tree → List Tree → List NestedKey
  | _, [] => []
  | pre, t :: ts => slot all pre t :: slotsFrom all (pre ++ [t]) ts
def slots (all : Bool) (ts : List Tree) : List NestedKey := slotsFrom all [] ts
theorem slotsFrom_snoc (all : Bool) (t : Tree) : ∀ (xs pre : List Tree), slotsFrom all pre (xs ++ [t]) = slotsFrom all pre xs ++ [slot all (pre ++ xs) t]
  | [], pre => by simp [slotsFrom]
  | x :: xs, pre => by
    rw [List.cons_append, slotsFrom, slotsFrom, slotsFrom_snoc all t xs (pre ++ [x])]
    simp
theorem slots_snoc (all : Bool) (xs : List Tree) (t : Tree) : slots all (xs ++ [t]) = slots all xs ++ [slot all xs t] := by
  unfold slots
  rw [slotsFrom_snoc]
  simp
theorem slots_len (all : Bool) : ∀ (ts pre : List Tree), (slotsFrom all pre ts).length = ts.length
  | [], _ => rfl
  | t :: ts, pre => by simp [slotsFrom, slots_len all ts]
theorem slots_length (all : Bool) (ts : List Tree) : (slots all ts).length = ts.length := slots_len all ts []
theorem cntN_snoc (xs : List Tree) (t : Tree) : cntN (xs ++ [t]) = cntN xs + (if t.key = .none then 1 else 0) := by
  unfold cntN
  rw [List.filter_append, List.length_append]
  by_cases h : t.key = .none <;> simp [h, List.filter_cons]
theorem cntK_snoc (xs : List Tree) (t : Tree) (k y : NestedKey) : cntK (xs ++ [t]) k y = cntK xs k y + (if t.kind = k ∧ t.key = y then 1 else 0) := by
  unfold cntK
  rw [List.filter_append, List.length_append]
  by_cases h : t.kind = k <;> by_cases h2 : t.key = y <;> simp [h, h2, List.filter_cons]
theorem slots_get (all : Bool) : ∀ (ts pre : List Tree) (i : Nat) (t : Tree), ts[i]? = some t → (slotsFrom all pre ts)[i]? = some (slot all (pre ++ ts.take i) t)
  | [], _, _, _, e => by simp at e
  | u :: us, pre, 0, t, e => by simp at e; subst e; simp [slotsFrom]
  | u :: us, pre, i + 1, t, e => by
    rw [slotsFrom, List.getElem?_cons_succ, slots_get all us (pre ++ [u]) i t (by simpa using e)]
    simp
theorem slot_at (all : Bool) {ts : List Tree} {i : Nat} {t : Tree} (e : ts[i]? = some t) : (slots all ts)[i]? = some (slot all (ts.take i) t) := by
  have := slots_get all ts [] i t e
  simpa [slots] using this
theorem slot_depth {all : Bool} {pre : List Tree} {t : Tree} (h : fitT t = true) : (slot all pre t).depth ≤ 3 := by
  obtain ⟨h1, h2, _⟩ := fitT_at h
  simp only [slot, NestedKey.depth, NestedKey.depthAll]
  omega
/-- the node of a slot, the last one -/
def findP (ps : List (NestedKey × Tree)) (s : NestedKey) : Option Tree := (ps.reverse.find? fun p => decide (p.1 = s)).map (·.2)
def findS (all : Bool) (old : List Tree) (s : NestedKey) : Option Tree := findP ((slots all old).zip old) s
theorem findP_snoc (ps : List (NestedKey × Tree)) (k : NestedKey) (t : Tree) (s : NestedKey) : findP (ps ++ [(k, t)]) s = if s = k then some t else findP ps s := by
  unfold findP
  rw [List.reverse_append, List.reverse_singleton, List.singleton_append, List.find?_cons]
  by_cases h : s = k
  · subst h; simp
  · rw [if_neg h]
    have : ¬ k = s := fun z => h z.symm
    simp [this]
theorem findS_get {all : Bool} {old : List Tree} {s : NestedKey} {u : Tree} (h : findS all old s = some u) : ∃ i : Nat, old[i]? = some u ∧ (slots all old)[i]? = some s := by
  unfold findS findP at h
  obtain ⟨p, hp, rfl⟩ := Option.map_eq_some_iff.mp h
  have h1 := List.mem_of_find?_eq_some hp
  have h2 : p.1 = s := of_decide_eq_true (List.find?_some (p := fun p : NestedKey × Tree => decide (p.1 = s)) hp)
  rw [List.mem_reverse] at h1
  obtain ⟨i, hi⟩ := List.mem_iff_getElem?.mp h1
  obtain ⟨g1, g2⟩ := List.getElem?_zip_eq_some.mp hi
  exact ⟨i, g2, by rw [g1, h2]⟩
mutual
def mT (all : Bool) (old pre : List Tree) : Tree → List (Tree × Tree)
  | .node k y o b => match findS all old (slot all pre (.node k y o b)) with
    | none => []
    | some u => (u, .node k y o b) :: mL all u.kids [] b
def mL (all : Bool) (old pre : List Tree) : List Tree → List (Tree × Tree)
  | [] => []
  | t :: ts => mT all old pre t ++ mL all old (pre ++ [t]) ts
end
theorem mL_snoc (all : Bool) (old : List Tree) (t : Tree) : ∀ (xs pre : List Tree), mL all old pre (xs ++ [t]) = mL all old pre xs ++ mT all old (pre ++ xs) t
  | [], pre => by simp [mL]
  | x :: xs, pre => by
    rw [List.cons_append, mL, mL, mL_snoc all old t xs (pre ++ [x])]
    simp
mutual
theorem mT_len (all : Bool) : ∀ (t : Tree) (old pre : List Tree), (mT all old pre t).length ≤ sizeT t
  | .node k y o b, old, pre => by
    rw [mT, sizeT]
    split
    · simp
    · rename_i u _
      have := mL_len all b u.kids []
      rw [List.length_cons]
      omega
theorem mL_len (all : Bool) : ∀ (ts old pre : List Tree), (mL all old pre ts).length ≤ sizeL ts
  | [], _, _ => by simp [mL]
  | t :: ts, old, pre => by
    rw [mL, sizeL, List.length_append]
    have h1 := mT_len all t old pre
    have h2 := mL_len all ts old (pre ++ [t])
    omega
end
end G
set_option Elab.async false
set_option linter.all false
set_option maxRecDepth 100000
set_option maxHeartbeats 4000000
namespace G
open PySem L2 Nd
/-! ### Node, Rule: promises -/
def SqA (K : PySem.W.Frag) (H : Hp) (a : Addr) (xs : List V) : Prop := SqL K H a xs ∨ SqT K H a xs
theorem SqA.upd {K : PySem.W.Frag} {H : Hp} {a p : Addr} {xs : List V} {C dx : Addr} {fs : List (Str × V)} {o : HO} (h : SqA K H a xs) (hp : H p = some (.ins C dx fs)) : SqA K (L2.upd H p o) a xs := by
  rcases h with ((h | ⟨u, h⟩) | h) | ((h | ⟨u, h⟩) | h)
  · exact .inl (.inl (.inl (by rw [upd_ne (ne_of h hp (by intro z; cases z))]; exact h)))
  · exact .inl (.inl (.inr ⟨u, by rw [upd_ne (ne_of h hp (by intro z; cases z))]; exact h⟩))
  · exact .inl (.inr h)
  · exact .inr (.inl (.inl (by rw [upd_ne (ne_of h hp (by intro z; cases z))]; exact h)))
  · exact .inr (.inl (.inr ⟨u, by rw [upd_ne (ne_of h hp (by intro z; cases z))]; exact h⟩))
  · exact .inr (.inr h)
def spNodeInit (K : PySem.W.Frag) (C : Addr) : Sp := fun vs H Q _ => ∃ (p dx a : Addr) (vk vy vo : V) (xs : List V), vs = [.ref p, vk, vy, vo, .ref a] ∧ H p = some (.ins C dx []) ∧ SqA K H a xs ∧
  ∀ (b : Addr) (H' : Hp), H b = none → H' p = some (.ins C dx (ndF vk vy vo (.ref b))) → H' b = some (.lst xs) → (∀ c o, H c = some o → c ≠ p → H' c = some o) → Q .non H'
def spBelow (C : Addr) : Sp := fun vs H Q _ => ∃ (p dx b : Addr) (vk vy vo : V) (xs : List V), vs = [.ref p] ∧ H p = some (.ins C dx (ndF vk vy vo (.ref b))) ∧ H b = some (.lst xs) ∧
  ∀ (a : Addr), H a = none → Q (.ref a) (upd H a (.lst xs))
theorem put_lt {f : Str} {v : V} {fs : List (Str × V)} {n : Nat} (h : fs.length < n) (hn : n < 1000) : (putF f v fs).length < n + 1 := by
  have := length_putF f v fs
  omega
/-- the fields of a rule -/
def ruF (z : Str) : List (Str × V) := putF "place" (.str z) []
theorem ruF_place (z : Str) : (ruF z).lookup ("place" : Str) = some (.str z) := by
  unfold ruF
  rw [lookup_putF, if_pos rfl]
theorem ruF_no (z : Str) {m : Str} (h1 : ¬ m = "place") : (ruF z).lookup m = none := by
  unfold ruF
  rw [lookup_putF, if_neg h1]
  rfl
def placeOf (all : Bool) : Str := if all then "all" else "plain"
def spRuleInit (C : Addr) : Sp := fun vs H Q _ => ∃ (p dx : Addr) (all : Bool), vs = [.ref p, .str (placeOf all)] ∧ H p = some (.ins C dx []) ∧
  ∀ (H' : Hp), H' p = some (.ins C dx (ruF (placeOf all))) → (∀ c o, H c = some o → c ≠ p → H' c = some o) → Q .non H'
theorem NK.non_iff {H : Hp} {v : V} {k : NestedKey} (h : NK H v k) : v = .non ↔ k = .none := by
  cases h with
  | non => simp
  | int i => simp
  | str x => simp
  | tup _ _ => simp
theorem keep_tup {H H' : Hp} {D : Addr} {o u : HO} (hD : H D = some u) (hu : ∀ xs, u ≠ .tup xs) : ∀ b xs, H b = some (.tup xs) → L2.upd H D o b = some (.tup xs) := fun b xs e => by
  rw [upd_ne (ne_of e hD (fun z => hu xs z.symm))]
  exact e
def spCall (C Cn : Addr) : Sp := fun vs H Q _ => ∃ (all : Bool) (r dx a : Addr) (xs : List V) (ts : List Tree), vs = [.ref r, .ref a] ∧ H r = some (.ins C dx (ruF (placeOf all))) ∧ H a = some (.lst xs) ∧ NdL [] Cn H xs ts ∧ fitL ts = true ∧ ts.length < 1000000 ∧
  ∀ (b : Addr) (ys : List V) (H' : Hp), H b = none → H' b = some (.lst ys) → NKs H' ys (slots all ts) → Same H H' → Q (.ref b) H'
/-- a list of pairs of nodes -/
inductive PrL (N : List Addr) (C : Addr) (H : Hp) : List V → List (Tree × Tree) → Prop
  | nil : PrL N C H [] []
  | cons {a : Addr} {x y : V} {t u : Tree} {vs : List V} {ps : List (Tree × Tree)} : H a = some (.tup [x, y]) → NdT N C H x t → NdT N C H y u → PrL N C H vs ps → PrL N C H (.ref a :: vs) ((t, u) :: ps)
theorem PrL.keep {N N' : List Addr} {C : Addr} {H H' : Hp} (e : Kp N N' H H') : ∀ {vs : List V} {ps : List (Tree × Tree)}, PrL N C H vs ps → PrL N' C H' vs ps
  | _, _, .nil => .nil
  | _, _, .cons h1 h2 h3 h4 => .cons (e.tup _ _ h1) (NdT.keep e _ _ h2) (NdT.keep e _ _ h3) (PrL.keep e h4)
theorem PrL.append {N : List Addr} {C : Addr} {H : Hp} : ∀ {vs ws : List V} {ps qs : List (Tree × Tree)}, PrL N C H vs ps → PrL N C H ws qs → PrL N C H (vs ++ ws) (ps ++ qs)
  | _, _, _, _, .nil, h => h
  | _, _, _, _, .cons h1 h2 h3 h4, h => .cons h1 h2 h3 (PrL.append h4 h)
theorem PrL.len {N : List Addr} {C : Addr} {H : Hp} : ∀ {vs : List V} {ps : List (Tree × Tree)}, PrL N C H vs ps → vs.length = ps.length
  | _, _, .nil => rfl
  | _, _, .cons _ _ _ h => by rw [List.length_cons, List.length_cons, PrL.len h]
theorem PrL.get {N : List Addr} {C : Addr} {H : Hp} : ∀ {vs : List V} {ps : List (Tree × Tree)} {i : Nat} {v : V}, PrL N C H vs ps → vs[i]? = some v → ∃ a x y t u, v = .ref a ∧ ps[i]? = some (t, u) ∧ H a = some (.tup [x, y]) ∧ NdT N C H x t ∧ NdT N C H y u
  | _, _, _, _, .nil, e => by simp at e
  | _, _, 0, _, .cons h1 h2 h3 _, e => by simp at e; subst e; exact ⟨_, _, _, _, _, rfl, rfl, h1, h2, h3⟩
  | _, _, i + 1, v, .cons _ _ _ h, e => by
    obtain ⟨a, x, y, t, u, h1, h2, h3⟩ := PrL.get (i := i) (v := v) h (by simpa using e)
    exact ⟨a, x, y, t, u, h1, by simpa using h2, h3⟩
def spMatched (C Cn : Addr) (n : Nat) : Sp := fun vs H Q _ => ∃ (N : List Addr) (all : Bool) (r dx a b : Addr) (xs ys : List V) (old new : List Tree), vs = [.ref r, .ref a, .ref b] ∧ H r = some (.ins C dx (ruF (placeOf all))) ∧ H a = some (.lst xs) ∧ H b = some (.lst ys) ∧
  NdL N Cn H xs old ∧ NdL N Cn H ys new ∧ fitL old = true ∧ fitL new = true ∧ sizeL old < 1000000 ∧ sizeL new < 1000000 ∧ depL new < n ∧
  ∀ (d : Addr) (vs : List V) (H' : Hp), H d = none → H' d = some (.lst vs) → PrL N Cn H' vs (mL all old [] new) → Same H H' → Q (.ref d) H'
def spMatch (C Cn : Addr) (n : Nat) : Sp := fun vs H Q _ => ∃ (N : List Addr) (all : Bool) (r dx a b : Addr) (xs ys : List V) (old new : List Tree), vs = [.ref r, .ref a, .ref b] ∧ H r = some (.ins C dx (ruF (placeOf all))) ∧ H a = some (.lst xs) ∧ H b = some (.lst ys) ∧
  NdL N Cn H xs old ∧ NdL N Cn H ys new ∧ fitL old = true ∧ fitL new = true ∧ sizeL old < 1000000 ∧ sizeL new < 1000000 ∧ depL new < n ∧
  ∀ (d : Addr) (vs : List V) (H' : Hp), H d = none → H' d = some (.lst vs) → NKs H' vs ((mL all old [] new).map fun p => .tup [p.1.own, p.2.own]) → Same H H' → Q (.ref d) H'
theorem place_eq (all : Bool) : decide (V.str (placeOf all) = V.str "all") = all := by cases all <;> decide +kernel
end G
set_option Elab.async false
set_option linter.all false
namespace G
open PySem
/-! ### edited trees: the mathematics -/
def fresh (n : Int) : NestedKey := .tup [.tup [.num 99, .num n], .tup []]
theorem fresh_inj {a b : Int} (h : fresh a = fresh b) : a = b := by
  unfold fresh at h
  injection h with h; injection h with h _; injection h with h; injection h with _ h; injection h with h _; injection h
theorem ownOf_ne_fresh (p : List Int) (r n : Int) : ownOf p r ≠ fresh n := fun h => by
  unfold ownOf fresh at h
  injection h with h; injection h with _ h; injection h with h _; injection h with h
  cases h
/-- no owner of it is a later fresh one -/
def OldTo (c : Int) (os : List NestedKey) : Prop := ∀ o ∈ os, ∀ n, o = fresh n → n ≤ c
structure Ed (c : Int) (os : List NestedKey) (d z : Nat) (c' : Int) (rs : List Tree) : Prop where
  le : c ≤ c'
  nd : (ownL rs).Nodup
  sub : ∀ o ∈ ownL rs, o ∈ os ∨ ∃ n, c < n ∧ n ≤ c' ∧ o = fresh n
  fit : fitL rs = true
  dep : depL rs ≤ d
  siz : sizeL rs ≤ 2 * z
theorem Ed.nil (c : Int) : Ed c [] 0 0 c [] := ⟨Int.le_refl _, List.nodup_nil, (fun o h => nomatch h), rfl, Nat.le_refl _, Nat.le_refl _⟩
theorem Ed.old {c : Int} {os : List NestedKey} {d z : Nat} {c' : Int} {rs : List Tree} (h : Ed c os d z c' rs) (ho : OldTo c os) : OldTo c' (ownL rs) := fun o hm n e => by
  rcases h.sub o hm with h1 | ⟨m, h1, h2, h3⟩
  · have := ho o h1 n e
    have := h.le
    omega
  · have := fresh_inj (e.symm.trans h3)
    omega
theorem ownL_perm {p : Nat} {rs : List Tree} {t : Tree} : (ownL (rs.take p ++ [t] ++ rs.drop p)).Perm (ownL (rs ++ [t])) := by
  have e : ownL rs = ownL (rs.take p) ++ ownL (rs.drop p) := by rw [← ownL_append, List.take_append_drop]
  rw [ownL_append, ownL_append, ownL_append rs, e, List.append_assoc, List.append_assoc]
  exact List.Perm.append_left _ List.perm_append_comm
theorem fitL_perm {p : Nat} {rs : List Tree} {t : Tree} : fitL (rs.take p ++ [t] ++ rs.drop p) = fitL (rs ++ [t]) := by
  have e : fitL rs = (fitL (rs.take p) && fitL (rs.drop p)) := by rw [← fitL_append, List.take_append_drop]
  rw [fitL_append, fitL_append, fitL_append rs, e]
  cases fitL (rs.take p) <;> cases fitL (rs.drop p) <;> cases fitL [t] <;> rfl
theorem depL_perm {p : Nat} {rs : List Tree} {t : Tree} : depL (rs.take p ++ [t] ++ rs.drop p) = depL (rs ++ [t]) := by
  have e : depL rs = max (depL (rs.take p)) (depL (rs.drop p)) := by rw [← depL_append, List.take_append_drop]
  rw [depL_append, depL_append, depL_append rs, e]
  omega
theorem sizeL_perm {p : Nat} {rs : List Tree} {t : Tree} : sizeL (rs.take p ++ [t] ++ rs.drop p) = sizeL (rs ++ [t]) := by
  have e : sizeL rs = sizeL (rs.take p) + sizeL (rs.drop p) := by rw [← sizeL_append, List.take_append_drop]
  rw [sizeL_append, sizeL_append, sizeL_append rs, e]
  omega
theorem Ed.turn {c : Int} {os : List NestedKey} {d z p : Nat} {c' : Int} {rs : List Tree} {t : Tree} (h : Ed c os d z c' (rs ++ [t])) : Ed c os d z c' (rs.take p ++ [t] ++ rs.drop p) :=
  ⟨h.le, ownL_perm.nodup_iff.mpr h.nd, fun o hm => h.sub o (ownL_perm.mem_iff.mp hm), by rw [fitL_perm]; exact h.fit, by rw [depL_perm]; exact h.dep, by rw [sizeL_perm]; exact h.siz⟩
/-- a node is left out -/
theorem Ed.skip {c : Int} {os : List NestedKey} {d z : Nat} {c' : Int} {rs : List Tree} {ps : List NestedKey} {e y : Nat} (h : Ed c os d z c' rs) (hd : d ≤ e) (hz : z ≤ y) : Ed c (os ++ ps) e y c' rs :=
  ⟨h.le, h.nd, fun o hm => (h.sub o hm).imp (fun q => List.mem_append_left _ q) id, h.fit, Nat.le_trans h.dep hd, by have := h.siz; omega⟩
/-- a node stays, with edited ones below it -/
theorem Ed.add {c c1 c2 : Int} {os : List NestedKey} {d z : Nat} {rs ks : List Tree} {t : Tree} {k y : NestedKey} (h : Ed c os d z c1 rs) (hk : Ed c1 (ownL t.kids) (depL t.kids) (sizeL t.kids) c2 ks)
    (nd : (os ++ ownT t).Nodup) (old : OldTo c (os ++ ownT t)) (fk : flK k = true) (fy : flY y = true) (fo : t.own.depth ≤ 3) :
    Ed c (os ++ ownT t) (max d (depT t)) (z + sizeT t) c2 (rs ++ [.node k y t.own ks]) ∧ sizeL (rs ++ [.node k y t.own ks]) + 1 ≤ 2 * (z + sizeT t) := by
  have et : ownT t = t.own :: ownL t.kids := by cases t; rfl
  have e : ownL (rs ++ [.node k y t.own ks]) = ownL rs ++ (t.own :: ownL ks) := by rw [ownL_append]; simp [ownL, ownT]
  rw [et] at nd old ⊢
  have nd2 := List.nodup_append.mp nd
  have ndk := List.nodup_cons.mp nd2.2.1
  have mT : ∀ o, o ∈ t.own :: ownL ks → o ∈ t.own :: ownL t.kids ∨ ∃ n, c1 < n ∧ n ≤ c2 ∧ o = fresh n := fun o hm => by
    rcases List.mem_cons.mp hm with q | q
    · exact .inl (by rw [q]; exact List.mem_cons_self)
    · rcases hk.sub o q with q | q
      · exact .inl (List.mem_cons_of_mem _ q)
      · exact .inr q
  have l1 := h.le
  have l2 := hk.le
  have s0 : sizeL (rs ++ [.node k y t.own ks]) + 1 ≤ 2 * (z + sizeT t) := by
    rw [sizeL_append]
    have a1 := h.siz
    have a2 := hk.siz
    have a3 : sizeT t = 1 + sizeL t.kids := by cases t; rfl
    simp only [sizeL, sizeT]
    omega
  refine ⟨⟨by omega, ?_, ?_, ?_, ?_, by omega⟩, s0⟩
  · rw [e, List.nodup_append]
    refine ⟨h.nd, List.nodup_cons.mpr ⟨fun hm => ?_, hk.nd⟩, fun a ha b hb hab => ?_⟩
    · rcases hk.sub _ hm with q | ⟨n, q1, q2, q3⟩
      · exact ndk.1 q
      · have := old _ (List.mem_append_right _ List.mem_cons_self) n q3
        omega
    · subst hab
      rcases h.sub a ha with q | ⟨n, q1, q2, q3⟩
      · rcases mT a hb with q' | ⟨m, p1, p2, p3⟩
        · exact nd2.2.2 a q a q' rfl
        · have := old a (List.mem_append_left _ q) m p3
          omega
      · rcases mT a hb with q' | ⟨m, p1, p2, p3⟩
        · have := old a (List.mem_append_right _ q') n q3
          omega
        · have := fresh_inj (q3.symm.trans p3)
          omega
  · intro o hm
    rw [e] at hm
    rcases List.mem_append.mp hm with q | q
    · rcases h.sub o q with q | ⟨n, q1, q2, q3⟩
      · exact .inl (List.mem_append_left _ q)
      · exact .inr ⟨n, q1, by omega, q3⟩
    · rcases mT o q with q | ⟨n, q1, q2, q3⟩
      · exact .inl (List.mem_append_right _ q)
      · exact .inr ⟨n, by omega, q2, q3⟩
  · rw [fitL_append, h.fit]
    simp [fitL, fitT, fk, fy, fo, hk.fit]
  · rw [depL_append]
    have a1 := h.dep
    have a2 := hk.dep
    have a3 : depT t = 1 + depL t.kids := by cases t; rfl
    simp only [depL, depT]
    omega
/-- a new leaf behind it -/
theorem Ed.leaf {c c1 : Int} {os : List NestedKey} {d z : Nat} {rs : List Tree} {k y : NestedKey} (h : Ed c os d z c1 rs) (old : OldTo c os) (fk : flK k = true) (fy : flY y = true) (hd : 1 ≤ d) (hs : sizeL rs + 1 ≤ 2 * z) :
    Ed c os d z (c1 + 1) (rs ++ [.node k y (fresh (c1 + 1)) []]) := by
  have l1 := h.le
  have e : ownL (rs ++ [.node k y (fresh (c1 + 1)) []]) = ownL rs ++ [fresh (c1 + 1)] := by rw [ownL_append]; simp [ownL, ownT]
  refine ⟨by omega, ?_, ?_, ?_, ?_, ?_⟩
  · rw [e, List.nodup_append]
    refine ⟨h.nd, by simp, fun a ha b hb hab => ?_⟩
    subst hab
    have hb := List.mem_singleton.mp hb
    have := h.old old a ha _ hb
    omega
  · intro o hm
    rw [e] at hm
    rcases List.mem_append.mp hm with q | q
    · rcases h.sub o q with q | ⟨n, q1, q2, q3⟩
      · exact .inl q
      · exact .inr ⟨n, q1, by omega, q3⟩
    · exact .inr ⟨c1 + 1, by omega, Int.le_refl _, List.mem_singleton.mp q⟩
  · rw [fitL_append, h.fit]
    have : (fresh (c1 + 1)).depth ≤ 3 := by simp [fresh, NestedKey.depth, NestedKey.depthAll]
    simp [fitL, fitT, fk, fy, this]
  · rw [depL_append]
    have := h.dep
    simp only [depL, depT]
    omega
  · rw [sizeL_append]
    simp only [sizeL, sizeT]
    omega
end G
set_option Elab.async false
set_option linter.all false
set_option maxRecDepth 100000
set_option maxHeartbeats 4000000
namespace G
open PySem L2 Nd
def spEdited (n : Nat) : Sp := fun vs H Q _ => ∃ (M : List Addr) (st cs a fr : Addr) (xs : List V) (ts : List Tree) (c : Int), vs = [.ref st, .ref a, .ref fr] ∧ Stm H st cs ∧ MutL M H ∧ st ∈ M ∧ cs ∈ M ∧ fr ∈ M ∧ fr ≠ st ∧ fr ≠ cs ∧ a ∉ M ∧ H fr = some (.lst [.int c]) ∧
  H a = some (.lst xs) ∧ TrL M H xs ts ∧ depL ts < n ∧ fitL ts = true ∧ sizeL ts < 100000 ∧ (ownL ts).Nodup ∧ OldTo c (ownL ts) ∧
  ∀ (b : Addr) (ys : List V) (rs : List Tree) (c' : Int) (H' : Hp), H b = none → H' b = some (.lst ys) → TrL M H' ys rs → Ed c (ownL ts) (depL ts) (sizeL ts) c' rs → H' fr = some (.lst [.int c']) → Stm H' st cs → Sm [st, cs, fr] H H' → Q (.ref b) H'
theorem sm3 {st cs fr : Addr} {H H' : Hp} (h : Sm [st, cs] H H') : Sm [st, cs, fr] H H' := h.mono fun b hb => by
  simp only [List.mem_cons, List.not_mem_nil, or_false] at hb ⊢
  rcases hb with h | h
  · exact .inl h
  · exact .inr (.inl h)
theorem MutL.step3 {M : List Addr} {H H' : Hp} {st cs fr : Addr} {c : Int} (l : MutL M H) (S : Stm H' st cs) (hf : H' fr = some (.lst [.int c])) (e : Sm [st, cs, fr] H H') : MutL M H' := fun a ha => by
  by_cases h1 : a = st
  · subst h1
    obtain ⟨ns, k, q, _⟩ := S.ex
    exact ⟨_, q⟩
  · by_cases h2 : a = cs
    · subst h2
      obtain ⟨ns, k, _, q, _⟩ := S.ex
      exact ⟨_, q⟩
    · by_cases h3 : a = fr
      · subst h3
        exact ⟨_, hf⟩
      · obtain ⟨xs, q⟩ := l a ha
        exact ⟨xs, e a _ q (by simp [h1, h2, h3])⟩
end G
set_option Elab.async false
set_option linter.all false
namespace G
open PySem
/-! ### addresses, and what is matched: the mathematics -/
theorem cntN_mono (ts : List Tree) {i j : Nat} (h : i ≤ j) : cntN (ts.take i) ≤ cntN (ts.take j) := by
  have e : ts.take j = ts.take i ++ (ts.take j).drop i := by
    have := List.take_append_drop i (ts.take j)
    rw [List.take_take, Nat.min_eq_left h] at this
    exact this.symm
  rw [e]
  unfold cntN
  rw [List.filter_append, List.length_append]
  omega
theorem cntK_mono (ts : List Tree) (k y : NestedKey) {i j : Nat} (h : i ≤ j) : cntK (ts.take i) k y ≤ cntK (ts.take j) k y := by
  have e : ts.take j = ts.take i ++ (ts.take j).drop i := by
    have := List.take_append_drop i (ts.take j)
    rw [List.take_take, Nat.min_eq_left h] at this
    exact this.symm
  rw [e]
  unfold cntK
  rw [List.filter_append, List.length_append]
  omega
theorem slot_lt (all : Bool) {ts : List Tree} {i j : Nat} {t u : Tree} (hi : ts[i]? = some t) (hj : ts[j]? = some u) (h : i < j) : slot all (ts.take i) t ≠ slot all (ts.take j) u := by
  intro e
  unfold slot at e
  injection e with e
  injection e with e1 e
  injection e with e2 e
  injection e with e3 _
  injection e3 with e3
  have e3 : numAt all (ts.take i) t = numAt all (ts.take j) u := by exact_mod_cast e3
  have li : (ts.take i).length = i := by rw [List.length_take]; have := (List.getElem?_eq_some_iff.mp hi).1; omega
  have lj : (ts.take j).length = j := by rw [List.length_take]; have := (List.getElem?_eq_some_iff.mp hj).1; omega
  have es : ts.take (i + 1) = ts.take i ++ [t] := by rw [List.take_succ, hi]; rfl
  unfold numAt at e3
  rw [← e1, ← e2] at e3
  by_cases hk : t.key = .none
  · rw [if_pos hk, if_pos hk] at e3
    cases all with
    | true => simp only [if_true] at e3; omega
    | false =>
      have e3 : cntN (ts.take i) = cntN (ts.take j) := by simpa using e3
      have m := cntN_mono ts (i := i + 1) (j := j) h
      rw [es, cntN_snoc, if_pos hk] at m
      omega
  · rw [if_neg hk, if_neg hk] at e3
    have m := cntK_mono ts t.kind t.key (i := i + 1) (j := j) h
    rw [es, cntK_snoc, if_pos ⟨rfl, rfl⟩] at m
    omega
theorem slot_ix (all : Bool) {ts : List Tree} {i j : Nat} {t u : Tree} (hi : ts[i]? = some t) (hj : ts[j]? = some u) (e : slot all (ts.take i) t = slot all (ts.take j) u) : i = j := by
  rcases Nat.lt_trichotomy i j with h | h | h
  · exact absurd e (slot_lt all hi hj h)
  · exact h
  · exact absurd e.symm (slot_lt all hj hi h)
/-- the node of a slot is found -/
theorem findS_some (all : Bool) {ts : List Tree} {i : Nat} {t : Tree} (h : ts[i]? = some t) : findS all ts (slot all (ts.take i) t) = some t := by
  cases hf : findS all ts (slot all (ts.take i) t) with
  | some u =>
    obtain ⟨j, h1, h2⟩ := findS_get hf
    rw [slot_at all h1] at h2
    have := slot_ix all h1 h (Option.some.inj h2)
    subst this
    rw [h] at h1
    exact h1.symm
  | none =>
    unfold findS findP at hf
    rw [Option.map_eq_none_iff, List.find?_eq_none] at hf
    have hm : (slot all (ts.take i) t, t) ∈ ((slots all ts).zip ts).reverse := by
      rw [List.mem_reverse]
      exact List.mem_iff_getElem?.mpr ⟨i, (List.getElem?_zip_eq_some (z := (slot all (ts.take i) t, t))).mpr ⟨slot_at all h, h⟩⟩
    have := hf _ hm
    simp at this
abbrev Adr := List NestedKey
mutual
/-- addresses and owners, each before those below it -/
def adT (all : Bool) (above : Adr) (pre : List Tree) : Tree → List (Adr × NestedKey)
  | .node k y o b => (above ++ [slot all pre (.node k y o b)], o) :: adL all (above ++ [slot all pre (.node k y o b)]) [] b
def adL (all : Bool) (above : Adr) (pre : List Tree) : List Tree → List (Adr × NestedKey)
  | [] => []
  | t :: ts => adT all above pre t ++ adL all above (pre ++ [t]) ts
end
mutual
theorem adT_own (all : Bool) : ∀ (t : Tree) (above : Adr) (pre : List Tree), (adT all above pre t).map (·.2) = ownT t
  | .node k y o b, above, pre => by rw [adT, ownT, List.map_cons, adL_own all b]
theorem adL_own (all : Bool) : ∀ (ts : List Tree) (above : Adr) (pre : List Tree), (adL all above pre ts).map (·.2) = ownL ts
  | [], _, _ => by simp [adL, ownL]
  | t :: ts, above, pre => by rw [adL, ownL, List.map_append, adT_own all t, adL_own all ts]
end
mutual
theorem adT_pre (all : Bool) : ∀ (t : Tree) (above : Adr) (pre : List Tree), ∀ p ∈ adT all above pre t, ∃ r, p.1 = above ++ slot all pre t :: r
  | .node k y o b, above, pre, p, hp => by
    rw [adT] at hp
    rcases List.mem_cons.mp hp with h | h
    · exact ⟨[], by rw [h]⟩
    · obtain ⟨r, e⟩ := adL_pre all b _ _ p h
      exact ⟨r, by rw [e, List.append_assoc]; rfl⟩
theorem adL_pre (all : Bool) : ∀ (ts : List Tree) (above : Adr) (pre : List Tree), ∀ p ∈ adL all above pre ts, ∃ r, p.1 = above ++ r
  | [], _, _, p, hp => by simp [adL] at hp
  | t :: ts, above, pre, p, hp => by
    rw [adL] at hp
    rcases List.mem_append.mp hp with h | h
    · obtain ⟨r, e⟩ := adT_pre all t above pre p h
      exact ⟨_, e⟩
    · exact adL_pre all ts above _ p h
end
/-- a member stands in one of the nodes -/
theorem adL_mem (all : Bool) (above : Adr) : ∀ (ts pre : List Tree) (p : Adr × NestedKey), p ∈ adL all above pre ts ↔ ∃ (i : Nat) (t : Tree), ts[i]? = some t ∧ p ∈ adT all above (pre ++ ts.take i) t
  | [], pre, p => by simp [adL]
  | u :: us, pre, p => by
    rw [adL, List.mem_append, adL_mem all above us (pre ++ [u]) p]
    constructor
    · rintro (h | ⟨i, t, h1, h2⟩)
      · exact ⟨0, u, rfl, by simpa using h⟩
      · exact ⟨i + 1, t, by simpa using h1, by simpa using h2⟩
    · rintro ⟨i, t, h1, h2⟩
      cases i with
      | zero =>
        simp at h1
        subst h1
        exact .inl (by simpa using h2)
      | succ j => exact .inr ⟨j, t, by simpa using h1, by simpa using h2⟩
mutual
theorem adT_nd (all : Bool) : ∀ (t : Tree) (above : Adr) (pre : List Tree), ((adT all above pre t).map (·.1)).Nodup
  | .node k y o b, above, pre => by
    rw [adT, List.map_cons, List.nodup_cons]
    refine ⟨fun h => ?_, adL_nd all b _ [] (fun i j t u hi hj e => slot_ix all hi hj (by simpa using e))⟩
    obtain ⟨p, hp, e⟩ := List.mem_map.mp h
    obtain ⟨i, t, hi, hm⟩ := (adL_mem all _ b [] p).mp hp
    obtain ⟨r, e2⟩ := adT_pre all t _ _ p hm
    have := congrArg List.length (e2.symm.trans e)
    simp at this
theorem adL_nd (all : Bool) : ∀ (ts : List Tree) (above : Adr) (pre : List Tree), (∀ (i j : Nat) (t u : Tree), ts[i]? = some t → ts[j]? = some u → slot all (pre ++ ts.take i) t = slot all (pre ++ ts.take j) u → i = j) → ((adL all above pre ts).map (·.1)).Nodup
  | [], _, _, _ => by simp [adL]
  | t :: ts, above, pre, hs => by
    rw [adL, List.map_append, List.nodup_append]
    refine ⟨adT_nd all t above pre, adL_nd all ts above (pre ++ [t]) (fun i j u v hi hj e => ?_), fun a ha b hb hab => ?_⟩
    · have := hs (i + 1) (j + 1) u v (by simpa using hi) (by simpa using hj) (by simpa using e)
      omega
    · subst hab
      obtain ⟨p, hp, rfl⟩ := List.mem_map.mp ha
      obtain ⟨q, hq, e⟩ := List.mem_map.mp hb
      obtain ⟨r, e1⟩ := adT_pre all t above pre p hp
      obtain ⟨i, u, hi, hm⟩ := (adL_mem all above ts (pre ++ [t]) q).mp hq
      obtain ⟨r2, e2⟩ := adT_pre all u above _ q hm
      have e3 := List.append_cancel_left (e2.symm.trans (e.trans e1))
      injection e3 with e3 _
      have := hs (i + 1) 0 u t (by simpa using hi) rfl (by simpa using e3)
      omega
end
/-- the addresses of a list of nodes -/
def adr (all : Bool) (ts : List Tree) : List (Adr × NestedKey) := adL all [] [] ts
theorem adr_nd (all : Bool) (ts : List Tree) : ((adr all ts).map (·.1)).Nodup := adL_nd all ts [] [] fun i j t u hi hj e => slot_ix all hi hj (by simpa using e)
theorem adr_own (all : Bool) (ts : List Tree) : (adr all ts).map (·.2) = ownL ts := adL_own all ts [] []
theorem key_fun {α β : Type} {ps : List (α × β)} (h : (ps.map (·.1)).Nodup) {a : α} {b c : β} (h1 : (a, b) ∈ ps) (h2 : (a, c) ∈ ps) : b = c := by
  obtain ⟨i, hi⟩ := List.mem_iff_getElem?.mp h1
  obtain ⟨j, hj⟩ := List.mem_iff_getElem?.mp h2
  have ei : (ps.map (·.1))[i]? = some a := by rw [List.getElem?_map, hi]; rfl
  have ej : (ps.map (·.1))[j]? = some a := by rw [List.getElem?_map, hj]; rfl
  have := (List.getElem?_inj (List.getElem?_eq_some_iff.mp ei).1 h).mp (ei.trans ej.symm)
  subst this
  rw [hi] at hj
  cases hj
  rfl
theorem val_fun {α β : Type} {ps : List (α × β)} (h : (ps.map (·.2)).Nodup) {a b : α} {c : β} (h1 : (a, c) ∈ ps) (h2 : (b, c) ∈ ps) : a = b := by
  obtain ⟨i, hi⟩ := List.mem_iff_getElem?.mp h1
  obtain ⟨j, hj⟩ := List.mem_iff_getElem?.mp h2
  have ei : (ps.map (·.2))[i]? = some c := by rw [List.getElem?_map, hi]; rfl
  have ej : (ps.map (·.2))[j]? = some c := by rw [List.getElem?_map, hj]; rfl
  have := (List.getElem?_inj (List.getElem?_eq_some_iff.mp ei).1 h).mp (ei.trans ej.symm)
  subst this
  rw [hi] at hj
  cases hj
  rfl
/-- the matched owners -/
def mo (all : Bool) (old new : List Tree) : List (NestedKey × NestedKey) := (mL all old [] new).map fun p => (p.1.own, p.2.own)
mutual
/-- matched: the same address in both -/
theorem mT_iff (all : Bool) : ∀ (t : Tree) (old pre : List Tree) (above : Adr) (a b : NestedKey), (a, b) ∈ (mT all old pre t).map (fun p => (p.1.own, p.2.own)) ↔ ∃ r, (r, a) ∈ adL all above [] old ∧ (r, b) ∈ adT all above pre t
  | .node k y o us, old, pre, above, a, b => by
    constructor
    · intro h
      rw [mT] at h
      split at h
      · simp at h
      · rename_i u hf
        obtain ⟨i, h1, h2⟩ := findS_get hf
        rw [slot_at all h1] at h2
        have es := Option.some.inj h2
        rw [List.map_cons, List.mem_cons] at h
        rcases h with h | h
        · injection h with ha hb
          refine ⟨above ++ [slot all pre (.node k y o us)], (adL_mem all above old [] _).mpr ⟨i, u, h1, ?_⟩, ?_⟩
          · rw [List.nil_append]
            cases u with
            | node k2 y2 o2 us2 =>
              rw [adT, es]
              exact List.mem_cons.mpr (.inl (by rw [ha]; rfl))
          · rw [adT]
            exact List.mem_cons.mpr (.inl (by rw [hb]; rfl))
        · obtain ⟨r, q1, q2⟩ := (mL_iff all us u.kids [] (above ++ [slot all pre (.node k y o us)]) a b).mp h
          refine ⟨r, (adL_mem all above old [] _).mpr ⟨i, u, h1, ?_⟩, ?_⟩
          · rw [List.nil_append]
            cases u with
            | node k2 y2 o2 us2 =>
              rw [adT, es]
              exact List.mem_cons_of_mem _ q1
          · rw [adT]
            exact List.mem_cons_of_mem _ q2
    · rintro ⟨r, h1, h2⟩
      obtain ⟨i, u, hu, hm⟩ := (adL_mem all above old [] _).mp h1
      rw [List.nil_append] at hm
      obtain ⟨r1, e1⟩ := adT_pre all u above _ _ hm
      obtain ⟨r2, e2⟩ := adT_pre all _ above _ _ h2
      have e3 := List.append_cancel_left (e1.symm.trans e2)
      injection e3 with es _
      have hf := findS_some all hu
      rw [es] at hf
      rw [mT, hf]
      simp only [List.map_cons, List.mem_cons]
      rw [adT] at h2
      have hm' : (r, a) = (above ++ [slot all pre (.node k y o us)], u.own) ∨ (r, a) ∈ adL all (above ++ [slot all pre (.node k y o us)]) [] u.kids := by
        cases u with
        | node k2 y2 o2 us2 =>
          rw [adT, es] at hm
          exact List.mem_cons.mp hm
      have long : ∀ (xs : List Tree) (p : Adr × NestedKey), p ∈ adL all (above ++ [slot all pre (.node k y o us)]) [] xs → p.1 ≠ above ++ [slot all pre (.node k y o us)] := fun xs p hp z => by
        obtain ⟨j, v, hv, hq⟩ := (adL_mem all _ xs [] p).mp hp
        obtain ⟨r3, e4⟩ := adT_pre all v _ _ p hq
        have := congrArg List.length (e4.symm.trans z)
        simp at this
      rcases List.mem_cons.mp h2 with q2 | q2
      · injection q2 with q3 q4
        rcases hm' with q1 | q1
        · injection q1 with _ q5
          exact .inl (by rw [q5, q4]; rfl)
        · exact absurd q3 (long _ _ q1)
      · rcases hm' with q1 | q1
        · injection q1 with q5 _
          exact absurd q5 (long _ _ q2)
        · exact .inr ((mL_iff all us u.kids [] _ a b).mpr ⟨r, q1, q2⟩)
theorem mL_iff (all : Bool) : ∀ (ts old pre : List Tree) (above : Adr) (a b : NestedKey), (a, b) ∈ (mL all old pre ts).map (fun p => (p.1.own, p.2.own)) ↔ ∃ r, (r, a) ∈ adL all above [] old ∧ (r, b) ∈ adL all above pre ts
  | [], old, pre, above, a, b => by simp [mL, adL]
  | t :: ts, old, pre, above, a, b => by
    rw [mL, List.map_append, List.mem_append, mT_iff all t old pre above a b, mL_iff all ts old (pre ++ [t]) above a b]
    constructor
    · rintro (⟨r, h1, h2⟩ | ⟨r, h1, h2⟩)
      · exact ⟨r, h1, by rw [adL]; exact List.mem_append_left _ h2⟩
      · exact ⟨r, h1, by rw [adL]; exact List.mem_append_right _ h2⟩
    · rintro ⟨r, h1, h2⟩
      rw [adL] at h2
      rcases List.mem_append.mp h2 with q | q
      · exact .inl ⟨r, h1, q⟩
      · exact .inr ⟨r, h1, q⟩
end
theorem mo_iff (all : Bool) (old new : List Tree) (a b : NestedKey) : (a, b) ∈ mo all old new ↔ ∃ r, (r, a) ∈ adr all old ∧ (r, b) ∈ adr all new := mL_iff all new old [] [] a b
mutual
theorem mT_sub (all : Bool) : ∀ (t : Tree) (old pre : List Tree), ((mT all old pre t).map (fun p => p.2.own)).Sublist (ownT t)
  | .node k y o us, old, pre => by
    rw [mT, ownT]
    split
    · exact List.nil_sublist _
    · exact List.Sublist.cons₂ _ (mL_sub all us _ [])
theorem mL_sub (all : Bool) : ∀ (ts old pre : List Tree), ((mL all old pre ts).map (fun p => p.2.own)).Sublist (ownL ts)
  | [], _, _ => by simp [mL, ownL]
  | t :: ts, old, pre => by
    rw [mL, ownL, List.map_append]
    exact List.Sublist.append (mT_sub all t old pre) (mL_sub all ts old _)
end
theorem mo_snd (all : Bool) (old new : List Tree) (h : (ownL new).Nodup) : ((mo all old new).map (·.2)).Nodup := by
  unfold mo
  rw [List.map_map]
  exact (mL_sub all new old []).nodup h
theorem nodup_of_fun {α β : Type} : ∀ {ps : List (α × β)}, (ps.map (·.2)).Nodup → (∀ p ∈ ps, ∀ q ∈ ps, p.1 = q.1 → p.2 = q.2) → (ps.map (·.1)).Nodup
  | [], _, _ => List.nodup_nil
  | p :: ps, h, f => by
    rw [List.map_cons, List.nodup_cons] at h ⊢
    refine ⟨fun hm => ?_, nodup_of_fun h.2 fun q hq r hr => f q (List.mem_cons_of_mem _ hq) r (List.mem_cons_of_mem _ hr)⟩
    obtain ⟨q, hq, e⟩ := List.mem_map.mp hm
    exact h.1 (List.mem_map.mpr ⟨q, hq, (f p List.mem_cons_self q (List.mem_cons_of_mem _ hq) e.symm).symm⟩)
theorem mo_fst (all : Bool) (old new : List Tree) (h0 : (ownL old).Nodup) (h : (ownL new).Nodup) : ((mo all old new).map (·.1)).Nodup := by
  refine nodup_of_fun (mo_snd all old new h) fun p hp q hq e => ?_
  obtain ⟨a, b⟩ := p
  obtain ⟨c, d⟩ := q
  cases (show a = c from e)
  obtain ⟨r, h1, h2⟩ := (mo_iff all old new a b).mp hp
  obtain ⟨s, h3, h4⟩ := (mo_iff all old new a d).mp hq
  rw [← adr_own all old] at h0
  cases val_fun h0 h1 h3
  exact key_fun (adr_nd all new) h2 h4
theorem mo_own (all : Bool) (old new : List Tree) : ∀ p ∈ mo all old new, p.1 ∈ ownL old ∧ p.2 ∈ ownL new := fun p hp => by
  obtain ⟨a, b⟩ := p
  obtain ⟨r, h1, h2⟩ := (mo_iff all old new a b).mp hp
  rw [← adr_own all old, ← adr_own all new]
  exact ⟨List.mem_map.mpr ⟨_, h1, rfl⟩, List.mem_map.mpr ⟨_, h2, rfl⟩⟩
theorem mo_join (all : Bool) {A B C : List Tree} (hB : (ownL B).Nodup) {o m x : NestedKey} (h1 : (o, m) ∈ mo all A B) (h2 : (m, x) ∈ mo all B C) : (o, x) ∈ mo all A C := by
  obtain ⟨r, a1, a2⟩ := (mo_iff all A B o m).mp h1
  obtain ⟨s, b1, b2⟩ := (mo_iff all B C m x).mp h2
  rw [← adr_own all B] at hB
  cases val_fun hB a2 b1
  exact (mo_iff all A C o x).mpr ⟨r, a1, b2⟩
theorem mo_fork (all : Bool) {A B C : List Tree} (hA : (ownL A).Nodup) {o m x : NestedKey} (h1 : (o, m) ∈ mo all A B) (h2 : (o, x) ∈ mo all A C) : (m, x) ∈ mo all B C := by
  obtain ⟨r, a1, a2⟩ := (mo_iff all A B o m).mp h1
  obtain ⟨s, b1, b2⟩ := (mo_iff all A C o x).mp h2
  rw [← adr_own all A] at hA
  cases val_fun hA a1 b1
  exact (mo_iff all B C m x).mpr ⟨r, a2, b2⟩
end G
set_option Elab.async false
set_option linter.all false
set_option maxRecDepth 100000
set_option maxHeartbeats 4000000
namespace G
open PySem L2 Nd
/-- the entries of a table: keys and the values, by what they are -/
inductive TbL (H : Hp) : List Ent → List (NestedKey × NestedKey) → Prop
  | nil : TbL H [] []
  | cons {l r : NestedKey} {a : Addr} {v : V} {es : List Ent} {ps : List (NestedKey × NestedKey)} : NK H v r → TbL H es ps → TbL H ((l, a, v) :: es) ((l, r) :: ps)
theorem TbL.mono {H H' : Hp} (st : ∀ b xs, H b = some (.tup xs) → H' b = some (.tup xs)) : ∀ {es : List Ent} {ps : List (NestedKey × NestedKey)}, TbL H es ps → TbL H' es ps
  | _, _, .nil => .nil
  | _, _, .cons h t => .cons (NK.mono st _ _ h) (TbL.mono st t)
theorem TbL.same {H H' : Hp} {es : List Ent} {ps : List (NestedKey × NestedKey)} (h : TbL H es ps) (e : Same H H') : TbL H' es ps := h.mono fun b xs q => e _ _ q
theorem TbL.len {H : Hp} : ∀ {es : List Ent} {ps : List (NestedKey × NestedKey)}, TbL H es ps → es.length = ps.length
  | _, _, .nil => rfl
  | _, _, .cons _ t => by rw [List.length_cons, List.length_cons, TbL.len t]
theorem TbL.snoc {H : Hp} {l r : NestedKey} {a : Addr} {v : V} : ∀ {es : List Ent} {ps : List (NestedKey × NestedKey)}, TbL H es ps → NK H v r → TbL H (es ++ [(l, a, v)]) (ps ++ [(l, r)])
  | _, _, .nil, h => .cons h .nil
  | _, _, .cons h t, q => .cons h (TbL.snoc t q)
theorem TbL.get {H : Hp} : ∀ {es : List Ent} {ps : List (NestedKey × NestedKey)} {i : Nat} {l : NestedKey} {a : Addr} {v : V}, TbL H es ps → es[i]? = some (l, a, v) → ∃ r, ps[i]? = some (l, r) ∧ NK H v r
  | _, _, _, _, _, _, .nil, e => by simp at e
  | _, _, 0, _, _, _, .cons h _, e => by simp at e; obtain ⟨rfl, rfl, rfl⟩ := e; exact ⟨_, rfl, h⟩
  | _, _, i + 1, l, a, v, .cons _ t, e => by
    obtain ⟨r, h1, h2⟩ := TbL.get (i := i) t (by simpa using e)
    exact ⟨r, by simpa using h1, h2⟩
/-- what stands at a key -/
theorem TbL.look {H : Hp} (k : NestedKey) : ∀ {es : List Ent} {ps : List (NestedKey × NestedKey)}, TbL H es ps → (lookN es k = none ∧ k ∉ ps.map (·.1)) ∨ ∃ v r, lookN es k = some v ∧ NK H v r ∧ (k, r) ∈ ps
  | _, _, .nil => .inl ⟨rfl, by simp⟩
  | _, _, @TbL.cons _ l r a v es ps h t => by
    by_cases e : l = k
    · subst e
      exact .inr ⟨v, r, by simp [lookN], h, List.mem_cons_self⟩
    · have e1 : lookN ((l, a, v) :: es) k = lookN es k := by simp [lookN, List.find?_cons, e]
      rcases TbL.look k t with ⟨h1, h2⟩ | ⟨v', r', h1, h2, h3⟩
      · exact .inl ⟨by rw [e1]; exact h1, by rw [List.map_cons]; simp only [List.mem_cons, not_or]; exact ⟨fun z => e z.symm, h2⟩⟩
      · exact .inr ⟨v', r', by rw [e1]; exact h1, h2, List.mem_cons_of_mem _ h3⟩
mutual
theorem nk_dp {K : PySem.W.Frag} {H : Hp} : ∀ (k : NestedKey) (v : V), NK H v k → Dp K H v k.data
  | .none, _, h => by cases h; exact .non
  | .num i, _, h => by cases h; exact .int i
  | .text x, _, h => by cases h; exact .str x
  | .tup ks, _, h => by
    cases h with
    | tup h1 h2 => rw [NestedKey.data]; exact .tup (SqT.of h1) (nks_dp ks _ h2)
theorem nks_dp {K : PySem.W.Frag} {H : Hp} : ∀ (ks : List NestedKey) (vs : List V), NKs H vs ks → DpAll K H vs (NestedKey.datas ks)
  | [], _, h => by cases h; exact .nil
  | k :: ks, _, h => by
    cases h with
    | cons h1 h2 => rw [NestedKey.datas]; exact .cons (nk_dp k _ h1) (nks_dp ks _ h2)
end
mutual
theorem okN_lay : ∀ k : NestedKey, PyData.canLay0 k.data = okN k
  | .none => rfl
  | .num _ => rfl
  | .text _ => rfl
  | .tup ks => by rw [NestedKey.data, okN]; exact okNs_lay ks
theorem okNs_lay : ∀ ks : List NestedKey, PyData.canLayAll0 (NestedKey.datas ks) = okNs ks
  | [] => rfl
  | k :: ks => by rw [NestedKey.datas, PyData.canLayAll0, okNs, okN_lay k, okNs_lay ks]
end
mutual
theorem dep_data : ∀ k : NestedKey, PyData.depth k.data = k.depth
  | .none => rfl
  | .num _ => rfl
  | .text _ => rfl
  | .tup ks => by rw [NestedKey.data, NestedKey.depth, PyData.depth, deps_data ks]
theorem deps_data : ∀ ks : List NestedKey, PyData.depthAll (NestedKey.datas ks) = NestedKey.depthAll ks
  | [] => rfl
  | k :: ks => by rw [NestedKey.datas, PyData.depthAll, NestedKey.depthAll, dep_data k, deps_data ks]
end
theorem shaped_key {k : NestedKey} (h : okN k = true) (hd : k.depth ≤ 64) : SeqAt.shaped k.data = true := by
  unfold SeqAt.shaped
  rw [okN_lay, h, dep_data]
  simp [hd]
def pairK (p : NestedKey × NestedKey) : NestedKey := .tup [p.1, p.2]
def Tups (ks : List NestedKey) : Prop := ∀ k ∈ ks, (∃ xs, k = .tup xs) ∧ k.depth ≤ 3 ∧ okN k = true
def spTable (P : Program) (w : World) : Sp := fun vs H Q _ => ∃ (a : Addr) (xs : List V) (ps : List (NestedKey × NestedKey)), vs = [.ref a] ∧ H a = some (.lst xs) ∧ NKs H xs (ps.map pairK) ∧ (ps.map (·.1)).Nodup ∧ (ps.map (·.2)).Nodup ∧
  Tups (ps.map (·.1)) ∧ Tups (ps.map (·.2)) ∧ ps.length < 1000000 ∧
  ∀ (d : Addr) (es : List Ent) (H' : Hp), H d = none → H' d = some (DN P w d es) → KeysAt H' es → TbL H' es ps → Same H H' → Q (.ref d) H'
theorem putN_new {xs : List Ent} {k : NestedKey} {a : Addr} {v : V} (h : lookN xs k = none) : putN xs k a v = xs ++ [(k, a, v)] := by
  unfold putN
  rw [h]
  rfl
end G
namespace G
open PySem L2 Nd
theorem fn_any {P : Program} {w : World} {K : PySem.W.Frag} {mg : Str → Option Value} {base : Heap} {CX : CXT} {k N : Nat} {f : Addr} {fd : FuncData} {ps : List Str} {sp : Nat → Sp} (h : ∀ n, n ≤ N → FnOk P w K mg base CX k f fd ps (sp n)) :
    FnOk P w K mg base CX k f fd ps (fun vs H Q E => ∃ n, n ≤ N ∧ sp n vs H Q E) :=
  ⟨fun vs H Q E ⟨n, hn, q⟩ => (h n hn).len vs H Q E q, fun A outer s H args us vs Q E a b c d ⟨n, hn, q⟩ => (h n hn).run A outer s H args us vs Q E a b c d q⟩
structure Good (B : Nat) (ts : List Tree) : Prop where
  nd : (ownL ts).Nodup
  fit : fitL ts = true
  dep : depL ts < 10
  siz : sizeL ts ≤ B
  tup : Tups (ownL ts)
theorem okNs_nums : ∀ p : List Int, okNs (p.map NestedKey.num) = true
  | [] => rfl
  | x :: p => by rw [List.map_cons, okNs, okN, okNs_nums p]; rfl
theorem ownOf_ok (p : List Int) (r : Int) : okN (ownOf p r) = true := by
  simp only [ownOf, okN, okNs, okNs_nums]
  rfl
theorem Drawn.good {m n B : Nat} {path : List Int} {ts : List Tree} (h : Drawn m n path ts) (hn : n < 10) (hB : bnd m n ≤ B) : Good B ts := by
  refine ⟨h.own.nd, h.fit, Nat.lt_of_le_of_lt h.dep hn, Nat.le_trans h.siz hB, fun o ho => ?_⟩
  obtain ⟨k, rest, r, _, rfl⟩ := h.own.at_ o ho
  exact ⟨⟨_, rfl⟩, by rw [ownOf_depth]; decide, ownOf_ok _ _⟩
theorem Drawn.old {m n : Nat} {path : List Int} {ts : List Tree} (h : Drawn m n path ts) (c : Int) : OldTo c (ownL ts) := fun o ho n e => by
  obtain ⟨k, rest, r, _, rfl⟩ := h.own.at_ o ho
  exact absurd e (ownOf_ne_fresh _ _ _)
theorem Ed.good {B : Nat} {c c' : Int} {ts rs : List Tree} (h : Ed c (ownL ts) (depL ts) (sizeL ts) c' rs) (g : Good B ts) : Good (2 * B) rs := by
  refine ⟨h.nd, h.fit, Nat.lt_of_le_of_lt h.dep g.dep, by have := h.siz; have := g.siz; omega, fun o ho => ?_⟩
  rcases h.sub o ho with q | ⟨n, _, _, rfl⟩
  · exact g.tup o q
  · exact ⟨⟨_, rfl⟩, by simp [fresh, NestedKey.depth, NestedKey.depthAll], by simp [fresh, okN, okNs]⟩
theorem mo_tup1 {all : Bool} {A B : List Tree} (h : Tups (ownL A)) : Tups ((mo all A B).map (·.1)) := fun k hk => by
  obtain ⟨p, hp, rfl⟩ := List.mem_map.mp hk
  exact h _ (mo_own all A B p hp).1
theorem mo_tup2 {all : Bool} {A B : List Tree} (h : Tups (ownL B)) : Tups ((mo all A B).map (·.2)) := fun k hk => by
  obtain ⟨p, hp, rfl⟩ := List.mem_map.mp hk
  exact h _ (mo_own all A B p hp).2
theorem mo_len (all : Bool) (A B : List Tree) : (mo all A B).length ≤ sizeL B := by
  unfold mo
  rw [List.length_map]
  exact mL_len all B A []
theorem mo_pair (all : Bool) (A B : List Tree) : (mo all A B).map pairK = (mL all A [] B).map fun p => .tup [p.1.own, p.2.own] := by
  unfold mo
  rw [List.map_map]
  rfl
def spLaw (K : PySem.W.Frag) : Sp := fun vs H Q _ => ∃ (a : Addr) (ns : List Int), vs = [.ref a] ∧ SqL K H a (ns.map V.int) ∧ ns.length ≤ 63 ∧ ∀ H', Q (.bl true) H'
end G
set_option Elab.async false
set_option linter.all false
set_option maxRecDepth 100000
set_option maxHeartbeats 400000
/-! Plain data: None, truth values, ints, texts, lists, tuples, dicts with texts as keys. -/
namespace G
open PySem L2 Nd
inductive Dat where
  | non
  | bl (b : Bool)
  | int (i : Int)
  | str (z : Str)
  | lst (xs : List Dat)
  | tup (xs : List Dat)
  | dic (ks : List Str) (xs : List Dat)
def lookD {α : Type} : List Str → List α → Str → Option α
  | k :: ks, v :: vs, j => if k = j then some v else lookD ks vs j
  | _, _, _ => none
def dkv : List Str → List V → List (Key × V)
  | k :: ks, v :: vs => (.inr k, v) :: dkv ks vs
  | _, _ => []
theorem valV_dkv (j : Str) : ∀ (ks : List Str) (vs : List V), valV (dkv ks vs) (.inr j) = lookD ks vs j
  | [], _ => rfl
  | _ :: _, [] => rfl
  | k :: ks, v :: vs => by
    have ih := valV_dkv j ks vs
    unfold valV at ih ⊢
    rw [dkv, lookD, List.find?_cons]
    by_cases h : k = j
    · subst h; simp
    · have : ¬ ((Sum.inr k : Key) = Sum.inr j) := fun z => h (Sum.inr.inj z)
      simp only [this, decide_false, if_neg h]
      exact ih
theorem dkv_len : ∀ {ks : List Str} {vs : List V}, ks.length = vs.length → (dkv ks vs).length = ks.length
  | [], [], _ => rfl
  | [], _ :: _, h => by simp at h
  | _ :: _, [], h => by simp at h
  | k :: ks, v :: vs, h => by
    rw [dkv, List.length_cons, List.length_cons, dkv_len (by simpa using h)]
theorem dkv_get : ∀ {ks : List Str} {vs : List V} {i : Nat} {q : Key} {v : V}, (dkv ks vs)[i]? = some (q, v) → ∃ k, q = .inr k ∧ ks[i]? = some k ∧ vs[i]? = some v
  | [], _, _, _, _, h => by simp [dkv] at h
  | _ :: _, [], _, _, _, h => by simp [dkv] at h
  | k :: ks, v :: vs, 0, q, u, h => by
    simp [dkv] at h
    exact ⟨k, h.1.symm, rfl, by simp [h.2]⟩
  | k :: ks, v :: vs, i + 1, q, u, h => by
    rw [dkv, List.getElem?_cons_succ] at h
    obtain ⟨j, h1, h2, h3⟩ := dkv_get h
    exact ⟨j, h1, by simpa using h2, by simpa using h3⟩
theorem dkv_at : ∀ {ks : List Str} {vs : List V} {i : Nat} {k : Str} {v : V}, ks[i]? = some k → vs[i]? = some v → (dkv ks vs)[i]? = some (.inr k, v)
  | [], _, _, _, _, h, _ => by simp at h
  | _ :: _, [], _, _, _, _, h => by simp at h
  | k :: ks, v :: vs, 0, _, _, h, g => by simp at h g; subst h g; rfl
  | k :: ks, v :: vs, i + 1, _, _, h, g => by
    rw [dkv, List.getElem?_cons_succ]
    exact dkv_at (by simpa using h) (by simpa using g)
theorem lookD_at {α : Type} : ∀ {ks : List Str} {vs : List α} {i : Nat} {k : Str} {v : α}, ks.Nodup → ks[i]? = some k → vs[i]? = some v → lookD ks vs k = some v
  | [], _, _, _, _, _, h, _ => by simp at h
  | _ :: _, [], _, _, _, _, _, h => by simp at h
  | k :: ks, v :: vs, 0, _, _, _, h, g => by simp at h g; subst h g; simp [lookD]
  | k :: ks, v :: vs, i + 1, j, _, nd, h, g => by
    rw [List.nodup_cons] at nd
    have hj : ks[i]? = some j := by simpa using h
    rw [lookD, if_neg (fun z => nd.1 (by rw [z]; exact List.mem_of_getElem? hj))]
    exact lookD_at nd.2 hj (by simpa using g)
theorem lookD_some {α : Type} : ∀ {ks : List Str} {vs : List α} {k : Str} {v : α}, lookD ks vs k = some v → ∃ i : Nat, ks[i]? = some k ∧ vs[i]? = some v
  | [], _, _, _, h => by simp [lookD] at h
  | _ :: _, [], _, _, h => by simp [lookD] at h
  | k :: ks, v :: vs, j, u, h => by
    rw [lookD] at h
    by_cases e : k = j
    · rw [if_pos e] at h
      cases h
      exact ⟨0, by simp [e], rfl⟩
    · rw [if_neg e] at h
      obtain ⟨i, h1, h2⟩ := lookD_some h
      exact ⟨i + 1, by simpa using h1, by simpa using h2⟩
theorem dkv_inj : ∀ {ks js : List Str} {vs ws : List V}, ks.length = vs.length → js.length = ws.length → dkv ks vs = dkv js ws → ks = js ∧ vs = ws
  | [], [], [], [], _, _, _ => ⟨rfl, rfl⟩
  | [], [], _ :: _, _, h, _, _ => by simp at h
  | [], [], [], _ :: _, _, h, _ => by simp at h
  | _ :: _, _, [], _, h, _, _ => by simp at h
  | [], _ :: _, _ :: _, _, h, _, _ => by simp at h
  | _, _ :: _, _, [], _, h, _ => by simp at h
  | _, [], _, _ :: _, _, h, _ => by simp at h
  | [], _ :: _, [], _ :: _, _, _, e => by simp [dkv] at e
  | _ :: _, [], _ :: _, [], _, _, e => by simp [dkv] at e
  | k :: ks, j :: js, v :: vs, w :: ws, h, g, e => by
    rw [dkv, dkv] at e
    injection e with e1 e2
    injection e1 with e3 e4
    injection e3 with e3
    obtain ⟨r1, r2⟩ := dkv_inj (by simpa using h) (by simpa using g) e2
    subst e3 e4 r1 r2
    exact ⟨rfl, rfl⟩
mutual
/-- the value v stands for the datum d; P: of its lists and dicts -/
inductive At (P : Addr → Prop) (H : Hp) : V → Dat → Prop
  | non : At P H .non .non
  | bl (b : Bool) : At P H (.bl b) (.bl b)
  | int (i : Int) : At P H (.int i) (.int i)
  | str (z : Str) : At P H (.str z) (.str z)
  | lst {a : Addr} {vs : List V} {ds : List Dat} : H a = some (.lst vs) → P a → Ats P H vs ds → At P H (.ref a) (.lst ds)
  | tup {a : Addr} {vs : List V} {ds : List Dat} : H a = some (.tup vs) → Ats P H vs ds → At P H (.ref a) (.tup ds)
  | dic {a : Addr} {ks : List Str} {vs : List V} {ds : List Dat} : H a = some (.dK (dkv ks vs)) → P a → ks.Nodup → ks.length = vs.length → Ats P H vs ds → At P H (.ref a) (.dic ks ds)
inductive Ats (P : Addr → Prop) (H : Hp) : List V → List Dat → Prop
  | nil : Ats P H [] []
  | cons {v : V} {d : Dat} {vs : List V} {ds : List Dat} : At P H v d → Ats P H vs ds → Ats P H (v :: vs) (d :: ds)
end
/-- tuples stay, and the lists and dicts of P -/
structure Kd (P P' : Addr → Prop) (H H' : Hp) : Prop where
  tup : ∀ b xs, H b = some (.tup xs) → H' b = some (.tup xs)
  lst : ∀ b xs, P b → H b = some (.lst xs) → H' b = some (.lst xs)
  dic : ∀ b kvs, P b → H b = some (.dK kvs) → H' b = some (.dK kvs)
  sub : ∀ b, P b → P' b
mutual
theorem At.keep {P P' : Addr → Prop} {H H' : Hp} (k : Kd P P' H H') : ∀ (d : Dat) (v : V), At P H v d → At P' H' v d
  | .non, _, h => by cases h; exact .non
  | .bl _, _, h => by cases h; exact .bl _
  | .int _, _, h => by cases h; exact .int _
  | .str _, _, h => by cases h; exact .str _
  | .lst ds, _, h => by cases h with | lst a b c => exact .lst (k.lst _ _ b a) (k.sub _ b) (Ats.keep k ds _ c)
  | .tup ds, _, h => by cases h with | tup a c => exact .tup (k.tup _ _ a) (Ats.keep k ds _ c)
  | .dic ks ds, _, h => by cases h with | dic a b n l c => exact .dic (k.dic _ _ b a) (k.sub _ b) n l (Ats.keep k ds _ c)
theorem Ats.keep {P P' : Addr → Prop} {H H' : Hp} (k : Kd P P' H H') : ∀ (ds : List Dat) (vs : List V), Ats P H vs ds → Ats P' H' vs ds
  | [], _, h => by cases h; exact .nil
  | d :: ds, _, h => by cases h with | cons a b => exact .cons (At.keep k d _ a) (Ats.keep k ds _ b)
end
theorem Kd.same {P : Addr → Prop} {H H' : Hp} (e : Same H H') : Kd P P H H' := ⟨fun _ _ q => e _ _ q, fun _ _ _ q => e _ _ q, fun _ _ _ q => e _ _ q, fun _ q => q⟩
theorem Kd.weak {P P' : Addr → Prop} {H : Hp} (h : ∀ b, P b → P' b) : Kd P P' H H := ⟨fun _ _ q => q, fun _ _ _ q => q, fun _ _ _ q => q, h⟩
theorem At.same {P : Addr → Prop} {H H' : Hp} {v : V} {d : Dat} (h : At P H v d) (e : Same H H') : At P H' v d := At.keep (Kd.same e) d v h
theorem Ats.same {P : Addr → Prop} {H H' : Hp} {vs : List V} {ds : List Dat} (h : Ats P H vs ds) (e : Same H H') : Ats P H' vs ds := Ats.keep (Kd.same e) ds vs h
theorem At.weak {P P' : Addr → Prop} {H : Hp} {v : V} {d : Dat} (h : At P H v d) (w : ∀ b, P b → P' b) : At P' H v d := At.keep (Kd.weak w) d v h
theorem Ats.weak {P P' : Addr → Prop} {H : Hp} {vs : List V} {ds : List Dat} (h : Ats P H vs ds) (w : ∀ b, P b → P' b) : Ats P' H vs ds := Ats.keep (Kd.weak w) ds vs h
/-- a list or dict outside of P is written -/
theorem Kd.put {P : Addr → Prop} {H : Hp} {a : Addr} {o u : HO} (ha : H a = some u) (hu : ∀ xs, u ≠ .tup xs) (hp : ¬ P a) : Kd P P H (upd H a o) where
  tup := keep_tup (H' := H) ha hu
  lst := fun b xs pb q => by rw [upd_ne (show b ≠ a from fun z => hp (by rw [← z]; exact pb))]; exact q
  dic := fun b xs pb q => by rw [upd_ne (show b ≠ a from fun z => hp (by rw [← z]; exact pb))]; exact q
  sub := fun _ q => q
theorem Kd.trans {P P' P'' : Addr → Prop} {H H' H'' : Hp} (a : Kd P P' H H') (b : Kd P' P'' H' H'') : Kd P P'' H H'' :=
  ⟨fun c xs q => b.tup _ _ (a.tup _ _ q), fun c xs p q => b.lst _ _ (a.sub _ p) (a.lst _ _ p q), fun c xs p q => b.dic _ _ (a.sub _ p) (a.dic _ _ p q), fun c p => b.sub _ (a.sub _ p)⟩
theorem Ats.len {P : Addr → Prop} {H : Hp} : ∀ {vs : List V} {ds : List Dat}, Ats P H vs ds → vs.length = ds.length
  | _, _, .nil => rfl
  | _, _, .cons _ h => by rw [List.length_cons, List.length_cons, Ats.len h]
theorem Ats.get {P : Addr → Prop} {H : Hp} : ∀ {vs : List V} {ds : List Dat} {i : Nat} {v : V}, Ats P H vs ds → vs[i]? = some v → ∃ d, ds[i]? = some d ∧ At P H v d
  | _, _, _, _, .nil, e => by simp at e
  | _, _, 0, _, .cons a _, e => by simp at e; subst e; exact ⟨_, rfl, a⟩
  | _, _, i + 1, v, .cons _ b, e => by
    obtain ⟨d, h1, h2⟩ := Ats.get (i := i) (v := v) b (by simpa using e)
    exact ⟨d, by simpa using h1, h2⟩
theorem Ats.get2 {P : Addr → Prop} {H : Hp} : ∀ {vs : List V} {ds : List Dat} {i : Nat} {d : Dat}, Ats P H vs ds → ds[i]? = some d → ∃ v, vs[i]? = some v ∧ At P H v d
  | _, _, _, _, .nil, e => by simp at e
  | _, _, 0, _, .cons a _, e => by simp at e; subst e; exact ⟨_, rfl, a⟩
  | _, _, i + 1, v, .cons _ b, e => by
    obtain ⟨d, h1, h2⟩ := Ats.get2 (i := i) (d := v) b (by simpa using e)
    exact ⟨d, by simpa using h1, h2⟩
theorem Ats.append {P : Addr → Prop} {H : Hp} : ∀ {vs ws : List V} {ds es : List Dat}, Ats P H vs ds → Ats P H ws es → Ats P H (vs ++ ws) (ds ++ es)
  | _, _, _, _, .nil, h => h
  | _, _, _, _, .cons a b, h => .cons a (Ats.append b h)
theorem Ats.snoc {P : Addr → Prop} {H : Hp} {vs : List V} {ds : List Dat} {v : V} {d : Dat} (h : Ats P H vs ds) (a : At P H v d) : Ats P H (vs ++ [v]) (ds ++ [d]) := h.append (.cons a .nil)
theorem Ats.look {P : Addr → Prop} {H : Hp} {k : Str} : ∀ {ks : List Str} {vs : List V} {ds : List Dat}, Ats P H vs ds → (lookD ks vs k = none ∧ lookD ks ds k = none) ∨ ∃ v d, lookD ks vs k = some v ∧ lookD ks ds k = some d ∧ At P H v d
  | [], _, _, _ => .inl ⟨rfl, rfl⟩
  | _ :: _, _, _, .nil => .inl ⟨rfl, rfl⟩
  | j :: ks, _, _, .cons a b => by
    rw [lookD, lookD]
    by_cases e : j = k
    · rw [if_pos e, if_pos e]; exact .inr ⟨_, _, rfl, rfl, a⟩
    · rw [if_neg e, if_neg e]; exact Ats.look b
mutual
theorem At.fn {P Q : Addr → Prop} {H : Hp} : ∀ (d : Dat) (e : Dat) (v : V), At P H v d → At Q H v e → d = e
  | .non, _, _, h, g => by cases h; cases g; rfl
  | .bl _, _, _, h, g => by cases h; cases g; rfl
  | .int _, _, _, h, g => by cases h; cases g; rfl
  | .str _, _, _, h, g => by cases h; cases g; rfl
  | .lst ds, _, _, h, g => by
    cases h with
    | lst a b c => cases g with
      | lst a2 b2 c2 => rw [a] at a2; cases a2; rw [Ats.fn ds _ _ c c2]
      | tup a2 c2 => rw [a] at a2; cases a2
      | dic a2 _ _ _ c2 => rw [a] at a2; cases a2
  | .tup ds, _, _, h, g => by
    cases h with
    | tup a c => cases g with
      | lst a2 b2 c2 => rw [a] at a2; cases a2
      | tup a2 c2 => rw [a] at a2; cases a2; rw [Ats.fn ds _ _ c c2]
      | dic a2 _ _ _ c2 => rw [a] at a2; cases a2
  | .dic ks ds, _, _, h, g => by
    cases h with
    | dic a b n l c => cases g with
      | lst a2 b2 c2 => rw [a] at a2; cases a2
      | tup a2 c2 => rw [a] at a2; cases a2
      | dic a2 b2 n2 l2 c2 =>
        rw [a] at a2
        injection a2 with a2
        injection a2 with a2
        obtain ⟨e1, e2⟩ := dkv_inj l l2 a2
        subst e1 e2
        rw [Ats.fn ds _ _ c c2]
theorem Ats.fn {P Q : Addr → Prop} {H : Hp} : ∀ (ds : List Dat) (es : List Dat) (vs : List V), Ats P H vs ds → Ats Q H vs es → ds = es
  | [], _, _, h, g => by cases h; cases g; rfl
  | d :: ds, _, _, h, g => by cases h with | cons a b => cases g with | cons a2 b2 => rw [At.fn d _ _ a a2, Ats.fn ds _ _ b b2]
end
mutual
def sizD : Dat → Nat
  | .lst xs => 1 + sizDs xs
  | .tup xs => 1 + sizDs xs
  | .dic _ xs => 1 + sizDs xs
  | _ => 1
def sizDs : List Dat → Nat
  | [] => 0
  | d :: ds => sizD d + sizDs ds
end
theorem sizDs_get {ds : List Dat} {i : Nat} {d : Dat} (h : ds[i]? = some d) : sizD d ≤ sizDs ds := by
  induction ds generalizing i with
  | nil => simp at h
  | cons e es ih =>
    cases i with
    | zero => simp at h; subst h; rw [sizDs]; omega
    | succ j => have := ih (by simpa using h); rw [sizDs]; omega
mutual
/-- what is smaller than the datum at e does not hold e -/
theorem At.apart {P Q : Addr → Prop} {H : Hp} {e : Addr} {d : Dat} (he : At Q H (.ref e) d) : ∀ (c : Dat) (v : V), At P H v c → sizD c < sizD d → At (fun b => P b ∧ b ≠ e) H v c
  | .non, _, h, _ => by cases h; exact .non
  | .bl _, _, h, _ => by cases h; exact .bl _
  | .int _, _, h, _ => by cases h; exact .int _
  | .str _, _, h, _ => by cases h; exact .str _
  | .lst ds, _, h, z => by
    have h0 := h
    cases h with
    | @lst a _ _ q b c =>
      rw [sizD] at z
      refine .lst q ⟨b, fun w => ?_⟩ (Ats.apart he ds _ c (by omega))
      subst w
      have := At.fn _ _ _ h0 he
      rw [← this, sizD] at z
      omega
  | .tup ds, _, h, z => by
    cases h with
    | tup q c =>
      rw [sizD] at z
      exact .tup q (Ats.apart he ds _ c (by omega))
  | .dic ks ds, _, h, z => by
    have h0 := h
    cases h with
    | @dic a _ _ _ q b n l c =>
      rw [sizD] at z
      refine .dic q ⟨b, fun w => ?_⟩ n l (Ats.apart he ds _ c (by omega))
      subst w
      have := At.fn _ _ _ h0 he
      rw [← this, sizD] at z
      omega
theorem Ats.apart {P Q : Addr → Prop} {H : Hp} {e : Addr} {d : Dat} (he : At Q H (.ref e) d) : ∀ (cs : List Dat) (vs : List V), Ats P H vs cs → sizDs cs < sizD d → Ats (fun b => P b ∧ b ≠ e) H vs cs
  | [], _, h, _ => by cases h; exact .nil
  | c :: cs, _, h, z => by
    cases h with
    | cons a b =>
      rw [sizDs] at z
      exact .cons (At.apart he c _ a (by omega)) (Ats.apart he cs _ b (by omega))
end
/-- e is locked -/
theorem Kd.lock {P : Addr → Prop} {H : Hp} {e : Addr} {u : HO} {o : Obj} (he : H e = some u) (hu : ∀ xs, u ≠ .tup xs) : Kd (fun b => P b ∧ b ≠ e) (fun b => P b ∧ b ≠ e) H (upd H e (.frz o u)) :=
  Kd.put he hu (fun z => z.2 rfl)
mutual
theorem nk_at {P : Addr → Prop} {H : Hp} : ∀ (k : NestedKey) (v : V), NK H v k → ∃ d, At P H v d
  | .none, _, h => by cases h; exact ⟨_, .non⟩
  | .num _, _, h => by cases h; exact ⟨_, .int _⟩
  | .text _, _, h => by cases h; exact ⟨_, .str _⟩
  | .tup ks, _, h => by
    cases h with
    | tup a b =>
      obtain ⟨ds, q⟩ := nks_at (P := P) ks _ b
      exact ⟨_, .tup a q⟩
theorem nks_at {P : Addr → Prop} {H : Hp} : ∀ (ks : List NestedKey) (vs : List V), NKs H vs ks → ∃ ds, Ats P H vs ds
  | [], _, h => by cases h; exact ⟨_, .nil⟩
  | k :: ks, _, h => by
    cases h with
    | cons a b =>
      obtain ⟨d, q⟩ := nk_at (P := P) k _ a
      obtain ⟨ds, r⟩ := nks_at (P := P) ks _ b
      exact ⟨_, .cons q r⟩
end
/-- the same up to the order of dicts, at most n deep -/
def Sim : Nat → Dat → Dat → Prop
  | 0, _, _ => False
  | _ + 1, .non, .non => True
  | _ + 1, .bl a, .bl b => a = b
  | _ + 1, .int a, .int b => a = b
  | _ + 1, .str a, .str b => a = b
  | n + 1, .lst xs, .lst ys => xs.length = ys.length ∧ ∀ (i : Nat) (u v : Dat), xs[i]? = some u → ys[i]? = some v → Sim n u v
  | n + 1, .tup xs, .tup ys => xs.length = ys.length ∧ ∀ (i : Nat) (u v : Dat), xs[i]? = some u → ys[i]? = some v → Sim n u v
  | n + 1, .dic ks xs, .dic js ys => ks.length = js.length ∧ ∀ (i : Nat) (k : Str) (v : Dat), js[i]? = some k → ys[i]? = some v → ∃ u, lookD ks xs k = some u ∧ Sim n u v
  | _ + 1, _, _ => False
mutual
def depD : Dat → Nat
  | .lst xs => 1 + depDs xs
  | .tup xs => 1 + depDs xs
  | .dic _ xs => 1 + depDs xs
  | _ => 0
def depDs : List Dat → Nat
  | [] => 0
  | d :: ds => max (depD d) (depDs ds)
end
/-- x and y tell the same: one value, or two apart -/
def SmV (H : Hp) (n : Nat) (x y : V) : Prop := (∃ P d, x = y ∧ At P H x d ∧ depD d < n) ∨ ∃ P d e, At P H x d ∧ At (fun b => ¬ P b) H y e ∧ Sim n d e
def spSameD (n : Nat) : Sp := fun vs H Q _ => ∃ x y, vs = [x, y] ∧ SmV H n x y ∧ ∀ H', Same H H' → Q (.bl true) H'
theorem depDs_get {ds : List Dat} {i : Nat} {d : Dat} (h : ds[i]? = some d) : depD d ≤ depDs ds := by
  induction ds generalizing i with
  | nil => simp at h
  | cons e es ih =>
    cases i with
    | zero => simp at h; subst h; rw [depDs]; omega
    | succ j => have := ih (by simpa using h); rw [depDs]; omega
end G
set_option Elab.async false
set_option linter.all false
set_option maxRecDepth 100000
set_option maxHeartbeats 4000000
namespace G
open PySem PySem.Spec PyProof.Rows L2 Nd
/-! ### the law's own comparison -/
/-- what isinstance(x, C) asks of a class of the program -/
structure IsiC (K : PySem.W.Frag) (C : Addr) : Prop where
  ha : PySem.W.findIn K (.ref C) "__class__" = some (some (.builtin "object.__class__"))
  hn : PySem.W.specialIn K (.builtin "object.__class__") "__get__" = some (some (.builtin "getset_descriptor.__get__"))
  htk : PySem.W.takesIn K (.builtin "object.__class__") = some true
  hm : PySem.W.mroIn K C (.type "object") = some true
theorem IsiC.hk {K : PySem.W.Frag} {C : Addr} (h : IsiC K C) : PySem.W.kitOne K (.ref C) (.ref C) = some true := if_pos (beq_self_eq_true _)
/-- a value's type, with dicts of nested keys -/
inductive TyN (P : Program) (w : World) (K : PySem.W.Frag) (H : Hp) : V → Value → Prop where
  | base {x : V} {t : Value} (h : TyX K H x t) : TyN P w K H x t
  | dn {a : Addr} {xs : List Ent} (e : Rd H a (DN P w a xs)) : TyN P w K H (.ref a) (.type "dict")
theorem kit_ofN {X : Cx} {pins : List (Addr × Obj)} {σ : L2.St} {H : Hp} {s : Shared} {x : V} {u t : Value} (I : Inv X pins σ H s) (rx : RelV x u) (ty : TyN X.prog X.w X.K H x t) : ∃ P : Heap → Prop, PySem.W.KitX X.K u t P ∧ P s.heap ∧ u ≠ .builtin "__main__.__loader__#opaque" := by
  cases ty with
  | base h => exact kit_of I rx h
  | @dn a xs e =>
    cases (show u = Value.ref a from rx)
    obtain ⟨⟨_, vs, _, o, es, ep, h1, h2, _⟩, _, _⟩ := (show ObjOk X.prog X.w H s.heap a (DN X.prog X.w a xs) from e.ok I.hok)
    exact ⟨_, PySem.W.kitx_dict, ⟨o, h1, h2.1⟩, fun z => nomatch z⟩
def rIsiN (P : Program) (w : World) (K : PySem.W.Frag) : List V → Hp → VK → Prop := fun xs H Q => ∃ (x c : V) (t u : Value) (b : Bool), xs = [x, c] ∧ ClsV c u ∧ TyN P w K H x t ∧ PySem.W.kitOne K t u = some b ∧ Q (.bl b) H
theorem call_isiN {X : Cx} : CallR X (.builtin "isinstance") (rIsiN X.prog X.w X.K) := by
  intro pins s σ H xs us Q I r h
  obtain ⟨x, c, t, u, b, rfl, k, ty, e, q⟩ := h
  obtain ⟨u1, u2, rfl, r1, r2⟩ := vals2 r
  have e2 := k.eq r2
  subst e2
  obtain ⟨P, Z, p, hx⟩ := kit_ofN I r1 ty
  exact PySem.W.kia_one Z I.kIn p e hx fun tk => ⟨.bl b, H, I.tok tk, rfl, q⟩
/-- index into a list or a tuple -/
def rIxA (K : PySem.W.Frag) : R2 := fun x y H Q => rIxL K x y H Q ∨ rIxT K x y H Q
theorem ix_any {X : Cx} : IxR X (rIxA X.K) := by
  intro value slice pins s σ H x y v u Q I rx ry h hs
  rcases h with h | h
  · exact ix_list value slice pins s σ H x y v u Q I rx ry h hs
  · exact ix_tup value slice pins s σ H x y v u Q I rx ry h hs
/-- len of a list or tuple: never beyond the line -/
def rLenB (K : PySem.W.Frag) : List V → Hp → VK → Prop := fun xs H Q => ∃ p ys, xs = [.ref p] ∧ (SqL K H p ys ∨ SqT K H p ys) ∧ (ys.length ≤ sizeLine → Q (.int ys.length) H)
theorem call_lenB {X : Cx} : CallR X (.builtin "len") (rLenB X.K) := by
  intro pins s σ H xs us Q I r h
  obtain ⟨p, ys, e, hq, q⟩ := h
  have hz : ys.length ≤ sizeLine := by
    rcases hq with hq | hq
    · obtain ⟨_, _, _, hz⟩ := I.list hq
      exact hz
    · obtain ⟨_, _, _, hz⟩ := I.tuple hq
      exact hz
  exact call_len_seq pins s σ H xs us Q I r ⟨p, ys, e, hq, q hz⟩
theorem line24 {n : Nat} (h : n ≤ sizeLine) : (n : Int) < 2 ^ 62 := by
  have : sizeLine = 16777216 := by decide
  omega
/-- the same plain value, at most n deep -/
def Eq2 (H : Hp) : Nat → V → V → Prop
  | 0, _, _ => False
  | n + 1, x, y => (x = .non ∧ y = .non) ∨ (∃ b, x = .bl b ∧ y = .bl b) ∨ (∃ i, x = .int i ∧ y = .int i) ∨ (∃ z, x = .str z ∧ y = .str z) ∨
    ∃ a b xs ys, x = .ref a ∧ y = .ref b ∧ ((H a = some (.tup xs) ∧ H b = some (.tup ys)) ∨ (H a = some (.lst xs) ∧ H b = some (.lst ys))) ∧ xs.length = ys.length ∧ ∀ (i : Nat) (u v : V), xs[i]? = some u → ys[i]? = some v → Eq2 H n u v
theorem Eq2.mono {H H' : Hp} (ht : ∀ a xs, H a = some (.tup xs) → H' a = some (.tup xs)) (hl : ∀ a xs, H a = some (.lst xs) → H' a = some (.lst xs)) : ∀ {n : Nat} {x y : V}, Eq2 H n x y → Eq2 H' n x y
  | 0, _, _, h => h.elim
  | n + 1, x, y, h => by
    rcases h with h | h | h | h | ⟨a, b, xs, ys, h1, h2, h3, h4, h6⟩
    · exact .inl h
    · exact .inr (.inl h)
    · exact .inr (.inr (.inl h))
    · exact .inr (.inr (.inr (.inl h)))
    · refine .inr (.inr (.inr (.inr ⟨a, b, xs, ys, h1, h2, ?_, h4, fun i u v e f => (h6 i u v e f).mono ht hl⟩)))
      rcases h3 with ⟨q1, q2⟩ | ⟨q1, q2⟩
      · exact .inl ⟨ht _ _ q1, ht _ _ q2⟩
      · exact .inr ⟨hl _ _ q1, hl _ _ q2⟩
theorem Eq2.same {H H' : Hp} {n : Nat} {x y : V} (h : Eq2 H n x y) (e : Same H H') : Eq2 H' n x y := h.mono (fun _ _ q => e _ _ q) (fun _ _ q => e _ _ q)
theorem Eq2.le {H : Hp} : ∀ {m n : Nat} {x y : V}, Eq2 H m x y → m ≤ n → Eq2 H n x y
  | 0, _, _, _, h, _ => h.elim
  | m + 1, 0, _, _, _, h => absurd h (by omega)
  | m + 1, n + 1, x, y, h, hl => by
    rcases h with h | h | h | h | ⟨a, b, xs, ys, h1, h2, h3, h4, h6⟩
    · exact .inl h
    · exact .inr (.inl h)
    · exact .inr (.inr (.inl h))
    · exact .inr (.inr (.inr (.inl h)))
    · exact .inr (.inr (.inr (.inr ⟨a, b, xs, ys, h1, h2, h3, h4, fun i u v e f => (h6 i u v e f).le (by omega)⟩)))
/-- while d is locked, and after -/
theorem same_unlock {H H' : Hp} {d : Addr} {o : Obj} {u : HO} (hd : H d = some u) (e : Same (upd H d (.frz o u)) H') : H' d = some (.frz o u) ∧ Same H (upd H' d u) := by
  refine ⟨e _ _ upd_same, fun c v hc => ?_⟩
  by_cases h : c = d
  · subst h
    rw [upd_same, ← hd, hc]
  · rw [upd_ne h]
    exact e _ _ (by rw [upd_ne h]; exact hc)
/-- the same dict of nested keys -/
def EqD2 (P : Program) (w : World) (H : Hp) (n : Nat) (x y : V) : Prop := ∃ d e es fs, x = .ref d ∧ y = .ref e ∧ d ≠ e ∧ H d = some (DN P w d es) ∧ H e = some (DN P w e fs) ∧ KeysAt H es ∧ KeysAt H fs ∧ es.length = fs.length ∧
  ∀ k a v, (k, a, v) ∈ fs → ∃ u v', lookN es k = some u ∧ lookN fs k = some v' ∧ Eq2 H n u v'
def spSame (P : Program) (w : World) (n : Nat) : Sp := fun vs H Q _ => ∃ x y, vs = [x, y] ∧ (Eq2 H n x y ∨ ∃ m, m < n ∧ EqD2 P w H m x y) ∧ ∀ H', Same H H' → Q (.bl true) H'
mutual
theorem nk_eq2 {H : Hp} : ∀ (k : NestedKey) (n : Nat) (x y : V), NK H x k → NK H y k → k.depth < n → Eq2 H n x y
  | _, 0, _, _, _, _, h => absurd h (by omega)
  | .none, n + 1, _, _, h1, h2, _ => by cases h1; cases h2; exact .inl ⟨rfl, rfl⟩
  | .num i, n + 1, _, _, h1, h2, _ => by cases h1; cases h2; exact .inr (.inr (.inl ⟨_, rfl, rfl⟩))
  | .text z, n + 1, _, _, h1, h2, _ => by cases h1; cases h2; exact .inr (.inr (.inr (.inl ⟨_, rfl, rfl⟩)))
  | .tup ks, n + 1, _, _, h1, h2, hd => by
    cases h1 with
    | tup p1 p2 =>
      cases h2 with
      | tup q1 q2 =>
        rw [NestedKey.depth] at hd
        exact .inr (.inr (.inr (.inr ⟨_, _, _, _, rfl, rfl, .inl ⟨p1, q1⟩, by rw [p2.len, q2.len], nks_eq2 ks n _ _ p2 q2 (by omega)⟩)))
theorem nks_eq2 {H : Hp} : ∀ (ks : List NestedKey) (n : Nat) (xs ys : List V), NKs H xs ks → NKs H ys ks → NestedKey.depthAll ks < n → ∀ (i : Nat) (u v : V), xs[i]? = some u → ys[i]? = some v → Eq2 H n u v
  | [], n, _, _, h1, h2, _, i, u, v, e, _ => by cases h1; simp at e
  | k :: ks, n, _, _, h1, h2, hd, i, u, v, e, f => by
    cases h1 with
    | cons p1 p2 =>
      cases h2 with
      | cons q1 q2 =>
        rw [NestedKey.depthAll] at hd
        cases i with
        | zero => simp at e f; subst e f; exact nk_eq2 k n _ _ p1 q1 (by omega)
        | succ i => exact nks_eq2 ks n _ _ p2 q2 (by omega) i u v (by simpa using e) (by simpa using f)
end
end G
set_option Elab.async false
set_option linter.all false
set_option maxRecDepth 100000
set_option maxHeartbeats 400000
namespace G
open PySem L2 Nd
/-- x and y of the same kind, their parts the same -/
inductive SmC (H : Hp) (n : Nat) : V → V → Prop
  | non : SmC H n .non .non
  | bl (b : Bool) : SmC H n (.bl b) (.bl b)
  | int (i : Int) : SmC H n (.int i) (.int i)
  | str (z : Str) : SmC H n (.str z) (.str z)
  | tup {a b : Addr} {xs ys : List V} : H a = some (.tup xs) → H b = some (.tup ys) → xs.length = ys.length → (∀ (i : Nat) (u v : V), xs[i]? = some u → ys[i]? = some v → SmV H n u v) → SmC H n (.ref a) (.ref b)
  | lst {a b : Addr} {xs ys : List V} : H a = some (.lst xs) → H b = some (.lst ys) → xs.length = ys.length → (∀ (i : Nat) (u v : V), xs[i]? = some u → ys[i]? = some v → SmV H n u v) → SmC H n (.ref a) (.ref b)
  | dic {a b : Addr} {ks js : List Str} {us vs : List V} : H a = some (.dK (dkv ks us)) → H b = some (.dK (dkv js vs)) → ks.length = us.length → js.length = vs.length → ks.length = js.length → js.Nodup →
      (∀ (i : Nat) (k : Str) (v : V), js[i]? = some k → vs[i]? = some v → ∃ u, lookD ks us k = some u ∧ ∀ od H2, Same (upd H b (.frz od (.dK (dkv js vs)))) H2 → SmV H2 n u v) → SmC H n (.ref a) (.ref b)
theorem SmV.same {H H' : Hp} {n : Nat} {x y : V} (h : SmV H n x y) (e : Same H H') : SmV H' n x y := by
  rcases h with ⟨P, d, h1, h2, h3⟩ | ⟨P, d, e', h1, h2, h3⟩
  · exact .inl ⟨P, d, h1, h2.same e, h3⟩
  · exact .inr ⟨P, d, e', h1.same e, h2.same e, h3⟩
theorem SmV.cases {H : Hp} {n : Nat} {x y : V} (h : SmV H (n + 1) x y) : SmC H n x y := by
  rcases h with ⟨P, d, rfl, h, hd⟩ | ⟨P, d, e, h, g, hs⟩
  · have h0 := h
    cases h with
    | non => exact .non
    | bl b => exact .bl b
    | int i => exact .int i
    | str z => exact .str z
    | lst q p c =>
      refine .lst q q rfl fun i u v e1 e2 => ?_
      rw [e1] at e2
      cases e2
      obtain ⟨du, hu, au⟩ := c.get e1
      have := depDs_get hu
      rw [depD] at hd
      exact .inl ⟨P, du, rfl, au, by omega⟩
    | tup q c =>
      refine .tup q q rfl fun i u v e1 e2 => ?_
      rw [e1] at e2
      cases e2
      obtain ⟨du, hu, au⟩ := c.get e1
      have := depDs_get hu
      rw [depD] at hd
      exact .inl ⟨P, du, rfl, au, by omega⟩
    | dic q p nd l c =>
      refine .dic q q l l rfl nd fun i k v e1 e2 => ⟨v, lookD_at nd e1 e2, fun od H2 s => ?_⟩
      obtain ⟨du, hu, au⟩ := c.get e2
      have := depDs_get hu
      have z := sizDs_get hu
      rw [depD] at hd
      have ap := At.apart h0 du v au (by rw [sizD]; omega)
      exact .inl ⟨_, du, rfl, (At.keep (Kd.lock q (by intro xs z; cases z)) _ _ ap).same s, by omega⟩
  · have g0 := g
    cases h with
    | non => cases g <;> first | exact .non | (simp [Sim] at hs)
    | bl b => cases g <;> first | (simp [Sim] at hs; subst hs; exact .bl _) | (simp [Sim] at hs)
    | int i => cases g <;> first | (simp [Sim] at hs; subst hs; exact .int _) | (simp [Sim] at hs)
    | str z => cases g <;> first | (simp [Sim] at hs; subst hs; exact .str _) | (simp [Sim] at hs)
    | lst q p c =>
      cases g with
      | lst q2 p2 c2 =>
        rw [Sim] at hs
        refine .lst q q2 (by rw [c.len, c2.len]; exact hs.1) fun i u v e1 e2 => ?_
        obtain ⟨du, hu, au⟩ := c.get e1
        obtain ⟨dv, hv, av⟩ := c2.get e2
        exact .inr ⟨P, du, dv, au, av, hs.2 i du dv hu hv⟩
      | _ => simp [Sim] at hs
    | tup q c =>
      cases g with
      | tup q2 c2 =>
        rw [Sim] at hs
        refine .tup q q2 (by rw [c.len, c2.len]; exact hs.1) fun i u v e1 e2 => ?_
        obtain ⟨du, hu, au⟩ := c.get e1
        obtain ⟨dv, hv, av⟩ := c2.get e2
        exact .inr ⟨P, du, dv, au, av, hs.2 i du dv hu hv⟩
      | _ => simp [Sim] at hs
    | dic q p nd l c =>
      cases g with
      | dic q2 p2 nd2 l2 c2 =>
        rw [Sim] at hs
        refine .dic q q2 l l2 hs.1 nd2 fun i k v e1 e2 => ?_
        obtain ⟨dv, hv, av⟩ := c2.get e2
        obtain ⟨du, hu, sm⟩ := hs.2 i k dv e1 hv
        rcases c.look (k := k) with ⟨_, z⟩ | ⟨u, du2, lu, ld, au⟩
        · rw [hu] at z; cases z
        rw [hu] at ld
        cases ld
        refine ⟨u, lu, fun od H2 s => ?_⟩
        have z := sizDs_get hv
        have ap := At.apart g0 dv v av (by rw [sizD]; omega)
        have k0 := Kd.lock (o := od) (P := fun b => ¬ P b) q2 (by intro xs z; cases z)
        have k1 := Kd.lock (o := od) (P := P) q2 (by intro xs z; cases z)
        refine .inr ⟨_, du, dv, (At.keep k1 _ _ (au.weak fun b pb => ⟨pb, fun w => p2 (by rw [← w]; exact pb)⟩)).same s, ((At.keep k0 _ _ ap).same s).weak fun b pb z => pb.1 z.1, sm⟩
      | _ => simp [Sim] at hs
end G
set_option Elab.async false
set_option linter.all false
set_option maxRecDepth 100000
set_option maxHeartbeats 4000000
/-! Own errors over Exception whose __init__ calls the base's __init__ by the class's name. -/
namespace Xo
open PySem PySem.Spec PyProof.Rows L2
abbrev exB : List Value := [.type "Exception", .type "BaseException", .type "object"]
/-- what the written part tells of such a class -/
structure ErC (K : PySem.W.Frag) (C : Addr) : Prop where
  ini : PySem.W.excInitIn K C exB "Exception.__new__" = true
  ovr : PySem.W.excOver K C exB = true
  hdc : PySem.W.hasDictIn K C = true
  sto : PySem.W.findIn K (.ref C) "__setattr__" = some (some (.builtin "object.__setattr__"))
  bas : PySem.W.subIn K (.ref C) (.type "BaseException") = some true
  typ : PySem.W.typeIn K (.ref C) = some (.type "type")
  kee : PySem.W.keepIn K (.ref C) = true
theorem exm_mk {K : PySem.W.Frag} {X Y : Addr} {b : Bool} (h1 : PySem.W.subIn K (.ref Y) (.type "BaseException") = some true) (h2 : PySem.W.isClsIn K Y = true) (h3 : PySem.W.typeIn K (.ref Y) = some (.type "type")) (h4 : PySem.W.subIn K (.ref X) (.ref Y) = some b) : PySem.W.exmOne K (.ref X) (.ref Y) = some b := by
  unfold PySem.W.exmOne
  rw [h1, if_pos (beq_self_eq_true _)]
  unfold PySem.W.kitCls
  dsimp only
  rw [show (PySem.W.clsIn K Y).isSome = true from h2, h3, h4]
  rfl
theorem taker_none {K : PySem.W.Frag} {C : Addr} {f : Str} (h : PySem.W.findIn K (.ref C) f = some none) : PySem.W.takerIn K C f = some none := by
  unfold PySem.W.takerIn
  rw [h]
  rfl
section
open Builtin Builtin.ObjectAttr
variable {P : Program} {w : World} {B : Around} {R : Result → Shared → Prop} {hp : Heap} {g : Array GenState} {dr : Drawn} {tk0 : Nat} {os : OsState} {K : PySem.W.Frag} {C x dx : Addr} {f : Str} {tk : Tok} {v : Value} {fv : Array Value}
theorem clsOf (T : ErC K C) : ∃ cd, PySem.W.clsIn K C = some cd ∧ cd.hasDict = true := PySem.W.any_some T.hdc
/-- the first field: the dict is laid -/
theorem osaN (T : ErC K C) (X : K.In hp) (hx : hp.get? x = some { cls := .ref C, data := .fields fv }) (hno : PySem.W.findIn K (.ref C) f = some none)
    (k : ∀ h1 tk1 dx, (∀ b o, b ≠ x → hp.get? b = some o → h1.get? b = some o) → hp.objs.size ≤ dx → dx ≠ x → h1.get? x = some { cls := .ref C, dict := some dx, data := .fields fv } →
      h1.Ns1 dx (fun y => if y = f then some v else none) → R (.ok (.ret .none)) ⟨h1, g, dr, tk1, os⟩) :
    codeAny (model P w) B (.call (.builtin "object.__setattr__") ⟨[.ref x, .str f tk, v], []⟩) R ⟨hp, g, dr, tk0, os⟩ := by
  obtain ⟨cd, hcd, hh⟩ := clsOf T
  have nx : x ≠ hp.objs.size := Nat.ne_of_lt (Heap.lt_size hx)
  refine PySem.W.osa_openX PySem.F.store_Exception X (ox := { cls := .ref C, data := .fields fv }) (od := none) ⟨hx, rfl, rfl, trivial⟩ T.ovr (taker_none hno) fun b => ?_
  have Lc : PySem.W.Looks (model P w) hp (classData C) cd := PySem.W.looks_clsIn X hcd
  obtain ⟨nm, bs, mro, ns, qn, hd, sn, sb, ab, col, del⟩ := cd
  dsimp only at hh
  subst hh
  unfold storeInOwnDict ownDictForStores
  repeat (first
    | with_reducible refine HandSPX.store_in_new ?_ ?_
    | with_reducible refine wpAny_loadPart_at hx ?_
    | with_reducible refine Lc.at ?_
    | wp_step)
  · exact ⟨_, #[], _, (Heap.get?_update_ne _ _ _ _ nx.symm).trans (Heap.get?_push_at rfl rfl), rfl, (fun e he => absurd he (by simp)), fun _ => rfl⟩
  · intro h1 tk1 hn sbt
    have hx1 := Heap.get?_push_of_some { cls := .type "dict", data := .dict #[] } hx
    refine k h1 tk1 hp.objs.size (fun b o hb ho => ?_) (Nat.le_refl _) nx.symm ?_ hn
    · have q1 := sbt.2 b (Nat.ne_of_lt (Heap.lt_size ho))
      exact q1.trans ((Heap.get?_update_ne _ _ _ _ hb).trans (Heap.get?_push_of_some _ ho))
    · exact (sbt.2 x nx).trans (Heap.get?_update_self _ hx1 rfl)
/-- a further field -/
theorem osaO {m0 : Str → Option Value} {nl : List Str} (T : ErC K C) (X : K.In hp) (hx : hp.get? x = some { cls := .ref C, dict := some dx, data := .fields fv }) (hns : hp.Ns1 dx m0) (hw : Within m0 nl) (hz : nl.length ≤ 1000) (hno : PySem.W.findIn K (.ref C) f = some none)
    (k : ∀ h1 tk1, (∀ b o, b ≠ dx → hp.get? b = some o → h1.get? b = some o) → h1.Ns1 dx (fun y => if y = f then some v else m0 y) → R (.ok (.ret .none)) ⟨h1, g, dr, tk1, os⟩) :
    codeAny (model P w) B (.call (.builtin "object.__setattr__") ⟨[.ref x, .str f tk, v], []⟩) R ⟨hp, g, dr, tk0, os⟩ := by
  obtain ⟨cd, hcd, hh⟩ := clsOf T
  obtain ⟨oD, _, _, hoD, _, _⟩ := hns.count hw
  refine PySem.W.osa_openX PySem.F.store_Exception X (ox := { cls := .ref C, dict := some dx, data := .fields fv }) (od := some oD) ⟨hx, rfl, rfl, hoD⟩ T.ovr (taker_none hno) fun b => ?_
  have Lc : PySem.W.Looks (model P w) hp (classData C) cd := PySem.W.looks_clsIn X hcd
  obtain ⟨nm, bs, mro, ns, qn, hd, sn, sb, ab, col, del⟩ := cd
  dsimp only at hh
  subst hh
  unfold storeInOwnDict ownDictForStores
  repeat (first
    | with_reducible refine PySem.OEX.store_in_old hns hw hz ?_
    | with_reducible refine wpAny_loadPart_at hx ?_
    | with_reducible refine Lc.at ?_
    | wp_step)
  intro h1 tk1 hn sbt
  exact k h1 tk1 (fun b o hb ho => (sbt.2 b hb).trans ho) hn
end
section
variable {X : Cx} {pins : List (Addr × Obj)} {σ : L2.St} {H : Hp} {s : Shared} {a C dx : Addr} {f : Str} {y : V} {u : Value} {fs : List (Str × V)} {Q : Unit → Shared → Prop} {E : Value → Shared → Prop} {A : Around}
theorem stN (T : ErC X.K C) (I : Inv X pins σ H s) (e : H a = some (exo a C none)) (hno : PySem.W.findIn X.K (.ref C) f = some none) (ry : RelV y u)
    (k : ∀ dx s1, H dx = none → dx ≠ a → Inv X pins σ (upd (upd H dx (exd dx [(f, y)])) a (exo a C (some dx))) s1 → Q () s1) : wpAny (model X.prog X.w) A (setAttr (.ref a) f u) Q E s := by
  obtain ⟨t1, ho⟩ := exo_at I.hok e
  obtain ⟨hp, g, dr, t, os⟩ := s
  refine PySem.W.set_plain I.kIn (od := none) ⟨ho, rfl, rfl, trivial⟩ T.sto ?_
  refine osaN T I.kIn ho hno fun h1 tk1 dx kp dn dne hx hn => ?_
  have nd : H dx = none := I.hok.fresh dn
  have ndx : ∀ {b : Addr} {o : Obj}, hp.get? b = some o → b ≠ dx := fun q => Nat.ne_of_lt (Nat.lt_of_lt_of_le (Heap.lt_size q) dn)
  have nea : ∀ {b : Addr}, H b = none → b ≠ a := fun n z => by rw [z, e] at n; cases n
  have U : Un X.fs [] H (upd (upd H dx (exd dx [(f, y)])) a (exo a C (some dx))) hp h1 := by
    constructor
    · exact fun b o q n _ _ => kp b o (nea n) q
    · exact fun b o q n _ _ => ⟨o.slots, kp b o (nea n) q⟩
    · exact fun b o q n _ => by rw [upd_ne (nea n), upd_ne (ndx q), n]
    · intro b o q _
      rcases Decidable.em (b = a) with z | z
      · exact ⟨_, z ▸ hx⟩
      · exact ⟨o, kp b o z q⟩
    · exact fun b xs q => by rw [upd_ne (at_ne e q exo_tup), upd_ne (ne_of_none q nd), q]
    · exact fun b o v q => by rw [upd_ne (at_ne e q exo_frz), upd_ne (ne_of_none q nd), q]
    · exact fun b ps q => ⟨#[], by rw [upd_ne (at_ne e q exo_tbl), upd_ne (ne_of_none q nd), q]; simp⟩
  refine k dx _ nd dne (I.un (t' := tk1) U fun b o q => ?_)
  rcases Decidable.em (b = a) with z | z
  · subst z
    rw [upd_same] at q
    cases q
    exact exo_ok hx
  rw [upd_ne z] at q
  rcases Decidable.em (b = dx) with z2 | z2
  · subst z2
    rw [upd_same] at q
    cases q
    exact exd_ok hn (relO_put (fs := []) ry fun _ => True.intro)
  rw [upd_ne z2] at q
  refine (I.hok b o q).stay (fun c v hc r => kp c v ?_ r) (fun c hc => ?_) (fun c xs hc => ?_)
  · rcases hc with hc | hc
    · rw [hc]; exact z
    · exact at_ne e hc exo_own
  · rw [upd_ne (at_ne e hc exo_own), upd_ne (ne_of_none hc nd), hc]
  · rw [upd_ne (at_ne e hc exo_tup), upd_ne (ne_of_none hc nd), hc]
theorem stO (T : ErC X.K C) (I : Inv X pins σ H s) (e : H a = some (exo a C (some dx))) (ed : H dx = some (exd dx fs)) (hl : fs.length ≤ 900) (hno : PySem.W.findIn X.K (.ref C) f = some none) (ry : RelV y u)
    (k : ∀ s1, Inv X pins σ (upd H dx (exd dx ((f, y) :: fs))) s1 → Q () s1) : wpAny (model X.prog X.w) A (setAttr (.ref a) f u) Q E s := by
  obtain ⟨t1, ho⟩ := exo_at I.hok e
  obtain ⟨mA, hns, rel⟩ := exd_at I.hok ed
  obtain ⟨hp, g, dr, t, os⟩ := s
  obtain ⟨oD, _, _, hoD, _, _⟩ := hns.count (within_of rel)
  refine PySem.W.set_plain I.kIn (od := some oD) ⟨ho, rfl, rfl, hoD⟩ T.sto ?_
  refine osaO T I.kIn ho hns (within_of rel) (by rw [List.length_map]; omega) hno fun h1 tk1 kp hn => ?_
  obtain ⟨oN, _, _, eN, _⟩ := id hn
  exact k _ (I.write (t' := tk1) (x := dx) (e := dx) (o := exd dx ((f, y) :: fs)) (by rw [ed]; exact True.intro) (.inl rfl) kp ⟨oN, eN⟩ (exd_ok hn (relO_put ry rel)))
/-- the base's __init__: nothing of it is told -/
theorem iniB {us : List Value} {Q : Value → Shared → Prop} (T : ErC X.K C) (I : Inv X pins σ H s) (e : H a = some (exo a C none)) (hl : us.length ≤ sizeLine) (k : ∀ s1, Inv X pins σ H s1 → Q .none s1) :
    wpAny (model X.prog X.w) A (call (.builtin "Exception.__init__") (.ref a :: us)) Q E s := by
  obtain ⟨nm, N, qn, bs, bm, hdct, sn, sub, ab, col, dd, k0, k1, k2, k3, k5, hC, hT⟩ := PySem.W.excInit_of I.kIn T.ini
  obtain ⟨t1, ho⟩ := exo_at I.hok e
  obtain ⟨hp, g, dr, t, os⟩ := s
  refine wpAny_call (HandSPX.init_base PySem.F.excBase_Exception hT hC ho hl fun h1 t2 kp hx => ?_)
  have J := I.write (t' := t) (x := a) (e := a) (o := exo a C none) (by rw [e]; exact True.intro) (.inl rfl) kp ⟨_, hx⟩ (exo_ok hx)
  have same : upd H a (exo a C none) = H := funext fun b => by
    rcases Decidable.em (b = a) with z | z
    · rw [z, upd_same, e]
    · rw [upd_ne z]
  rw [same] at J
  exact k _ J
end
end Xo
set_option Elab.async false
set_option linter.all false
set_option maxRecDepth 100000
set_option maxHeartbeats 4000000
namespace Xo
open PySem PySem.Spec PyProof.Rows L2
/-- the class whose __init__ is called by name -/
structure BaC (K : PySem.W.Frag) (S : Addr) : Prop where
  gat : PySem.W.specialIn K (.ref S) "__getattribute__" = some (some (.builtin "type.__getattribute__"))
  rds : PySem.W.readsIn K S (.type "type") = true
  fnd : PySem.W.findCls K (.ref S) (.type "type") "__init__" = some (.val (.builtin "Exception.__init__"))
def tBI (K : PySem.W.Frag) (ta : TA) : TE := fun σ H Q => ta σ H fun vs H1 => ∃ (a C : Addr) (ws : List V), vs = .ref a :: ws ∧ ws.length ≤ 1000 ∧ ErC K C ∧ H1 a = some (exo a C none) ∧ Q .non H1
/-- self.f = e, the first and the further ones -/
def sEr (K : PySem.W.Frag) (f : Str) (to te : TE) : TS := fun D σ H => te σ H fun y H1 => to σ H1 fun x H2 => ∃ a C : Addr, x = .ref a ∧ ErC K C ∧ PySem.W.findIn K (.ref C) f = some none ∧
  ((H2 a = some (exo a C none) ∧ ∀ dx, H2 dx = none → dx ≠ a → D.nx σ (upd (upd H2 dx (exd dx [(f, y)])) a (exo a C (some dx)))) ∨
    ∃ (dx : Addr) (fs : List (Str × V)), H2 a = some (exo a C (some dx)) ∧ H2 dx = some (exd dx fs) ∧ fs.length ≤ 900 ∧ D.nx σ (upd H2 dx (exd dx ((f, y) :: fs))))
section
variable {X : Cx} {o e : Expr} {es : List Expr} {to te : TE} {ta : TA} {f x : Str} {p p0 p1 p2 pos : Pos} {S : Addr}
theorem pe_binit {pl : Sem Bool} (hg : Gl X x) (hm : X.mg x = some (.ref S)) (B : BaC X.K S) (ha : PA X (e :: es) ta) (hdb : (x == ("__debug__" : Str)) = false := by decide)
    (hc : eval (.Call (.Attribute (.Name x p1) "__init__" p2) (e :: es) [] pos) X.env = (eval (.Name x p1) X.env >>= fun ov => standAt p2.atName >>= fun _ => holding [ov] (getMethod ov "__init__" pl) >>= fun z =>
      callWith pos z.1 z.2 (backTo pos (starEach (e :: es) X.env)) (backToKw pos (keywordEach [] X.env))) := by rfl)
    (he : starEach (e :: es) X.env = (false, eval e X.env) :: starEach es X.env := by rfl) (hpl : (backTo pos (starEach es X.env)).any (·.1) = false := by rfl) :
    PE X (.Call (.Attribute (.Name x p1) "__init__" p2) (e :: es) [] pos) (tBI X.K ta) := by
  constructor
  intro pins s σ H Q I q
  refine PySem.W.methodCall_KW (ld_glob I hg hm ?_ hdb) hc
  refine PySem.W.method_cls I.kIn B.gat (PySem.W.cls_value I.kIn B.rds B.fnd (by decide +kernel) ?_)
  show wpAny _ _ (callWith pos (Value.builtin "Exception.__init__") [] (backTo pos (starEach (e :: es) X.env)) []) _ _ _
  refine callWith_method1 (thn (ha.run pos pins _ σ H _ (I.tok _) q) ?_) he hpl
  rintro us s1 ⟨vs, H1, I1, r1, a, C, ws, rfl, hl, T, ea, q1⟩
  cases r1 with
  | @cons _ u0 _ ur ra rr =>
    obtain rfl : u0 = Value.ref a := ra
    refine iniB T I1 ea ?_ fun s2 J => ⟨.non, H1, J, rfl, q1⟩
    have := Paired.length rr
    rw [sizeLine_eq]
    omega
theorem ps_er (ho : PE X o to) (he : PE X e te) (hs : swapsWith e (some (.Attribute o f p0)) pos.line X.env = pure false := by rfl) : PS X (.Assign [.Attribute o f p0] e pos) (sEr X.K f to te) := by
  constructor
  intro pins s σ H D I q
  refine plainObj_wpAny_Assign_Attribute (thn (he.run pins s σ H _ I q) fun v s1 ⟨y, H1, I1, r1, q1⟩ => thn (ho.run pins s1 σ H1 _ I1 q1) ?_) hs
  rintro u s2 ⟨z, H2, I2, r2, a, C, rfl, T, hno, q2⟩
  obtain rfl : u = Value.ref a := r2
  rcases q2 with ⟨ea, q2⟩ | ⟨dx, fs, ea, ed, hl, q2⟩
  · exact stN T I2 ea hno r1 fun dx s3 n ne J => ⟨σ, _, J, q2 dx n ne⟩
  · exact stO T I2 ea ed hl hno r1 fun s3 J => ⟨σ, _, J, q2⟩
/-- C(e, ..) by its own __init__ -/
theorem pmk_er {cx : CXT} {C fI : Addr} {k : Nat} {fd : FuncData} {ps : List Str} {sp : Sp} {ds : List Value} {dvs : List V} (T : ErC X.K C) (iC : PySem.W.findIn X.K (.ref C) "__init__" = some (some (.ref fI))) (tI : PySem.W.typeIn X.K (.ref fI) = some (.type "function"))
    (F1 : FnOk X.prog X.w X.K X.mg X.base cx k fI fd ps sp) (hr : Room (k + 1) X.A) (hb : Binds X.K fd ps ds) (hd : Vals dvs ds) (hx : Passes cx X (fun _ _ _ => False)) (hg : Gl X x) (hm : X.mg x = some (.ref C)) (ha : PA X (e :: es) ta)
    (hdb : (x == ("__debug__" : Str)) = false := by decide) (he : starEach (e :: es) X.env = (false, eval e X.env) :: starEach es X.env := by rfl) (hpl : (backTo pos (starEach es X.env)).any (·.1) = false := by rfl) :
    PMk X (.Call (.Name x p) (e :: es) [] pos) (tMkO C sp dvs ta) := by
  intro pins s σ H Q I q
  refine wpAny_Call_Name_kw (ld_glob I hg hm ?_ hdb)
  refine PySem.W.callWith_K (h₀ := X.base) I.ok.mod.kin T.kee (thn (ha.run pos pins s σ H _ I q) ?_) he hpl
  rintro us s1 ⟨vs, H1, I1, r1, hz, q1⟩
  refine ⟨I1.kIn, ?_⟩
  show wpAny _ _ (call (.ref C) us) _ _ _
  obtain ⟨nm, N, qn, bs, bm, hdct, sn, sub, ab, col, dd, k0, k1, k2, k3, k5, hC, hT⟩ := PySem.W.excInit_of I1.kIn T.ini
  obtain ⟨hp, g, dr, tk, os⟩ := s1
  have le1 : hp.objs.size ≤ hp.objs.size + 1 := Nat.le_succ _
  have n1 : H1 (hp.objs.size + 1) = none := I1.hok.fresh le1
  have spq := q1 (hp.objs.size + 1) n1
  have hh : ∀ b o, hp.get? b = some o → ((hp.push (PySem.W.kdv_tup us)).push (HandSPX.excO C hp.objs.size)).get? b = some o :=
    fun b o z => Heap.get?_push_of_some _ (Heap.get?_push_of_some _ z)
  have at1 : ((hp.push (PySem.W.kdv_tup us)).push (HandSPX.excO C hp.objs.size)).get? (hp.objs.size + 1) = some (HandSPX.excO C hp.objs.size) := by heap_get
  have I2 : Inv X pins σ (upd H1 (hp.objs.size + 1) (exo (hp.objs.size + 1) C none)) ⟨(hp.push (PySem.W.kdv_tup us)).push (HandSPX.excO C hp.objs.size), g, dr, tk, os⟩ :=
    I1.laid (t' := tk) (o := exo (hp.objs.size + 1) C none) hh le1 (exo_ok at1)
  have r2 : Vals (V.ref (hp.objs.size + 1) :: (vs ++ dvs)) (Value.ref (hp.objs.size + 1) :: (us ++ ds)) := .cons rfl (r1.append hd)
  have ln : (Value.ref (hp.objs.size + 1) :: us ++ ds).length = ps.length := by
    have z := r2.length
    rw [F1.len _ _ _ _ spq] at z
    exact z.symm
  have lu : us.length ≤ sizeLine := by
    have := Paired.length r1
    rw [sizeLine_eq]
    omega
  have run := F1.run _ X.stack _ _ ⟨Value.ref (hp.objs.size + 1) :: us, []⟩ (Value.ref (hp.objs.size + 1) :: (us ++ ds)) _ _ (fun _ _ _ => False) (hr.make C us []) (I2.env0.make C us []) (hb _ (Value.ref (hp.objs.size + 1) :: us) I2.kIn ln) r2 spq
  refine wpAny_call (HandSPX.call_own PySem.F.excBase_Exception hT hC (PySem.W.looks_findIn I1.kIn iC) (fun self => PySem.W.bind_fn I1.kIn self tI) lu (codeAny_mono run ?_))
  intro r s2 hq
  match r, hq with
  | .error er, hq => exact hx pins σ _ _ er s2 I2 hq
  | .ok (.ret u), hq =>
    obtain ⟨v, H2, os2, bare2, un2, hok2, rv, rfl, d, fs, ea, ed, hd1, q2⟩ := hq
    obtain ⟨h2, g2, d2, t2, os'⟩ := s2
    exact ⟨rv, mk_end (raises_own T.bas T.typ) I1 le1 hh un2 hok2 os2 bare2 ea ed hd1 q2⟩
  | .ok .next, hq => exact hq.elim
  | .ok .brk, hq => exact hq.elim
  | .ok .cont, hq => exact hq.elim
end
/-- __init__(self, f): the base's __init__, self.f = f -/
def spErr (C : Addr) (f : Str) : Sp := fun vs H Q _ => ∃ (a : Addr) (v : V), vs = [.ref a, v] ∧ H a = some (exo a C none) ∧ ∀ dx, H dx = none → dx ≠ a → Q .non (upd (upd H dx (exd dx [(f, v)])) a (exo a C (some dx)))
/-- what the raise leaves -/
theorem mkO1 {C a dx : Addr} {f : Str} {v : V} {H : Hp} (ha : H a = none) (hd : dx ≠ a) : upd (del (upd (upd (upd H a (exo a C none)) dx (exd dx [(f, v)])) a (exo a C (some dx))) a) dx (.xd [(f, v)]) = upd H dx (.xd [(f, v)]) := funext fun b => by
  rcases Decidable.em (b = dx) with z | z
  · rw [z, upd_same, upd_same]
  rw [upd_ne z, upd_ne z]
  rcases Decidable.em (b = a) with z2 | z2
  · rw [z2, del_same, ha]
  · rw [del_ne z2, upd_ne z2, upd_ne z, upd_ne z2]
/-- raise C(v): the reading behind the arguments -/
theorem mk_err {C : Addr} {f : Str} {v : V} {H : Hp} {Q : XK} (h : ∀ d, H d = none → Q (.ref C) (some d) (upd H d (.xd [(f, v)]))) : [v].length ≤ 1000 ∧ ∀ a, H a = none → spErr C f (.ref a :: ([v] ++ [])) (upd H a (exo a C none))
    (fun u H2 => u = .non ∧ ∃ (d : Addr) (fs : List (Str × V)), H2 a = some (exo a C (some d)) ∧ H2 d = some (exd d fs) ∧ H d = none ∧ Q (.ref C) (some d) (upd (del H2 a) d (.xd fs))) (fun _ _ _ => False) := by
  refine ⟨by show 1 ≤ 1000; decide, fun a ha => ⟨a, v, rfl, upd_same, fun dx n ne => ⟨rfl, dx, [(f, v)], upd_same, ?_, ?_, ?_⟩⟩⟩
  · rw [upd_ne ne]; exact upd_same
  · rw [upd_ne ne] at n; exact n
  · rw [mkO1 ha ne]
    rw [upd_ne ne] at n
    exact h dx n
end Xo
set_option Elab.async false
set_option linter.all false
set_option maxRecDepth 100000
set_option maxHeartbeats 4000000
/-! try with several clauses, named or not; the caught error is tracked behind the suite. -/
namespace Xo
open PySem PySem.Spec PyProof.Rows L2
/-- an error that was caught: its class and its dict -/
def exT (a : Addr) (cls : Value) (d : Option Addr) : HO := .ext fun h => ∃ (oe : Obj) (vs : Array Value), h.get? a = some oe ∧ oe.cls = cls ∧ oe.dict = d ∧ oe.data = .fields vs
theorem exT_ok {P : Program} {w : World} {H : Hp} {h : Heap} {a : Addr} {cls : Value} {d : Option Addr} {oe : Obj} {vs : Array Value} (e : h.get? a = some oe) (z : Zc cls d oe) (hd : oe.data = .fields vs) : ObjOk P w H h a (exT a cls d) :=
  ⟨⟨oe, vs, e, z.1, z.2, hd⟩, ⟨oe, e⟩, fun _ _ ⟨o, v, q, r⟩ k => ⟨o, v, k o q, r⟩⟩
theorem exT_own {a x : Addr} {cls : Value} {d : Option Addr} : exT a cls d ≠ .own x := fun z => by
  have z1 : HO.ext _ = HO.own x := z
  cases z1
section
variable {X : Cx} {pins : List (Addr × Obj)} {σ : L2.St} {H H0 : Hp} {s s0 : Shared} {a : Addr} {oe : Obj} {vs : Array Value} {cls : Value} {d : Option Addr}
/-- an error that was not there before the body -/
theorem tracked (J0 : ∃ σ0, Inv X pins σ0 H0 s0) (hex : X.ex = []) (h0 : s0.heap.get? a = none) (J : Inv X pins σ H s) (ha : s.heap.get? a = some oe) (hz : Zc cls d oe) (hd : oe.data = .fields vs) (na : H a = none) (nL : a ≠ X.env.locals) : Inv X pins σ (upd H a (exT a cls d)) s := by
  obtain ⟨σ0, J0⟩ := J0
  have gone : X.s_0.heap.get? a = none := by
    cases q : X.s_0.heap.get? a with
    | none => rfl
    | some o =>
      obtain ⟨o1, z⟩ := J0.base.there a o q (by rw [hex]; exact fun z => nomatch z)
      rw [h0] at z
      cases z
  have n0 : ∀ {b : Addr} {o : Obj}, X.s_0.heap.get? b = some o → b ≠ a := fun q z => by rw [z, gone] at q; cases q
  have nt : ∀ {b : Addr} {u : HO}, H b = some u → b ≠ a := fun q z => by rw [z, na] at q; cases q
  refine ⟨J.ok, J.os, J.bare, ?_, J.loc, J.cell, ?_, ?_, ?_, ?_, J.len⟩
  · constructor
    · exact J.base.keep
    · exact J.base.slot
    · exact fun b o q n hb => by rw [upd_ne (n0 q)]; exact J.base.free b o q n hb
    · exact J.base.there
    · exact fun b xs q => by have z := J.base.tups b xs q; rw [upd_ne (nt z)]; exact z
    · exact fun b o xs q => by have z := J.base.frzs b o xs q; rw [upd_ne (nt z)]; exact z
    · exact fun b ps q => by obtain ⟨m, z⟩ := J.base.tbls b ps q; exact ⟨m, by rw [upd_ne (nt z)]; exact z⟩
  · rw [upd_ne (Ne.symm nL)]; exact J.free
  · intro x c q
    have : c ≠ a := fun z => by
      obtain ⟨v, ob, ho, _⟩ := J0.cell x c q
      rw [z, h0] at ho
      cases ho
    rw [upd_ne this]
    exact J.freeC x c q
  · intro p hp
    obtain ⟨e1, e2, e3, e4, e5⟩ := J.pin p hp
    have : p.1 ≠ a := fun z => by
      have q := (J0.pin p hp).1
      rw [z, h0] at q
      cases q
    exact ⟨e1, by rw [upd_ne this]; exact e2, e3, e4, e5⟩
  · intro b u q
    by_cases hb : b = a
    · subst hb
      rw [upd_same] at q
      cases q
      exact exT_ok ha hz hd
    · rw [upd_ne hb] at q
      exact (J.hok b u q).stay (fun _ _ _ z => z) (fun c z => by rw [upd_ne (nt z)]; exact z) fun c xs z => by rw [upd_ne (nt z)]; exact z
end
abbrev HdI := Value × Option Nat × (Addr → Value → Option Addr → TS)
def putI (i : Option Nat) (v : Option V) (σ : L2.St) : L2.St := match i with
  | some i => σ.set i v
  | none => σ
/-- behind a suite -/
def endT (D : Ends) (a : Addr) (cls : Value) (d : Option Addr) (i : Option Nat) : Ends where
  nx := fun σ H => H a = none → D.nx (putI i none σ) (upd H a (exT a cls d))
  rt := D.rt
  bk := fun σ H => D.bk (putI i none σ) H
  ct := fun σ H => D.ct (putI i none σ) H
def wTr (K : PySem.W.Frag) (Wout : WX) (D : Ends) : List HdI → WX
  | [] => Wout
  | (c, i, ts) :: l => fun cls d σ H => ∃ b, PySem.W.exmOne K cls c = some b ∧ (b = true → ∀ a, H a = none → ts a cls d (endT D a cls d i) (putI i (some (.ref a)) σ) H) ∧ (b = false → wTr K Wout D l cls d σ H)
inductive HdL (X : Cx) : List ExceptHandler → List HdI → Prop
  | nil : HdL X [] []
  | anon {x : Str} {c : Value} {ts : Addr → Value → Option Addr → TS} {b0 : Stmt} {suite : List Stmt} {np p1 : Pos} {hds : List ExceptHandler} {l : List HdI} (hc : Names X x c)
      (hsu : ∀ (a : Addr) (oe : Obj) (cls : Value) (d : Option Addr) (pn : List (Addr × Obj)), Zc cls d oe → (∃ vs, oe.data = .fields vs) → PSs (X.suite a ((a, oe) :: pn)) (b0 :: suite) (ts a cls d)) (r : HdL X hds l) :
      HdL X (.ExceptHandler (some (.Name x np)) none (b0 :: suite) p1 :: hds) ((c, none, ts) :: l)
  | named {x n : Str} {i : Nat} {c : Value} {ts : Addr → Value → Option Addr → TS} {b0 : Stmt} {suite : List Stmt} {np p1 : Pos} {hds : List ExceptHandler} {l : List HdI} (hc : Names X x c) (hi : X.N[i]? = some n) (hln : X.env.kindOf n = some .local)
      (hsu : ∀ (a : Addr) (oe : Obj) (cls : Value) (d : Option Addr) (pn : List (Addr × Obj)), Zc cls d oe → (∃ vs, oe.data = .fields vs) → PSs (X.suite a ((a, oe) :: pn)) (b0 :: suite) (ts a cls d)) (r : HdL X hds l) :
      HdL X (.ExceptHandler (some (.Name x np)) (some n) (b0 :: suite) p1 :: hds) ((c, some i, ts) :: l)
section
variable {X : Cx} {body : List Stmt} {hd1 : ExceptHandler} {hds : List ExceptHandler} {l : List HdI} {pos : Pos} {tb : WX → TS} {Wout : WX}
theorem ps_tryT (stk : X.stack = X.env :: X.outer) (hf : X.env.frame = some X.env.locals) (hN : X.N.Nodup) (hex : X.ex = []) (tk : Takes X Wout)
    (hb : ∀ (W : WX) (pn : List (Addr × Obj)) (xe : Value → Shared → Prop), Takes (X.tr pn xe) W → PassesOwn (model X.prog X.w) X.A X.env xe → PSs (X.tr pn xe) body (tb W)) (hh : HdL X (hd1 :: hds) l) :
    PS X (.Try body (hd1 :: hds) [] [] pos) (fun D σ H => tb (wTr X.K Wout D l) D σ H) := by
  constructor
  intro pins s σ H D I h
  have ok := I.ok
  have frm : X.A.frames = some (X.env :: X.outer) := ok.frames.trans (congrArg some stk)
  refine wpAny_Try_except ?_
  have look : ∀ u s1, XE (X.tr (X.pn ++ pins) (fun e s1 => wpAny (model X.prog X.w) X.A (noteFrame e X.env) (fun _ s2 => wpAny (model X.prog X.w) X.A (setFlight e none) (fun _ s3 => wpAny (model X.prog X.w) X.A (handleBy e X.env (hd1 :: hds)) (SP X pins D) X.xe s3) X.xe s2) X.xe s1)) (wTr X.K Wout D l) u s1 →
      wpAny (model X.prog X.w) X.A (noteFrame u X.env) (fun _ s2 => wpAny (model X.prog X.w) X.A (setFlight u none) (fun _ s3 => wpAny (model X.prog X.w) X.A (handleBy u X.env (hd1 :: hds)) (SP X pins D) X.xe s3) X.xe s2) X.xe s1 := by
    intro u s1 xx
    obtain ⟨a, B, sI, pins1, σ1, H1, cls, d, rfl, J1, nb, up, sky, na, os, ag, wsh⟩ := xx
    have J : Inv X pins σ1 H1 sI := J1.ofTry ok
    have sky1 : Sky B (X.env :: X.outer) a (Zc cls d) X.env.locals s1.heap := stk ▸ sky
    refine Sky.land Zc.steady frm hf sky1 fun h3 fl up3 => ?_
    have J3 : Inv X pins σ1 H1 { s1 with heap := h3 } := J.landed nb fl.1 (up.trans up3) os ag
    obtain ⟨o3, vs3, he3, hz3, hd3⟩ := fl.there
    have nfr : a ∉ frs (X.env :: X.outer) := fun hm => by
      obtain ⟨_, o1, e1, hnf⟩ := fl.2.2.1.mem hm
      rw [he3] at e1
      cases e1
      exact hnf _ hd3
    have nL : a ≠ X.env.locals := fun z => nfr (List.mem_filterMap.mpr ⟨X.env, List.mem_cons_self, by rw [hf, z]⟩)
    have nF : a ∉ X.fs := fun hm => by
      obtain ⟨e, he, q⟩ := List.mem_filterMap.mp hm
      exact nfr (List.mem_filterMap.mpr ⟨e, List.mem_cons_of_mem _ he, q⟩)
    have goneI : sI.heap.get? a = none := by
      cases q : sI.heap.get? a with
      | none => rfl
      | some o =>
        have z := nb a o q (by rw [stk]; exact nfr)
        rw [fl.2.1] at z
        cases z
    have S3 := J3.suite he3 hd3 na nL nF
    have test : ∀ {x : Str} {c : Value} {np : Pos} {Q : Value → Shared → Prop} {E : Value → Shared → Prop}, Names X x c → Q c { s1 with heap := h3 } → wpAny (model X.prog X.w) (X.A.mark (some (.ref a))) (eval (.Name x np) X.env) Q E { s1 with heap := h3 } := by
      intro x c np Q E hc q
      obtain ⟨hg, hdbg, hm | ⟨hm, hv, hnn⟩⟩ := hc
      · exact ld_glob (X := X.suite a ((a, o3) :: (X.pn ++ pins))) S3 hg hm q hdbg
      · exact ld_blt (X := X.suite a ((a, o3) :: (X.pn ++ pins))) S3 hg hm hv q hnn hdbg
    have LT : PySem.W.Looks (model X.prog X.w) h3 (typeOf (.ref a)) cls := fun A Q E s k q => wpAny_typeOf_ref (k _ _ he3) (hz3.1 ▸ q)
    -- a suite has run
    have fin : ∀ {f : Flow} {s6 : Shared} {o4 : Obj} {vs4 : Array Value} {i : Option Nat} {σ6 : L2.St} {H6 : Hp}, Zc cls d o4 → o4.data = .fields vs4 → Inv (X.suite a ((a, o4) :: (X.pn ++ pins))) [] σ6 H6 s6 → Inv X pins σ6 H6 s6 ∧ (H6 a = none ∧ Inv X pins σ6 (upd H6 a (exT a cls d)) s6) := by
      intro f s6 o4 vs4 i σ6 H6 hz4 hd4 S6
      have J6 := S6.unsuite ok
      obtain ⟨q1, q2, _⟩ := S6.pin (a, o4) (List.mem_append_left _ List.mem_cons_self)
      exact ⟨J6, q2, tracked ⟨σ1, J⟩ hex goneI J6 q1 hz4 hd4 q2 nL⟩
    have go : ∀ {hs2 : List ExceptHandler} {l2 : List HdI}, HdL X hs2 l2 → wTr X.K Wout D l2 cls d σ1 H1 → wpAny (model X.prog X.w) X.A (handleBy (.ref a) X.env hs2) (SP X pins D) X.xe { s1 with heap := h3 } := by
      intro hs2 l2 hk
      induction hk with
      | nil =>
        intro wo
        refine wpAny_handleBy_nil ?_
        obtain ⟨_, _, _, o5, v5, T5, _, _, he5, _, hd5, h15, _⟩ := id fl
        unfold PySem.passOn
        refine wpAny_bind (wpAny_field he5 hd5 h15 ?_)
        rw [if_neg (show ¬ ((Value.ref T5 == Value.none) = true) from by simp)]
        have out : wpAny (model X.prog X.w) X.A (setFlight (.ref a) X.env.frame) (fun _ s4 => wpAny (model X.prog X.w) X.A (throw (.ref a) : Sem Flow) (SP X pins D) X.xe s4) X.xe { s1 with heap := h3 } := by
          rw [hf]
          refine HandSPX.setFlight_upZ fl fun h4 hh4 up4 => wpAny_throw (tk _ _ ?_)
          refine ⟨a, B, sI, pins, σ1, H1, cls, d, rfl, J, nb, (up.trans up3).trans up4, .inr (.inr ?_), na, os, ag, wo⟩
          exact stk ▸ hh4
        first
          | exact wpAny_bind (wpAny_pure (wpAny_bind out))
          | exact wpAny_bind out
      | @anon x c ts b0 suite np p1 hs3 l3 hc hsu r ih =>
        rintro ⟨b, hb1, hyes, hno⟩
        refine wpAny_handleBy_cons (codeAny_handlers_test (test hc ((PySem.W.exm_one (M := model X.prog X.w) J3.kIn LT hb1).here ?_))) (fun q => nomatch q)
        cases b with
        | false => exact ih (hno rfl)
        | true =>
          refine codeAny_handlers_suite (HandSPX.lands_againZ fl fun h4 fl4 up4 => ?_)
          have J4 : Inv X pins σ1 H1 { s1 with heap := h4 } := J.landed nb fl4.1 ((up.trans up3).trans up4) os ag
          obtain ⟨o4, vs4, he4, hz4, hd4⟩ := fl4.there
          refine wpAny_mono ((hsu a o4 cls d (X.pn ++ pins) hz4 ⟨_, hd4⟩).run [] _ _ H1 _ (J4.suite he4 hd4 na nL nF) (hyes rfl a na)) (fun f s6 hsp => ?_) (fun _ _ z => False.elim z)
          cases f with
          | next => obtain ⟨σ6, H6, S6, q6⟩ := hsp; obtain ⟨_, q, T6⟩ := fin (f := .next) (i := none) hz4 hd4 S6; exact ⟨_, _, T6, q6 q⟩
          | brk => obtain ⟨σ6, H6, S6, q6⟩ := hsp; exact ⟨_, _, S6.unsuite ok, q6⟩
          | cont => obtain ⟨σ6, H6, S6, q6⟩ := hsp; exact ⟨_, _, S6.unsuite ok, q6⟩
          | ret u => obtain ⟨v6, σ6, H6, S6, r6, q6⟩ := hsp; exact ⟨_, _, _, S6.unsuite ok, r6, q6⟩
      | @named x n i c ts b0 suite np p1 hs3 l3 hc hi hln hsu r ih =>
        rintro ⟨b, hb1, hyes, hno⟩
        refine wpAny_handleBy_cons (codeAny_handlers_test (test hc ((PySem.W.exm_one (M := model X.prog X.w) J3.kIn LT hb1).here ?_))) (fun q => nomatch q)
        cases b with
        | false => exact ih (hno rfl)
        | true =>
          refine codeAny_handlers_suite_as (HandSPX.lands_againZ fl fun h4 fl4 up4 => ?_)
          have J4 : Inv X pins σ1 H1 { s1 with heap := h4 } := J.landed nb fl4.1 ((up.trans up3).trans up4) os ag
          obtain ⟨o4, vs4, he4, hz4, hd4⟩ := fl4.there
          refine store_ok (X := X.suite a ((a, o4) :: (X.pn ++ pins))) (v := .ref a) (J4.suite he4 hd4 na nL nF) hN hi (.inl hln) rfl (fun s5 S5 => ?_) (.inr hln)
          refine wpAny_mono ((hsu a o4 cls d (X.pn ++ pins) hz4 ⟨_, hd4⟩).run [] s5 _ H1 _ S5 (hyes rfl a na)) (fun f s6 hsp => ?_) (fun _ _ z => False.elim z)
          cases f with
          | next => obtain ⟨σ6, H6, S6, q6⟩ := hsp; obtain ⟨_, q, T6⟩ := fin (f := .next) (i := none) hz4 hd4 S6; exact gone_ok T6 hN hi hln fun s7 J7 => ⟨_, _, J7, q6 q⟩
          | brk => obtain ⟨σ6, H6, S6, q6⟩ := hsp; exact gone_ok (S6.unsuite ok) hN hi hln fun s7 J7 => ⟨_, _, J7, q6⟩
          | cont => obtain ⟨σ6, H6, S6, q6⟩ := hsp; exact gone_ok (S6.unsuite ok) hN hi hln fun s7 J7 => ⟨_, _, J7, q6⟩
          | ret u => obtain ⟨v6, σ6, H6, S6, r6, q6⟩ := hsp; exact gone_ok (S6.unsuite ok) hN hi hln fun s7 J7 => ⟨_, _, _, J7, r6, q6⟩
    exact go hh wsh
  refine wpAny_mono ((hb (wTr X.K Wout D l) (X.pn ++ pins) _ look PassesOwn.looking).run [] s σ H D (I.toTry _) h) (fun f s1 hsp => ?_) (fun e s1 he => he)
  cases f with
  | next => obtain ⟨σ1, H1, J1, q⟩ := hsp; exact wpAny_execs_nil ⟨σ1, H1, J1.ofTry ok, q⟩
  | brk => obtain ⟨σ1, H1, J1, q⟩ := hsp; exact ⟨σ1, H1, J1.ofTry ok, q⟩
  | cont => obtain ⟨σ1, H1, J1, q⟩ := hsp; exact ⟨σ1, H1, J1.ofTry ok, q⟩
  | ret u => obtain ⟨v, σ1, H1, J1, r, q⟩ := hsp; exact ⟨v, σ1, H1, J1.ofTry ok, r, q⟩
/-- n.f of a caught error, behind the suite -/
def tXv (K : PySem.W.Frag) (f : Str) (te : TE) : TE := fun σ H Q => te σ H fun x H1 => ∃ (a C dd : Addr) (fs : List (Str × V)) (v : V), x = .ref a ∧ H1 a = some (exT a (.ref C) (some dd)) ∧ XfC K C ∧ PySem.W.findIn K (.ref C) f = some none ∧ H1 dd = some (.xd fs) ∧ fs.lookup f = some v ∧ Q v H1
theorem pe_xv {e : Expr} {te : TE} {n : Str} {pos : Pos} (he : PE X e te) (hb : attributeBase e n X.env (eval e X.env) = eval e X.env := by rfl) : PE X (.Attribute e n pos) (tXv X.K n te) := by
  constructor
  intro pins s σ H Q I h
  refine attr_of hb (thn (he.run pins s σ H _ I h) ?_)
  rintro u s1 ⟨x, H1, I1, rx, a, C, dd, fs, v, rfl, hT, T, hno, ea, lk, q⟩
  obtain rfl : u = Value.ref a := rx
  obtain ⟨⟨oe, vs, ha, hc, hdi, hd⟩, _, _⟩ := I1.hok a _ hT
  obtain ⟨mA, hns, hr⟩ := (show ObjOk X.prog X.w H1 s1.heap dd (.xd fs) from I1.hok dd _ ea)
  obtain ⟨od, ho, hl⟩ := lookIn_ns hns
  obtain ⟨u, hu, ru⟩ := RelO.some_of (v := v) (o := mA n) (lk ▸ hr n)
  have J : PySem.W.InstAt s1.heap a oe C (some od) := ⟨ha, hc, by unfold PySem.W.notCls; rw [hd] <;> rfl, by rw [hdi]; exact ho⟩
  exact HandSPX.exc_get I1.kIn J T.ga T.gg T.exC (PySem.W.findObj_own T.hdC hno rfl (by rw [hl, hu])) (handed_of ru) ⟨v, H1, I1.tok _, ru, q⟩
end
end Xo
set_option Elab.async false
set_option linter.all false
set_option maxRecDepth 100000
set_option maxHeartbeats 4000000
/-! == and != by an own __eq__, with any answer. -/
namespace Xo
open PySem PySem.Spec PyProof.Rows L2
/-- the class's own __eq__, the inherited __ne__ -/
structure EqC (K : PySem.W.Frag) (C f : Addr) : Prop where
  eq : PySem.W.findIn K (.ref C) "__eq__" = some (some (.ref f))
  fn : PySem.W.isFn K (.ref f) = true
  ne : PySem.W.findIn K (.ref C) "__ne__" = some (some (.builtin "object.__ne__"))
  ob : PySem.W.mroIn K C (.type "object") = some true
/-- no value of the built-in type is an instance of the class -/
structure NoT (K : PySem.W.Frag) (C : Addr) (T : String) : Prop where
  kit : PySem.W.kitOne K (.type T) (.ref C) = some false
  nf : PySem.W.notFirst K C (.type T) = true
theorem not_mk {K : PySem.W.Frag} {C : Addr} {T : String} (h2 : PySem.W.isClsIn K C = true) (h3 : PySem.W.typeIn K (.ref C) = some (.type "type")) (h4 : PySem.W.subIn K (.type T) (.ref C) = some false) : NoT K C T := by
  constructor
  · unfold PySem.W.kitOne
    rw [if_neg (fun z => by cases (beq_iff_eq.mp z))]
    unfold PySem.W.kitCls
    dsimp only
    rw [show (PySem.W.clsIn K C).isSome = true from h2, h3, h4]
    rfl
  · unfold PySem.W.notFirst
    rw [h4, beq_self_eq_true, Bool.or_true]
def rOEq (K : PySem.W.Frag) (C : Addr) (sp : Sp) (n : Bool) : R2 := fun x y H Q => ∃ (a dx : Addr) (fs : List (Str × V)) (t : Value), x = .ref a ∧ H a = some (.ins C dx fs) ∧ TyX K H y t ∧ PySem.W.notFirst K C t = true ∧
  sp [x, y] H (fun v H1 => ∃ b, v = .bl b ∧ Q (.bl (n != b)) H1) (fun _ _ _ => False)
section
variable {P : Program} {w : World} {A : Around} {E : Value → Shared → Prop} {s : Shared} {K : PySem.W.Frag} {x C f : Addr} {ox : Obj} {od : Option Obj} {b tb : Value}
open PySem.W in
theorem neK {Q : Value → Shared → Prop} (hu : A.units + 1 < cLine) (X : K.In s.heap) (I : InstAt s.heap x ox C od) (hb : Looks (model P w) s.heap (typeOf b) tb) (hn : notFirst K C tb = true) (T : EqC K C f)
    (k : wpAny (model P w) A.in1 (call (.ref f) [.ref x, b]) (fun v s1 => ∃ r, v = .bool r ∧ Q (.bool (!r)) s1) E s) : wpAny (model P w) A (richCompare .NotEq (.ref x) b) Q E s := by
  have isO : Looks (model P w) s.heap (isInstance (.ref x) (.type "object")) true := I.type.andThen (looks_mroIn X T.ob)
  have body : wpAny (model P w) A.in1 (Builtin.«object.__ne__» ⟨[.ref x, b], []⟩) (fun fin s1 => match fin with | .done (.ret v) => ∃ r, v = .bool r ∧ Q (.bool r) s1 | _ => False) E s := by
    unfold Builtin.«object.__ne__»
    refine wpAny_bind (wpAny_of_eq (a := ((Value.ref x : Value), [b])) (by first | rfl | (simp only [slotArgs]; rfl)) ?_)
    refine wpAny_bind (wpAny_cRoomFor (show A.in1.units < cLine from hu) ?_)
    refine wpAny_bind (ifBound_K (name := "__eq__") X I T.eq T.fn (wpAny_mono k (fun v s1 hv => ?_) fun _ _ z => z))
    obtain ⟨r, rfl, q⟩ := hv
    refine wpAny_bind (wpAny_truthy_bool ?_)
    exact wpAny_pure ⟨_, rfl, q⟩
  have one : wpAny (model P w) A (tryCompare (.ref x) "__ne__" b) (fun r s1 => ∃ v, r = some v ∧ Q v s1) E s := by
    unfold tryCompare callSpecialIfBound? bindSpecialIfBound?
    have call1 : wpAny (model P w) A (call (.builtin "object.__ne__") [.ref x, b]) (fun v s1 => ∃ r, v = .bool r ∧ Q (.bool r) s1) E s := by
      refine wpAny_call (codeAny_call_builtin PySem.F.cmp_object.ne.plain PySem.F.cmpEntry_ne ?_)
      refine @check_slot (model P w) _ _ s "object.__ne__" "object" "__ne__" (.ref x) [b] [] _ PySem.F.cmpKind_ne PySem.F.cmpSplit_ne isO (PySem.F.cmpArgs_ne _ _) ?_
      refine wpAny_mono body ?_ ?_
      · intro fin s1 z
        cases fin with
        | again c => exact False.elim z
        | done fl =>
          cases fl with
          | ret v => exact z
          | next => exact False.elim z
          | brk => exact False.elim z
          | cont => exact False.elim z
      · exact fun _ _ z => z
    refine wpAny_bind (wpAny_holding (wpAny_bind (wpAny_bind (wpAny_bind (I.type.here ((looks_findIn X T.ne).here ?_))))))
    refine wpAny_bind (wpAny_askSetting (wpAny_ite ?_))
    have fin1 : wpAny (model P w) A (call (.builtin "object.__ne__") [.ref x, b] >>= fun v => pure (some v)) (fun a s1 => ∃ r, a = some (Value.bool r) ∧ Q (.bool r) s1) E s :=
      wpAny_bind (wpAny_mono call1 (fun v s1 ⟨r, hv, q⟩ => by subst hv; exact wpAny_pure ⟨r, rfl, q⟩) fun _ _ z => z)
    have last1 : ∀ a s1, (∃ r, a = some (Value.bool r) ∧ Q (.bool r) s1) → wpAny (model P w) A (match a with | some Value.notImplemented => pure none | none => pure none | some v => pure (some v)) (fun r s1 => ∃ v, r = some v ∧ Q v s1) E s1 :=
      fun a s1 ⟨r, ha, q⟩ => by subst ha; exact wpAny_pure ⟨_, rfl, q⟩
    split
    · refine wpAny_bind (wpAny_of_eq (PySem.F.cmp_object.ne.bind _) (wpAny_pure ?_))
      exact wpAny_mono fin1 last1 fun _ _ z => z
    · refine wpAny_tryCatch (wpAny_bind (wpAny_of_eq (PySem.F.cmp_object.ne.bind _) (wpAny_pure ?_)))
      exact wpAny_mono fin1 last1 fun _ _ z => z
  unfold richCompare
  simp only [oneThing_ref]
  refine wpAny_holding (wpAny_bind (wpAny_cRoomFor (Nat.lt_of_succ_lt hu) ?_))
  refine wpAny_bind (I.type.here (wpAny_bind (hb.here ?_)))
  have last : wpAny (model P w) A (tryCompare (.ref x) "__ne__" b) (fun r s1 => ∃ v, r = some v ∧ Q v s1) E s := one
  split
  · rename_i q
    have e : subIn K tb (.ref C) = some false := by
      rcases Bool.or_eq_true_iff.mp hn with e | e
      · rw [beq_iff_eq.mp e] at q
        simp at q
      · exact beq_iff_eq.mp e
    refine wpAny_bind ((looks_subIn X e).here ?_)
    rw [if_neg Bool.false_ne_true]
    refine wpAny_bind (wpAny_mono last (fun r s1 z => ?_) fun _ _ z => z)
    obtain ⟨v, rfl, hq⟩ := z
    exact wpAny_pure hq
  · refine wpAny_bind (wpAny_pure ?_)
    rw [if_neg Bool.false_ne_true]
    refine wpAny_bind (wpAny_mono last (fun r s1 z => ?_) fun _ _ z => z)
    obtain ⟨v, rfl, hq⟩ := z
    exact wpAny_pure hq
end
section
variable {X : Cx} {C f : Addr} {fd : FuncData} {ps : List Str} {sp : Sp} {n : Nat}
/-- the call of the own __eq__ -/
theorem callEq {A : Around} {pins : List (Addr × Obj)} {σ : L2.St} {H : Hp} {s : Shared} {a : Addr} {y : V} {u : Value} {Q : VK} {R : Value → Shared → Prop} (F : FnOk X.prog X.w X.K X.mg X.base CX0 n f fd ps sp) (hb : Binds X.K fd ps []) (hr : Room n A) (hA : A.frames = X.A.frames)
    (I : Inv X pins σ H s) (ry : RelV y u) (q : sp [.ref a, y] H (fun v H1 => ∃ b, v = .bl b ∧ Q (.bl b) H1) (fun _ _ _ => False)) (k : ∀ b H1 s1, Inv X pins σ H1 s1 → Q (.bl b) H1 → R (.bool b) s1) :
    wpAny (model X.prog X.w) A (call (.ref f) [.ref a, u]) R X.xe s := by
  have e0 : Env0 X.prog X.w X.K X.mg X.base A X.stack s H := by
    have e := I.env0
    exact ⟨hA.trans e.frames, e.mod, e.bs, e.bsz, e.funs, e.frf, e.hok, e.bare⟩
  have hl := F.len _ _ _ _ q
  have r2 : Vals [V.ref a, y] [Value.ref a, u] := .cons rfl (.cons ry .nil)
  have hbs := hb s [.ref a, u] I.kIn (by simpa using hl)
  rw [List.append_nil] at hbs
  refine wpAny_call (codeAny_mono (F.run A X.stack s H ⟨[.ref a, u], []⟩ [.ref a, u] [.ref a, y] _ _ hr e0 hbs r2 q) ?_)
  intro r s1 hq
  match r, hq with
  | .error e, hq => exact (pass0 (X := X)) pins σ H s e s1 I hq
  | .ok (.ret v), hq =>
    obtain ⟨z, H1, I1, rz, b, rfl, q1⟩ := I.after hq
    obtain rfl : v = .bool b := rz
    exact k b H1 s1 I1 q1
  | .ok .next, hq => exact hq.elim
  | .ok .brk, hq => exact hq.elim
  | .ok .cont, hq => exact hq.elim
theorem op_oeq (T : EqC X.K C f) (F : FnOk X.prog X.w X.K X.mg X.base CX0 n f fd ps sp) (hb : Binds X.K fd ps []) (hr : Room (n + 1) X.A) : OpR X (compareOp .Eq) (rOEq X.K C sp false) := by
  intro pins s σ H x y v u Q I rx ry h
  obtain ⟨a, dx, fs, t, rfl, ha, ty, nf, q⟩ := h
  obtain rfl : v = Value.ref a := rx
  obtain ⟨mA, J, _⟩ := ins_get I.hok ha
  obtain ⟨od, J, _⟩ := J.look
  obtain ⟨m, hF⟩ := I.fr
  obtain ⟨Pk, kx, hp, _⟩ := kit_of I ry ty
  show wpAny (model X.prog X.w) X.A (richCompare .Eq (.ref a) u) (EP X pins σ Q) X.xe s
  refine PySem.W.cmp_K (op := .Eq) (tb := t) hr.units0 hF I.ok.mod.kin J (kx.ty _ _ I.kIn hp) nf T.eq T.fn ?_
  refine callEq (Q := fun v H1 => ∃ b, v = .bl b ∧ Q (.bl (false != b)) H1) F hb (hr.mono (by omega)) rfl I ry ?_ ?_
  · simpa using q
  · rintro b H1 s1 I1 ⟨b2, hb2, q1⟩
    cases hb2
    exact ⟨.bl b, H1, I1, rfl, by simpa using q1⟩
theorem op_one (T : EqC X.K C f) (F : FnOk X.prog X.w X.K X.mg X.base CX0 n f fd ps sp) (hb : Binds X.K fd ps []) (hr : Room (n + 1) X.A) : OpR X (compareOp .NotEq) (rOEq X.K C sp true) := by
  intro pins s σ H x y v u Q I rx ry h
  obtain ⟨a, dx, fs, t, rfl, ha, ty, nf, q⟩ := h
  obtain rfl : v = Value.ref a := rx
  obtain ⟨mA, J, _⟩ := ins_get I.hok ha
  obtain ⟨od, J, _⟩ := J.look
  obtain ⟨Pk, kx, hp, _⟩ := kit_of I ry ty
  show wpAny (model X.prog X.w) X.A (richCompare .NotEq (.ref a) u) (EP X pins σ Q) X.xe s
  refine neK (tb := t) (by have := hr.un; omega) I.kIn J (kx.ty _ _ I.kIn hp) nf T ?_
  refine callEq (Q := fun v H1 => ∃ b, v = .bl b ∧ Q (.bl (true != b)) H1) F hb hr.in1 rfl I ry ?_ ?_
  · simpa using q
  · rintro b H1 s1 I1 ⟨b2, hb2, q1⟩
    cases hb2
    exact ⟨b, rfl, .bl (!b), H1, I1, rfl, by simpa using q1⟩
end
end Xo
set_option Elab.async false
set_option linter.all false
set_option maxRecDepth 100000
set_option maxHeartbeats 4000000
namespace G
open PySem
/-! ### the first free partner is the one of the same slot -/
def ids (q : Nat → Bool) (n : Nat) : List Nat := (List.range n).filter q
theorem ids_succ (q : Nat → Bool) (n : Nat) : ids q (n + 1) = ids q n ++ if q n = true then [n] else [] := by
  unfold ids
  rw [List.range_succ, List.filter_append]
  by_cases h : q n = true <;> simp [h]
theorem ids_mem {q : Nat → Bool} {n j : Nat} : j ∈ ids q n ↔ j < n ∧ q j = true := by
  unfold ids
  rw [List.mem_filter, List.mem_range]
theorem ids_get {q : Nat → Bool} : ∀ {n m j : Nat}, (ids q n)[m]? = some j → j < n ∧ q j = true ∧ (ids q j).length = m
  | 0, m, j, h => by simp [ids] at h
  | n + 1, m, j, h => by
    rw [ids_succ] at h
    by_cases hl : m < (ids q n).length
    · rw [List.getElem?_append_left hl] at h
      obtain ⟨h1, h2, h3⟩ := ids_get h
      exact ⟨by omega, h2, h3⟩
    · rw [List.getElem?_append_right (by omega)] at h
      by_cases hq : q n = true
      · rw [if_pos hq] at h
        have e0 : m - (ids q n).length = 0 := by
          have := (List.getElem?_eq_some_iff.mp h).1
          simp at this
          omega
        rw [e0] at h
        simp at h
        subst h
        exact ⟨by omega, hq, by omega⟩
      · rw [if_neg hq] at h
        simp at h
theorem ids_pre (q : Nat → Bool) {i : Nat} : ∀ {n : Nat}, i ≤ n → ∃ r, ids q n = ids q i ++ r
  | 0, h => ⟨[], by have : i = 0 := by omega
                    subst this; simp⟩
  | n + 1, h => by
    by_cases e : i = n + 1
    · subst e; exact ⟨[], by simp⟩
    · obtain ⟨r, hr⟩ := ids_pre q (i := i) (n := n) (by omega)
      exact ⟨r ++ if q n = true then [n] else [], by rw [ids_succ, hr, List.append_assoc]⟩
theorem ids_le (q : Nat → Bool) {i n : Nat} (h : i ≤ n) : (ids q i).length ≤ (ids q n).length := by
  obtain ⟨r, e⟩ := ids_pre q h
  rw [e, List.length_append]
  omega
theorem ids_lt {q : Nat → Bool} {i n : Nat} (h : i < n) (hq : q i = true) : (ids q i).length < (ids q n).length := by
  have := ids_le q (show i + 1 ≤ n from h)
  rw [ids_succ, if_pos hq, List.length_append] at this
  simp at this
  omega
theorem ids_inj {q : Nat → Bool} {i j : Nat} (hi : q i = true) (hj : q j = true) (e : (ids q i).length = (ids q j).length) : i = j := by
  rcases Nat.lt_trichotomy i j with h | h | h
  · have := ids_lt h hi; omega
  · exact h
  · have := ids_lt h hj; omega
theorem ids_sur {q : Nat → Bool} {n m : Nat} (h : m < (ids q n).length) : ∃ j, j < n ∧ q j = true ∧ (ids q j).length = m := by
  have := ids_get (q := q) (n := n) (m := m) (j := (ids q n)[m]) (List.getElem?_eq_getElem h)
  exact ⟨_, this⟩
theorem ids_len (q : Nat → Bool) (n : Nat) : (ids q n).length ≤ n := by
  unfold ids
  exact Nat.le_trans (List.length_filter_le _ _) (by simp)
/-- at place j of the nodes -/
def onT (p : Tree → Bool) (ts : List Tree) (j : Nat) : Bool := match ts[j]? with
  | some t => p t
  | none => false
theorem onT_at {p : Tree → Bool} {ts : List Tree} {j : Nat} {t : Tree} (h : ts[j]? = some t) : onT p ts j = p t := by
  unfold onT
  rw [h]
theorem onT_get {p : Tree → Bool} {ts : List Tree} {j : Nat} (h : onT p ts j = true) : ∃ t, ts[j]? = some t ∧ p t = true := by
  unfold onT at h
  split at h
  · rename_i t e
    exact ⟨t, e, h⟩
  · cases h
theorem ids_cnt (p : Tree → Bool) (ts : List Tree) : ∀ j, (ids (onT p ts) j).length = ((ts.take j).filter p).length
  | 0 => by simp [ids]
  | j + 1 => by
    rw [ids_succ, List.length_append, ids_cnt p ts j, List.take_succ, List.filter_append, List.length_append]
    cases e : ts[j]? with
    | none => simp [onT, e]
    | some t =>
      rw [onT_at e]
      by_cases h : p t = true <;> simp [h]
/-- places that count where the key is none -/
def cN (all : Bool) (u : Tree) : Bool := all || decide (u.key = .none)
def cK (t u : Tree) : Bool := decide (u.kind = t.kind) && decide (u.key = t.key)
theorem num_none {all : Bool} {ts : List Tree} {j : Nat} {t u : Tree} (h : u.key = .none) (hj : j ≤ ts.length) : numAt all (ts.take j) u = (ids (onT (cN all) ts) j).length := by
  rw [ids_cnt, numAt, if_pos h]
  cases all with
  | true =>
    have e : cN true = fun _ => true := by funext z; simp [cN]
    rw [e, List.filter_eq_self.mpr (fun _ _ => rfl)]
    simp
  | false =>
    have e : cN false = fun u => decide (u.key = .none) := by funext z; simp [cN]
    rw [e]
    rfl
theorem num_key {all : Bool} {ts : List Tree} {j : Nat} {t : Tree} (h : t.key ≠ .none) : numAt all (ts.take j) t = (ids (onT (cK t) ts) j).length := by
  rw [ids_cnt, numAt, if_neg h]
  rfl
theorem slot_eq {all : Bool} {pre pre' : List Tree} {t u : Tree} : slot all pre u = slot all pre' t ↔ u.kind = t.kind ∧ u.key = t.key ∧ numAt all pre u = numAt all pre' t := by
  unfold slot
  constructor
  · intro h
    injection h with h
    injection h with h1 h
    injection h with h2 h
    injection h with h3 _
    injection h3 with h3
    exact ⟨h1, h2, by omega⟩
  · rintro ⟨h1, h2, h3⟩
    rw [h1, h2, h3]
/-- no node of that slot -/
def NoSlot (all : Bool) (old : List Tree) (s : NestedKey) : Prop := ∀ (j : Nat) (u : Tree), old[j]? = some u → slot all (old.take j) u ≠ s
theorem lt_of {α : Type} {l : List α} {i : Nat} {a : α} (h : l[i]? = some a) : i < l.length := (List.getElem?_eq_some_iff.mp h).1
theorem part_none1 {all : Bool} {old new : List Tree} {k : Nat} {t : Tree} (ht : new[k]? = some t) (hn : t.key = .none) (h : (ids (onT (cN all) old) old.length).length ≤ (ids (onT (cN all) new) k).length) : NoSlot all old (slot all (new.take k) t) := by
  intro j u hu e
  obtain ⟨_, e2, e3⟩ := slot_eq.mp e
  rw [num_none (t := t) hn (Nat.le_of_lt (lt_of ht)), num_none (t := u) (e2.trans hn) (Nat.le_of_lt (lt_of hu))] at e3
  have := ids_lt (q := onT (cN all) old) (lt_of hu) (by rw [onT_at hu, cN, e2, hn]; simp)
  omega
theorem part_none2 {all : Bool} {old new : List Tree} {k j : Nat} {t u : Tree} (ht : new[k]? = some t) (hn : t.key = .none) (h : (ids (onT (cN all) old) old.length)[(ids (onT (cN all) new) k).length]? = some j) (hu : old[j]? = some u) (h1 : u.key = .none) (h2 : u.kind = t.kind) : slot all (old.take j) u = slot all (new.take k) t := by
  obtain ⟨_, _, e⟩ := ids_get h
  refine slot_eq.mpr ⟨h2, h1.trans hn.symm, ?_⟩
  rw [num_none (t := t) hn (Nat.le_of_lt (lt_of ht)), num_none (t := u) h1 (Nat.le_of_lt (lt_of hu)), e]
theorem part_none3 {all : Bool} {old new : List Tree} {k j : Nat} {t u : Tree} (ht : new[k]? = some t) (hn : t.key = .none) (h : (ids (onT (cN all) old) old.length)[(ids (onT (cN all) new) k).length]? = some j) (hu : old[j]? = some u) (h1 : ¬ (u.key = .none ∧ u.kind = t.kind)) : NoSlot all old (slot all (new.take k) t) := by
  intro j' u' hu' e
  obtain ⟨e1, e2, e3⟩ := slot_eq.mp e
  rw [num_none (t := t) hn (Nat.le_of_lt (lt_of ht)), num_none (t := u') (e2.trans hn) (Nat.le_of_lt (lt_of hu'))] at e3
  obtain ⟨_, q, e4⟩ := ids_get h
  have : j' = j := ids_inj (q := onT (cN all) old) (by rw [onT_at hu', cN, e2, hn]; simp) q (by omega)
  subst this
  rw [hu] at hu'
  cases hu'
  exact h1 ⟨e2.trans hn, e1⟩
/-- the places taken so far: those of the slots of the new nodes before k -/
def TakenOk (all : Bool) (old new : List Tree) (k : Nat) (js : List Nat) : Prop := ∀ j, j ∈ js ↔ ∃ i t u, i < k ∧ new[i]? = some t ∧ old[j]? = some u ∧ slot all (old.take j) u = slot all (new.take i) t
def freeQ (js : List Nat) (t : Tree) (old : List Tree) (j : Nat) : Bool := !decide (j ∈ js) && onT (cK t) old j
theorem free_iff {all : Bool} {old new : List Tree} {k : Nat} {js : List Nat} {t : Tree} (hT : TakenOk all old new k js) (ht : new[k]? = some t) (hn : t.key ≠ .none) (j : Nat) : freeQ js t old j = true ↔ onT (cK t) old j = true ∧ (ids (onT (cK t) new) k).length ≤ (ids (onT (cK t) old) j).length := by
  unfold freeQ
  rw [Bool.and_eq_true]
  constructor
  · rintro ⟨h1, h2⟩
    refine ⟨h2, ?_⟩
    rcases Nat.lt_or_ge (ids (onT (cK t) old) j).length (ids (onT (cK t) new) k).length with hl | hl
    · obtain ⟨i, hi, qi, ei⟩ := ids_sur hl
      obtain ⟨t', ht', pt'⟩ := onT_get qi
      obtain ⟨u, hu, pu⟩ := onT_get h2
      simp only [cK, Bool.and_eq_true, decide_eq_true_eq] at pt' pu
      have : j ∈ js := (hT j).mpr ⟨i, t', u, hi, ht', hu, slot_eq.mpr ⟨pu.1.trans pt'.1.symm, pu.2.trans pt'.2.symm, ?_⟩⟩
      · simp [this] at h1
      · have c1 : cK u = cK t := by funext z; simp [cK, pu.1, pu.2]
        have c2 : cK t' = cK t := by funext z; simp [cK, pt'.1, pt'.2]
        rw [num_key (t := u) (by rw [pu.2]; exact hn), num_key (t := t') (by rw [pt'.2]; exact hn), c1, c2, ei]
    · exact hl
  · rintro ⟨h1, h2⟩
    refine ⟨?_, h1⟩
    have : j ∉ js := fun hm => by
      obtain ⟨i, t', u, hi, ht', hu, e⟩ := (hT j).mp hm
      obtain ⟨e1, e2, e3⟩ := slot_eq.mp e
      have pu := h1
      rw [onT_at hu] at pu
      simp only [cK, Bool.and_eq_true, decide_eq_true_eq] at pu
      have pt' : cK t t' = true := by simp only [cK, Bool.and_eq_true, decide_eq_true_eq]; exact ⟨e1.symm.trans pu.1, e2.symm.trans pu.2⟩
      have c1 : cK u = cK t := by funext z; simp [cK, pu.1, pu.2]
      have c2 : cK t' = cK t := by funext z; simp only [cK, Bool.and_eq_true, decide_eq_true_eq] at pt'; simp [cK, pt'.1, pt'.2]
      rw [num_key (t := u) (by rw [pu.2]; exact hn), num_key (t := t') (by simp only [cK, Bool.and_eq_true, decide_eq_true_eq] at pt'; rw [pt'.2]; exact hn), c1, c2] at e3
      have := ids_lt (q := onT (cK t) new) hi (by rw [onT_at ht']; exact pt')
      omega
    simp [this]
theorem part_key1 {all : Bool} {old new : List Tree} {k : Nat} {js : List Nat} {t : Tree} (hT : TakenOk all old new k js) (ht : new[k]? = some t) (hn : t.key ≠ .none) (h : ids (freeQ js t old) old.length = []) : NoSlot all old (slot all (new.take k) t) := by
  intro j u hu e
  obtain ⟨e1, e2, e3⟩ := slot_eq.mp e
  have c1 : cK u = cK t := by funext z; simp [cK, e1, e2]
  rw [num_key (t := u) (by rw [e2]; exact hn), num_key (t := t) hn, c1] at e3
  have : j ∈ ids (freeQ js t old) old.length := ids_mem.mpr ⟨lt_of hu, (free_iff hT ht hn j).mpr ⟨by rw [onT_at hu]; simp [cK, e1, e2], by omega⟩⟩
  rw [h] at this
  cases this
theorem part_key2 {all : Bool} {old new : List Tree} {k : Nat} {js : List Nat} {t : Tree} (hT : TakenOk all old new k js) (ht : new[k]? = some t) (hn : t.key ≠ .none) {j : Nat} (h : (ids (freeQ js t old) old.length)[0]? = some j) : ∃ u, old[j]? = some u ∧ slot all (old.take j) u = slot all (new.take k) t := by
  obtain ⟨h1, h2, h3⟩ := ids_get h
  obtain ⟨h4, h5⟩ := (free_iff hT ht hn j).mp h2
  obtain ⟨u, hu, pu⟩ := onT_get h4
  simp only [cK, Bool.and_eq_true, decide_eq_true_eq] at pu
  refine ⟨u, hu, slot_eq.mpr ⟨pu.1, pu.2, ?_⟩⟩
  have c1 : cK u = cK t := by funext z; simp [cK, pu.1, pu.2]
  rw [num_key (t := u) (by rw [pu.2]; exact hn), num_key (t := t) hn, c1]
  rcases Nat.lt_or_ge (ids (onT (cK t) new) k).length (ids (onT (cK t) old) j).length with hl | hl
  · obtain ⟨j', g1, g2, g3⟩ := ids_sur hl
    have : j' ∈ ids (freeQ js t old) j := ids_mem.mpr ⟨g1, (free_iff hT ht hn j').mpr ⟨g2, by omega⟩⟩
    rw [List.length_eq_zero_iff.mp h3] at this
    cases this
  · omega
/-- what the law's partner answers -/
def PartOk (all : Bool) (old new : List Tree) (k : Nat) (t : Tree) (r : L2.V) : Prop := (r = .non ∧ NoSlot all old (slot all (new.take k) t)) ∨ ∃ (j : Nat) (u : Tree), r = .int (j : Int) ∧ old[j]? = some u ∧ slot all (old.take j) u = slot all (new.take k) t
theorem NoSlot.find {all : Bool} {old : List Tree} {s : NestedKey} (h : NoSlot all old s) : findS all old s = none := by
  cases e : findS all old s with
  | none => rfl
  | some u =>
    obtain ⟨i, h1, h2⟩ := findS_get e
    rw [slot_at all h1] at h2
    exact absurd (Option.some.inj h2) (h i u h1)
theorem TakenOk.nil {all : Bool} {old new : List Tree} : TakenOk all old new 0 [] := fun j => by simp
theorem TakenOk.skip {all : Bool} {old new : List Tree} {k : Nat} {js : List Nat} {t : Tree} (hT : TakenOk all old new k js) (ht : new[k]? = some t) (h : NoSlot all old (slot all (new.take k) t)) : TakenOk all old new (k + 1) js := fun j => by
  rw [hT j]
  constructor
  · rintro ⟨i, t', u, h1, h2⟩
    exact ⟨i, t', u, by omega, h2⟩
  · rintro ⟨i, t', u, h1, h2, h3, h4⟩
    by_cases e : i = k
    · subst e
      rw [ht] at h2
      cases h2
      exact absurd h4 (h j u h3)
    · exact ⟨i, t', u, by omega, h2, h3, h4⟩
theorem TakenOk.take {all : Bool} {old new : List Tree} {k : Nat} {js : List Nat} {t u : Tree} {j : Nat} (hT : TakenOk all old new k js) (ht : new[k]? = some t) (hu : old[j]? = some u) (h : slot all (old.take j) u = slot all (new.take k) t) : TakenOk all old new (k + 1) (js ++ [j]) := fun j' => by
  rw [List.mem_append, List.mem_singleton, hT j']
  constructor
  · rintro (⟨i, t', u', h1, h2⟩ | rfl)
    · exact ⟨i, t', u', by omega, h2⟩
    · exact ⟨k, t, u, by omega, ht, hu, h⟩
  · rintro ⟨i, t', u', h1, h2, h3, h4⟩
    by_cases e : i = k
    · subst e
      rw [ht] at h2
      cases h2
      exact .inr (slot_ix all h3 hu (h4.trans h.symm))
    · exact .inl ⟨i, t', u', by omega, h2, h3, h4⟩
mutual
theorem eqv_key : ∀ k j : NestedKey, PyData.eqv k.data j.data = decide (k = j)
  | .none, .none => by simp [NestedKey.data, PyData.eqv]
  | .none, .num _ => by simp [NestedKey.data, PyData.eqv]
  | .none, .text _ => by simp [NestedKey.data, PyData.eqv]
  | .none, .tup _ => by simp [NestedKey.data, PyData.eqv]
  | .num _, .none => by simp [NestedKey.data, PyData.eqv]
  | .num a, .num b => by
    rw [NestedKey.data, NestedKey.data, PyData.eqv, Bool.eq_iff_iff]
    simp
  | .num _, .text _ => by simp [NestedKey.data, PyData.eqv]
  | .num _, .tup _ => by simp [NestedKey.data, PyData.eqv]
  | .text _, .none => by simp [NestedKey.data, PyData.eqv]
  | .text _, .num _ => by simp [NestedKey.data, PyData.eqv]
  | .text a, .text b => by
    rw [NestedKey.data, NestedKey.data, PyData.eqv, Bool.eq_iff_iff]
    simp
  | .text _, .tup _ => by simp [NestedKey.data, PyData.eqv]
  | .tup _, .none => by simp [NestedKey.data, PyData.eqv]
  | .tup _, .num _ => by simp [NestedKey.data, PyData.eqv]
  | .tup _, .text _ => by simp [NestedKey.data, PyData.eqv]
  | .tup ks, .tup js => by
    rw [NestedKey.data, NestedKey.data, PyData.eqv, eqvs_key ks js]
    simp
theorem eqvs_key : ∀ ks js : List NestedKey, PyData.eqvAll (NestedKey.datas ks) (NestedKey.datas js) = decide (ks = js)
  | [], [] => by simp [NestedKey.datas, PyData.eqvAll]
  | [], _ :: _ => by simp [NestedKey.datas, PyData.eqvAll]
  | _ :: _, [] => by simp [NestedKey.datas, PyData.eqvAll]
  | k :: ks, j :: js => by
    rw [NestedKey.datas, NestedKey.datas, PyData.eqvAll, eqv_key k j, eqvs_key ks js]
    simp
end
end G
namespace G
open PySem L2 Nd
def spPartner : Sp := fun vs H Q _ => ∃ (M : List Addr) (all : Bool) (a tk b : Addr) (k : Nat) (xs ys : List V) (js : List Nat) (old new : List Tree) (t : Tree), vs = [.ref a, .ref tk, .ref b, .int (k : Int), .str (placeOf all)] ∧ H a = some (.lst xs) ∧ H b = some (.lst ys) ∧ H tk = some (.lst (js.map fun (j : Nat) => V.int (j : Int))) ∧
  TrL M H xs old ∧ TrL M H ys new ∧ fitL old = true ∧ fitL new = true ∧ sizeL old < 1000000 ∧ sizeL new < 1000000 ∧ new[k]? = some t ∧ TakenOk all old new k js ∧ ∀ (r : V) (H' : Hp), PartOk all old new k t r → Same H H' → Q r H'
theorem all_flat : ∀ js : List Nat, (js.map fun (j : Nat) => V.int (j : Int)).all flatV = true
  | [] => rfl
  | _ :: js => by rw [List.map_cons, List.all_cons, all_flat js]; rfl
theorem inV_nat (i : Nat) : ∀ js : List Nat, inV (V.int (i : Int)) (js.map fun (j : Nat) => V.int (j : Int)) = decide (i ∈ js)
  | [] => by simp [inV]
  | j :: js => by
    have := inV_nat i js
    unfold inV at this ⊢
    rw [List.map_cons, List.any_cons, this, Bool.eq_iff_iff]
    simp only [eqV, Bool.or_eq_true, decide_eq_true_eq, List.mem_cons, beq_iff_eq]
    constructor
    · rintro (h | h)
      · exact .inl (by omega)
      · exact .inr h
    · rintro (h | h)
      · exact .inl (by omega)
      · exact .inr h
/-- keys compared -/
theorem eqD_key {K : PySem.W.Frag} {H : Hp} {x y : V} {k j : NestedKey} {Q : VK} (hx : NK H x k) (hy : NK H y j) (ok : okN k = true) (oj : okN j = true) (dk : k.depth ≤ 64) (dj : j.depth ≤ 64) (q : Q (.bl (decide (k = j))) H) : rEqD K x y H Q :=
  ⟨k.data, j.data, nk_dp k _ hx, nk_dp j _ hy, shaped_key ok dk, shaped_key oj dj, by rw [eqv_key]; exact q⟩
theorem flK_ok {k : NestedKey} (h : flK k = true) : okN k = true := by
  rw [flK, Bool.and_eq_true] at h
  exact h.2
theorem flY_ok {k : NestedKey} (h : flY k = true) : okN k = true := by
  rw [flY, Bool.and_eq_true] at h
  exact h.2
/-- pairs of nodes of the law's trees: the nodes stand in H0 -/
inductive PtL (M : List Addr) (H0 H : Hp) : List V → List (Tree × Tree) → Prop
  | nil : PtL M H0 H [] []
  | cons {a : Addr} {x y : V} {t u : Tree} {vs : List V} {ps : List (Tree × Tree)} : H a = some (.tup [x, y]) → TrT M H0 x t → TrT M H0 y u → PtL M H0 H vs ps → PtL M H0 H (.ref a :: vs) ((t, u) :: ps)
theorem PtL.mono {M : List Addr} {H0 H H' : Hp} (e : ∀ b xs, H b = some (.tup xs) → H' b = some (.tup xs)) : ∀ {vs : List V} {ps : List (Tree × Tree)}, PtL M H0 H vs ps → PtL M H0 H' vs ps
  | _, _, .nil => .nil
  | _, _, .cons h1 h2 h3 h4 => .cons (e _ _ h1) h2 h3 (PtL.mono e h4)
theorem PtL.same {M : List Addr} {H0 H H' : Hp} {vs : List V} {ps : List (Tree × Tree)} (h : PtL M H0 H vs ps) (e : Same H H') : PtL M H0 H' vs ps := h.mono fun _ _ q => e _ _ q
theorem PtL.append {M : List Addr} {H0 H : Hp} : ∀ {vs ws : List V} {ps qs : List (Tree × Tree)}, PtL M H0 H vs ps → PtL M H0 H ws qs → PtL M H0 H (vs ++ ws) (ps ++ qs)
  | _, _, _, _, .nil, h => h
  | _, _, _, _, .cons h1 h2 h3 h4, h => .cons h1 h2 h3 (PtL.append h4 h)
theorem PtL.len {M : List Addr} {H0 H : Hp} : ∀ {vs : List V} {ps : List (Tree × Tree)}, PtL M H0 H vs ps → vs.length = ps.length
  | _, _, .nil => rfl
  | _, _, .cons _ _ _ h => by rw [List.length_cons, List.length_cons, PtL.len h]
theorem PtL.get {M : List Addr} {H0 H : Hp} : ∀ {vs : List V} {ps : List (Tree × Tree)} {i : Nat} {v : V}, PtL M H0 H vs ps → vs[i]? = some v → ∃ a x y t u, v = .ref a ∧ ps[i]? = some (t, u) ∧ H a = some (.tup [x, y]) ∧ TrT M H0 x t ∧ TrT M H0 y u
  | _, _, _, _, .nil, e => by simp at e
  | _, _, 0, _, .cons h1 h2 h3 _, e => by simp at e; subst e; exact ⟨_, _, _, _, _, rfl, rfl, h1, h2, h3⟩
  | _, _, i + 1, v, .cons _ _ _ h, e => by
    obtain ⟨a, x, y, t, u, h1, h2, h3⟩ := PtL.get (i := i) (v := v) h (by simpa using e)
    exact ⟨a, x, y, t, u, h1, by simpa using h2, h3⟩
def spPairs (n : Nat) : Sp := fun vs H Q _ => ∃ (H0 : Hp) (M : List Addr) (all : Bool) (a b : Addr) (xs ys : List V) (old new : List Tree), vs = [.ref a, .ref b, .str (placeOf all)] ∧ Same H0 H ∧ H0 a = some (.lst xs) ∧ H0 b = some (.lst ys) ∧
  TrL M H0 xs old ∧ TrL M H0 ys new ∧ fitL old = true ∧ fitL new = true ∧ sizeL old < 1000000 ∧ sizeL new < 1000000 ∧ depL new < n ∧
  ∀ (d : Addr) (vs : List V) (H' : Hp), H d = none → H' d = some (.lst vs) → PtL M H0 H' vs (mL all old [] new) → Same H H' → Q (.ref d) H'
def spTreeSame (C : Addr) (n : Nat) : Sp := fun vs H Q _ => ∃ (N M : List Addr) (a b : Addr) (xs ys : List V) (ts : List Tree), vs = [.ref a, .ref b] ∧ H a = some (.lst xs) ∧ H b = some (.lst ys) ∧ NdL N C H xs ts ∧ TrL M H ys ts ∧ fitL ts = true ∧ depL ts < n ∧ sizeL ts < 1000000 ∧
  ∀ H', Same H H' → Q (.bl true) H'
theorem depthAll_le {n : Nat} : ∀ {ks : List NestedKey}, (∀ k ∈ ks, k.depth ≤ n) → NestedKey.depthAll ks ≤ n
  | [], _ => by simp [NestedKey.depthAll]
  | k :: ks, h => by
    have h1 := h k List.mem_cons_self
    have h2 := depthAll_le (ks := ks) fun j hj => h j (List.mem_cons_of_mem _ hj)
    rw [NestedKey.depthAll]
    omega
theorem mo_depth {all : Bool} {A B : List Tree} (hA : Tups (ownL A)) (hB : Tups (ownL B)) : NestedKey.depthAll ((mL all A [] B).map fun p => .tup [p.1.own, p.2.own]) < 6 := by
  refine Nat.lt_of_le_of_lt (depthAll_le (n := 4) fun k hk => ?_) (by decide)
  obtain ⟨p, hp, rfl⟩ := List.mem_map.mp hk
  have := mo_own all A B (p.1.own, p.2.own) (List.mem_map.mpr ⟨p, hp, rfl⟩)
  have h1 := (hA _ this.1).2.1
  have h2 := (hB _ this.2).2.1
  simp only [NestedKey.depth, NestedKey.depthAll] at *
  omega
theorem pairs_eq2 {H : Hp} {all : Bool} {A B : List Tree} {a b : Addr} {xs ys : List V} (hA : Tups (ownL A)) (hB : Tups (ownL B)) (ha : H a = some (.lst xs)) (hb : H b = some (.lst ys)) (h1 : NKs H xs ((mL all A [] B).map fun p => .tup [p.1.own, p.2.own])) (h2 : NKs H ys ((mL all A [] B).map fun p => .tup [p.1.own, p.2.own])) : Eq2 H 7 (.ref a) (.ref b) :=
  .inr (.inr (.inr (.inr ⟨a, b, xs, ys, rfl, rfl, .inr ⟨ha, hb⟩, by rw [h1.len, h2.len], nks_eq2 _ 6 _ _ h1 h2 (mo_depth hA hB)⟩)))
end G
set_option Elab.async false
set_option linter.all false
set_option maxRecDepth 100000
set_option maxHeartbeats 4000000
namespace G
open PySem L2 Nd
/-! ### tables of addresses -/
section
variable {X : Cx} {o : Expr} {td : TE} {apos cpos : Pos}
def tNClear (P : Program) (w : World) (td : TE) : TE := fun σ H Q => td σ H fun x H1 => ∃ a xs, x = .ref a ∧ H1 a = some (DN P w a xs) ∧ KeysAt H1 xs ∧ Q .non (upd H1 a (DN P w a []))
theorem n_clear (ho : PE X o td) (hbase : attributeBase o "clear" X.env (eval o X.env) = eval o X.env := by rfl) (hline : (apos.endLine == cpos.line) = true := by rfl) : PE X (.Call (.Attribute o "clear" apos) [] [] cpos) (tNClear X.prog X.w td) := by
  refine ⟨fun pins s σ H Q I h => ?_⟩
  refine wpAny_Call_method0_late hbase hline (thn (ho.run pins s σ H _ I h) fun v s1 ⟨x, H1, I1, r1, a, xs, ex, e, ks, q1⟩ => ?_)
  subst ex
  obtain rfl : v = Value.ref a := r1
  exact ⟨"dict", "dict.clear", PySem.F.plainAttrs_dict, PySem.F.slot_dict_clear, PySem.F.type_dict_clear, (dn_ty I1 (.inl e)).1, (dn_ty I1 (.inl e)).2.1, Calls.callWith_builtin rfl (PySem.evalArgs_none (dn_clear I1 e ks fun s' I' => ⟨.non, _, I', rfl, q1⟩))⟩
end
theorem adL_snoc (all : Bool) (above : Adr) (t : Tree) : ∀ (xs pre : List Tree), adL all above pre (xs ++ [t]) = adL all above pre xs ++ adT all above (pre ++ xs) t
  | [], pre => by simp [adL]
  | x :: xs, pre => by
    rw [List.cons_append, adL, adL, adL_snoc all above t xs (pre ++ [x])]
    simp
def tbl (xs : List (Adr × NestedKey)) : List (NestedKey × NestedKey) := xs.map fun p => (p.2, .tup p.1)
theorem tbl_append (a b : List (Adr × NestedKey)) : tbl (a ++ b) = tbl a ++ tbl b := List.map_append
theorem tbl_keys (xs : List (Adr × NestedKey)) : (tbl xs).map (·.1) = xs.map (·.2) := by
  unfold tbl
  rw [List.map_map]
  rfl
/-- a dict with these keys and values, in this order -/
def DicOk (P : Program) (w : World) (H : Hp) (d : Addr) (ps : List (NestedKey × NestedKey)) : Prop := ∃ es, H d = some (DN P w d es) ∧ KeysAt H es ∧ TbL H es ps
theorem Sm.tupD {P : Program} {w : World} {H H' : Hp} {d : Addr} {es : List Ent} (e : Sm [d] H H') (hd : H d = some (DN P w d es)) : ∀ b xs, H b = some (.tup xs) → H' b = some (.tup xs) := fun b xs q => e b _ q fun z => by
  rw [List.mem_singleton.mp z, hd] at q
  cases q
theorem Sm.lstD {P : Program} {w : World} {H H' : Hp} {d : Addr} {es : List Ent} (e : Sm [d] H H') (hd : H d = some (DN P w d es)) : ∀ b xs, H b = some (.lst xs) → H' b = some (.lst xs) := fun b xs q => e b _ q fun z => by
  rw [List.mem_singleton.mp z, hd] at q
  cases q
theorem Sm.insD {P : Program} {w : World} {H H' : Hp} {d : Addr} {es : List Ent} (e : Sm [d] H H') (hd : H d = some (DN P w d es)) : ∀ b C dx fs, H b = some (.ins C dx fs) → H' b = some (.ins C dx fs) := fun b C dx fs q => e b _ q fun z => by
  rw [List.mem_singleton.mp z, hd] at q
  cases q
theorem sm_putD {H : Hp} {d : Addr} {o : HO} : Sm [d] H (L2.upd H d o) := fun b v q nb => by
  rw [upd_ne (fun z => nb (by rw [z]; exact List.mem_singleton.mpr rfl))]
  exact q
theorem Sm.ofSame {M : List Addr} {H H' : Hp} (e : Same H H') : Sm M H H' := fun b o q _ => e _ _ q
def spSlots : Sp := fun vs H Q _ => ∃ (M : List Addr) (all : Bool) (a : Addr) (xs : List V) (ts : List Tree), vs = [.ref a, .str (placeOf all)] ∧ H a = some (.lst xs) ∧ TrL M H xs ts ∧ fitL ts = true ∧ sizeL ts < 1000000 ∧
  ∀ (d : Addr) (vs : List V) (H' : Hp), H d = none → H' d = some (.lst vs) → NKs H' vs (slots all ts) → Same H H' → Q (.ref d) H'
/-- what both tables ask -/
structure AdOk (all : Bool) (n : Nat) (ts : List Tree) (above : Adr) (ps : List (NestedKey × NestedKey)) : Prop where
  nd : (ps.map (·.1) ++ ownL ts).Nodup
  fit : fitL ts = true
  tup : Tups (ownL ts)
  siz : ps.length + sizeL ts < 1000000
  dep : depL ts < n
  len : above.length + depL ts < 1000
def spAddressed (P : Program) (w : World) (n : Nat) : Sp := fun vs H Q _ => ∃ (M : List Addr) (all : Bool) (a ab d : Addr) (xs us : List V) (ts : List Tree) (above : Adr) (ps : List (NestedKey × NestedKey)), vs = [.ref a, .str (placeOf all), .ref ab, .ref d] ∧ H a = some (.lst xs) ∧ TrL M H xs ts ∧ H ab = some (.tup us) ∧ NKs H us above ∧
  DicOk P w H d ps ∧ AdOk all n ts above ps ∧ ∀ H', DicOk P w H' d (ps ++ tbl (adL all above [] ts)) → Sm [d] H H' → Q (.ref d) H'
def spGather (P : Program) (w : World) (C Cn : Addr) (n : Nat) : Sp := fun vs H Q _ => ∃ (all : Bool) (r dx a ab d : Addr) (xs us : List V) (ts : List Tree) (above : Adr) (ps : List (NestedKey × NestedKey)), vs = [.ref r, .ref a, .ref ab, .ref d] ∧ H r = some (.ins C dx (ruF (placeOf all))) ∧ H a = some (.lst xs) ∧ NdL [] Cn H xs ts ∧ H ab = some (.tup us) ∧ NKs H us above ∧
  DicOk P w H d ps ∧ AdOk all n ts above ps ∧ ∀ H', DicOk P w H' d (ps ++ tbl (adL all above [] ts)) → Sm [d] H H' → Q .non H'
def spAddresses (P : Program) (w : World) (C Cn : Addr) (n : Nat) : Sp := fun vs H Q _ => ∃ (all : Bool) (r dx a : Addr) (xs : List V) (ts : List Tree), vs = [.ref r, .ref a] ∧ H r = some (.ins C dx (ruF (placeOf all))) ∧ H a = some (.lst xs) ∧ NdL [] Cn H xs ts ∧ AdOk all n ts [] [] ∧
  ∀ d H', H d = none → DicOk P w H' d (tbl (adr all ts)) → Same H H' → Q (.ref d) H'
/-- one more entry, of a new key -/
theorem DicOk.put {P : Program} {w : World} {H : Hp} {d b : Addr} {es : List Ent} {ps : List (NestedKey × NestedKey)} {k r : NestedKey} {v : V} (hd : H d = some (DN P w d es)) (ks : KeysAt H es) (tb : TbL H es ps) (hk : NK H (.ref b) k) (dk : k.depth ≤ 8) (hv : NK H v r) (nk : k ∉ ps.map (·.1)) :
    DicOk P w (upd H d (DN P w d (putN es k b v))) d (ps ++ [(k, r)]) := by
  have st' : ∀ c xs, H c = some (.tup xs) → upd H d (DN P w d (putN es k b v)) c = some (.tup xs) := keep_tup (H' := H) hd (by intro xs z; cases z)
  refine ⟨_, upd_same, (ks.put hk dk).mono st', ?_⟩
  have e : lookN es k = none := by
    rcases tb.look k with ⟨h, _⟩ | ⟨v', r', h1, _, h3⟩
    · exact h
    · exact absurd (List.mem_map.mpr ⟨_, h3, rfl⟩) nk
  rw [putN_new e]
  exact (tb.snoc hv).mono (by rw [← putN_new e]; exact st')
end G
set_option Elab.async false
set_option linter.all false
set_option maxRecDepth 100000
set_option maxHeartbeats 4000000
namespace G
open PySem L2 Nd
def topS (i : Nat) : Stmt := PySem.Challenge.pw_statestay_k20_rule_slots.main.body.getD i (.Pass ⟨0, 0, 0, 0⟩)
abbrev s_m_NoItem_init : Stmt := inClass (topS 3) 0
theorem sc_m_NoItem_init : FnScope ["self", "path"] ["self", "path"] (defScope s_m_NoItem_init) := ⟨rfl, rfl, rfl, by decide +kernel, rfl, by decide +kernel, by decide +kernel⟩
abbrev s_m_InvalidRule_init : Stmt := inClass (topS 4) 0
theorem sc_m_InvalidRule_init : FnScope ["self", "place"] ["self", "place"] (defScope s_m_InvalidRule_init) := ⟨rfl, rfl, rfl, by decide +kernel, rfl, by decide +kernel, by decide +kernel⟩
abbrev s_m_Rule_init : Stmt := inClass (topS 6) 2
theorem sc_m_Rule_init : FnScope ["self", "place"] ["self", "place"] (defScope s_m_Rule_init) := ⟨rfl, rfl, rfl, by decide +kernel, rfl, by decide +kernel, by decide +kernel⟩
abbrev s_m_Rule_eq : Stmt := inClass (topS 6) 3
theorem sc_m_Rule_eq : FnScope ["self", "other"] ["self", "other"] (defScope s_m_Rule_eq) := ⟨rfl, rfl, rfl, by decide +kernel, rfl, by decide +kernel, by decide +kernel⟩
abbrev s_m_Rule_call : Stmt := inClass (topS 6) 4
theorem sc_m_Rule_call : FnScope ["self", "nodes", "slots", "ranks", "plain", "index", "node", "number", "named"] ["self", "nodes"] (defScope s_m_Rule_call) := ⟨rfl, rfl, rfl, by decide +kernel, rfl, by decide +kernel, by decide +kernel⟩
abbrev s_m_Node_init : Stmt := inClass (topS 8) 0
theorem sc_m_Node_init : FnScope ["self", "kind", "key", "owner", "nodes"] ["self", "kind", "key", "owner", "nodes"] (defScope s_m_Node_init) := ⟨rfl, rfl, rfl, by decide +kernel, rfl, by decide +kernel, by decide +kernel⟩
abbrev s_l_stream : Stmt := topS 10
theorem sc_l_stream : FnScope ["_law_script", "_law_cells", "_law_cell"] ["_law_script"] (defScope s_l_stream) := ⟨rfl, rfl, rfl, by decide +kernel, rfl, by decide +kernel, by decide +kernel⟩
abbrev s_l_draw : Stmt := topS 11
theorem sc_l_draw : FnScope ["_law_stream_here", "_law_many", "_law_cells", "_law_step", "_law_at", "_law_cell", "_law_number"] ["_law_stream_here", "_law_many"] (defScope s_l_draw) := ⟨rfl, rfl, rfl, by decide +kernel, rfl, by decide +kernel, by decide +kernel⟩
abbrev s_l_same : Stmt := topS 12
theorem sc_l_same : FnScope ["_law_actual", "_law_expected", "_law_key", "_law_k"] ["_law_actual", "_law_expected"] (defScope s_l_same) := ⟨rfl, rfl, rfl, by decide +kernel, rfl, by decide +kernel, by decide +kernel⟩
abbrev s_l_tree_key : Stmt := topS 13
theorem sc_l_tree_key : FnScope ["_law_stream_here", "_law_way"] ["_law_stream_here"] (defScope s_l_tree_key) := ⟨rfl, rfl, rfl, by decide +kernel, rfl, by decide +kernel, by decide +kernel⟩
abbrev s_l_tree : Stmt := topS 14
theorem sc_l_tree : FnScope ["_law_stream_here", "_law_most", "_law_deep", "_law_place", "_law_nodes", "_law_k", "_law_kind", "_law_key", "_law_below"] ["_law_stream_here", "_law_most", "_law_deep", "_law_place"] (defScope s_l_tree) := ⟨rfl, rfl, rfl, by decide +kernel, rfl, by decide +kernel, by decide +kernel⟩
abbrev s_l_built : Stmt := topS 15
theorem sc_l_built : FnScope ["_law_nodes", "_law_made", "_law_kind", "_law_key", "_law_owner", "_law_below"] ["_law_nodes"] (defScope s_l_built) := ⟨rfl, rfl, rfl, by decide +kernel, rfl, by decide +kernel, by decide +kernel⟩
abbrev s_l_slots : Stmt := topS 16
theorem sc_l_slots : FnScope ["_law_nodes", "_law_place", "_law_slots_here", "_law_k", "_law_kind", "_law_key", "_law_number", "_law_node"] ["_law_nodes", "_law_place"] (defScope s_l_slots) := ⟨rfl, rfl, rfl, by decide +kernel, rfl, by decide +kernel, by decide +kernel⟩
abbrev s_l_rule : Stmt := topS 18
theorem sc_l_rule : FnScope ["_law_way"] ["_law_way"] (defScope s_l_rule) := ⟨rfl, rfl, rfl, by decide +kernel, rfl, by decide +kernel, by decide +kernel⟩
abbrev s_l_refused : Stmt := topS 19
theorem sc_l_refused : FnScope ["_law_value", "_law_found", "error"] ["_law_value"] (defScope s_l_refused) := ⟨rfl, rfl, rfl, by decide +kernel, rfl, by decide +kernel, by decide +kernel⟩
abbrev s_law : Stmt := topS 20
theorem sc_law : FnScope ["_law_script", "_law_stream_here", "_law_way", "_law_other_way", "_law_odd", "_law_nodes", "_law_rule_here", "_law_other", "_law_place", "_law_told", "_law_built_here", "_law_due", "_law_k"] ["_law_script"] (defScope s_law) := ⟨rfl, rfl, rfl, by decide +kernel, rfl, by decide +kernel, by decide +kernel⟩
structure Txt (K : PySem.W.Frag) (mg : Str → Option Value) where
  C_Rule : Addr
  cl_Rule : Cls K C_Rule
  gC_Rule : mg "Rule" = some (.ref C_Rule)
  n_Rule_place : NoAttr K C_Rule "place"
  is_Rule : IsiC K C_Rule
  u_Rule_ALL : Value
  con_Rule_ALL : Con K C_Rule "ALL" (.str "all") u_Rule_ALL
  cv_Rule_ALL : ClX.CVal K C_Rule (.type "type") "ALL" (.str "all") u_Rule_ALL
  u_Rule_PLAIN : Value
  con_Rule_PLAIN : Con K C_Rule "PLAIN" (.str "plain") u_Rule_PLAIN
  cv_Rule_PLAIN : ClX.CVal K C_Rule (.type "type") "PLAIN" (.str "plain") u_Rule_PLAIN
  cr_Rule : ClX.CRead K C_Rule (.type "type")
  C_Node : Addr
  cl_Node : Cls K C_Node
  gC_Node : mg "Node" = some (.ref C_Node)
  n_Node_key : NoAttr K C_Node "key"
  n_Node_kind : NoAttr K C_Node "kind"
  n_Node_nodes : NoAttr K C_Node "nodes"
  n_Node_owner : NoAttr K C_Node "owner"
  C_StayError : Addr
  gC_StayError : mg "StayError" = some (.ref C_StayError)
  ba_StayError : Xo.BaC K C_StayError
  C_NoItem : Addr
  gC_NoItem : mg "NoItem" = some (.ref C_NoItem)
  er_NoItem : Xo.ErC K C_NoItem
  xf_NoItem : XfC K C_NoItem
  no_NoItem_path : PySem.W.findIn K (.ref C_NoItem) "path" = some none
  C_InvalidRule : Addr
  gC_InvalidRule : mg "InvalidRule" = some (.ref C_InvalidRule)
  er_InvalidRule : Xo.ErC K C_InvalidRule
  xf_InvalidRule : XfC K C_InvalidRule
  no_InvalidRule_place : PySem.W.findIn K (.ref C_InvalidRule) "place" = some none
  xm_NoItem_StayError : PySem.W.exmOne K (.ref C_NoItem) (.ref C_StayError) = some true
  xm_NoItem_NoItem : PySem.W.exmOne K (.ref C_NoItem) (.ref C_NoItem) = some true
  xm_NoItem_InvalidRule : PySem.W.exmOne K (.ref C_NoItem) (.ref C_InvalidRule) = some false
  xm_InvalidRule_StayError : PySem.W.exmOne K (.ref C_InvalidRule) (.ref C_StayError) = some true
  xm_InvalidRule_NoItem : PySem.W.exmOne K (.ref C_InvalidRule) (.ref C_NoItem) = some false
  xm_InvalidRule_InvalidRule : PySem.W.exmOne K (.ref C_InvalidRule) (.ref C_InvalidRule) = some true
  f_m_NoItem_init : Addr
  d_m_NoItem_init : FuncData
  F_m_NoItem_init : Fun K "__init__" "NoItem.__init__" s_m_NoItem_init f_m_NoItem_init d_m_NoItem_init
  b_m_NoItem_init : Binds K d_m_NoItem_init ["self", "path"] []
  in_NoItem : PySem.W.findIn K (.ref C_NoItem) "__init__" = some (some (.ref f_m_NoItem_init))
  ti_NoItem : PySem.W.typeIn K (.ref f_m_NoItem_init) = some (.type "function")
  f_m_InvalidRule_init : Addr
  d_m_InvalidRule_init : FuncData
  F_m_InvalidRule_init : Fun K "__init__" "InvalidRule.__init__" s_m_InvalidRule_init f_m_InvalidRule_init d_m_InvalidRule_init
  b_m_InvalidRule_init : Binds K d_m_InvalidRule_init ["self", "place"] []
  in_InvalidRule : PySem.W.findIn K (.ref C_InvalidRule) "__init__" = some (some (.ref f_m_InvalidRule_init))
  ti_InvalidRule : PySem.W.typeIn K (.ref f_m_InvalidRule_init) = some (.type "function")
  f_m_Rule_init : Addr
  d_m_Rule_init : FuncData
  F_m_Rule_init : FunD K "__init__" "Rule.__init__" (defArgs s_m_Rule_init) (defBody s_m_Rule_init) (defScope s_m_Rule_init) [V.str "all"] [] f_m_Rule_init d_m_Rule_init
  b1_m_Rule_init : ∃ ds, Vals [V.str "all"] ds ∧ Binds K d_m_Rule_init ["self", "place"] ds
  b2_m_Rule_init : ∃ ds, Vals [] ds ∧ Binds K d_m_Rule_init ["self", "place"] ds
  mk_Rule : Mk K C_Rule f_m_Rule_init
  f_m_Rule_eq : Addr
  d_m_Rule_eq : FuncData
  F_m_Rule_eq : Fun K "__eq__" "Rule.__eq__" s_m_Rule_eq f_m_Rule_eq d_m_Rule_eq
  b_m_Rule_eq : Binds K d_m_Rule_eq ["self", "other"] []
  eqc_Rule : Xo.EqC K C_Rule f_m_Rule_eq
  nt_Rule_str : Xo.NoT K C_Rule "str"
  nt_Rule_tuple : Xo.NoT K C_Rule "tuple"
  me_m_Rule_eq : Meth K C_Rule "__eq__" f_m_Rule_eq
  f_m_Rule_call : Addr
  d_m_Rule_call : FuncData
  F_m_Rule_call : Fun K "__call__" "Rule.__call__" s_m_Rule_call f_m_Rule_call d_m_Rule_call
  b_m_Rule_call : Binds K d_m_Rule_call ["self", "nodes"] []
  co_Rule : StX.CallO K C_Rule f_m_Rule_call
  f_m_Node_init : Addr
  d_m_Node_init : FuncData
  e_m_Node_init0 : Addr
  he_m_Node_init0 : SqT0 K e_m_Node_init0
  F_m_Node_init : FunD K "__init__" "Node.__init__" (defArgs s_m_Node_init) (defBody s_m_Node_init) (defScope s_m_Node_init) [V.ref e_m_Node_init0] [] f_m_Node_init d_m_Node_init
  b4_m_Node_init : ∃ ds, Vals [V.ref e_m_Node_init0] ds ∧ Binds K d_m_Node_init ["self", "kind", "key", "owner", "nodes"] ds
  b5_m_Node_init : ∃ ds, Vals [] ds ∧ Binds K d_m_Node_init ["self", "kind", "key", "owner", "nodes"] ds
  mk_Node : Mk K C_Node f_m_Node_init
  f_l_stream : Addr
  d_l_stream : FuncData
  g_l_stream : mg "_law_stream" = some (.ref f_l_stream)
  F_l_stream : Fun K "_law_stream" "_law_stream" s_l_stream f_l_stream d_l_stream
  b_l_stream : Binds K d_l_stream ["_law_script"] []
  f_l_draw : Addr
  d_l_draw : FuncData
  g_l_draw : mg "_law_draw" = some (.ref f_l_draw)
  F_l_draw : Fun K "_law_draw" "_law_draw" s_l_draw f_l_draw d_l_draw
  b_l_draw : Binds K d_l_draw ["_law_stream_here", "_law_many"] []
  f_l_same : Addr
  d_l_same : FuncData
  g_l_same : mg "_law_same" = some (.ref f_l_same)
  F_l_same : Fun K "_law_same" "_law_same" s_l_same f_l_same d_l_same
  b_l_same : Binds K d_l_same ["_law_actual", "_law_expected"] []
  f_l_tree_key : Addr
  d_l_tree_key : FuncData
  g_l_tree_key : mg "_law_tree_key" = some (.ref f_l_tree_key)
  F_l_tree_key : Fun K "_law_tree_key" "_law_tree_key" s_l_tree_key f_l_tree_key d_l_tree_key
  b_l_tree_key : Binds K d_l_tree_key ["_law_stream_here"] []
  f_l_tree : Addr
  d_l_tree : FuncData
  g_l_tree : mg "_law_tree" = some (.ref f_l_tree)
  F_l_tree : Fun K "_law_tree" "_law_tree" s_l_tree f_l_tree d_l_tree
  b_l_tree : Binds K d_l_tree ["_law_stream_here", "_law_most", "_law_deep", "_law_place"] []
  f_l_built : Addr
  d_l_built : FuncData
  g_l_built : mg "_law_built" = some (.ref f_l_built)
  F_l_built : Fun K "_law_built" "_law_built" s_l_built f_l_built d_l_built
  b_l_built : Binds K d_l_built ["_law_nodes"] []
  f_l_slots : Addr
  d_l_slots : FuncData
  g_l_slots : mg "_law_slots" = some (.ref f_l_slots)
  F_l_slots : Fun K "_law_slots" "_law_slots" s_l_slots f_l_slots d_l_slots
  b_l_slots : Binds K d_l_slots ["_law_nodes", "_law_place"] []
  f_l_rule : Addr
  d_l_rule : FuncData
  g_l_rule : mg "_law_rule" = some (.ref f_l_rule)
  F_l_rule : Fun K "_law_rule" "_law_rule" s_l_rule f_l_rule d_l_rule
  b_l_rule : Binds K d_l_rule ["_law_way"] []
  f_l_refused : Addr
  d_l_refused : FuncData
  g_l_refused : mg "_law_refused" = some (.ref f_l_refused)
  F_l_refused : Fun K "_law_refused" "_law_refused" s_l_refused f_l_refused d_l_refused
  b_l_refused : Binds K d_l_refused ["_law_value"] []
  f_law : Addr
  d_law : FuncData
  g_law : mg "law" = some (.ref f_law)
  F_law : Fun K "law" "law" s_law f_law d_law
  b_law : Binds K d_law ["_law_script"] []
  z_bool : mg "bool" = none
  z_dict : mg "dict" = none
  z_enumerate : mg "enumerate" = none
  z_int : mg "int" = none
  z_isinstance : mg "isinstance" = none
  z_len : mg "len" = none
  z_list : mg "list" = none
  z_range : mg "range" = none
  z_str : mg "str" = none
  z_tuple : mg "tuple" = none
end G
set_option Elab.async false
set_option linter.all false
set_option maxRecDepth 100000
set_option maxHeartbeats 4000000
namespace G
open PySem L2 Nd
theorem txt_mk {K : PySem.W.Frag} {h : Heap} {mg : Str → Option Value} (X : K.In h) (G : h.Ns mainGlobals mg)
    {C_Rule : Addr} {tk_Rule_ALL : Tok} {tk_Rule_PLAIN : Tok} {C_Node : Addr} {C_StayError : Addr} {C_NoItem : Addr} {C_InvalidRule : Addr} {f_m_NoItem_init : Addr} {oc_m_NoItem_init : Value} {kV_m_NoItem_init : Value} {dc_m_NoItem_init : Value} {pm_m_NoItem_init : Value} {cd_m_NoItem_init : Value} {ct_m_NoItem_init : Value} {od_m_NoItem_init : Option Addr} {an_m_NoItem_init : Option Addr} {sl_m_NoItem_init : Array (Option Value)} {f_m_InvalidRule_init : Addr} {oc_m_InvalidRule_init : Value} {kV_m_InvalidRule_init : Value} {dc_m_InvalidRule_init : Value} {pm_m_InvalidRule_init : Value} {cd_m_InvalidRule_init : Value} {ct_m_InvalidRule_init : Value} {od_m_InvalidRule_init : Option Addr} {an_m_InvalidRule_init : Option Addr} {sl_m_InvalidRule_init : Array (Option Value)} {f_m_Rule_init : Addr} {oc_m_Rule_init : Value} {kV_m_Rule_init : Value} {dc_m_Rule_init : Value} {pm_m_Rule_init : Value} {cd_m_Rule_init : Value} {ct_m_Rule_init : Value} {od_m_Rule_init : Option Addr} {an_m_Rule_init : Option Addr} {sl_m_Rule_init : Array (Option Value)} {T_m_Rule_init : Addr} {tk_m_Rule_init0 : Tok} {t1_m_Rule_init : Value} {t2_m_Rule_init : Option Addr} {t3_m_Rule_init : Nat} {t4_m_Rule_init : Array (Option Value)} {f_m_Rule_eq : Addr} {oc_m_Rule_eq : Value} {kV_m_Rule_eq : Value} {dc_m_Rule_eq : Value} {pm_m_Rule_eq : Value} {cd_m_Rule_eq : Value} {ct_m_Rule_eq : Value} {od_m_Rule_eq : Option Addr} {an_m_Rule_eq : Option Addr} {sl_m_Rule_eq : Array (Option Value)} {f_m_Rule_call : Addr} {oc_m_Rule_call : Value} {kV_m_Rule_call : Value} {dc_m_Rule_call : Value} {pm_m_Rule_call : Value} {cd_m_Rule_call : Value} {ct_m_Rule_call : Value} {od_m_Rule_call : Option Addr} {an_m_Rule_call : Option Addr} {sl_m_Rule_call : Array (Option Value)} {f_m_Node_init : Addr} {oc_m_Node_init : Value} {kV_m_Node_init : Value} {dc_m_Node_init : Value} {pm_m_Node_init : Value} {cd_m_Node_init : Value} {ct_m_Node_init : Value} {od_m_Node_init : Option Addr} {an_m_Node_init : Option Addr} {sl_m_Node_init : Array (Option Value)} {T_m_Node_init : Addr} {e_m_Node_init0 : Addr} {x2e_m_Node_init0 : Option Addr} {x3e_m_Node_init0 : Nat} {x4e_m_Node_init0 : Array (Option Value)} {t1_m_Node_init : Value} {t2_m_Node_init : Option Addr} {t3_m_Node_init : Nat} {t4_m_Node_init : Array (Option Value)} {f_l_stream : Addr} {oc_l_stream : Value} {kV_l_stream : Value} {dc_l_stream : Value} {pm_l_stream : Value} {cd_l_stream : Value} {ct_l_stream : Value} {od_l_stream : Option Addr} {an_l_stream : Option Addr} {sl_l_stream : Array (Option Value)} {f_l_draw : Addr} {oc_l_draw : Value} {kV_l_draw : Value} {dc_l_draw : Value} {pm_l_draw : Value} {cd_l_draw : Value} {ct_l_draw : Value} {od_l_draw : Option Addr} {an_l_draw : Option Addr} {sl_l_draw : Array (Option Value)} {f_l_same : Addr} {oc_l_same : Value} {kV_l_same : Value} {dc_l_same : Value} {pm_l_same : Value} {cd_l_same : Value} {ct_l_same : Value} {od_l_same : Option Addr} {an_l_same : Option Addr} {sl_l_same : Array (Option Value)} {f_l_tree_key : Addr} {oc_l_tree_key : Value} {kV_l_tree_key : Value} {dc_l_tree_key : Value} {pm_l_tree_key : Value} {cd_l_tree_key : Value} {ct_l_tree_key : Value} {od_l_tree_key : Option Addr} {an_l_tree_key : Option Addr} {sl_l_tree_key : Array (Option Value)} {f_l_tree : Addr} {oc_l_tree : Value} {kV_l_tree : Value} {dc_l_tree : Value} {pm_l_tree : Value} {cd_l_tree : Value} {ct_l_tree : Value} {od_l_tree : Option Addr} {an_l_tree : Option Addr} {sl_l_tree : Array (Option Value)} {f_l_built : Addr} {oc_l_built : Value} {kV_l_built : Value} {dc_l_built : Value} {pm_l_built : Value} {cd_l_built : Value} {ct_l_built : Value} {od_l_built : Option Addr} {an_l_built : Option Addr} {sl_l_built : Array (Option Value)} {f_l_slots : Addr} {oc_l_slots : Value} {kV_l_slots : Value} {dc_l_slots : Value} {pm_l_slots : Value} {cd_l_slots : Value} {ct_l_slots : Value} {od_l_slots : Option Addr} {an_l_slots : Option Addr} {sl_l_slots : Array (Option Value)} {f_l_rule : Addr} {oc_l_rule : Value} {kV_l_rule : Value} {dc_l_rule : Value} {pm_l_rule : Value} {cd_l_rule : Value} {ct_l_rule : Value} {od_l_rule : Option Addr} {an_l_rule : Option Addr} {sl_l_rule : Array (Option Value)} {f_l_refused : Addr} {oc_l_refused : Value} {kV_l_refused : Value} {dc_l_refused : Value} {pm_l_refused : Value} {cd_l_refused : Value} {ct_l_refused : Value} {od_l_refused : Option Addr} {an_l_refused : Option Addr} {sl_l_refused : Array (Option Value)} {f_law : Addr} {oc_law : Value} {kV_law : Value} {dc_law : Value} {pm_law : Value} {cd_law : Value} {ct_law : Value} {od_law : Option Addr} {an_law : Option Addr} {sl_law : Array (Option Value)}
    (aC_Rule : PySem.W.nsIn K mainGlobals "Rule" = some (some (.ref C_Rule)))
    (pg_Rule : PySem.W.plainGet K C_Rule Str.empty = true)
    (hd_Rule : PySem.W.hasDictIn K C_Rule = true)
    (po_Rule : PySem.W.plainOver K C_Rule = true)
    (sa_Rule : PySem.W.findIn K (.ref C_Rule) "__setattr__" = some (some (.builtin "object.__setattr__")))
    (n_Rule_place : PySem.W.findIn K (.ref C_Rule) "place" = some none)
    (xa_Rule : PySem.W.findIn K (.ref C_Rule) "__class__" = some (some (.builtin "object.__class__")))
    (xn_Rule : PySem.W.specialIn K (.builtin "object.__class__") "__get__" = some (some (.builtin "getset_descriptor.__get__")))
    (xt_Rule : PySem.W.takesIn K (.builtin "object.__class__") = some true)
    (xm_Rule : PySem.W.mroIn K C_Rule (.type "object") = some true)
    (at_u_Rule_ALL : PySem.W.findIn K (.ref C_Rule) "ALL" = some (some (Value.str "all" tk_Rule_ALL)))
    (ge_u_Rule_ALL : PySem.W.specialIn K (Value.str "all" tk_Rule_ALL) "__get__" = some none)
    (cv1_u_Rule_ALL : PySem.W.findCls K (.ref C_Rule) (.type "type") "ALL" = some (.val (Value.str "all" tk_Rule_ALL)))
    (at_u_Rule_PLAIN : PySem.W.findIn K (.ref C_Rule) "PLAIN" = some (some (Value.str "plain" tk_Rule_PLAIN)))
    (ge_u_Rule_PLAIN : PySem.W.specialIn K (Value.str "plain" tk_Rule_PLAIN) "__get__" = some none)
    (cv1_u_Rule_PLAIN : PySem.W.findCls K (.ref C_Rule) (.type "type") "PLAIN" = some (.val (Value.str "plain" tk_Rule_PLAIN)))
    (cr1_Rule : PySem.W.readsIn K C_Rule (.type "type") = true)
    (cr2_Rule : PySem.W.specialIn K (.ref C_Rule) "__getattribute__" = some (some (.builtin "type.__getattribute__")))
    (aC_Node : PySem.W.nsIn K mainGlobals "Node" = some (some (.ref C_Node)))
    (pg_Node : PySem.W.plainGet K C_Node Str.empty = true)
    (hd_Node : PySem.W.hasDictIn K C_Node = true)
    (po_Node : PySem.W.plainOver K C_Node = true)
    (sa_Node : PySem.W.findIn K (.ref C_Node) "__setattr__" = some (some (.builtin "object.__setattr__")))
    (n_Node_key : PySem.W.findIn K (.ref C_Node) "key" = some none)
    (n_Node_kind : PySem.W.findIn K (.ref C_Node) "kind" = some none)
    (n_Node_nodes : PySem.W.findIn K (.ref C_Node) "nodes" = some none)
    (n_Node_owner : PySem.W.findIn K (.ref C_Node) "owner" = some none)
    (aC_StayError : PySem.W.nsIn K mainGlobals "StayError" = some (some (.ref C_StayError)))
    (ic_StayError : PySem.W.isClsIn K C_StayError = true)
    (e5_StayError : PySem.W.subIn K (.ref C_StayError) (.type "BaseException") = some true)
    (e6_StayError : PySem.W.typeIn K (.ref C_StayError) = some (.type "type"))
    (b1_StayError : PySem.W.specialIn K (.ref C_StayError) "__getattribute__" = some (some (.builtin "type.__getattribute__")))
    (b2_StayError : PySem.W.readsIn K C_StayError (.type "type") = true)
    (b3_StayError : PySem.W.findCls K (.ref C_StayError) (.type "type") "__init__" = some (.val (.builtin "Exception.__init__")))
    (aC_NoItem : PySem.W.nsIn K mainGlobals "NoItem" = some (some (.ref C_NoItem)))
    (ic_NoItem : PySem.W.isClsIn K C_NoItem = true)
    (e1_NoItem : PySem.W.excInitIn K C_NoItem Xo.exB "Exception.__new__" = true)
    (e2_NoItem : PySem.W.excOver K C_NoItem Xo.exB = true)
    (e3_NoItem : PySem.W.hasDictIn K C_NoItem = true)
    (e4_NoItem : PySem.W.findIn K (.ref C_NoItem) "__setattr__" = some (some (.builtin "object.__setattr__")))
    (e5_NoItem : PySem.W.subIn K (.ref C_NoItem) (.type "BaseException") = some true)
    (e6_NoItem : PySem.W.typeIn K (.ref C_NoItem) = some (.type "type"))
    (e7_NoItem : PySem.W.keepIn K (.ref C_NoItem) = true)
    (x1_NoItem : PySem.W.findIn K (.ref C_NoItem) "__getattribute__" = some (some (.builtin "BaseException.__getattribute__")))
    (x2_NoItem : PySem.W.findIn K (.ref C_NoItem) "__getattr__" = some none)
    (no_NoItem_path : PySem.W.findIn K (.ref C_NoItem) "path" = some none)
    (aC_InvalidRule : PySem.W.nsIn K mainGlobals "InvalidRule" = some (some (.ref C_InvalidRule)))
    (ic_InvalidRule : PySem.W.isClsIn K C_InvalidRule = true)
    (e1_InvalidRule : PySem.W.excInitIn K C_InvalidRule Xo.exB "Exception.__new__" = true)
    (e2_InvalidRule : PySem.W.excOver K C_InvalidRule Xo.exB = true)
    (e3_InvalidRule : PySem.W.hasDictIn K C_InvalidRule = true)
    (e4_InvalidRule : PySem.W.findIn K (.ref C_InvalidRule) "__setattr__" = some (some (.builtin "object.__setattr__")))
    (e5_InvalidRule : PySem.W.subIn K (.ref C_InvalidRule) (.type "BaseException") = some true)
    (e6_InvalidRule : PySem.W.typeIn K (.ref C_InvalidRule) = some (.type "type"))
    (e7_InvalidRule : PySem.W.keepIn K (.ref C_InvalidRule) = true)
    (x1_InvalidRule : PySem.W.findIn K (.ref C_InvalidRule) "__getattribute__" = some (some (.builtin "BaseException.__getattribute__")))
    (x2_InvalidRule : PySem.W.findIn K (.ref C_InvalidRule) "__getattr__" = some none)
    (no_InvalidRule_place : PySem.W.findIn K (.ref C_InvalidRule) "place" = some none)
    (sb_NoItem_StayError : PySem.W.subIn K (.ref C_NoItem) (.ref C_StayError) = some true)
    (sb_NoItem_NoItem : PySem.W.subIn K (.ref C_NoItem) (.ref C_NoItem) = some true)
    (sb_NoItem_InvalidRule : PySem.W.subIn K (.ref C_NoItem) (.ref C_InvalidRule) = some false)
    (sb_InvalidRule_StayError : PySem.W.subIn K (.ref C_InvalidRule) (.ref C_StayError) = some true)
    (sb_InvalidRule_NoItem : PySem.W.subIn K (.ref C_InvalidRule) (.ref C_NoItem) = some false)
    (sb_InvalidRule_InvalidRule : PySem.W.subIn K (.ref C_InvalidRule) (.ref C_InvalidRule) = some true)
    (a_m_NoItem_init : PySem.W.findIn K (.ref C_NoItem) "__init__" = some (some (.ref f_m_NoItem_init)))
    (i_m_NoItem_init : PySem.W.isFn K (.ref f_m_NoItem_init) = true)
    (l_m_NoItem_init : K.lookup f_m_NoItem_init = some ⟨oc_m_NoItem_init, od_m_NoItem_init, .func (PySem.W.fnOf "__init__" "NoItem.__init__" (defArgs s_m_NoItem_init) (defBody s_m_NoItem_init) (defScope s_m_NoItem_init) .none kV_m_NoItem_init dc_m_NoItem_init pm_m_NoItem_init an_m_NoItem_init cd_m_NoItem_init ct_m_NoItem_init), sl_m_NoItem_init⟩)
    (c_m_NoItem_init : PySem.W.codeIn K cd_m_NoItem_init "NoItem.__init__" = true)
    (k_m_NoItem_init : PySem.W.keepIn K (.ref f_m_NoItem_init) = true)
    (a_m_InvalidRule_init : PySem.W.findIn K (.ref C_InvalidRule) "__init__" = some (some (.ref f_m_InvalidRule_init)))
    (i_m_InvalidRule_init : PySem.W.isFn K (.ref f_m_InvalidRule_init) = true)
    (l_m_InvalidRule_init : K.lookup f_m_InvalidRule_init = some ⟨oc_m_InvalidRule_init, od_m_InvalidRule_init, .func (PySem.W.fnOf "__init__" "InvalidRule.__init__" (defArgs s_m_InvalidRule_init) (defBody s_m_InvalidRule_init) (defScope s_m_InvalidRule_init) .none kV_m_InvalidRule_init dc_m_InvalidRule_init pm_m_InvalidRule_init an_m_InvalidRule_init cd_m_InvalidRule_init ct_m_InvalidRule_init), sl_m_InvalidRule_init⟩)
    (c_m_InvalidRule_init : PySem.W.codeIn K cd_m_InvalidRule_init "InvalidRule.__init__" = true)
    (k_m_InvalidRule_init : PySem.W.keepIn K (.ref f_m_InvalidRule_init) = true)
    (a_m_Rule_init : PySem.W.findIn K (.ref C_Rule) "__init__" = some (some (.ref f_m_Rule_init)))
    (i_m_Rule_init : PySem.W.isFn K (.ref f_m_Rule_init) = true)
    (l_m_Rule_init : K.lookup f_m_Rule_init = some ⟨oc_m_Rule_init, od_m_Rule_init, .func (PySem.W.fnOf "__init__" "Rule.__init__" (defArgs s_m_Rule_init) (defBody s_m_Rule_init) (defScope s_m_Rule_init) (.ref T_m_Rule_init) kV_m_Rule_init dc_m_Rule_init pm_m_Rule_init an_m_Rule_init cd_m_Rule_init ct_m_Rule_init), sl_m_Rule_init⟩)
    (c_m_Rule_init : PySem.W.codeIn K cd_m_Rule_init "Rule.__init__" = true)
    (k_m_Rule_init : PySem.W.keepIn K (.ref f_m_Rule_init) = true)
    (ld_m_Rule_init : K.lookup T_m_Rule_init = some ⟨t1_m_Rule_init, t2_m_Rule_init, .seq #[Value.str "all" tk_m_Rule_init0] t3_m_Rule_init, t4_m_Rule_init⟩)
    (ma_Rule : PySem.W.makesIn K C_Rule = true)
    (kc_Rule : PySem.W.keepIn K (.ref C_Rule) = true)
    (a_m_Rule_eq : PySem.W.findIn K (.ref C_Rule) "__eq__" = some (some (.ref f_m_Rule_eq)))
    (i_m_Rule_eq : PySem.W.isFn K (.ref f_m_Rule_eq) = true)
    (l_m_Rule_eq : K.lookup f_m_Rule_eq = some ⟨oc_m_Rule_eq, od_m_Rule_eq, .func (PySem.W.fnOf "__eq__" "Rule.__eq__" (defArgs s_m_Rule_eq) (defBody s_m_Rule_eq) (defScope s_m_Rule_eq) .none kV_m_Rule_eq dc_m_Rule_eq pm_m_Rule_eq an_m_Rule_eq cd_m_Rule_eq ct_m_Rule_eq), sl_m_Rule_eq⟩)
    (c_m_Rule_eq : PySem.W.codeIn K cd_m_Rule_eq "Rule.__eq__" = true)
    (k_m_Rule_eq : PySem.W.keepIn K (.ref f_m_Rule_eq) = true)
    (q1_Rule : PySem.W.findIn K (.ref C_Rule) "__ne__" = some (some (.builtin "object.__ne__")))
    (q2_Rule : PySem.W.mroIn K C_Rule (.type "object") = some true)
    (q3_Rule : PySem.W.isClsIn K C_Rule = true)
    (q4_Rule : PySem.W.typeIn K (.ref C_Rule) = some (.type "type"))
    (nt_Rule_str : PySem.W.subIn K (.type "str") (.ref C_Rule) = some false)
    (nt_Rule_tuple : PySem.W.subIn K (.type "tuple") (.ref C_Rule) = some false)
    (a_m_Rule_call : PySem.W.findIn K (.ref C_Rule) "__call__" = some (some (.ref f_m_Rule_call)))
    (i_m_Rule_call : PySem.W.isFn K (.ref f_m_Rule_call) = true)
    (l_m_Rule_call : K.lookup f_m_Rule_call = some ⟨oc_m_Rule_call, od_m_Rule_call, .func (PySem.W.fnOf "__call__" "Rule.__call__" (defArgs s_m_Rule_call) (defBody s_m_Rule_call) (defScope s_m_Rule_call) .none kV_m_Rule_call dc_m_Rule_call pm_m_Rule_call an_m_Rule_call cd_m_Rule_call ct_m_Rule_call), sl_m_Rule_call⟩)
    (c_m_Rule_call : PySem.W.codeIn K cd_m_Rule_call "Rule.__call__" = true)
    (k_m_Rule_call : PySem.W.keepIn K (.ref f_m_Rule_call) = true)
    (fi_Rule : PySem.W.fnIn K f_m_Rule_call = true)
    (a_m_Node_init : PySem.W.findIn K (.ref C_Node) "__init__" = some (some (.ref f_m_Node_init)))
    (i_m_Node_init : PySem.W.isFn K (.ref f_m_Node_init) = true)
    (l_m_Node_init : K.lookup f_m_Node_init = some ⟨oc_m_Node_init, od_m_Node_init, .func (PySem.W.fnOf "__init__" "Node.__init__" (defArgs s_m_Node_init) (defBody s_m_Node_init) (defScope s_m_Node_init) (.ref T_m_Node_init) kV_m_Node_init dc_m_Node_init pm_m_Node_init an_m_Node_init cd_m_Node_init ct_m_Node_init), sl_m_Node_init⟩)
    (c_m_Node_init : PySem.W.codeIn K cd_m_Node_init "Node.__init__" = true)
    (k_m_Node_init : PySem.W.keepIn K (.ref f_m_Node_init) = true)
    (ld_m_Node_init : K.lookup T_m_Node_init = some ⟨t1_m_Node_init, t2_m_Node_init, .seq #[Value.ref e_m_Node_init0] t3_m_Node_init, t4_m_Node_init⟩)
    (lte_m_Node_init0 : K.lookup e_m_Node_init0 = some ⟨.type "tuple", x2e_m_Node_init0, .seq #[] x3e_m_Node_init0, x4e_m_Node_init0⟩)
    (ma_Node : PySem.W.makesIn K C_Node = true)
    (kc_Node : PySem.W.keepIn K (.ref C_Node) = true)
    (a_l_stream : PySem.W.nsIn K mainGlobals "_law_stream" = some (some (.ref f_l_stream)))
    (l_l_stream : K.lookup f_l_stream = some ⟨oc_l_stream, od_l_stream, .func (PySem.W.fnOf "_law_stream" "_law_stream" (defArgs s_l_stream) (defBody s_l_stream) (defScope s_l_stream) .none kV_l_stream dc_l_stream pm_l_stream an_l_stream cd_l_stream ct_l_stream), sl_l_stream⟩)
    (c_l_stream : PySem.W.codeIn K cd_l_stream "_law_stream" = true)
    (k_l_stream : PySem.W.keepIn K (.ref f_l_stream) = true)
    (a_l_draw : PySem.W.nsIn K mainGlobals "_law_draw" = some (some (.ref f_l_draw)))
    (l_l_draw : K.lookup f_l_draw = some ⟨oc_l_draw, od_l_draw, .func (PySem.W.fnOf "_law_draw" "_law_draw" (defArgs s_l_draw) (defBody s_l_draw) (defScope s_l_draw) .none kV_l_draw dc_l_draw pm_l_draw an_l_draw cd_l_draw ct_l_draw), sl_l_draw⟩)
    (c_l_draw : PySem.W.codeIn K cd_l_draw "_law_draw" = true)
    (k_l_draw : PySem.W.keepIn K (.ref f_l_draw) = true)
    (a_l_same : PySem.W.nsIn K mainGlobals "_law_same" = some (some (.ref f_l_same)))
    (l_l_same : K.lookup f_l_same = some ⟨oc_l_same, od_l_same, .func (PySem.W.fnOf "_law_same" "_law_same" (defArgs s_l_same) (defBody s_l_same) (defScope s_l_same) .none kV_l_same dc_l_same pm_l_same an_l_same cd_l_same ct_l_same), sl_l_same⟩)
    (c_l_same : PySem.W.codeIn K cd_l_same "_law_same" = true)
    (k_l_same : PySem.W.keepIn K (.ref f_l_same) = true)
    (a_l_tree_key : PySem.W.nsIn K mainGlobals "_law_tree_key" = some (some (.ref f_l_tree_key)))
    (l_l_tree_key : K.lookup f_l_tree_key = some ⟨oc_l_tree_key, od_l_tree_key, .func (PySem.W.fnOf "_law_tree_key" "_law_tree_key" (defArgs s_l_tree_key) (defBody s_l_tree_key) (defScope s_l_tree_key) .none kV_l_tree_key dc_l_tree_key pm_l_tree_key an_l_tree_key cd_l_tree_key ct_l_tree_key), sl_l_tree_key⟩)
    (c_l_tree_key : PySem.W.codeIn K cd_l_tree_key "_law_tree_key" = true)
    (k_l_tree_key : PySem.W.keepIn K (.ref f_l_tree_key) = true)
    (a_l_tree : PySem.W.nsIn K mainGlobals "_law_tree" = some (some (.ref f_l_tree)))
    (l_l_tree : K.lookup f_l_tree = some ⟨oc_l_tree, od_l_tree, .func (PySem.W.fnOf "_law_tree" "_law_tree" (defArgs s_l_tree) (defBody s_l_tree) (defScope s_l_tree) .none kV_l_tree dc_l_tree pm_l_tree an_l_tree cd_l_tree ct_l_tree), sl_l_tree⟩)
    (c_l_tree : PySem.W.codeIn K cd_l_tree "_law_tree" = true)
    (k_l_tree : PySem.W.keepIn K (.ref f_l_tree) = true)
    (a_l_built : PySem.W.nsIn K mainGlobals "_law_built" = some (some (.ref f_l_built)))
    (l_l_built : K.lookup f_l_built = some ⟨oc_l_built, od_l_built, .func (PySem.W.fnOf "_law_built" "_law_built" (defArgs s_l_built) (defBody s_l_built) (defScope s_l_built) .none kV_l_built dc_l_built pm_l_built an_l_built cd_l_built ct_l_built), sl_l_built⟩)
    (c_l_built : PySem.W.codeIn K cd_l_built "_law_built" = true)
    (k_l_built : PySem.W.keepIn K (.ref f_l_built) = true)
    (a_l_slots : PySem.W.nsIn K mainGlobals "_law_slots" = some (some (.ref f_l_slots)))
    (l_l_slots : K.lookup f_l_slots = some ⟨oc_l_slots, od_l_slots, .func (PySem.W.fnOf "_law_slots" "_law_slots" (defArgs s_l_slots) (defBody s_l_slots) (defScope s_l_slots) .none kV_l_slots dc_l_slots pm_l_slots an_l_slots cd_l_slots ct_l_slots), sl_l_slots⟩)
    (c_l_slots : PySem.W.codeIn K cd_l_slots "_law_slots" = true)
    (k_l_slots : PySem.W.keepIn K (.ref f_l_slots) = true)
    (a_l_rule : PySem.W.nsIn K mainGlobals "_law_rule" = some (some (.ref f_l_rule)))
    (l_l_rule : K.lookup f_l_rule = some ⟨oc_l_rule, od_l_rule, .func (PySem.W.fnOf "_law_rule" "_law_rule" (defArgs s_l_rule) (defBody s_l_rule) (defScope s_l_rule) .none kV_l_rule dc_l_rule pm_l_rule an_l_rule cd_l_rule ct_l_rule), sl_l_rule⟩)
    (c_l_rule : PySem.W.codeIn K cd_l_rule "_law_rule" = true)
    (k_l_rule : PySem.W.keepIn K (.ref f_l_rule) = true)
    (a_l_refused : PySem.W.nsIn K mainGlobals "_law_refused" = some (some (.ref f_l_refused)))
    (l_l_refused : K.lookup f_l_refused = some ⟨oc_l_refused, od_l_refused, .func (PySem.W.fnOf "_law_refused" "_law_refused" (defArgs s_l_refused) (defBody s_l_refused) (defScope s_l_refused) .none kV_l_refused dc_l_refused pm_l_refused an_l_refused cd_l_refused ct_l_refused), sl_l_refused⟩)
    (c_l_refused : PySem.W.codeIn K cd_l_refused "_law_refused" = true)
    (k_l_refused : PySem.W.keepIn K (.ref f_l_refused) = true)
    (a_law : PySem.W.nsIn K mainGlobals "law" = some (some (.ref f_law)))
    (l_law : K.lookup f_law = some ⟨oc_law, od_law, .func (PySem.W.fnOf "law" "law" (defArgs s_law) (defBody s_law) (defScope s_law) .none kV_law dc_law pm_law an_law cd_law ct_law), sl_law⟩)
    (c_law : PySem.W.codeIn K cd_law "law" = true)
    (k_law : PySem.W.keepIn K (.ref f_law) = true)
    (z_bool : PySem.W.nsIn K mainGlobals "bool" = some none)
    (z_dict : PySem.W.nsIn K mainGlobals "dict" = some none)
    (z_enumerate : PySem.W.nsIn K mainGlobals "enumerate" = some none)
    (z_int : PySem.W.nsIn K mainGlobals "int" = some none)
    (z_isinstance : PySem.W.nsIn K mainGlobals "isinstance" = some none)
    (z_len : PySem.W.nsIn K mainGlobals "len" = some none)
    (z_list : PySem.W.nsIn K mainGlobals "list" = some none)
    (z_range : PySem.W.nsIn K mainGlobals "range" = some none)
    (z_str : PySem.W.nsIn K mainGlobals "str" = some none)
    (z_tuple : PySem.W.nsIn K mainGlobals "tuple" = some none)
    : ∃ T : Txt K mg, T.f_law = f_law ∧ ∀ (s : Shared) (v : Value), BindsTo s T.d_law ⟨[v], []⟩ [("_law_script", v)] := by
  refine ⟨{
    C_Rule := C_Rule
    cl_Rule := ⟨pg_Rule, hd_Rule, po_Rule, sa_Rule⟩
    gC_Rule := PySem.W.mg_of X G aC_Rule
    n_Rule_place := n_Rule_place
    is_Rule := ⟨xa_Rule, xn_Rule, xt_Rule, xm_Rule⟩
    u_Rule_ALL := (Value.str "all" tk_Rule_ALL)
    con_Rule_ALL := ⟨at_u_Rule_ALL, ⟨_, rfl⟩, ge_u_Rule_ALL, by decide +kernel⟩
    cv_Rule_ALL := ⟨cv1_u_Rule_ALL, ⟨_, rfl⟩⟩
    u_Rule_PLAIN := (Value.str "plain" tk_Rule_PLAIN)
    con_Rule_PLAIN := ⟨at_u_Rule_PLAIN, ⟨_, rfl⟩, ge_u_Rule_PLAIN, by decide +kernel⟩
    cv_Rule_PLAIN := ⟨cv1_u_Rule_PLAIN, ⟨_, rfl⟩⟩
    cr_Rule := ⟨cr1_Rule, cr2_Rule⟩
    C_Node := C_Node
    cl_Node := ⟨pg_Node, hd_Node, po_Node, sa_Node⟩
    gC_Node := PySem.W.mg_of X G aC_Node
    n_Node_key := n_Node_key
    n_Node_kind := n_Node_kind
    n_Node_nodes := n_Node_nodes
    n_Node_owner := n_Node_owner
    C_StayError := C_StayError
    gC_StayError := PySem.W.mg_of X G aC_StayError
    ba_StayError := ⟨b1_StayError, b2_StayError, b3_StayError⟩
    C_NoItem := C_NoItem
    gC_NoItem := PySem.W.mg_of X G aC_NoItem
    er_NoItem := ⟨e1_NoItem, e2_NoItem, e3_NoItem, e4_NoItem, e5_NoItem, e6_NoItem, e7_NoItem⟩
    xf_NoItem := ⟨x1_NoItem, x2_NoItem, e5_NoItem, e3_NoItem⟩
    no_NoItem_path := no_NoItem_path
    C_InvalidRule := C_InvalidRule
    gC_InvalidRule := PySem.W.mg_of X G aC_InvalidRule
    er_InvalidRule := ⟨e1_InvalidRule, e2_InvalidRule, e3_InvalidRule, e4_InvalidRule, e5_InvalidRule, e6_InvalidRule, e7_InvalidRule⟩
    xf_InvalidRule := ⟨x1_InvalidRule, x2_InvalidRule, e5_InvalidRule, e3_InvalidRule⟩
    no_InvalidRule_place := no_InvalidRule_place
    xm_NoItem_StayError := Xo.exm_mk e5_StayError ic_StayError e6_StayError sb_NoItem_StayError
    xm_NoItem_NoItem := Xo.exm_mk e5_NoItem ic_NoItem e6_NoItem sb_NoItem_NoItem
    xm_NoItem_InvalidRule := Xo.exm_mk e5_InvalidRule ic_InvalidRule e6_InvalidRule sb_NoItem_InvalidRule
    xm_InvalidRule_StayError := Xo.exm_mk e5_StayError ic_StayError e6_StayError sb_InvalidRule_StayError
    xm_InvalidRule_NoItem := Xo.exm_mk e5_NoItem ic_NoItem e6_NoItem sb_InvalidRule_NoItem
    xm_InvalidRule_InvalidRule := Xo.exm_mk e5_InvalidRule ic_InvalidRule e6_InvalidRule sb_InvalidRule_InvalidRule
    f_m_NoItem_init := f_m_NoItem_init
    d_m_NoItem_init := PySem.W.fnOf "__init__" "NoItem.__init__" (defArgs s_m_NoItem_init) (defBody s_m_NoItem_init) (defScope s_m_NoItem_init) .none kV_m_NoItem_init dc_m_NoItem_init pm_m_NoItem_init an_m_NoItem_init cd_m_NoItem_init ct_m_NoItem_init
    F_m_NoItem_init := fun_mk l_m_NoItem_init c_m_NoItem_init k_m_NoItem_init
    b_m_NoItem_init := (fun_mk (st := s_m_NoItem_init) l_m_NoItem_init c_m_NoItem_init k_m_NoItem_init).binds (ps := ["self", "path"]) fun _ _ _ _ _ _ us hl => match us, hl with | [_, _], _ => rfl
    in_NoItem := a_m_NoItem_init
    ti_NoItem := beq_iff_eq.mp i_m_NoItem_init
    f_m_InvalidRule_init := f_m_InvalidRule_init
    d_m_InvalidRule_init := PySem.W.fnOf "__init__" "InvalidRule.__init__" (defArgs s_m_InvalidRule_init) (defBody s_m_InvalidRule_init) (defScope s_m_InvalidRule_init) .none kV_m_InvalidRule_init dc_m_InvalidRule_init pm_m_InvalidRule_init an_m_InvalidRule_init cd_m_InvalidRule_init ct_m_InvalidRule_init
    F_m_InvalidRule_init := fun_mk l_m_InvalidRule_init c_m_InvalidRule_init k_m_InvalidRule_init
    b_m_InvalidRule_init := (fun_mk (st := s_m_InvalidRule_init) l_m_InvalidRule_init c_m_InvalidRule_init k_m_InvalidRule_init).binds (ps := ["self", "place"]) fun _ _ _ _ _ _ us hl => match us, hl with | [_, _], _ => rfl
    in_InvalidRule := a_m_InvalidRule_init
    ti_InvalidRule := beq_iff_eq.mp i_m_InvalidRule_init
    f_m_Rule_init := f_m_Rule_init
    d_m_Rule_init := PySem.W.fnOf "__init__" "Rule.__init__" (defArgs s_m_Rule_init) (defBody s_m_Rule_init) (defScope s_m_Rule_init) (.ref T_m_Rule_init) kV_m_Rule_init dc_m_Rule_init pm_m_Rule_init an_m_Rule_init cd_m_Rule_init ct_m_Rule_init
    F_m_Rule_init := ⟨⟨_, _, _, _, _, _, _, _, _, _, rfl, l_m_Rule_init, c_m_Rule_init, .inr ⟨by simp, T_m_Rule_init, _, [Value.str "all" tk_m_Rule_init0], _, rfl, ld_m_Rule_init, rfl, .cons ⟨_, rfl⟩ (.nil)⟩, .inl rfl⟩, k_m_Rule_init⟩
    b1_m_Rule_init := (show FunD K "__init__" "Rule.__init__" (defArgs s_m_Rule_init) (defBody s_m_Rule_init) (defScope s_m_Rule_init) [V.str "all"] [] f_m_Rule_init (PySem.W.fnOf "__init__" "Rule.__init__" (defArgs s_m_Rule_init) (defBody s_m_Rule_init) (defScope s_m_Rule_init) (.ref T_m_Rule_init) kV_m_Rule_init dc_m_Rule_init pm_m_Rule_init an_m_Rule_init cd_m_Rule_init ct_m_Rule_init) from ⟨⟨_, _, _, _, _, _, _, _, _, _, rfl, l_m_Rule_init, c_m_Rule_init, .inr ⟨by simp, T_m_Rule_init, _, [Value.str "all" tk_m_Rule_init0], _, rfl, ld_m_Rule_init, rfl, .cons ⟨_, rfl⟩ (.nil)⟩, .inl rfl⟩, k_m_Rule_init⟩).binds1 (ps := ["self", "place"]) 1 0 (by simp) (by rfl) fun T kV doc pm an cdv ct us its hl hi => match us, hl, its, hi with | [_], _, [_], _ => ⟨_, rfl, rfl⟩
    b2_m_Rule_init := (show FunD K "__init__" "Rule.__init__" (defArgs s_m_Rule_init) (defBody s_m_Rule_init) (defScope s_m_Rule_init) [V.str "all"] [] f_m_Rule_init (PySem.W.fnOf "__init__" "Rule.__init__" (defArgs s_m_Rule_init) (defBody s_m_Rule_init) (defScope s_m_Rule_init) (.ref T_m_Rule_init) kV_m_Rule_init dc_m_Rule_init pm_m_Rule_init an_m_Rule_init cd_m_Rule_init ct_m_Rule_init) from ⟨⟨_, _, _, _, _, _, _, _, _, _, rfl, l_m_Rule_init, c_m_Rule_init, .inr ⟨by simp, T_m_Rule_init, _, [Value.str "all" tk_m_Rule_init0], _, rfl, ld_m_Rule_init, rfl, .cons ⟨_, rfl⟩ (.nil)⟩, .inl rfl⟩, k_m_Rule_init⟩).binds1 (ps := ["self", "place"]) 2 1 (by simp) (by rfl) fun T kV doc pm an cdv ct us its hl hi => match us, hl, its, hi with | [_, _], _, [_], _ => ⟨_, rfl, rfl⟩
    mk_Rule := ⟨ma_Rule, a_m_Rule_init, i_m_Rule_init, kc_Rule⟩
    f_m_Rule_eq := f_m_Rule_eq
    d_m_Rule_eq := PySem.W.fnOf "__eq__" "Rule.__eq__" (defArgs s_m_Rule_eq) (defBody s_m_Rule_eq) (defScope s_m_Rule_eq) .none kV_m_Rule_eq dc_m_Rule_eq pm_m_Rule_eq an_m_Rule_eq cd_m_Rule_eq ct_m_Rule_eq
    F_m_Rule_eq := fun_mk l_m_Rule_eq c_m_Rule_eq k_m_Rule_eq
    b_m_Rule_eq := (fun_mk (st := s_m_Rule_eq) l_m_Rule_eq c_m_Rule_eq k_m_Rule_eq).binds (ps := ["self", "other"]) fun _ _ _ _ _ _ us hl => match us, hl with | [_, _], _ => rfl
    eqc_Rule := ⟨a_m_Rule_eq, i_m_Rule_eq, q1_Rule, q2_Rule⟩
    nt_Rule_str := Xo.not_mk q3_Rule q4_Rule nt_Rule_str
    nt_Rule_tuple := Xo.not_mk q3_Rule q4_Rule nt_Rule_tuple
    me_m_Rule_eq := ⟨a_m_Rule_eq, i_m_Rule_eq, k_m_Rule_eq⟩
    f_m_Rule_call := f_m_Rule_call
    d_m_Rule_call := PySem.W.fnOf "__call__" "Rule.__call__" (defArgs s_m_Rule_call) (defBody s_m_Rule_call) (defScope s_m_Rule_call) .none kV_m_Rule_call dc_m_Rule_call pm_m_Rule_call an_m_Rule_call cd_m_Rule_call ct_m_Rule_call
    F_m_Rule_call := fun_mk l_m_Rule_call c_m_Rule_call k_m_Rule_call
    b_m_Rule_call := (fun_mk (st := s_m_Rule_call) l_m_Rule_call c_m_Rule_call k_m_Rule_call).binds (ps := ["self", "nodes"]) fun _ _ _ _ _ _ us hl => match us, hl with | [_, _], _ => rfl
    co_Rule := ⟨a_m_Rule_call, i_m_Rule_call, fi_Rule⟩
    f_m_Node_init := f_m_Node_init
    d_m_Node_init := PySem.W.fnOf "__init__" "Node.__init__" (defArgs s_m_Node_init) (defBody s_m_Node_init) (defScope s_m_Node_init) (.ref T_m_Node_init) kV_m_Node_init dc_m_Node_init pm_m_Node_init an_m_Node_init cd_m_Node_init ct_m_Node_init
    e_m_Node_init0 := e_m_Node_init0
    he_m_Node_init0 := sqT0 lte_m_Node_init0
    F_m_Node_init := ⟨⟨_, _, _, _, _, _, _, _, _, _, rfl, l_m_Node_init, c_m_Node_init, .inr ⟨by simp, T_m_Node_init, _, [Value.ref e_m_Node_init0], _, rfl, ld_m_Node_init, rfl, .cons rfl (.nil)⟩, .inl rfl⟩, k_m_Node_init⟩
    b4_m_Node_init := (show FunD K "__init__" "Node.__init__" (defArgs s_m_Node_init) (defBody s_m_Node_init) (defScope s_m_Node_init) [V.ref e_m_Node_init0] [] f_m_Node_init (PySem.W.fnOf "__init__" "Node.__init__" (defArgs s_m_Node_init) (defBody s_m_Node_init) (defScope s_m_Node_init) (.ref T_m_Node_init) kV_m_Node_init dc_m_Node_init pm_m_Node_init an_m_Node_init cd_m_Node_init ct_m_Node_init) from ⟨⟨_, _, _, _, _, _, _, _, _, _, rfl, l_m_Node_init, c_m_Node_init, .inr ⟨by simp, T_m_Node_init, _, [Value.ref e_m_Node_init0], _, rfl, ld_m_Node_init, rfl, .cons rfl (.nil)⟩, .inl rfl⟩, k_m_Node_init⟩).binds1 (ps := ["self", "kind", "key", "owner", "nodes"]) 4 0 (by simp) (by rfl) fun T kV doc pm an cdv ct us its hl hi => match us, hl, its, hi with | [_, _, _, _], _, [_], _ => ⟨_, rfl, rfl⟩
    b5_m_Node_init := (show FunD K "__init__" "Node.__init__" (defArgs s_m_Node_init) (defBody s_m_Node_init) (defScope s_m_Node_init) [V.ref e_m_Node_init0] [] f_m_Node_init (PySem.W.fnOf "__init__" "Node.__init__" (defArgs s_m_Node_init) (defBody s_m_Node_init) (defScope s_m_Node_init) (.ref T_m_Node_init) kV_m_Node_init dc_m_Node_init pm_m_Node_init an_m_Node_init cd_m_Node_init ct_m_Node_init) from ⟨⟨_, _, _, _, _, _, _, _, _, _, rfl, l_m_Node_init, c_m_Node_init, .inr ⟨by simp, T_m_Node_init, _, [Value.ref e_m_Node_init0], _, rfl, ld_m_Node_init, rfl, .cons rfl (.nil)⟩, .inl rfl⟩, k_m_Node_init⟩).binds1 (ps := ["self", "kind", "key", "owner", "nodes"]) 5 1 (by simp) (by rfl) fun T kV doc pm an cdv ct us its hl hi => match us, hl, its, hi with | [_, _, _, _, _], _, [_], _ => ⟨_, rfl, rfl⟩
    mk_Node := ⟨ma_Node, a_m_Node_init, i_m_Node_init, kc_Node⟩
    f_l_stream := f_l_stream
    d_l_stream := PySem.W.fnOf "_law_stream" "_law_stream" (defArgs s_l_stream) (defBody s_l_stream) (defScope s_l_stream) .none kV_l_stream dc_l_stream pm_l_stream an_l_stream cd_l_stream ct_l_stream
    g_l_stream := PySem.W.mg_of X G a_l_stream
    F_l_stream := fun_mk l_l_stream c_l_stream k_l_stream
    b_l_stream := (fun_mk (st := s_l_stream) l_l_stream c_l_stream k_l_stream).binds (ps := ["_law_script"]) fun _ _ _ _ _ _ us hl => match us, hl with | [_], _ => rfl
    f_l_draw := f_l_draw
    d_l_draw := PySem.W.fnOf "_law_draw" "_law_draw" (defArgs s_l_draw) (defBody s_l_draw) (defScope s_l_draw) .none kV_l_draw dc_l_draw pm_l_draw an_l_draw cd_l_draw ct_l_draw
    g_l_draw := PySem.W.mg_of X G a_l_draw
    F_l_draw := fun_mk l_l_draw c_l_draw k_l_draw
    b_l_draw := (fun_mk (st := s_l_draw) l_l_draw c_l_draw k_l_draw).binds (ps := ["_law_stream_here", "_law_many"]) fun _ _ _ _ _ _ us hl => match us, hl with | [_, _], _ => rfl
    f_l_same := f_l_same
    d_l_same := PySem.W.fnOf "_law_same" "_law_same" (defArgs s_l_same) (defBody s_l_same) (defScope s_l_same) .none kV_l_same dc_l_same pm_l_same an_l_same cd_l_same ct_l_same
    g_l_same := PySem.W.mg_of X G a_l_same
    F_l_same := fun_mk l_l_same c_l_same k_l_same
    b_l_same := (fun_mk (st := s_l_same) l_l_same c_l_same k_l_same).binds (ps := ["_law_actual", "_law_expected"]) fun _ _ _ _ _ _ us hl => match us, hl with | [_, _], _ => rfl
    f_l_tree_key := f_l_tree_key
    d_l_tree_key := PySem.W.fnOf "_law_tree_key" "_law_tree_key" (defArgs s_l_tree_key) (defBody s_l_tree_key) (defScope s_l_tree_key) .none kV_l_tree_key dc_l_tree_key pm_l_tree_key an_l_tree_key cd_l_tree_key ct_l_tree_key
    g_l_tree_key := PySem.W.mg_of X G a_l_tree_key
    F_l_tree_key := fun_mk l_l_tree_key c_l_tree_key k_l_tree_key
    b_l_tree_key := (fun_mk (st := s_l_tree_key) l_l_tree_key c_l_tree_key k_l_tree_key).binds (ps := ["_law_stream_here"]) fun _ _ _ _ _ _ us hl => match us, hl with | [_], _ => rfl
    f_l_tree := f_l_tree
    d_l_tree := PySem.W.fnOf "_law_tree" "_law_tree" (defArgs s_l_tree) (defBody s_l_tree) (defScope s_l_tree) .none kV_l_tree dc_l_tree pm_l_tree an_l_tree cd_l_tree ct_l_tree
    g_l_tree := PySem.W.mg_of X G a_l_tree
    F_l_tree := fun_mk l_l_tree c_l_tree k_l_tree
    b_l_tree := (fun_mk (st := s_l_tree) l_l_tree c_l_tree k_l_tree).binds (ps := ["_law_stream_here", "_law_most", "_law_deep", "_law_place"]) fun _ _ _ _ _ _ us hl => match us, hl with | [_, _, _, _], _ => rfl
    f_l_built := f_l_built
    d_l_built := PySem.W.fnOf "_law_built" "_law_built" (defArgs s_l_built) (defBody s_l_built) (defScope s_l_built) .none kV_l_built dc_l_built pm_l_built an_l_built cd_l_built ct_l_built
    g_l_built := PySem.W.mg_of X G a_l_built
    F_l_built := fun_mk l_l_built c_l_built k_l_built
    b_l_built := (fun_mk (st := s_l_built) l_l_built c_l_built k_l_built).binds (ps := ["_law_nodes"]) fun _ _ _ _ _ _ us hl => match us, hl with | [_], _ => rfl
    f_l_slots := f_l_slots
    d_l_slots := PySem.W.fnOf "_law_slots" "_law_slots" (defArgs s_l_slots) (defBody s_l_slots) (defScope s_l_slots) .none kV_l_slots dc_l_slots pm_l_slots an_l_slots cd_l_slots ct_l_slots
    g_l_slots := PySem.W.mg_of X G a_l_slots
    F_l_slots := fun_mk l_l_slots c_l_slots k_l_slots
    b_l_slots := (fun_mk (st := s_l_slots) l_l_slots c_l_slots k_l_slots).binds (ps := ["_law_nodes", "_law_place"]) fun _ _ _ _ _ _ us hl => match us, hl with | [_, _], _ => rfl
    f_l_rule := f_l_rule
    d_l_rule := PySem.W.fnOf "_law_rule" "_law_rule" (defArgs s_l_rule) (defBody s_l_rule) (defScope s_l_rule) .none kV_l_rule dc_l_rule pm_l_rule an_l_rule cd_l_rule ct_l_rule
    g_l_rule := PySem.W.mg_of X G a_l_rule
    F_l_rule := fun_mk l_l_rule c_l_rule k_l_rule
    b_l_rule := (fun_mk (st := s_l_rule) l_l_rule c_l_rule k_l_rule).binds (ps := ["_law_way"]) fun _ _ _ _ _ _ us hl => match us, hl with | [_], _ => rfl
    f_l_refused := f_l_refused
    d_l_refused := PySem.W.fnOf "_law_refused" "_law_refused" (defArgs s_l_refused) (defBody s_l_refused) (defScope s_l_refused) .none kV_l_refused dc_l_refused pm_l_refused an_l_refused cd_l_refused ct_l_refused
    g_l_refused := PySem.W.mg_of X G a_l_refused
    F_l_refused := fun_mk l_l_refused c_l_refused k_l_refused
    b_l_refused := (fun_mk (st := s_l_refused) l_l_refused c_l_refused k_l_refused).binds (ps := ["_law_value"]) fun _ _ _ _ _ _ us hl => match us, hl with | [_], _ => rfl
    f_law := f_law
    d_law := PySem.W.fnOf "law" "law" (defArgs s_law) (defBody s_law) (defScope s_law) .none kV_law dc_law pm_law an_law cd_law ct_law
    g_law := PySem.W.mg_of X G a_law
    F_law := fun_mk l_law c_law k_law
    b_law := (fun_mk (st := s_law) l_law c_law k_law).binds (ps := ["_law_script"]) fun _ _ _ _ _ _ us hl => match us, hl with | [_], _ => rfl
    z_bool := PySem.W.mg_none_of X G z_bool
    z_dict := PySem.W.mg_none_of X G z_dict
    z_enumerate := PySem.W.mg_none_of X G z_enumerate
    z_int := PySem.W.mg_none_of X G z_int
    z_isinstance := PySem.W.mg_none_of X G z_isinstance
    z_len := PySem.W.mg_none_of X G z_len
    z_list := PySem.W.mg_none_of X G z_list
    z_range := PySem.W.mg_none_of X G z_range
    z_str := PySem.W.mg_none_of X G z_str
    z_tuple := PySem.W.mg_none_of X G z_tuple
    }, rfl, fun s v => .of_eq rfl⟩
end G
set_option Elab.async false
set_option linter.all false
set_option maxRecDepth 100000
set_option maxHeartbeats 400000
/-! calls whose errors are wished for at the caller's slots: C(..), o.m(..) -/
namespace Xo
open PySem PySem.Spec PyProof.Rows L2
section
variable {X : Cx} {cx : CXT} {k : Nat} {f C : Addr} {fd : FuncData} {ps : List Str} {sp : Sp} {E : L2.St → XK} {x m : Str} {p pos apos : Pos} {e o : Expr} {es : List Expr} {ta : TE} {t : TA} {ds : List Value} {dvs : List V}
theorem runMk {pins : List (Addr × Obj)} {σ : L2.St} {H : Hp} {s : Shared} {Q : VK} {us : List Value} {vs : List V} {EE : XK} (M : Mk X.K C f) (F : FnOk X.prog X.w X.K X.mg X.base cx k f fd ps sp) (hr : Room (k + 1) X.A) (hb : Binds X.K fd ps ds) (hd : Vals dvs ds)
    (hx : PassesAt cx X σ EE) (I : Inv X pins σ H s) (r : Vals vs us)
    (h : ∀ y dx, H y = none → H dx = none → dx ≠ y → sp (.ref y :: (vs ++ dvs)) (upd (upd H dx (.own y)) y (.ins C dx [])) (fun v H2 => v = .non ∧ Q (.ref y) H2) EE) :
    wpAny (model X.prog X.w) X.A (call (.ref C) us) (EP X pins σ Q) X.xe s := by
  have sq := h (s.heap.objs.size + 1) s.heap.objs.size (I.hok.fresh (Nat.le_succ _)) (I.hok.fresh (Nat.le_refl _)) (Nat.ne_of_lt (Nat.lt_succ_self _))
  have J := Inv.made (C := C) I
  have rr : Vals (V.ref (s.heap.objs.size + 1) :: (vs ++ dvs)) (Value.ref (s.heap.objs.size + 1) :: (us ++ ds)) := .cons rfl (r.append hd)
  have ln : (Value.ref (s.heap.objs.size + 1) :: us ++ ds).length = ps.length := by
    have z := rr.length
    rw [F.len _ _ _ _ sq] at z
    exact z.symm
  have run := F.run _ X.stack _ _ ⟨Value.ref (s.heap.objs.size + 1) :: us, []⟩ (Value.ref (s.heap.objs.size + 1) :: (us ++ ds)) _ _ EE (hr.make C us []) (J.env0.make C us []) (hb _ (Value.ref (s.heap.objs.size + 1) :: us) J.kIn ln) rr sq
  refine wpAny_call (make_map (f := f) I.kIn M.makes M.init (beq_iff_eq.mp M.fn) (codeAny_mono run ?_))
  intro q s1 hq
  cases q with
  | error er => exact hx pins _ _ er s1 J hq
  | ok fl =>
    cases fl with
    | next => exact hq.elim
    | brk => exact hq.elim
    | cont => exact hq.elim
    | ret u =>
      obtain ⟨v, H1, I3, rv, rfl, q3⟩ := J.after hq
      exact ⟨rv, V.ref (s.heap.objs.size + 1), H1, I3, rfl, q3⟩
def tMkS (C : Addr) (sp : Sp) (dvs : List V) (E : L2.St → XK) (t : TA) : TE := fun σ H Q => tMake C sp dvs (E σ) t σ H Q
theorem pe_mkS (M : Mk X.K C f) (F : FnOk X.prog X.w X.K X.mg X.base cx k f fd ps sp) (hr : Room (k + 1) X.A) (hg : Gl X x) (hm : X.mg x = some (.ref C)) (hb : Binds X.K fd ps ds) (hd : Vals dvs ds) (hx : ∀ σ, PassesAt cx X σ (E σ))
    (ha : PA X (e :: es) t) (hdb : (x == ("__debug__" : Str)) = false := by decide) (he : starEach (e :: es) X.env = (false, eval e X.env) :: starEach es X.env := by rfl) (hpl : (backTo pos (starEach es X.env)).any (·.1) = false := by rfl) :
    PE X (.Call (.Name x p) (e :: es) [] pos) (tMkS C sp dvs E t) := by
  constructor
  intro pins s σ H Q I h
  refine wpAny_Call_Name_kw (ld_glob I hg hm ?_ hdb)
  refine PySem.W.callWith_K (h₀ := X.base) I.ok.mod.kin M.kp (thn (ha.run pos pins s σ H _ I h) ?_) he hpl
  rintro us s1 ⟨vs, H1, I1, r, q⟩
  exact ⟨I1.kIn, runMk M F hr hb hd (hx σ) I1 r q⟩
end
end Xo
set_option Elab.async false
set_option linter.all false
set_option maxRecDepth 100000
set_option maxHeartbeats 400000
namespace G
open PySem L2 Nd
/-- no place of a rule -/
def Odd (K : PySem.W.Frag) (H : Hp) (v : V) : Prop := (∃ t, TyX K H v t ∧ PySem.W.kitOne K t (.type "str") = some false) ∨ ∃ z : Str, v = .str z ∧ z ≠ "all" ∧ z ≠ "plain"
def spRuleBad (K : PySem.W.Frag) (C Ce : Addr) : Sp := fun vs H Q E => ∃ (p dx : Addr) (v : V), vs = [.ref p, v] ∧ H p = some (.ins C dx []) ∧ Odd K H v ∧ ∀ d H', Same H H' → H' d = some (.xd [("place", v)]) → E (.ref Ce) (some d) H'
def spRuleEq (C : Addr) (K : PySem.W.Frag) : Sp := fun vs H Q _ => ∃ (p dx : Addr) (z : Str) (y : V), vs = [.ref p, y] ∧ H p = some (.ins C dx (ruF z)) ∧
  ((∃ t, TyX K H y t ∧ PySem.W.kitOne K t (.ref C) = some false ∧ Q (.bl false) H) ∨ ∃ (q dy : Addr) (z' : Str), y = .ref q ∧ H q = some (.ins C dy (ruF z')) ∧ Q (.bl (decide (z = z'))) H)
def spRule (C : Addr) : Sp := fun vs H Q _ => ∃ (i : Int), vs = [.int i] ∧ 0 ≤ i ∧ i < 5 ∧ ∀ (r dx : Addr) (H' : Hp), Same H H' → H' r = some (.ins C dx (ruF (placeOf (decide (i < 3))))) → Q (.ref r) H'
def spRefused (K : PySem.W.Frag) (n : Nat) : Sp := fun vs H Q _ => ∃ (v : V) (P : Addr → Prop) (d : Dat), vs = [v] ∧ Odd K H v ∧ At P H v d ∧ depD d < n ∧ ∀ H', Same H H' → Q (.bl true) H'
theorem TyX.same {K : PySem.W.Frag} {H H' : Hp} {v : V} {t : Value} (h : TyX K H v t) (e : Same H H') : TyX K H' v t := by
  cases h with
  | base h => cases h with
    | non => exact .base .non
    | bl b => exact .base (.bl b)
    | int i => exact .base (.int i)
    | str z => exact .base (.str z)
    | flt z => exact .base (.flt z)
    | lst q => exact .base (.lst (e _ _ q))
    | frz q => exact .base (.frz (e _ _ q))
    | tup q => exact .base (.tup (e _ _ q))
    | dK q => exact .base (.dK (e _ _ q))
    | dT q => exact .base (.dT (e _ _ q))
    | ins q c a b d f => exact .base (.ins (e _ _ q) c a b d f)
  | byt b => exact .byt b
  | set q => exact .set (e _ _ q)
  | kList q c => exact .kList q c
  | kTuple q c => exact .kTuple q c
  | kDict q c => exact .kDict q c
  | fTuple q => exact .fTuple (e _ _ q)
  | fDict q => exact .fDict (e _ _ q)
theorem Odd.same {K : PySem.W.Frag} {H H' : Hp} {v : V} (h : Odd K H v) (e : Same H H') : Odd K H' v := by
  rcases h with ⟨t, h1, h2⟩ | h
  · exact .inl ⟨t, TyX.same h1 e, h2⟩
  · exact .inr h
end G
set_option Elab.async false
set_option linter.all false
set_option maxRecDepth 100000
set_option maxHeartbeats 600000
namespace G
open PySem L2 Nd
section
variable {P : Program} {w : World} {K : PySem.W.Frag} {mg : Str → Option Value} {base : Heap}
theorem ok_m_Rule_eq (T : Txt K mg) : FnOk P w K mg base CX0 1 T.f_m_Rule_eq T.d_m_Rule_eq ["self", "other"] (spRuleEq T.C_Rule K) := by
  refine T.F_m_Rule_eq.ok sc_m_Rule_eq (fun vs H Q E h => ?_) (fun cdv A outer s H vs Q E hr h => ?_)
  · obtain ⟨_, _, _, _, rfl, _⟩ := h
    rfl
  · obtain ⟨p, dx, z, y, rfl, hp, h⟩ := h
    refine ⟨_, (pss_one (ps_ret (pe_and (pe_callB call_isi (by rfl) T.z_isinstance (by decide +kernel) (pa_cons (pv 1) (pa_cons (pe_glob (v := .ref T.C_Rule) rfl T.gC_Rule rfl) pa_nil))) (pe_one (pe_cmpR op_eq (pe_fld (pv 0) rfl) (pe_fld (pv 1) rfl) (nomark _)))))), ?_⟩
    rcases h with ⟨t, ty, kt, q⟩ | ⟨qq, dy, z', rfl, hq, q⟩
    · refine ⟨_, rfl, _, _, _, _, false, rfl, .own T.C_Rule, ty, kt, false, rfl, ?_⟩
      exact q
    · refine ⟨_, rfl, _, _, _, _, true, rfl, .own T.C_Rule, .base (.ins hq T.cl_Rule T.is_Rule.ha T.is_Rule.hn T.is_Rule.htk T.is_Rule.hm), T.is_Rule.hk, true, rfl, ?_⟩
      refine ⟨_, rfl, p, T.C_Rule, dx, _, _, rfl, hp, T.cl_Rule, T.n_Rule_place, ruF_place _, _, rfl, qq, T.C_Rule, dy, _, _, rfl, hq, T.cl_Rule, T.n_Rule_place, ruF_place _, rfl, ?_⟩
      have : decide (V.str z = V.str z') = decide (z = z') := by simp
      rw [this]
      exact q

end
end G
set_option Elab.async false
set_option linter.all false
set_option maxRecDepth 100000
set_option maxHeartbeats 4000000
namespace G
open PySem L2 Nd
section
variable {P : Program} {w : World} {K : PySem.W.Frag} {mg : Str → Option Value} {base : Heap}
theorem ok_m_Node_init (T : Txt K mg) : FnOk P w K mg base CX0 1 T.f_m_Node_init T.d_m_Node_init ["self", "kind", "key", "owner", "nodes"] (spNodeInit K T.C_Node) := by
  refine T.F_m_Node_init.ok sc_m_Node_init (fun vs H Q E h => ?_) (fun cdv A outer s H vs Q E hr h => ?_)
  · obtain ⟨_, _, _, _, _, _, _, rfl, _⟩ := h
    rfl
  · obtain ⟨p, dx, a, vk, vy, vo, xs, rfl, hp, ha, k⟩ := h
    refine ⟨_, (pss_cons (ps_fld (pv 0) (pv 1) rfl)
        (pss_cons (ps_fld (pv 0) (pv 2) rfl)
        (pss_cons (ps_fld (pv 0) (pv 3) rfl)
        (pss_one (ps_fld (pv 0) (pe_callTy call_list_of (by rfl) T.z_list (by decide +kernel) (pa_cons (pv 4) pa_nil)) rfl))))), ?_⟩
    have a1 := ha.upd (o := .ins T.C_Node dx (putF "kind" vk [])) hp
    have a2 := a1.upd (o := .ins T.C_Node dx (putF "key" vy (putF "kind" vk []))) upd_same
    have a3 := a2.upd (o := .ins T.C_Node dx (putF "owner" vo (putF "key" vy (putF "kind" vk [])))) upd_same
    refine ⟨_, rfl, _, rfl, p, T.C_Node, dx, _, rfl, hp, T.cl_Node, T.n_Node_kind, (by show 0 < 1000; decide), ?_⟩
    refine ⟨_, rfl, _, rfl, p, T.C_Node, dx, _, rfl, upd_same, T.cl_Node, T.n_Node_key, (by show 1 < 1000; decide), ?_⟩
    refine ⟨_, rfl, _, rfl, p, T.C_Node, dx, _, rfl, upd_same, T.cl_Node, T.n_Node_owner, (Nat.lt_of_lt_of_le (put_lt (put_lt (n := 1) (by decide) (by decide)) (by decide)) (by decide)), ?_⟩
    refine ⟨_, rfl, a, xs, rfl, a3, fun b hb => ?_⟩
    have hbp : b ≠ p := fun z => by rw [z, upd_same] at hb; cases hb
    have hpb : p ≠ b := Ne.symm hbp
    refine ⟨_, rfl, p, T.C_Node, dx, _, rfl, (by rw [upd_ne hpb]; exact upd_same), T.cl_Node, T.n_Node_nodes, (Nat.lt_of_lt_of_le (put_lt (put_lt (put_lt (n := 1) (by decide) (by decide)) (by decide)) (by decide)) (by decide)), ?_⟩
    refine k b _ ?_ upd_same (by rw [upd_ne hbp]; exact upd_same) fun c o e hc => ?_
    · rw [upd_ne hbp, upd_ne hbp, upd_ne hbp] at hb
      exact hb
    · have hcb : c ≠ b := fun z => by
        rw [← z, upd_ne hc, upd_ne hc, upd_ne hc, e] at hb
        cases hb
      rw [upd_ne hc, upd_ne hcb, upd_ne hc, upd_ne hc, upd_ne hc]
      exact e
theorem ok_m_Rule_init (T : Txt K mg) : FnOk P w K mg base CX0 1 T.f_m_Rule_init T.d_m_Rule_init ["self", "place"] (spRuleInit T.C_Rule) := by
  refine T.F_m_Rule_init.ok sc_m_Rule_init (fun vs H Q E h => ?_) (fun cdv A outer s H vs Q E hr h => ?_)
  · obtain ⟨_, _, _, rfl, _⟩ := h
    rfl
  · obtain ⟨p, dx, all, rfl, hp, k⟩ := h
    refine ⟨_, (pss_cons (ps_if (PW.pt (pw_or (pt_not (pt_val (pe_callB call_isi (by rfl) T.z_isinstance (by decide +kernel) (pa_cons (pv 1) (pa_cons (pe_bltn (v := .ty "str") (u := .type "str") rfl T.z_str (by decide +kernel) rfl) pa_nil))))) (pw_or1 (pt_cmpR op_notIn_seq (pv 1) (pe_tup (pa_cons (pe_con (pv 0) rfl) (pa_cons (pe_con (pv 0) rfl) pa_nil))) (by rfl)))))
          (pss_one ps_never)
          pss_nil)
        (pss_one (ps_fld (pv 0) (pv 1) rfl))), ?_⟩
    refine ⟨_, rfl, _, _, _, _, true, rfl, .ty "str", .base (.str _), kit_ty (by decide +kernel), true, rfl, ?_⟩
    refine iteF ?_
    refine ⟨_, rfl, _, rfl, p, T.C_Rule, dx, _, _, _, rfl, hp, T.cl_Rule, T.con_Rule_ALL, rfl, _, rfl, p, T.C_Rule, dx, _, _, _, rfl, hp, T.cl_Rule, T.con_Rule_PLAIN, rfl, by show 2 ≤ sizeLine; decide, fun t ht => ?_⟩
    have hpt : p ≠ t := ne_of_none hp ht
    refine ⟨t, _, rfl, .inr (SqT.of upd_same), rfl, rfl, false, ?_, ?_⟩
    · cases all <;> decide +kernel
    refine iteF ?_
    refine ⟨_, rfl, _, rfl, p, T.C_Rule, dx, _, rfl, (by rw [upd_ne hpt]; exact hp), T.cl_Rule, T.n_Rule_place, (by show 0 < 1000; decide), ?_⟩
    exact k _ upd_same fun c o e hc => by rw [upd_ne hc, upd_ne (ne_of_none e ht)]; exact e
end
end G
set_option Elab.async false
set_option linter.all false
set_option maxRecDepth 100000
set_option maxHeartbeats 600000
namespace G
open PySem L2 Nd
section
variable {P : Program} {w : World} {K : PySem.W.Frag} {mg : Str → Option Value} {base : Heap}
theorem ok_l_rule (T : Txt K mg) : FnOk P w K mg base CX0 3 T.f_l_rule T.d_l_rule ["_law_way"] (spRule T.C_Rule) := by
  have G_m_Rule_init : FnOk P w K mg base CX0 1 T.f_m_Rule_init T.d_m_Rule_init ["self", "place"] (spRuleInit T.C_Rule) := ok_m_Rule_init T
  obtain ⟨dr1, vr1, br1⟩ := T.b1_m_Rule_init
  obtain ⟨dr2, vr2, br2⟩ := T.b2_m_Rule_init
  refine T.F_l_rule.ok sc_l_rule (fun vs H Q E h => ?_) (fun cdv A outer s H vs Q E hr h => ?_)
  · obtain ⟨_, rfl, _⟩ := h
    rfl
  · obtain ⟨i, rfl, i0, i5, k⟩ := h
    refine ⟨_, (pss_cons (ps_if (pt_cmpR op_eq (pv 0) pe_int (nomark _))
          (pss_one (ps_ret (pe_make0 T.mk_Rule G_m_Rule_init (hr.mono (by omega)) rfl T.gC_Rule br1 vr1 pass0)))
          pss_nil)
        (pss_cons (ps_if (pt_cmpR op_eq (pv 0) pe_int (nomark _))
          (pss_one (ps_ret (pe_make T.mk_Rule G_m_Rule_init (hr.mono (by omega)) rfl T.gC_Rule br2 vr2 pass0 (pa_cons pe_str pa_nil))))
          pss_nil)
        (pss_cons (ps_if (pt_cmpR op_eq (pv 0) pe_int (nomark _))
          (pss_one (ps_ret (pe_make T.mk_Rule G_m_Rule_init (hr.mono (by omega)) rfl T.gC_Rule br2 vr2 pass0 (pa_cons (ClX.pe_cval (pe_glob (v := .ref T.C_Rule) rfl T.gC_Rule rfl)) pa_nil))))
          pss_nil)
        (pss_cons (ps_if (pt_cmpR op_eq (pv 0) pe_int (nomark _))
          (pss_one (ps_ret (pe_make T.mk_Rule G_m_Rule_init (hr.mono (by omega)) rfl T.gC_Rule br2 vr2 pass0 (pa_cons pe_str pa_nil))))
          pss_nil)
        (pss_one (ps_ret (pe_make T.mk_Rule G_m_Rule_init (hr.mono (by omega)) rfl T.gC_Rule br2 vr2 pass0 (pa_cons (ClX.pe_cval (pe_glob (v := .ref T.C_Rule) rfl T.gC_Rule rfl)) pa_nil)))))))), ?_⟩
    have mk : ∀ (all : Bool) (r dx : Addr), all = decide (i < 3) → H r = none → H dx = none → dx ≠ r → spRuleInit T.C_Rule [.ref r, .str (placeOf all)] (upd (upd H dx (.own r)) r (.ins T.C_Rule dx [])) (fun v H2 => v = .non ∧ Q (.ref r) H2) (fun _ _ _ => False) :=
      fun all r dx e nr ndx ne => ⟨r, dx, all, rfl, upd_same, fun H' h' kp => ⟨rfl, k r dx H' (Same.made nr ndx kp) (by rw [← e]; exact h')⟩⟩
    have ne : ∀ j : Int, i ≠ j → ¬ (V.int i = V.int j) := fun j h z => h (by injection z)
    refine ⟨_, rfl, rfl, _, rfl, ?_⟩
    refine ite2d (fun h => ?_) (fun h0 => ?_)
    · injection h with h
      exact fun r dx nr ndx ne => mk true r dx (by subst h; rfl) nr ndx ne
    refine ⟨_, rfl, rfl, _, rfl, ?_⟩
    refine ite2d (fun h => ?_) (fun h1 => ?_)
    · injection h with h
      exact fun r dx nr ndx ne => mk true r dx (by subst h; rfl) nr ndx ne
    refine ⟨_, rfl, rfl, _, rfl, ?_⟩
    refine ite2d (fun h => ?_) (fun h2 => ?_)
    · injection h with h
      exact ⟨T.C_Rule, .type "type", _, _, rfl, T.cr_Rule, T.cv_Rule_ALL, fun r dx nr ndx ne => mk true r dx (by subst h; rfl) nr ndx ne⟩
    have h3 : decide (i < 3) = false := by
      have e0 : i ≠ 0 := fun z => h0 (by rw [z])
      have e1 : i ≠ 1 := fun z => h1 (by rw [z])
      have e2 : i ≠ 2 := fun z => h2 (by rw [z])
      exact decide_eq_false (by omega)
    refine ⟨_, rfl, rfl, _, rfl, ?_⟩
    refine ite2d (fun h => ?_) (fun _ => ?_)
    · exact fun r dx nr ndx ne => mk false r dx h3.symm nr ndx ne
    · exact ⟨T.C_Rule, .type "type", _, _, rfl, T.cr_Rule, T.cv_Rule_PLAIN, fun r dx nr ndx ne => mk false r dx h3.symm nr ndx ne⟩

end
end G
set_option Elab.async false
set_option linter.all false
set_option maxRecDepth 100000
set_option maxHeartbeats 600000
namespace G
open PySem L2 Nd
section
variable {P : Program} {w : World} {K : PySem.W.Frag} {mg : Str → Option Value} {base : Heap}
theorem ok_m_InvalidRule_init (T : Txt K mg) : FnOk P w K mg base CX0 1 T.f_m_InvalidRule_init T.d_m_InvalidRule_init ["self", "place"] (Xo.spErr T.C_InvalidRule "place") := by
  refine T.F_m_InvalidRule_init.ok sc_m_InvalidRule_init (fun vs H Q E h => ?_) (fun cdv A outer s H vs Q E hr h => ?_)
  · obtain ⟨_, _, rfl, _⟩ := h
    rfl
  · obtain ⟨a, v, rfl, ha, k⟩ := h
    refine ⟨_, pss_cons (ps_expr (Xo.pe_binit rfl T.gC_StayError T.ba_StayError (pa_cons (pv 0) (pa_cons pe_str pa_nil)))) (pss_one (Xo.ps_er (pv 0) (pv 1))), ?_⟩
    refine ⟨_, rfl, a, T.C_InvalidRule, _, rfl, by show 1 ≤ 1000; decide, T.er_InvalidRule, ha, ?_⟩
    exact ⟨_, rfl, _, rfl, a, T.C_InvalidRule, rfl, T.er_InvalidRule, T.no_InvalidRule_place, .inl ⟨ha, fun dx n ne => k dx n ne⟩⟩
theorem ok_m_Rule_initX (T : Txt K mg) : FnOk P w K mg base (L2.CX P w) 3 T.f_m_Rule_init T.d_m_Rule_init ["self", "place"] (spRuleBad K T.C_Rule T.C_InvalidRule) := by
  have G_m_InvalidRule_init : FnOk P w K mg base CX0 1 T.f_m_InvalidRule_init T.d_m_InvalidRule_init ["self", "place"] (Xo.spErr T.C_InvalidRule "place") := ok_m_InvalidRule_init T
  refine T.F_m_Rule_init.ok sc_m_Rule_init (fun vs H Q E h => ?_) (fun cdv A outer s H vs Q E hr h => ?_)
  · obtain ⟨_, _, _, rfl, _⟩ := h
    rfl
  · obtain ⟨p, dx, v, rfl, hp, odd, k⟩ := h
    refine ⟨_, (pss_cons (ps_if (PW.pt (pw_or (pt_not (pt_val (pe_callB call_isi (by rfl) T.z_isinstance (by decide +kernel) (pa_cons (pv 1) (pa_cons (pe_bltn (v := .ty "str") (u := .type "str") rfl T.z_str (by decide +kernel) rfl) pa_nil))))) (pw_or1 (pt_cmpR op_notIn_seq (pv 1) (pe_tup (pa_cons (pe_con (pv 0) rfl) (pa_cons (pe_con (pv 0) rfl) pa_nil))) (by rfl)))))
          (pss_one (ps_raise rfl (takes_of rfl rfl rfl rfl) (Xo.pmk_er T.er_InvalidRule T.in_InvalidRule T.ti_InvalidRule G_m_InvalidRule_init (hr.mono (by omega)) T.b_m_InvalidRule_init .nil pass0 rfl T.gC_InvalidRule (pa_cons (pv 1) pa_nil))))
          pss_nil)
        (pss_one (ps_fld (pv 0) (pv 1) rfl))), ?_⟩
    have fin : ∀ H', Same H H' → (∀ d, H' d = none → E (.ref T.C_InvalidRule) (some d) (upd H' d (.xd [("place", v)]))) := fun H' e d n => k d _ (e.trans (same_add n)) upd_same
    rcases odd with ⟨t, ty, kt⟩ | ⟨z, rfl, z1, z2⟩
    · refine ⟨_, rfl, _, _, _, _, false, rfl, .ty "str", ty, kt, false, rfl, ?_⟩
      refine iteT ?_
      exact iteT ⟨_, rfl, Xo.mk_err (fin H (Same.refl H))⟩
    · refine ⟨_, rfl, _, _, _, _, true, rfl, .ty "str", .base (.str _), kit_ty (by decide +kernel), true, rfl, ?_⟩
      refine iteF ?_
      refine ⟨_, rfl, _, rfl, p, T.C_Rule, dx, _, _, _, rfl, hp, T.cl_Rule, T.con_Rule_ALL, rfl, _, rfl, p, T.C_Rule, dx, _, _, _, rfl, hp, T.cl_Rule, T.con_Rule_PLAIN, rfl, by show 2 ≤ sizeLine; decide, fun t ht => ?_⟩
      refine ⟨t, _, rfl, .inr (SqT.of upd_same), rfl, rfl, true, ?_, ?_⟩
      · have q : inV (V.str z) [V.str "all", V.str "plain"] = false := by simp [inV, eqV, Ne.symm z1, Ne.symm z2]
        rw [if_pos rfl, q]
        rfl
      refine iteT ?_
      exact ⟨_, rfl, Xo.mk_err (fin _ (same_add ht))⟩

end
end G
set_option Elab.async false
set_option linter.all false
set_option maxRecDepth 100000
set_option maxHeartbeats 4000000
namespace G
open PySem L2 Nd
section
variable {P : Program} {w : World} {K : PySem.W.Frag} {mg : Str → Option Value} {base : Heap}
theorem ok_l_sameD (T : Txt K mg) : ∀ n : Nat, FnOk P w K mg base CX0 (n + 1) T.f_l_same T.d_l_same ["_law_actual", "_law_expected"] (spSameD n)
  | 0 => fn_false fun vs H Q E h => by
    obtain ⟨_, _, _, ⟨_, _, _, _, h⟩ | ⟨_, _, _, _, _, h⟩, _⟩ := h
    · exact absurd h (Nat.not_lt_zero _)
    · exact h
  | n + 1 => by
    have G_l_same := ok_l_sameD T n
    refine T.F_l_same.ok sc_l_same (fun vs H Q E h => ?_) (fun cdv A outer s H vs Q E hr h => ?_)
    · obtain ⟨_, _, rfl, _⟩ := h
      rfl
    · obtain ⟨x, y, rfl, h, k⟩ := h
      refine ⟨_, (pss_cons (ps_if (pt_cmpR op_isN (pv 1) pe_non (nomark _))
          (pss_one (ps_ret (pe_cmpR op_isN (pv 0) pe_non (nomark _))))
          pss_nil)
          (pss_cons (ps_if (pt_val (pe_callB call_isi (by rfl) T.z_isinstance (by decide +kernel) (pa_cons (pv 1) (pa_cons (pe_bltn (v := .ty "bool") (u := .type "bool") rfl T.z_bool (by decide +kernel) rfl) pa_nil))))
          (pss_one (ps_ret (pe_and (pe_callB call_isi (by rfl) T.z_isinstance (by decide +kernel) (pa_cons (pv 0) (pa_cons (pe_bltn (v := .ty "bool") (u := .type "bool") rfl T.z_bool (by decide +kernel) rfl) pa_nil))) (pe_one (pe_cmpR op_eq (pv 0) (pv 1) (nomark _))))))
          pss_nil)
          (pss_cons (ps_if (pt_val (pe_callB call_isi (by rfl) T.z_isinstance (by decide +kernel) (pa_cons (pv 1) (pa_cons (pe_bltn (v := .ty "int") (u := .type "int") rfl T.z_int (by decide +kernel) rfl) pa_nil))))
          (pss_one (ps_ret (pe_and (pe_callB call_isi (by rfl) T.z_isinstance (by decide +kernel) (pa_cons (pv 0) (pa_cons (pe_bltn (v := .ty "int") (u := .type "int") rfl T.z_int (by decide +kernel) rfl) pa_nil))) (pe_and (pe_not (pe_callB call_isi (by rfl) T.z_isinstance (by decide +kernel) (pa_cons (pv 0) (pa_cons (pe_bltn (v := .ty "bool") (u := .type "bool") rfl T.z_bool (by decide +kernel) rfl) pa_nil)))) (pe_one (pe_cmpR op_eq (pv 0) (pv 1) (nomark _)))))))
          pss_nil)
          (pss_cons (ps_if (pt_val (pe_callB call_isi (by rfl) T.z_isinstance (by decide +kernel) (pa_cons (pv 1) (pa_cons (pe_bltn (v := .ty "str") (u := .type "str") rfl T.z_str (by decide +kernel) rfl) pa_nil))))
          (pss_one (ps_ret (pe_and (pe_callB call_isi (by rfl) T.z_isinstance (by decide +kernel) (pa_cons (pv 0) (pa_cons (pe_bltn (v := .ty "str") (u := .type "str") rfl T.z_str (by decide +kernel) rfl) pa_nil))) (pe_one (pe_cmpR op_eq (pv 0) (pv 1) (nomark _))))))
          pss_nil)
          (pss_cons (ps_if (pt_val (pe_callB call_isi (by rfl) T.z_isinstance (by decide +kernel) (pa_cons (pv 1) (pa_cons (pe_bltn (v := .ty "dict") (u := .type "dict") rfl T.z_dict (by decide +kernel) rfl) pa_nil))))
          (pss_cons (ps_if (PW.pt (pw_or (pt_not (pt_val (pe_callB call_isi (by rfl) T.z_isinstance (by decide +kernel) (pa_cons (pv 0) (pa_cons (pe_bltn (v := .ty "dict") (u := .type "dict") rfl T.z_dict (by decide +kernel) rfl) pa_nil))))) (pw_or1 (pt_cmpR op_ne (pe_callB call_lenD (by rfl) T.z_len (by decide +kernel) (pa_cons (pv 0) pa_nil)) (pe_callB call_lenD (by rfl) T.z_len (by decide +kernel) (pa_cons (pv 1) pa_nil)) (nomark _)))))
            (pss_one (ps_ret pe_bl))
            pss_nil)
          (pss_cons (ps_lock (ps_for PassesOwn.never rfl (pi_keys (pv 1)) (pg_name (i := 2) sc_l_same.nd rfl (Or.inl rfl))
            (pss_one (ps_if (PW.pt (pw_or (pt_cmp (pc_dnotin (hu_of hr) (pv 2) (pv 0))) (pw_or1 (pt_not (pt_val (pe_call G_l_same (hr.mono (by omega)) rfl T.g_l_same T.F_l_same.kp T.b_l_same .nil pass0 (pa_cons (pe_dget (hu_of hr) (pv 0) (pv 2) (fun _ _ => rfl)) (pa_cons (pe_dget (hu_of hr) (pv 1) (pv 2) (fun _ _ => rfl)) pa_nil))))))))
              (pss_one (ps_ret pe_bl))
              pss_nil))))
          (pss_one (ps_ret pe_bl))))
          pss_nil)
          (pss_cons (ps_if (PW.pt (pw_and (pt_val (pe_callB call_isi (by rfl) T.z_isinstance (by decide +kernel) (pa_cons (pv 1) (pa_cons (pe_bltn (v := .ty "tuple") (u := .type "tuple") rfl T.z_tuple (by decide +kernel) rfl) pa_nil)))) (pw_and1 (pt_not (pt_val (pe_callB call_isi (by rfl) T.z_isinstance (by decide +kernel) (pa_cons (pv 0) (pa_cons (pe_bltn (v := .ty "tuple") (u := .type "tuple") rfl T.z_tuple (by decide +kernel) rfl) pa_nil))))))))
          (pss_one (ps_ret pe_bl))
          pss_nil)
          (pss_cons (ps_if (PW.pt (pw_and (pt_val (pe_callB call_isi (by rfl) T.z_isinstance (by decide +kernel) (pa_cons (pv 1) (pa_cons (pe_bltn (v := .ty "list") (u := .type "list") rfl T.z_list (by decide +kernel) rfl) pa_nil)))) (pw_and1 (pt_not (pt_val (pe_callB call_isi (by rfl) T.z_isinstance (by decide +kernel) (pa_cons (pv 0) (pa_cons (pe_bltn (v := .ty "list") (u := .type "list") rfl T.z_list (by decide +kernel) rfl) pa_nil))))))))
          (pss_one (ps_ret pe_bl))
          pss_nil)
          (pss_cons (ps_if (pt_cmpR op_ne (pe_callB call_len_seq (by rfl) T.z_len (by decide +kernel) (pa_cons (pv 0) pa_nil)) (pe_callB call_len_seq (by rfl) T.z_len (by decide +kernel) (pa_cons (pv 1) pa_nil)) (nomark _))
          (pss_one (ps_ret pe_bl))
          pss_nil)
          (pss_cons (ps_for PassesOwn.never rfl (pi_range1 rfl T.z_range (pa_cons (pe_callB call_lenB (by rfl) T.z_len (by decide +kernel) (pa_cons (pv 1) pa_nil)) pa_nil)) (pg_name (i := 3) sc_l_same.nd rfl (Or.inl rfl))
          (pss_one (ps_if (pt_not (pt_val (pe_call G_l_same (hr.mono (by omega)) rfl T.g_l_same T.F_l_same.kp T.b_l_same .nil pass0 (pa_cons (pe_ix ix_any (pv 0) (pv 3) (fun _ _ => rfl)) (pa_cons (pe_ix ix_any (pv 1) (pv 3) (fun _ _ => rfl)) pa_nil)))))
            (pss_one (ps_ret pe_bl))
            pss_nil)))
          (pss_one (ps_ret pe_bl))))))))))), ?_⟩
      cases h.cases with
      | non =>
        refine ⟨_, rfl, rfl, _, rfl, ?_⟩
        refine ite2d (fun _ => ?_) (fun h => absurd rfl h)
        exact ⟨_, rfl, rfl, k _ (Same.refl _)⟩
      | bl b =>
        refine ⟨_, rfl, rfl, _, rfl, ?_⟩
        refine ite2d (fun h => nomatch h) (fun _ => ?_)
        refine ⟨_, rfl, _, _, _, _, _, rfl, .ty "bool", .base (.bl b), kit_ty (r := true) (by decide +kernel), _, rfl, ?_⟩
        refine ⟨_, rfl, _, _, _, _, _, rfl, .ty "bool", .base (.bl b), kit_ty (r := true) (by decide +kernel), _, rfl, ?_⟩
        refine ⟨_, rfl, _, rfl, rfl, ?_⟩
        rw [show decide (V.bl b = V.bl b) = true from decide_eq_true rfl]
        exact k _ (Same.refl _)
      | int i =>
        refine ⟨_, rfl, rfl, _, rfl, ?_⟩
        refine ite2d (fun h => nomatch h) (fun _ => ?_)
        refine ⟨_, rfl, _, _, _, _, _, rfl, .ty "bool", .base (.int i), kit_ty (r := false) (by decide +kernel), _, rfl, ?_⟩
        refine ⟨_, rfl, _, _, _, _, _, rfl, .ty "int", .base (.int i), kit_ty (r := true) (by decide +kernel), _, rfl, ?_⟩
        refine ⟨_, rfl, _, _, _, _, _, rfl, .ty "int", .base (.int i), kit_ty (r := true) (by decide +kernel), _, rfl, ?_⟩
        refine ⟨_, rfl, _, _, _, _, _, rfl, .ty "bool", .base (.int i), kit_ty (r := false) (by decide +kernel), _, rfl, _, rfl, ?_⟩
        refine ⟨_, rfl, _, rfl, rfl, ?_⟩
        rw [show decide (V.int i = V.int i) = true from decide_eq_true rfl]
        exact k _ (Same.refl _)
      | str z =>
        refine ⟨_, rfl, rfl, _, rfl, ?_⟩
        refine ite2d (fun h => nomatch h) (fun _ => ?_)
        refine ⟨_, rfl, _, _, _, _, _, rfl, .ty "bool", .base (.str z), kit_ty (r := false) (by decide +kernel), _, rfl, ?_⟩
        refine ⟨_, rfl, _, _, _, _, _, rfl, .ty "int", .base (.str z), kit_ty (r := false) (by decide +kernel), _, rfl, ?_⟩
        refine ⟨_, rfl, _, _, _, _, _, rfl, .ty "str", .base (.str z), kit_ty (r := true) (by decide +kernel), _, rfl, ?_⟩
        refine ⟨_, rfl, _, _, _, _, _, rfl, .ty "str", .base (.str z), kit_ty (r := true) (by decide +kernel), _, rfl, ?_⟩
        refine ⟨_, rfl, _, rfl, rfl, ?_⟩
        rw [show decide (V.str z = V.str z) = true from decide_eq_true rfl]
        exact k _ (Same.refl _)
      | @tup a b xs ys q1 q2 h4 h6 =>
        refine ⟨_, rfl, rfl, _, rfl, ?_⟩
        refine ite2d (fun h => nomatch h) (fun _ => ?_)
        refine ⟨_, rfl, _, _, _, _, _, rfl, .ty "bool", .base (.tup q2), kit_ty (r := false) (by decide +kernel), _, rfl, ?_⟩
        refine ⟨_, rfl, _, _, _, _, _, rfl, .ty "int", .base (.tup q2), kit_ty (r := false) (by decide +kernel), _, rfl, ?_⟩
        refine ⟨_, rfl, _, _, _, _, _, rfl, .ty "str", .base (.tup q2), kit_ty (r := false) (by decide +kernel), _, rfl, ?_⟩
        refine ⟨_, rfl, _, _, _, _, _, rfl, .ty "dict", .base (.tup q2), kit_ty (r := false) (by decide +kernel), _, rfl, ?_⟩
        refine ⟨_, rfl, _, _, _, _, _, rfl, .ty "tuple", .base (.tup q2), kit_ty (r := true) (by decide +kernel), _, rfl, ?_⟩
        refine ⟨_, rfl, _, _, _, _, _, rfl, .ty "tuple", .base (.tup q1), kit_ty (r := true) (by decide +kernel), _, rfl, ?_⟩
        refine ⟨_, rfl, _, _, _, _, _, rfl, .ty "list", .base (.tup q2), kit_ty (r := false) (by decide +kernel), _, rfl, ?_⟩
        refine ⟨_, rfl, a, xs, rfl, .inr (SqT.of q1), _, rfl, b, ys, rfl, .inr (SqT.of q2), rfl, _, rfl, ?_⟩
        refine ite2n (fun h => absurd (by rw [h4]) h) (fun _ => ?_)
        refine ⟨_, rfl, b, ys, rfl, .inr (SqT.of q2), fun hb => ⟨_, rfl, by omega, line24 hb, ?_⟩⟩
        refine for_it walk_range0 (fun i σ H2 => ∃ (c2 c3 : Option V), σ = [some (.ref a), some (.ref b), c2, c3] ∧ Same H H2) ⟨none, none, rfl, Same.refl _⟩ (fun _ _ _ _ _ => True.intro) ?_ ?_
        · rintro i x σ H2 H3 hi ⟨c2, c3, rfl, e2⟩ ⟨rfl, rfl⟩
          have hi : i < ys.length := hi
          obtain ⟨u, hu⟩ : ∃ u, xs[i]? = some u := ⟨_, List.getElem?_eq_getElem (by omega)⟩
          obtain ⟨v, hv⟩ : ∃ v, ys[i]? = some v := ⟨_, List.getElem?_eq_getElem hi⟩
          refine ⟨_, rfl, _, rfl, .inr ⟨a, xs, (i : Int), u, rfl, rfl, SqT.of (e2 _ _ q1), atI_nat hu, ?_⟩⟩
          refine ⟨_, rfl, _, rfl, .inr ⟨b, ys, (i : Int), v, rfl, rfl, SqT.of (e2 _ _ q2), atI_nat hv, ?_⟩⟩
          refine ⟨u, v, rfl, (h6 i u v hu hv).same e2, fun H4 e4 => ⟨_, rfl, ?_⟩⟩
          exact ⟨_, _, rfl, e2.trans e4⟩
        · rintro σ H2 ⟨c2, c3, rfl, e2⟩
          exact k _ e2
      | @lst a b xs ys q1 q2 h4 h6 =>
        refine ⟨_, rfl, rfl, _, rfl, ?_⟩
        refine ite2d (fun h => nomatch h) (fun _ => ?_)
        refine ⟨_, rfl, _, _, _, _, _, rfl, .ty "bool", .base (.lst q2), kit_ty (r := false) (by decide +kernel), _, rfl, ?_⟩
        refine ⟨_, rfl, _, _, _, _, _, rfl, .ty "int", .base (.lst q2), kit_ty (r := false) (by decide +kernel), _, rfl, ?_⟩
        refine ⟨_, rfl, _, _, _, _, _, rfl, .ty "str", .base (.lst q2), kit_ty (r := false) (by decide +kernel), _, rfl, ?_⟩
        refine ⟨_, rfl, _, _, _, _, _, rfl, .ty "dict", .base (.lst q2), kit_ty (r := false) (by decide +kernel), _, rfl, ?_⟩
        refine ⟨_, rfl, _, _, _, _, _, rfl, .ty "tuple", .base (.lst q2), kit_ty (r := false) (by decide +kernel), _, rfl, ?_⟩
        refine ⟨_, rfl, _, _, _, _, _, rfl, .ty "list", .base (.lst q2), kit_ty (r := true) (by decide +kernel), _, rfl, ?_⟩
        refine ⟨_, rfl, _, _, _, _, _, rfl, .ty "list", .base (.lst q1), kit_ty (r := true) (by decide +kernel), _, rfl, ?_⟩
        refine ⟨_, rfl, a, xs, rfl, .inl (SqL.of q1), _, rfl, b, ys, rfl, .inl (SqL.of q2), rfl, _, rfl, ?_⟩
        refine ite2n (fun h => absurd (by rw [h4]) h) (fun _ => ?_)
        refine ⟨_, rfl, b, ys, rfl, .inl (SqL.of q2), fun hb => ⟨_, rfl, by omega, line24 hb, ?_⟩⟩
        refine for_it walk_range0 (fun i σ H2 => ∃ (c2 c3 : Option V), σ = [some (.ref a), some (.ref b), c2, c3] ∧ Same H H2) ⟨none, none, rfl, Same.refl _⟩ (fun _ _ _ _ _ => True.intro) ?_ ?_
        · rintro i x σ H2 H3 hi ⟨c2, c3, rfl, e2⟩ ⟨rfl, rfl⟩
          have hi : i < ys.length := hi
          obtain ⟨u, hu⟩ : ∃ u, xs[i]? = some u := ⟨_, List.getElem?_eq_getElem (by omega)⟩
          obtain ⟨v, hv⟩ : ∃ v, ys[i]? = some v := ⟨_, List.getElem?_eq_getElem hi⟩
          refine ⟨_, rfl, _, rfl, .inl ⟨a, xs, (i : Int), u, rfl, rfl, SqL.of (e2 _ _ q1), atI_nat hu, ?_⟩⟩
          refine ⟨_, rfl, _, rfl, .inl ⟨b, ys, (i : Int), v, rfl, rfl, SqL.of (e2 _ _ q2), atI_nat hv, ?_⟩⟩
          refine ⟨u, v, rfl, (h6 i u v hu hv).same e2, fun H4 e4 => ⟨_, rfl, ?_⟩⟩
          exact ⟨_, _, rfl, e2.trans e4⟩
        · rintro σ H2 ⟨c2, c3, rfl, e2⟩
          exact k _ e2
      | @dic d e ks js us vs q1 q2 l1 l2 l3 nd h6 =>
        refine ⟨_, rfl, rfl, _, rfl, ?_⟩
        refine ite2d (fun h => nomatch h) (fun _ => ?_)
        refine ⟨_, rfl, _, _, _, _, _, rfl, .ty "bool", .base (.dK q2), kit_ty (r := false) (by decide +kernel), _, rfl, ?_⟩
        refine ⟨_, rfl, _, _, _, _, _, rfl, .ty "int", .base (.dK q2), kit_ty (r := false) (by decide +kernel), _, rfl, ?_⟩
        refine ⟨_, rfl, _, _, _, _, _, rfl, .ty "str", .base (.dK q2), kit_ty (r := false) (by decide +kernel), _, rfl, ?_⟩
        refine ⟨_, rfl, _, _, _, _, _, rfl, .ty "dict", .base (.dK q2), kit_ty (r := true) (by decide +kernel), _, rfl, ?_⟩
        refine ⟨_, rfl, _, _, _, _, _, rfl, .ty "dict", .base (.dK q1), kit_ty (r := true) (by decide +kernel), _, rfl, ?_⟩
        refine ⟨_, rfl, d, _, rfl, q1, _, rfl, e, _, rfl, q2, rfl, _, rfl, ?_⟩
        refine ite2n (fun h => absurd (by rw [dkv_len l1, dkv_len l2, l3]) h) (fun _ => ?_)
        refine ⟨e, _, q2, True.intro, fun od => ?_⟩
        refine ⟨_, rfl, e, od, rfl, .inl ⟨_, upd_same, for_it walk_keys (fun i σ H2 => ∃ (c2 c3 : Option V), σ = [some (.ref d), some (.ref e), c2, c3] ∧ Same (upd H e (.frz od (.dK (dkv js vs)))) H2) ⟨_, _, rfl, Same.refl _⟩ (fun _ _ _ _ ⟨_, _, _, q⟩ => q _ _ upd_same) ?_ ?_⟩⟩
        · rintro i x σ H3 H2 hi ⟨c2, c3, rfl, e2⟩ ⟨rfl, kq, kv, hg, rfl⟩
          obtain ⟨kk, rfl, g1, g2⟩ := dkv_get hg
          obtain ⟨u, lu, hs⟩ := h6 i kk kv g1 g2
          have rd : Rd H2 d (.dK (dkv ks us)) := by
            by_cases z : d = e
            · subst z
              rw [q1] at q2
              injection q2 with q2
              rw [q2]
              exact .inr ⟨od, e2 _ _ upd_same⟩
            · exact .inl (e2 _ _ (by rw [upd_ne z]; exact q1))
          have re : Rd H2 e (.dK (dkv js vs)) := .inr ⟨od, e2 _ _ upd_same⟩
          have gd : DGet H2 d (.str kk) (some u) := .inl ⟨_, .inr kk, rd, rfl, by rw [valV_dkv, lu]⟩
          have ge : DGet H2 e (.str kk) (some kv) := .inl ⟨_, .inr kk, re, rfl, by rw [valV_dkv, lookD_at nd g1 g2]⟩
          refine ⟨_, rfl, _, rfl, d, _, rfl, gd, _, rfl, ?_⟩
          refine iteF ?_
          refine ⟨_, rfl, _, rfl, d, u, rfl, gd, _, rfl, _, rfl, e, kv, rfl, ge, ?_⟩
          refine ⟨u, kv, rfl, hs od H2 e2, fun H4 e4 => ⟨_, rfl, ?_⟩⟩
          exact ⟨_, _, rfl, e2.trans e4⟩
        · rintro σ H2 ⟨c2, c3, rfl, e2⟩
          obtain ⟨z1, z2⟩ := same_unlock q2 e2
          exact ⟨z1, k _ z2⟩
end
end G
set_option Elab.async false
set_option linter.all false
set_option maxRecDepth 100000
set_option maxHeartbeats 600000
namespace G
open PySem L2 Nd
section
variable {P : Program} {w : World} {K : PySem.W.Frag} {mg : Str → Option Value} {base : Heap}
theorem ok_l_refused (T : Txt K mg) (n : Nat) : FnOk P w K mg base CX0 (n + 5) T.f_l_refused T.d_l_refused ["_law_value"] (spRefused K n) := by
  have GX_m_Rule_init : FnOk P w K mg base (L2.CX P w) 3 T.f_m_Rule_init T.d_m_Rule_init ["self", "place"] (spRuleBad K T.C_Rule T.C_InvalidRule) := ok_m_Rule_initX T
  have G_l_same : FnOk P w K mg base CX0 (n + 1) T.f_l_same T.d_l_same ["_law_actual", "_law_expected"] (spSameD n) := ok_l_sameD T n
  obtain ⟨dr2, vr2, br2⟩ := T.b2_m_Rule_init
  refine T.F_l_refused.ok sc_l_refused (fun vs H Q E h => ?_) (fun cdv A outer s H vs Q E hr h => ?_)
  · obtain ⟨_, _, _, rfl, _⟩ := h
    rfl
  · obtain ⟨v, P0, dt, rfl, odd, at_, hd, k⟩ := h
    refine ⟨_, (pss_cons (ps_set (i := 1) sc_l_refused.nd rfl (Or.inl rfl) pe_non)
        (pss_cons (Xo.ps_tryT rfl rfl sc_l_refused.nd rfl takes0 (fun W pn xe tk _ => (pss_one (ps_expr (Xo.pe_mkS T.mk_Rule GX_m_Rule_init (hr.mono (by omega)) rfl T.gC_Rule br2 vr2 (fun σ => passAt tk σ) (pa_cons (pv 0) pa_nil)))))
          (.anon ⟨rfl, by decide, .inl T.gC_NoItem⟩ (fun a oe cls d pn hz hf => (pss_one (ps_ret pe_bl))) (.named (i := 2) ⟨rfl, by decide, .inl T.gC_InvalidRule⟩ rfl rfl (fun a oe cls d pn hz hf => (pss_one (ps_set (i := 1) sc_l_refused.nd rfl (Or.inl rfl) (pv 2)))) .nil)))
        (pss_one (ps_ret (pe_and (pe_cmpR op_notN (pv 1) pe_non (nomark _)) (pe_one (pe_call G_l_same (hr.mono (by omega)) rfl T.g_l_same T.F_l_same.kp T.b_l_same .nil pass0 (pa_cons (Xo.pe_xv (pv 1)) (pa_cons (pv 0) pa_nil))))))))), ?_⟩
    refine ⟨_, rfl, fun y dx ny ndx ne => ?_⟩
    have e1 : Same H (upd (upd H dx (.own y)) y (.ins T.C_Rule dx [])) := fun b o q => by
      rw [upd_ne (ne_of_none q ny), upd_ne (ne_of_none q ndx)]; exact q
    refine ⟨y, dx, v, rfl, upd_same, odd.same e1, fun d H2 e2 hd2 => ?_⟩
    have e12 := e1.trans e2
    refine ⟨false, T.xm_InvalidRule_NoItem, (fun z => nomatch z), fun _ => ⟨true, T.xm_InvalidRule_InvalidRule, fun _ a na => ?_, (fun z => nomatch z)⟩⟩
    refine ⟨_, rfl, fun na2 => ?_⟩
    have e3 : Same H2 (upd H2 a (Xo.exT a (.ref T.C_InvalidRule) (some d))) := same_add na2
    refine ⟨_, rfl, rfl, _, rfl, ?_⟩
    refine ite2n (fun _ => ?_) (fun z => nomatch z)
    refine ⟨_, rfl, a, T.C_InvalidRule, d, [("place", v)], v, rfl, upd_same, T.xf_InvalidRule, T.no_InvalidRule_place, e3 _ _ hd2, rfl, _, rfl, ?_⟩
    have e13 := e12.trans e3
    exact ⟨v, v, rfl, .inl ⟨P0, dt, rfl, at_.same e13, hd⟩, fun H4 e4 => k _ (e13.trans e4)⟩

end
end G
set_option Elab.async false
set_option linter.all false
set_option maxRecDepth 100000
set_option maxHeartbeats 4000000
namespace G
open PySem L2 Nd
section
variable {P : Program} {w : World} {K : PySem.W.Frag} {mg : Str → Option Value} {base : Heap}
theorem ok_l_draw (T : Txt K mg) : FnOk P w K mg base CX0 1 T.f_l_draw T.d_l_draw ["_law_stream_here", "_law_many"] spDraw := by
  refine T.F_l_draw.ok sc_l_draw (fun vs H Q E h => ?_) (fun cdv A outer s H vs Q E hr h => ?_)
  · obtain ⟨st, cs, m, rfl, _⟩ := h
    rfl
  · obtain ⟨st, cs, m, rfl, S, hm, hm2, k⟩ := h
    obtain ⟨ns, j, h1, h2, hne, hlen⟩ := S.ex
    have hne1 : cs ≠ st := Ne.symm S.ne
    have hpos : (0 : Int) < ((ns.map V.int).length : Int) := by
      rw [List.length_map]
      have : 0 < ns.length := List.length_pos_iff.mpr hne
      omega
    refine ⟨_, (pss_cons (ps_set (i := 2) sc_l_draw.nd rfl (Or.inl rfl) (pe_ix ix_list (pv 0) pe_int (fun _ _ => rfl)))
        (pss_cons (ps_set (i := 3) sc_l_draw.nd rfl (Or.inl rfl) (pe_ix ix_list (pv 0) pe_int (fun _ _ => rfl)))
        (pss_cons (ps_asg (pe_op op_add (pv 3) pe_int) (pg_sub (pv 0) pe_int set_list))
        (pss_cons (ps_set (i := 4) sc_l_draw.nd rfl (Or.inl rfl) (pe_op op_modN (pe_callTy call_int1 (by rfl) T.z_int (by decide +kernel) (pa_cons (pv 3) pa_nil)) (pe_callB call_len_seq (by rfl) T.z_len (by decide +kernel) (pa_cons (pv 2) pa_nil))))
        (pss_cons (ps_set (i := 5) sc_l_draw.nd rfl (Or.inl rfl) (pe_ix ix_list (pv 2) (pv 4) (fun _ _ => rfl)))
        (pss_cons (ps_if (pt_cmpR op_ge (pv 5) (pe_op op_pow pe_int pe_int) (nomark _))
          (pss_cons (ps_asg (pe_op op_fdivW (pv 5) (pv 1)) (pg_sub (pv 2) (pv 4) set_list))
          (pss_one (ps_ret (pe_op op_modN (pe_callTy call_int1 (by rfl) T.z_int (by decide +kernel) (pa_cons (pv 5) pa_nil)) (pv 1)))))
          pss_nil)
        (pss_cons (ps_set (i := 6) sc_l_draw.nd rfl (Or.inl rfl) (pe_op op_modN (pe_op op_mul (pe_callTy call_int1 (by rfl) T.z_int (by decide +kernel) (pa_cons (pe_op op_add (pe_op op_add (pv 5) (pe_op op_mul pe_int (pv 3))) pe_int) pa_nil)) pe_int) pe_int))
        (pss_cons (ps_set (i := 6) sc_l_draw.nd rfl (Or.inl rfl) (pe_op op_modN (pe_callTy call_int1 (by rfl) T.z_int (by decide +kernel) (pa_cons (pe_op op_mul (pv 6) (pe_op op_add (pe_op op_fdivN (pv 6) pe_int) pe_int)) pa_nil)) pe_int))
        (pss_cons (ps_set (i := 6) sc_l_draw.nd rfl (Or.inl rfl) (pe_op op_modN (pe_callTy call_int1 (by rfl) T.z_int (by decide +kernel) (pa_cons (pe_op op_mul (pv 6) (pe_op op_add (pe_op op_fdivN (pv 6) pe_int) pe_int)) pa_nil)) pe_int))
        (pss_one (ps_ret (pe_op op_modN (pe_callTy call_int1 (by rfl) T.z_int (by decide +kernel) (pa_cons (pv 6) pa_nil)) (pv 1))))))))))))), ?_⟩
    -- cells, step
    refine ⟨_, rfl, st, _, 0, .ref cs, rfl, rfl, SqL.of h1, rfl, _, rfl, st, _, 1, .int j, rfl, rfl, SqL.of h1, rfl, ?_⟩
    -- stream[1] = step + 1
    refine ⟨_, rfl, _, _, rfl, rfl, _, rfl, st, _, 1, 1, rfl, rfl, h1, rfl, ?_⟩
    have g1 : upd H st (.lst ([V.ref cs, V.int j].set 1 (V.int (j + 1)))) cs = some (.lst (ns.map V.int)) := by rw [upd_ne hne1]; exact h2
    -- at
    refine ⟨_, rfl, .inl ⟨_, rfl, _, rfl, cs, _, rfl, .inl (SqL.of g1), _, _, rfl, rfl, (by show ((ns.map V.int).length : Int) ≠ 0; omega), ?_⟩⟩
    obtain ⟨b1, b2⟩ := fmod_pos (a := j) hpos
    obtain ⟨at', hat⟩ : ∃ n : Nat, j.fmod ((ns.map V.int).length : Int) = (n : Int) := ⟨_, (Int.toNat_of_nonneg b1).symm⟩
    have hlt : at' < ns.length := by rw [hat, List.length_map] at b2; omega
    have hitem : (ns.map V.int)[at']? = some (.int ns[at']) := by rw [List.getElem?_map, List.getElem?_eq_getElem hlt]; rfl
    have S1 : Stm (upd H st (.lst ([V.ref cs, V.int j].set 1 (V.int (j + 1))))) st cs := ⟨S.ne, ns, j + 1, upd_same, g1, hne, hlen⟩
    have R1 : Sm [st, cs] H (upd H st (.lst ([V.ref cs, V.int j].set 1 (V.int (j + 1))))) := (Sm.refl _ _).upd (by simp)
    -- cell
    refine ⟨_, rfl, _, rfl, cs, _, _, .int ns[at'], rfl, rfl, SqL.of g1, at_of hat hitem, ?_⟩
    refine ⟨_, rfl, _, _, rfl, rfl, ⟨by decide, by decide, by decide⟩, _, _, rfl, rfl, _, rfl, ?_⟩
    refine ite2 (fun _ => ?_) (fun _ => ?_)
    · refine ⟨_, rfl, _, rfl, _, _, rfl, rfl, wide_div hm hm2 (by decide) (by decide), _, rfl, _, rfl, cs, _, _, at', rfl, rfl, g1, ixN_of hat (by rw [List.length_map]; exact hlt), ?_⟩
      refine ⟨_, rfl, .inl ⟨_, rfl, _, rfl, _, _, rfl, rfl, Int.ne_of_gt hm, ?_⟩⟩
      obtain ⟨c1, c2⟩ := fmod_pos (a := ns[at']) hm
      have e : (ns.map V.int).set at' (V.int (ns[at'] / m)) = (ns.set at' (ns[at'] / m)).map V.int := by rw [List.map_set]
      refine k _ _ c1 c2 ⟨S.ne, ns.set at' (ns[at'] / m), j + 1, ?_, ?_, ?_, ?_⟩ (R1.upd (by simp))
      · rw [upd_ne S.ne]; exact upd_same
      · rw [← e]; exact upd_same
      · intro z; apply hne; rw [← List.length_eq_zero_iff] at z ⊢; rw [List.length_set] at z; exact z
      · rw [List.length_set]; exact hlen
    · refine ⟨_, rfl, _, rfl, _, _, rfl, rfl, .inl ⟨by decide, by decide⟩, _, _, rfl, rfl, _, _, rfl, rfl, .inl ⟨_, rfl, _, _, rfl, rfl, .inr ⟨by decide, by decide⟩, _, _, rfl, rfl, (by show (2147483647 : Int) ≠ 0; decide), ?_⟩⟩
      refine ⟨_, rfl, _, rfl, _, _, rfl, rfl, ⟨by decide, by decide⟩, _, _, rfl, rfl, _, _, rfl, rfl, .inl (fm64 (by decide) (by decide)), .inl ⟨_, rfl, _, _, rfl, rfl, (by show (2147483647 : Int) ≠ 0; decide), ?_⟩⟩
      refine ⟨_, rfl, _, rfl, _, _, rfl, rfl, ⟨by decide, by decide⟩, _, _, rfl, rfl, _, _, rfl, rfl, .inl (fm64 (by decide) (by decide)), .inl ⟨_, rfl, _, _, rfl, rfl, (by show (2147483399 : Int) ≠ 0; decide), ?_⟩⟩
      exact ⟨_, rfl, .inl ⟨_, rfl, _, rfl, _, _, rfl, rfl, Int.ne_of_gt hm, k _ _ (fmod_pos hm).1 (fmod_pos hm).2 S1 R1⟩⟩
end
end G
set_option Elab.async false
set_option linter.all false
set_option maxRecDepth 100000
set_option maxHeartbeats 4000000
namespace G
open PySem L2 Nd
section
variable {P : Program} {w : World} {K : PySem.W.Frag} {mg : Str → Option Value} {base : Heap}
theorem ok_l_stream (T : Txt K mg) : FnOk P w K mg base CX0 1 T.f_l_stream T.d_l_stream ["_law_script"] (spStream K) := by
  refine T.F_l_stream.ok sc_l_stream (fun vs H Q E h => ?_) (fun cdv A outer s H vs Q E hr h => ?_)
  · obtain ⟨a, ns, rfl, _⟩ := h
    rfl
  · obtain ⟨a, ns, rfl, hS, hlen, k⟩ := h
    refine ⟨_, (pss_cons (ps_setLc (i := 1) (own := [("_law_cell", 2)]) (g := gName 2) rfl sc_l_stream.nd rfl rfl (sw_true rfl rfl rfl (by decide +kernel)) (pi_list (pe_slice sl_list (pv 0) po_none (po_some pe_int))) (blkOk_by (own := [("_law_cell", 2)]) (N := ["_law_script", "_law_cells", "_law_cell"]) (sc := defScope s_l_stream) (by decide +kernel)) (fun _ _ _ _ _ => (pg_name (i := 2) sc_l_stream.nd rfl (Or.inl rfl))) (fun _ _ _ _ _ => pts_nil) (fun _ _ _ _ _ => (pe_callTy call_int1 (by rfl) T.z_int (by decide +kernel) (pa_cons (pv 2) pa_nil))))
        (pss_cons (ps_if (pt_cmpR (op_eqD hr.units) (pv 1) (pe_lst pa_nil) (nomark _))
          (pss_one (ps_set (i := 1) sc_l_stream.nd rfl (Or.inl rfl) (pe_lst (pa_cons pe_int pa_nil))))
          pss_nil)
        (pss_one (ps_ret (pe_lst (pa_cons (pv 1) (pa_cons pe_int pa_nil))))))), ?_⟩
    obtain ⟨ms, em, hms⟩ := cut_ints ns none (some 63)
    refine ⟨_, rfl, 63, rfl, a, _, rfl, hS, fun p hp => ⟨p, rfl, ⟨_, SqL.of upd_same⟩, fun D hD => ?_⟩⟩
    rw [em] at hD ⊢
    have npD : p ≠ D := ne_of_none upd_same hD
    have hD0 : H D = none := (same_add hp).free hD
    refine lc_it (walk_list (xs := ms.map V.int)) (fun i H2 => Same H H2 ∧ H2 p = some (.lst (ms.map V.int)) ∧ H2 D = some (.lst ((ms.take i).map V.int)))
      ⟨same_new (same_add hp) hD0, by rw [upd_ne npD]; exact upd_same, upd_same⟩ (fun i H2 _ h => SqL.of h.2.1) ?_ ?_
    · rintro i x H2 H3 hi ⟨s2, h2, h3⟩ ⟨rfl, hx⟩
      rw [List.length_map] at hi
      rw [List.getElem?_map, List.getElem?_eq_getElem hi] at hx
      cases hx
      refine ⟨rfl, _, rfl, .inl ⟨_, rfl, _, h3, ?_, same_new s2 hD0, ?_, ?_⟩⟩
      · rw [List.length_map, List.length_take]
        exact Nat.lt_of_le_of_lt (Nat.min_le_left _ _) (Nat.lt_of_lt_of_le hi (Nat.le_trans hms (Nat.le_trans hlen (by decide))))
      · rw [upd_ne npD]; exact h2
      · rw [upd_same, List.take_succ_eq_append_getElem hi, List.map_append]
        rfl
    · rintro H2 ⟨s2, h2, h3⟩
      rw [List.length_map, List.take_length] at h3
      refine ⟨_, rfl, Nat.zero_le _, fun q hq => ⟨_, _, .lst (SqL.of (by rw [upd_ne (ne_of_none h3 hq)]; exact h3)) (dp_ints ms), .lst (SqL.of upd_same) .nil, PySem.W.ke_shaped_ints ms, PySem.W.ke_shaped_ints [], _, rfl, ?_⟩⟩
      have hq0 : H q = none := s2.free hq
      cases ms with
      | nil =>
        refine iteT ⟨by decide, fun c hc => ⟨_, rfl, (by show 2 ≤ sizeLine; decide), fun st hst => ?_⟩⟩
        have hc0 : H c = none := s2.free ((same_add hq).free hc)
        have hs0 : H st = none := s2.free ((same_add hq).free ((same_add hc).free hst))
        exact k st c _ ⟨Ne.symm (ne_of_none upd_same hst), [0], 0, upd_same, by rw [upd_ne (ne_of_none upd_same hst)]; exact upd_same, by decide, by decide⟩ (same_new (same_new (same_new s2 hq0) hc0) hs0)
      | cons m ms =>
        refine iteF ⟨_, rfl, by show 2 ≤ sizeLine; decide, fun st hst => ?_⟩
        have hs0 : H st = none := s2.free ((same_add hq).free hst)
        have hD1 : D ≠ q := ne_of_none h3 hq
        have hD2 : D ≠ st := ne_of_none (by rw [upd_ne hD1]; exact h3) hst
        exact k st D _ ⟨Ne.symm hD2, m :: ms, 0, upd_same, by rw [upd_ne hD2, upd_ne hD1]; exact h3, by simp, Nat.le_trans hms hlen⟩ (same_new (same_new s2 hq0) hs0)
end
end G
set_option Elab.async false
set_option linter.all false
set_option maxRecDepth 100000
set_option maxHeartbeats 4000000
namespace G
open PySem L2 Nd
section
variable {P : Program} {w : World} {K : PySem.W.Frag} {mg : Str → Option Value} {base : Heap}
theorem ok_l_tree_key (T : Txt K mg) : FnOk P w K mg base CX0 2 T.f_l_tree_key T.d_l_tree_key ["_law_stream_here"] spKey := by
  have G_l_draw : FnOk P w K mg base CX0 1 T.f_l_draw T.d_l_draw ["_law_stream_here", "_law_many"] spDraw := ok_l_draw T
  refine T.F_l_tree_key.ok sc_l_tree_key (fun vs H Q E h => ?_) (fun cdv A outer s H vs Q E hr h => ?_)
  · obtain ⟨st, cs, rfl, _⟩ := h
    rfl
  · obtain ⟨st, cs, rfl, S, k⟩ := h
    refine ⟨_, (pss_cons (ps_set (i := 1) sc_l_tree_key.nd rfl (Or.inl rfl) (pe_call G_l_draw (hr.mono (by omega)) rfl T.g_l_draw T.F_l_draw.kp T.b_l_draw .nil pass0 (pa_cons (pv 0) (pa_cons pe_int pa_nil))))
        (pss_cons (ps_if (pt_cmpR op_lt (pv 1) pe_int (nomark _))
          (pss_one (ps_ret pe_non))
          pss_nil)
        (pss_cons (ps_if (pt_cmpR op_eq (pv 1) pe_int (nomark _))
          (pss_one (ps_ret (pe_tup (pa_cons pe_str (pa_cons (pe_ix ix_tup (pe_tup (pa_cons pe_str (pa_cons pe_str pa_nil))) (pe_call G_l_draw (hr.mono (by omega)) rfl T.g_l_draw T.F_l_draw.kp T.b_l_draw .nil pass0 (pa_cons (pv 0) (pa_cons pe_int pa_nil))) (fun _ _ => rfl)) pa_nil)))))
          pss_nil)
        (pss_cons (ps_if (pt_cmpR op_eq (pv 1) pe_int (nomark _))
          (pss_one (ps_ret (pe_tup (pa_cons pe_str (pa_cons (pe_call G_l_draw (hr.mono (by omega)) rfl T.g_l_draw T.F_l_draw.kp T.b_l_draw .nil pass0 (pa_cons (pv 0) (pa_cons pe_int pa_nil))) pa_nil)))))
          pss_nil)
        (pss_one (ps_ret (pe_tup (pa_cons pe_str (pa_cons (pe_tup (pa_cons pe_str (pa_cons (pe_call G_l_draw (hr.mono (by omega)) rfl T.g_l_draw T.F_l_draw.kp T.b_l_draw .nil pass0 (pa_cons (pv 0) (pa_cons pe_int pa_nil))) pa_nil))) (pa_cons (pe_tup (pa_cons pe_str (pa_cons (pe_ix ix_tup (pe_tup (pa_cons pe_str (pa_cons pe_str pa_nil))) (pe_call G_l_draw (hr.mono (by omega)) rfl T.g_l_draw T.F_l_draw.kp T.b_l_draw .nil pass0 (pa_cons (pv 0) (pa_cons pe_int pa_nil))) (fun _ _ => rfl)) pa_nil))) pa_nil)))))))))), ?_⟩
    refine ⟨_, rfl, st, cs, 5, rfl, S, by decide, by decide, fun r H1 r0 r1 S1 R1 => ?_⟩
    refine ⟨_, rfl, _, _, rfl, rfl, _, rfl, ?_⟩
    refine ite2 (fun _ => ?_) (fun _ => ?_)
    · exact k .non .none H1 .non (by decide) S1 R1
    refine ⟨_, rfl, rfl, _, rfl, ?_⟩
    refine ite2 (fun _ => ?_) (fun _ => ?_)
    · refine ⟨by show 2 ≤ sizeLine; decide, fun t ht => ⟨_, rfl, st, cs, 2, rfl, S1.upd ht, by decide, by decide, fun r' H2 q0 q1 S2 R2 => ?_⟩⟩
      obtain ⟨v, hv, hm⟩ := atI_small (xs := [V.str "a", V.str "b"]) q0 q1
      obtain ⟨z, rfl, hz⟩ : ∃ z, v = .str z ∧ PyData.strOk z = true := by
        simp only [List.mem_cons, List.not_mem_nil, or_false] at hm
        rcases hm with rfl | rfl <;> exact ⟨_, rfl, by decide +kernel⟩
      refine ⟨t, _, _, _, rfl, rfl, SqT.of ((S1.upd ht).mut.tup R2 t _ upd_same), hv, ?_⟩
      refine ⟨by show 2 ≤ sizeLine; decide, fun p hp => ?_⟩
      exact k _ _ _ (NK.laid hp (.cons (.str _) (.cons (.str z) .nil))) (by simp [flY, okN, okNs, NestedKey.depth, NestedKey.depthAll, hz]; decide +kernel) (S2.upd hp) ((R1.trans (((Sm.refl _ _).new ht).trans R2)).trans ((Sm.refl _ _).new hp))
    refine ⟨_, rfl, rfl, _, rfl, ?_⟩
    refine ite2 (fun _ => ?_) (fun _ => ?_)
    · refine ⟨_, rfl, st, cs, 3, rfl, S1, by decide, by decide, fun r' H2 q0 q1 S2 R2 => ?_⟩
      refine ⟨by show 2 ≤ sizeLine; decide, fun p hp => ?_⟩
      exact k _ _ _ (NK.laid hp (.cons (.str _) (.cons (.int _) .nil))) (by simp [flY, okN, okNs, NestedKey.depth, NestedKey.depthAll]; decide +kernel) (S2.upd hp) ((R1.trans R2).trans ((Sm.refl _ _).new hp))
    · refine ⟨_, rfl, st, cs, 2, rfl, S1, by decide, by decide, fun r2 H2 q0 q1 S2 R2 => ?_⟩
      refine ⟨by show 2 ≤ sizeLine; decide, fun p hp => ?_⟩
      have N1 : NK (upd H2 p (.tup [V.str "id", V.int r2])) (.ref p) (.tup [.text "id", .num r2]) := NK.laid hp (.cons (.str _) (.cons (.int _) .nil))
      refine ⟨by show 2 ≤ sizeLine; decide, fun t ht => ⟨_, rfl, st, cs, 2, rfl, (S2.upd hp).upd ht, by decide, by decide, fun r3 H3 q2 q3 S3 R3 => ?_⟩⟩
      obtain ⟨v, hv, hm⟩ := atI_small (xs := [V.str "a", V.str "b"]) q2 q3
      obtain ⟨z, rfl, hz⟩ : ∃ z, v = .str z ∧ PyData.strOk z = true := by
        simp only [List.mem_cons, List.not_mem_nil, or_false] at hm
        rcases hm with rfl | rfl <;> exact ⟨_, rfl, by decide +kernel⟩
      have tk := ((S2.upd hp).upd ht).mut.tup R3
      refine ⟨t, _, _, _, rfl, rfl, SqT.of (tk t _ upd_same), hv, ?_⟩
      refine ⟨by show 2 ≤ sizeLine; decide, fun p2 hp2 => ?_⟩
      have N2 : NK (upd H3 p2 (.tup [V.str "field", V.str z])) (.ref p2) (.tup [.text "field", .text z]) := NK.laid hp2 (.cons (.str _) (.cons (.str _) .nil))
      have N1' : NK (upd H3 p2 (.tup [V.str "field", V.str z])) (.ref p) (.tup [.text "id", .num r2]) := (NK.mono tk _ _ (N1.same (same_add ht))).same (same_add hp2)
      refine ⟨by show 3 ≤ sizeLine; decide, fun p3 hp3 => ?_⟩
      exact k _ _ _ (NK.laid hp3 (.cons (.str _) (.cons N1' (.cons N2 .nil)))) (by simp [flY, okN, okNs, NestedKey.depth, NestedKey.depthAll, hz]; decide +kernel) ((S3.upd hp2).upd hp3)
        ((((R1.trans R2).trans ((Sm.refl _ _).new hp)).trans (((Sm.refl _ _).new ht).trans R3)).trans (((Sm.refl _ _).new hp2).trans ((Sm.refl _ _).new hp3)))
end
end G
set_option Elab.async false
set_option linter.all false
set_option maxRecDepth 100000
set_option maxHeartbeats 4000000
namespace G
open PySem L2 Nd
section
variable {P : Program} {w : World} {K : PySem.W.Frag} {mg : Str → Option Value} {base : Heap}
theorem ok_l_tree (T : Txt K mg) (m : Nat) : ∀ n : Nat, FnOk P w K mg base CX0 (n + 2) T.f_l_tree T.d_l_tree ["_law_stream_here", "_law_most", "_law_deep", "_law_place"] (spTree m n)
  | 0 => fn_false fun vs H Q E h => by
    obtain ⟨_, _, _, _, _, _, h, _⟩ := h
    exact absurd h (by decide)
  | n + 1 => by
    have G_l_draw : FnOk P w K mg base CX0 1 T.f_l_draw T.d_l_draw ["_law_stream_here", "_law_many"] spDraw := ok_l_draw T
    have G_l_tree_key : FnOk P w K mg base CX0 2 T.f_l_tree_key T.d_l_tree_key ["_law_stream_here"] spKey := ok_l_tree_key T
    have G_l_tree := ok_l_tree T m n
    refine T.F_l_tree.ok sc_l_tree (fun vs H Q E h => ?_) (fun cdv A outer s H vs Q E hr h => ?_)
    · obtain ⟨_, _, _, _, _, rfl, _⟩ := h
      rfl
    · obtain ⟨M, st, cs, pl, path, rfl, hn, hm, hpl, hbn, S, L, mst, mcs, hp, k⟩ := h
      refine ⟨_, (pss_cons (ps_set (i := 4) sc_l_tree.nd rfl (Or.inl rfl) (pe_lst pa_nil))
        (pss_cons (ps_for PassesOwn.never rfl (pi_range1 rfl T.z_range (pa_cons (pe_call G_l_draw (hr.mono (by omega)) rfl T.g_l_draw T.F_l_draw.kp T.b_l_draw .nil pass0 (pa_cons (pv 0) (pa_cons (pe_op op_add (pv 1) pe_int) pa_nil))) pa_nil)) (pg_name (i := 5) sc_l_tree.nd rfl (Or.inl rfl))
          (pss_cons (ps_set (i := 6) sc_l_tree.nd rfl (Or.inl rfl) (pe_ix ix_tup (pe_tup (pa_cons pe_non (pa_cons pe_str (pa_cons pe_str pa_nil)))) (pe_call G_l_draw (hr.mono (by omega)) rfl T.g_l_draw T.F_l_draw.kp T.b_l_draw .nil pass0 (pa_cons (pv 0) (pa_cons pe_int pa_nil))) (fun _ _ => rfl)))
          (pss_cons (ps_set (i := 7) sc_l_tree.nd rfl (Or.inl rfl) (pe_call G_l_tree_key (hr.mono (by omega)) rfl T.g_l_tree_key T.F_l_tree_key.kp T.b_l_tree_key .nil pass0 (pa_cons (pv 0) pa_nil)))
          (pss_cons (ps_set (i := 8) sc_l_tree.nd rfl (Or.inl rfl) (pe_lst pa_nil))
          (Evl.pss_cut (ps_if (pt_cmpR op_gt (pv 2) pe_int (nomark _))
            (pss_one (ps_set (i := 8) sc_l_tree.nd rfl (Or.inl rfl) (pe_call G_l_tree (hr.mono (by omega)) rfl T.g_l_tree T.F_l_tree.kp T.b_l_tree .nil pass0 (pa_cons (pv 0) (pa_cons (pv 1) (pa_cons (pe_op op_sub (pv 2) pe_int) (pa_cons (pe_op op_catN (pv 3) (pe_tup (pa_cons (pv 5) (pa_cons pe_int pa_nil)))) pa_nil)))))))
            pss_nil)
          (pss_one (ps_expr (pe_bm PySem.F.plainAttrs_list PySem.F.slot_list_append PySem.F.type_list_append mt_append (pv 4) (pa_cons (pe_tup (pa_cons (pv 6) (pa_cons (pv 7) (pa_cons (pe_tup (pa_cons (pe_op op_catN (pv 3) (pe_tup (pa_cons (pv 5) pa_nil))) (pa_cons (pe_tup (pa_cons (pe_call G_l_draw (hr.mono (by omega)) rfl T.g_l_draw T.F_l_draw.kp T.b_l_draw .nil pass0 (pa_cons (pv 0) (pa_cons pe_int pa_nil))) pa_nil)) pa_nil))) (pa_cons (pv 8) pa_nil))))) pa_nil)))))))))
        (pss_one (ps_ret (pv 4))))), ?_⟩
      -- nodes = []
      refine ⟨Nat.zero_le _, fun D hD => ?_⟩
      have hDM : D ∉ M := L.new hD
      have hD2 : D ∉ [st, cs] := fun z => hDM (by
        simp only [List.mem_cons, List.not_mem_nil, or_false] at z
        rcases z with rfl | rfl <;> assumption)
      refine ⟨_, rfl, _, rfl, _, _, rfl, rfl, st, cs, _, rfl, S.upd hD, (by show (0 : Int) < (m : Int) + 1; omega), nat200 (by show (0 : Int) ≤ (m : Int) + 1; omega) (by show (m : Int) + 1 < 1000000; omega), fun r H1 r0 r1 S1 R1 => ?_⟩
      have r1' : r < (m : Int) + 1 := r1
      have L1 : MutL (D :: M) H1 := (L.upd hDM).step S1 R1 |>.cons (R1 D _ upd_same hD2)
      refine ⟨r, rfl, by omega, by omega, for_it walk_range0 (fun i σ H2 => ∃ (vs : List V) (ts : List Tree) (a b c d : Option V), σ = [some (.ref st), some (.int (m : Int)), some (.int ((n + 1 : Nat) : Int)), some (.ref pl), some (.ref D), a, b, c, d] ∧
        H2 D = some (.lst vs) ∧ TrL (D :: M) H2 vs ts ∧ ts.length = i ∧ OwnOk path ts ∧ fitL ts = true ∧ depL ts ≤ n + 1 ∧ sizeL ts ≤ i * (1 + bnd m n) ∧ Stm H2 st cs ∧ MutL (D :: M) H2 ∧ Sm [st, cs] H H2)
        ⟨[], [], none, none, none, none, rfl, R1 D _ upd_same hD2, .nil, rfl, OwnOk.nil _, rfl, Nat.zero_le _, by simp [sizeL], S1, L1, ((Sm.refl _ _).new hD).trans R1⟩ (fun _ _ _ _ _ => True.intro) ?_ ?_⟩
      · rintro i x σ H2 H2' hi ⟨vs, ts, a, b, c, d, rfl, h1, h2, h3, h4, h5, h6, h7, S2, L2, R2⟩ ⟨rfl, rfl⟩
        -- kind
        refine ⟨by show 3 ≤ sizeLine; decide, fun t ht => ⟨_, rfl, st, cs, 3, rfl, S2.upd ht, by decide, by decide, fun r2 H3 q0 q1 S3 R3 => ?_⟩⟩
        obtain ⟨vk, hvk, hvm⟩ := atI_small (xs := [V.non, V.str "p", V.str "q"]) q0 q1
        refine ⟨t, _, _, _, rfl, rfl, SqT.of ((S2.upd ht).mut.tup R3 t _ upd_same), hvk, ?_⟩
        have R3' : Sm [st, cs] H2' H3 := ((Sm.refl _ _).new ht).trans R3
        -- key
        refine ⟨_, rfl, st, cs, rfl, S3, fun vy ky H4 N4 d4 S4 R4 => ?_⟩
        refine ⟨Nat.zero_le _, fun B hB => ?_⟩
        have R4' : Sm [st, cs] H2' H4 := R3'.trans R4
        have L4 : MutL (D :: M) H4 := L2.step S4 R4'
        have hBM : B ∉ D :: M := L4.new hB
        -- below
        refine Evl.q_cut (M := fun σ H5 => ∃ (B : Addr) (vb : List V) (bs : List Tree), σ = [some (.ref st), some (.int (m : Int)), some (.int ((n + 1 : Nat) : Int)), some (.ref pl), some (.ref D), some (.int (i : Int)), some vk, some vy, some (.ref B)] ∧
          H5 B = some (.lst vb) ∧ B ∉ D :: M ∧ TrL (D :: M) H5 vb bs ∧ OwnOk (path ++ [(i : Int), 0]) bs ∧ fitL bs = true ∧ depL bs ≤ n ∧ sizeL bs ≤ bnd m n ∧ Stm H5 st cs ∧ Sm [st, cs] H4 H5) ?_ ?_
        · refine ⟨_, rfl, _, _, rfl, rfl, _, rfl, ?_⟩
          refine ite2d (fun hd => ?_) (fun hd => ?_)
          · refine ⟨_, rfl, _, rfl, _, rfl, _, _, rfl, rfl, _, rfl, _, rfl, by show 2 ≤ sizeLine; decide, fun t2 ht2 => ?_⟩
            have hpl4 : H4 pl = some (.tup (path.map V.int)) := (S.mut.tup (R2.trans R4')) pl _ hp
            have hpl5 : upd (upd H4 B (.lst [])) t2 (.tup [V.int (i : Int), V.int 0]) pl = some (.tup (path.map V.int)) := same_add ht2 _ _ (same_add hB _ _ hpl4)
            refine ⟨pl, t2, _, _, rfl, rfl, hpl5, upd_same, ?_, fun p H5 E5 hp5 => ?_⟩
            · rw [List.length_map]; show path.length + 2 ≤ sizeLine; exact Nat.le_trans (show path.length + 2 ≤ 1002 by omega) (by decide)
            have S5 : Stm H5 st cs := ((S4.upd hB).upd ht2).keep (fun o e => E5 _ _ e) (fun o e => E5 _ _ e)
            have R5 : Sm [st, cs] H4 H5 := Sm.same (((same_add hB).trans (same_add ht2)).trans E5)
            have hn0 : 0 < n := by
              have : (1 : Int) < ((n + 1 : Nat) : Int) := hd
              omega
            have ed : ((n + 1 : Nat) : Int) - 1 = (n : Int) := by omega
            refine ⟨D :: M, st, cs, p, path ++ [(i : Int), 0], ?_, hn0, hm, ?_, ?_, S5, L4.step S5 R5, List.mem_cons_of_mem _ mst, List.mem_cons_of_mem _ mcs, ?_, fun a6 xs6 ts6 H6 g1 g2 g3 g4 S6 R6 => ?_⟩
            · show [V.ref st, V.int (m : Int), V.int (((n + 1 : Nat) : Int) - 1), V.ref p] = _
              rw [ed]
            · rw [List.length_append]; show path.length + 2 + 2 * n < 1000; omega
            · exact Nat.lt_of_le_of_lt (bnd_step m n (by omega)) hbn
            · rw [hp5, List.map_append]; rfl
            · have hn6 : H4 a6 = none := (R5.free g2 (fun z => (L4.step S5 R5).new g2 (by
                simp only [List.mem_cons, List.not_mem_nil, or_false] at z
                rcases z with rfl | rfl
                · exact List.mem_cons_of_mem _ mst
                · exact List.mem_cons_of_mem _ mcs)))
              exact ⟨a6, xs6, ts6, rfl, g1, L4.new hn6, g3, g4.own, g4.fit, g4.dep, g4.siz, S6, R5.trans R6⟩
          · exact ⟨B, [], [], rfl, upd_same, hBM, .nil, OwnOk.nil _, rfl, Nat.zero_le _, Nat.zero_le _, S4.upd hB, (Sm.refl _ _).new hB⟩
        · rintro σ H5 ⟨B5, vb, bs, rfl, b1, b2, b3, b4, b5, b6, b7, S5, R5⟩
          have R5' : Sm [st, cs] H2' H5 := R4'.trans R5
          have R25 : Sm [st, cs] H H5 := R2.trans R5'
          have hD5 : H5 D = some (.lst vs) := R5' D _ h1 hD2
          have hpl5 : H5 pl = some (.tup (path.map V.int)) := (S.mut.tup R25) pl _ hp
          refine ⟨_, rfl, .inl ⟨rfl, _, SqL.of hD5⟩, _, rfl, _, rfl, _, rfl, _, rfl, by show 1 ≤ sizeLine; decide, fun t1 ht1 => ?_⟩
          refine ⟨pl, t1, _, _, rfl, rfl, same_add ht1 _ _ hpl5, upd_same, ?_, fun p H6 E6 hp6 => ?_⟩
          · rw [List.length_map]; show path.length + 1 ≤ sizeLine; exact Nat.le_trans (show path.length + 1 ≤ 1002 by omega) (by decide)
          have E56 : Same H5 H6 := (same_add ht1).trans E6
          have S6 : Stm H6 st cs := S5.keep (fun o e => E56 _ _ e) (fun o e => E56 _ _ e)
          refine ⟨_, rfl, st, cs, 3, rfl, S6, by decide, by decide, fun r7 H7 u0 u1 S7 R7 => ⟨by show 1 ≤ sizeLine; decide, fun t8 ht8 => ⟨by show 2 ≤ sizeLine; decide, fun t9 ht9 => ⟨_, rfl, by show 4 ≤ sizeLine; decide, fun t10 ht10 => ?_⟩⟩⟩⟩
          have E79 := ((same_add (o := .tup [V.int r7]) ht8).trans (same_add (o := .tup [V.ref p, V.ref t8]) ht9)).trans (same_add (o := .tup [vk, vy, V.ref t9, V.ref B5]) ht10)
          have R57 : Sm [st, cs] H5 H7 := (Sm.same E56).trans R7
          have L7 : MutL (D :: M) H7 := L2.step S7 (R5'.trans R57)
          have sub : ∀ b ∈ [st, cs], b ∈ D :: M := fun b hb => by
            simp only [List.mem_cons, List.not_mem_nil, or_false] at hb
            rcases hb with rfl | rfl
            · exact List.mem_cons_of_mem _ mst
            · exact List.mem_cons_of_mem _ mcs
          have L5 : MutL (D :: M) H5 := L2.step S5 R5'
          have tk7 := S5.mut.tup R57
          -- everything at the last heap
          have hD9 := E79 _ _ (R57 D _ hD5 hD2)
          refine ⟨D, vs, _, rfl, rfl, hD9, ?_, ?_⟩
          · rw [h2.len, h3]
            exact Nat.lt_of_lt_of_le (show i < 1000 by omega) (by decide)
          have hp7 : NK H7 (.ref p) (.tup ((path ++ [(i : Int)]).map NestedKey.num)) := by
            refine .tup ((S6.mut.tup R7) p _ hp6) ?_
            have : path.map V.int ++ [V.int (i : Int)] = (path ++ [(i : Int)]).map V.int := by rw [List.map_append]; rfl
            rw [this]
            exact nks_ints _
          have N9 := NK.laid (H := upd H7 t8 (.tup [V.int r7])) ht9 (.cons (hp7.same (same_add ht8)) (.cons (NK.laid ht8 (.cons (.int r7) .nil)) .nil))
          obtain ⟨kk, Nk, dk⟩ := nk_menu (H := H7) hvm
          have Ny : NK H7 vy ky := NK.mono (S4.mut.tup (R5.trans R57)) _ _ N4
          have tb := (b3.sm L5 (R57.mono sub)).same E79
          have hB9 := E79 _ _ (R57 B5 _ b1 (fun z => b2 (sub _ z)))
          have node : TrT (D :: M) _ (.ref t10) (.node kk ky (ownOf (path ++ [(i : Int)]) r7) bs) :=
            .mk (H := upd (upd (upd H7 t8 (.tup [V.int r7])) t9 (.tup [V.ref p, V.ref t8])) t10 (.tup [vk, vy, V.ref t9, V.ref B5])) upd_same (Nk.same E79) (Ny.same E79) (N9.same (same_add ht10)) hB9 b2 tb
          have old := ((h2.sm L2 ((R5'.trans R57).mono sub)).same E79)
          refine ⟨vs ++ [.ref t10], ts ++ [.node kk ky (ownOf (path ++ [(i : Int)]) r7) bs], _, _, _, _, rfl, upd_same, (old.snoc node).put hD9 List.mem_cons_self, ?_, ?_, ?_, ?_, ?_, ?_, ?_, ?_⟩
          · rw [List.length_append, h3]; rfl
          · have := h4.snoc (k := kk) (y := ky) (r := r7) (bs := bs) (by rw [h3]; exact b4)
            rw [h3] at this
            exact this
          · rw [fitL_append, h5]
            simp [fitL, fitT, dk, d4, b5, ownOf_depth]
          · rw [depL_append]
            simp only [depL, depT]
            omega
          · rw [sizeL_append]
            simp only [sizeL, sizeT]
            have : (i + 1) * (1 + bnd m n) = i * (1 + bnd m n) + (1 + bnd m n) := Nat.succ_mul _ _
            omega
          · exact (((S7.upd ht8).upd ht9).upd ht10).updn (fun z => hD2 (by simp [z])) (fun z => hD2 (by simp [z]))
          · exact (L7.same E79).put
          · exact (((R25.trans R57).trans (Sm.same E79))).new hD
      · rintro σ H2 ⟨vs, ts, a, b, c, d, rfl, h1, h2, h3, h4, h5, h6, h7, S2, L2, R2⟩
        refine ⟨_, rfl, k D vs ts H2 h1 hD h2.tail ⟨h4, h5, h6, ?_, ?_⟩ S2 R2⟩
        · exact Nat.le_trans h7 (bnd_le (by omega))
        · omega
end
end G
set_option Elab.async false
set_option linter.all false
set_option maxRecDepth 100000
set_option maxHeartbeats 4000000
namespace G
open PySem L2 Nd
section
variable {P : Program} {w : World} {K : PySem.W.Frag} {mg : Str → Option Value} {base : Heap}
theorem ok_l_built (T : Txt K mg) : ∀ n : Nat, FnOk P w K mg base CX0 (n + 2) T.f_l_built T.d_l_built ["_law_nodes"] (spBuilt T.C_Node n)
  | 0 => fn_false fun vs H Q E h => by
    obtain ⟨_, _, _, _, _, _, _, _, h, _⟩ := h
    exact absurd h (Nat.not_lt_zero _)
  | n + 1 => by
    have G_m_Node_init : FnOk P w K mg base CX0 1 T.f_m_Node_init T.d_m_Node_init ["self", "kind", "key", "owner", "nodes"] (spNodeInit K T.C_Node) := ok_m_Node_init T
    have G_l_built := ok_l_built T n
    obtain ⟨ds4, vn4, bn4⟩ := T.b4_m_Node_init
    obtain ⟨ds5, vn5, bn5⟩ := T.b5_m_Node_init
    refine T.F_l_built.ok sc_l_built (fun vs H Q E h => ?_) (fun cdv A outer s H vs Q E hr h => ?_)
    · obtain ⟨_, _, _, _, _, rfl, _⟩ := h
      rfl
    · obtain ⟨M, N, a, xs, ts, rfl, ha, tr, hd, hz, LN, k⟩ := h
      refine ⟨_, (pss_cons (ps_set (i := 1) sc_l_built.nd rfl (Or.inl rfl) (pe_lst pa_nil))
        (pss_cons (ps_for PassesOwn.never rfl (pi_list (pv 0)) (pg_tup rfl (pgs_cons (pg_name (i := 2) sc_l_built.nd rfl (Or.inl rfl)) (pgs_cons (pg_name (i := 3) sc_l_built.nd rfl (Or.inl rfl)) (pgs_cons (pg_name (i := 4) sc_l_built.nd rfl (Or.inl rfl)) (pgs_cons (pg_name (i := 5) sc_l_built.nd rfl (Or.inl rfl)) pgs_nil)))))
          (pss_one (ps_if (pt_truth (pv 5) (by intro _; rfl))
            (pss_one (ps_expr (pe_bm PySem.F.plainAttrs_list PySem.F.slot_list_append PySem.F.type_list_append mt_append (pv 1) (pa_cons (pe_make T.mk_Node G_m_Node_init (hr.mono (by omega)) rfl T.gC_Node bn5 vn5 pass0 (pa_cons (pv 2) (pa_cons (pv 3) (pa_cons (pv 4) (pa_cons (pe_call G_l_built (hr.mono (by omega)) rfl T.g_l_built T.F_l_built.kp T.b_l_built .nil pass0 (pa_cons (pv 5) pa_nil)) pa_nil))))) pa_nil))))
            (pss_one (ps_expr (pe_bm PySem.F.plainAttrs_list PySem.F.slot_list_append PySem.F.type_list_append mt_append (pv 1) (pa_cons (pe_make T.mk_Node G_m_Node_init (hr.mono (by omega)) rfl T.gC_Node bn4 vn4 pass0 (pa_cons (pv 2) (pa_cons (pv 3) (pa_cons (pv 4) pa_nil)))) pa_nil)))))))
        (pss_one (ps_ret (pv 1))))), ?_⟩
      refine ⟨Nat.zero_le _, fun D hD => ?_⟩
      have hDN : D ∉ N := LN.new hD
      refine ⟨_, rfl, a, rfl, ⟨_, SqL.of (same_add hD _ _ ha)⟩, for_it (walk_list (xs := xs)) (fun i σ H2 => ∃ (ys : List V) (c1 c2 c3 c4 : Option V), σ = [some (.ref a), some (.ref D), c1, c2, c3, c4] ∧
        H2 D = some (.lst ys) ∧ NdL (D :: N) T.C_Node H2 ys (ts.take i) ∧ Same H H2)
        ⟨[], none, none, none, none, rfl, upd_same, .nil, same_add hD⟩ (fun i σ H2 _ ⟨_, _, _, _, _, _, _, _, e⟩ => SqL.of (e _ _ ha)) ?_ ?_⟩
      · rintro i x σ H2 H2' hi ⟨ys, c1, c2, c3, c4, rfl, h1, h2, h3⟩ ⟨rfl, hx⟩
        obtain ⟨t, et, tt⟩ := tr.get hx
        cases tt with
        | @mk ta tb vk vy vo vb kk ky ko us g1 g2 g3 g4 g5 g6 g7 =>
          refine ⟨ta, _, rfl, SqT.of (h3 _ _ g1), rfl, _, _, rfl, _, _, rfl, _, _, rfl, _, _, rfl, rfl, ?_⟩
          have tb2 : H2' tb = some (.lst vb) := h3 _ _ g5
          have dp : 1 + depL us ≤ depL ts := by have := depL_get et; simpa only [depT] using this
          have sp : 1 + sizeL us ≤ sizeL ts := by have := sizeL_get et; simpa only [sizeT] using this
          have hlen : ys.length < sizeLine := by
            rw [h2.len, List.length_take]
            have := sizeL_len ts
            exact Nat.lt_of_le_of_lt (show min i ts.length ≤ 1000000 by omega) (by decide)
          have etk : ts.take (i + 1) = ts.take i ++ [.node kk ky ko us] := by rw [List.take_succ, et]; rfl
          have L2 : MutL (D :: N) H2' := (LN.same h3).cons h1
          refine ⟨_, rfl, _, .inl ⟨vb, SqL.of tb2, rfl⟩, ?_⟩
          refine ite2b (fun hb => ?_) (fun hb => ?_)
          · refine ⟨_, rfl, .inl ⟨rfl, _, SqL.of h1⟩, _, rfl, _, rfl, _, rfl, _, rfl, M, D :: N, tb, vb, us, rfl, tb2, g7.same h3, by omega, by omega, L2, fun b4 ys4 H4 n4 e4 d4 s4 => ?_⟩
            intro x dx nx ndx ne
            refine ⟨x, dx, b4, vk, vy, vo, ys4, rfl, upd_same, .inl (SqL.of (by rw [upd_ne (ne_of_none e4 nx), upd_ne (ne_of_none e4 ndx)]; exact e4)), fun b5 H5 nb5 hx5 hb5 kp => ⟨rfl, ?_⟩⟩
            have s45 : Same H4 H5 := Same.made nx ndx kp
            have s25 := s4.trans s45
            have s05 := h3.trans s25
            have nb4 : H4 b5 = none := by
              cases q : H4 b5 with
              | none => rfl
              | some o => rw [upd_ne (ne_of_none q nx), upd_ne (ne_of_none q ndx), q] at nb5; cases nb5
            have hD5 := s25 _ _ h1
            refine ⟨D, ys, _, rfl, rfl, hD5, hlen, ?_⟩
            refine ⟨ys ++ [.ref x], _, _, _, _, rfl, upd_same, ?_, same_new s05 hD⟩
            rw [etk]
            refine NdL.keep (Kp.put hD5 List.mem_cons_self) _ _ ((h2.same s25).append (.cons (.mk hx5 (g2.same s05) (g3.same s05) (g4.same s05) hb5 ((L2.same s4).new nb4) (d4.same s45)) .nil))
          · have e0 : vb = [] := by simpa using hb
            subst e0
            have e1 : us = [] := by
              have := g7.len
              exact List.length_eq_zero_iff.mp this.symm
            subst e1
            refine ⟨_, rfl, .inl ⟨rfl, _, SqL.of h1⟩, _, rfl, _, rfl, _, rfl, ?_⟩
            intro x dx nx ndx ne
            refine ⟨x, dx, T.e_m_Node_init0, vk, vy, vo, [], rfl, upd_same, .inr (T.he_m_Node_init0 _), fun b5 H5 nb5 hx5 hb5 kp => ⟨rfl, ?_⟩⟩
            have s25 : Same H2' H5 := Same.made nx ndx kp
            have s05 := h3.trans s25
            have nb4 : H2' b5 = none := by
              cases q : H2' b5 with
              | none => rfl
              | some o => rw [upd_ne (ne_of_none q nx), upd_ne (ne_of_none q ndx), q] at nb5; cases nb5
            have hD5 := s25 _ _ h1
            refine ⟨D, ys, _, rfl, rfl, hD5, hlen, ?_⟩
            refine ⟨ys ++ [.ref x], _, _, _, _, rfl, upd_same, ?_, same_new s05 hD⟩
            rw [etk]
            exact NdL.keep (Kp.put hD5 List.mem_cons_self) _ _ ((h2.same s25).append (.cons (.mk hx5 (g2.same s05) (g3.same s05) (g4.same s05) hb5 (L2.new nb4) .nil) .nil))
      · rintro σ H2 ⟨ys, c1, c2, c3, c4, rfl, h1, h2, h3⟩
        refine ⟨_, rfl, k D ys H2 hD h1 ?_ h3⟩
        rw [tr.len, List.take_length] at h2
        exact NdL.keep (Kp.weak fun b hb => List.mem_cons_of_mem _ hb) ts ys h2
end
end G
set_option Elab.async false
set_option linter.all false
set_option maxRecDepth 100000
set_option maxHeartbeats 4000000
namespace G
open PySem L2 Nd
section
variable {P : Program} {w : World} {K : PySem.W.Frag} {mg : Str → Option Value} {base : Heap}
theorem ok_m_Rule_call (T : Txt K mg) : FnOk P w K mg base CX0 1 T.f_m_Rule_call T.d_m_Rule_call ["self", "nodes"] (spCall T.C_Rule T.C_Node) := by
  refine T.F_m_Rule_call.ok sc_m_Rule_call (fun vs H Q E h => ?_) (fun cdv A outer s H vs Q E hr h => ?_)
  · obtain ⟨_, _, _, _, _, _, rfl, _⟩ := h
    rfl
  · obtain ⟨all, r, dx, a, xs, ts, rfl, hrl, ha, nd, ft, hz, k⟩ := h
    refine ⟨_, (pss_cons (ps_set (i := 2) sc_m_Rule_call.nd rfl (Or.inl rfl) (pe_lst pa_nil))
        (pss_cons (ps_set (i := 3) sc_m_Rule_call.nd rfl (Or.inl rfl) n_new)
        (pss_cons (ps_set (i := 4) sc_m_Rule_call.nd rfl (Or.inl rfl) pe_int)
        (pss_cons (ps_for PassesOwn.never rfl (pi_enum (by rfl) T.z_enumerate (pa_cons (pv 1) pa_nil)) (pg_tup rfl (pgs_cons (pg_name (i := 5) sc_m_Rule_call.nd rfl (Or.inl rfl)) (pgs_cons (pg_name (i := 6) sc_m_Rule_call.nd rfl (Or.inl rfl)) pgs_nil)))
          (Evl.pss_cut (ps_if (pt_cmpR op_isN (pe_fld (pv 6) rfl) pe_non (nomark _))
            (pss_cons (ps_set (i := 7) sc_m_Rule_call.nd rfl (Or.inl rfl) (pe_ifExp (pt_cmpR op_eq (pe_fld (pv 0) rfl) (pe_con (pv 0) rfl) (nomark _)) (pv 5) (pv 4)))
            (pss_one (ps_aug (i := 4) sc_m_Rule_call.nd rfl (Or.inl rfl) pe_int ip_add)))
            (pss_cons (ps_set (i := 8) sc_m_Rule_call.nd rfl (Or.inl rfl) (pe_tup (pa_cons (pe_fld (pv 6) rfl) (pa_cons (pe_fld (pv 6) rfl) pa_nil))))
            (pss_cons (ps_set (i := 7) sc_m_Rule_call.nd rfl (Or.inl rfl) (n_get2 hr.units (pv 3) (pv 8) pe_int ⟨rfl, rfl, rfl, rfl⟩))
            (pss_one (n_put hr.units (pv 3) (pv 8) (pe_op op_add (pv 7) pe_int) rfl)))))
          (pss_one (ps_expr (pe_bm PySem.F.plainAttrs_list PySem.F.slot_list_append PySem.F.type_list_append mt_append (pv 2) (pa_cons (pe_tup (pa_cons (pe_fld (pv 6) rfl) (pa_cons (pe_fld (pv 6) rfl) (pa_cons (pv 7) pa_nil)))) pa_nil))))))
        (pss_one (ps_ret (pv 2))))))), ?_⟩
    refine ⟨Nat.zero_le _, fun D hD => fun R hR => ?_⟩
    have hR0 : H R = none := (same_add hD).free hR
    have hDR : D ≠ R := ne_of_none upd_same hR
    have e0 : Same H (upd (upd H D (.lst [])) R (DN P w R [])) := same_new (same_add hD) hR0
    refine ⟨_, rfl, a, xs, rfl, SqL.of (e0 _ _ ha), for_it (walk_enum (xs := xs)) (fun i σ H2 => ∃ (sv : List V) (es : List Ent) (c5 c6 c7 c8 : Option V), σ = [some (.ref r), some (.ref a), some (.ref D), some (.ref R), some (.int (cntN (ts.take i) : Int)), c5, c6, c7, c8] ∧
      H2 D = some (.lst sv) ∧ NKs H2 sv (slots all (ts.take i)) ∧ H2 R = some (DN P w R es) ∧ KeysAt H2 es ∧ es.length ≤ i ∧
      (∀ kk ky, ky ≠ .none → (lookN es (.tup [kk, ky])).getD (.int 0) = .int (cntK (ts.take i) kk ky : Int)) ∧ Same H H2)
      ⟨[], [], none, none, none, none, rfl, by rw [upd_ne hDR]; exact upd_same, .nil, upd_same, KeysAt.nil, Nat.le_refl _, fun _ _ _ => rfl, e0⟩ (fun i σ H2 _ ⟨_, _, _, _, _, _, _, _, _, _, _, _, _, e⟩ => SqL.of (e _ _ ha)) ?_ ?_⟩
    · rintro i x σ H2 H3 hi ⟨sv, es, c5, c6, c7, c8, rfl, h1, h2, h3, h4, h5, h6, h7⟩ ⟨tp, x1, x2, rfl, htp, rfl, e1, e2⟩
      cases e1
      obtain ⟨t, et, tt⟩ := nd.get e2
      have ftt := fitL_get ft et
      obtain ⟨f1, f2, f3, f4⟩ := fitT_at ftt
      have etk : ts.take (i + 1) = ts.take i ++ [t] := by rw [List.take_succ, et]; rfl
      have e23 : Same H2 (upd H2 tp (.tup [V.int (i : Int), x2])) := same_add htp
      have e03 := h7.trans e23
      cases tt with
      | @mk na ndx nb vk vy vo vb kk ky ko us g1 g2 g3 g4 g5 g6 g7 =>
        refine ⟨tp, _, rfl, SqT.of upd_same, rfl, _, _, rfl, _, _, rfl, rfl, ?_⟩
        have hn := e03 _ _ g1
        have lti : (ts.take i).length = i := by
          have := (List.getElem?_eq_some_iff.mp et).1
          rw [List.length_take]
          omega
        have lt : i < 1000000 := by
          have := (List.getElem?_eq_some_iff.mp et).1
          omega
        refine Evl.q_cut (M := fun σ H5 => ∃ (es : List Ent) (c8 : Option V), σ = [some (.ref r), some (.ref a), some (.ref D), some (.ref R), some (.int (cntN (ts.take (i + 1)) : Int)), some (.int (i : Int)), some (.ref na), some (.int (numAt all (ts.take i) (.node kk ky ko us) : Int)), c8] ∧
          H5 D = some (.lst sv) ∧ NKs H5 sv (slots all (ts.take i)) ∧ H5 R = some (DN P w R es) ∧ KeysAt H5 es ∧ es.length ≤ i + 1 ∧
          (∀ kk ky, ky ≠ .none → (lookN es (.tup [kk, ky])).getD (.int 0) = .int (cntK (ts.take (i + 1)) kk ky : Int)) ∧ Same H H5) ?_ ?_
        · refine ⟨_, rfl, na, T.C_Node, ndx, _, _, rfl, hn, T.cl_Node, T.n_Node_key, ndF_key _ _ _ _, rfl, _, rfl, ?_⟩
          refine ite2d (fun hv => ?_) (fun hv => ?_)
          · have hk : ky = .none := (NK.non_iff g3).mp hv
            have hrl3 := e03 _ _ hrl
            have hc1 : (cntN (ts.take (i + 1)) : Int) = (cntN (ts.take i) : Int) + 1 := by rw [etk, cntN_snoc]; simp [Tree.key, hk]
            have hcK : ∀ k1 k2, k2 ≠ .none → cntK (ts.take (i + 1)) k1 k2 = cntK (ts.take i) k1 k2 := fun k1 k2 hne => by
              rw [etk, cntK_snoc]
              simp [Tree.key, hk]
              exact fun _ z => hne z.symm
            refine ⟨_, rfl, r, T.C_Rule, dx, _, _, rfl, hrl3, T.cl_Rule, T.n_Rule_place, ruF_place _, _, rfl, r, T.C_Rule, dx, _, _, _, rfl, hrl3, T.cl_Rule, T.con_Rule_ALL, ruF_no _ (by decide +kernel), rfl, _, rfl, ?_⟩
            refine ite2d (fun hp => ?_) (fun hp => ?_)
            · have hal : all = true := by have := place_eq all; rw [decide_eq_true hp] at this; exact this.symm
              have hnum : (numAt all (ts.take i) (.node kk ky ko us) : Int) = (i : Int) := by
                simp [numAt, Tree.key, hk, hal, lti]
              refine ⟨_, rfl, _, rfl, _, _, rfl, rfl, es, c8, ?_, e23 _ _ h1, h2.same e23, e23 _ _ h3, h4.same e23, Nat.le_succ_of_le h5, fun k1 k2 hne => by rw [hcK k1 k2 hne]; exact h6 k1 k2 hne, e03⟩
              rw [hnum, hc1]
              rfl
            · have hal : all = false := by have := place_eq all; rw [decide_eq_false hp] at this; exact this.symm
              have hnum : (numAt all (ts.take i) (.node kk ky ko us) : Int) = (cntN (ts.take i) : Int) := by
                simp [numAt, Tree.key, hk, hal]
              refine ⟨_, rfl, _, rfl, _, _, rfl, rfl, es, c8, ?_, e23 _ _ h1, h2.same e23, e23 _ _ h3, h4.same e23, Nat.le_succ_of_le h5, fun k1 k2 hne => by rw [hcK k1 k2 hne]; exact h6 k1 k2 hne, e03⟩
              rw [hnum, hc1]
              rfl
          · have hk : ky ≠ .none := fun z => hv ((NK.non_iff g3).mpr z)
            have hc1 : (cntN (ts.take (i + 1)) : Int) = (cntN (ts.take i) : Int) := by rw [etk, cntN_snoc]; simp [Tree.key, hk]
            have hnum : (numAt all (ts.take i) (.node kk ky ko us) : Int) = (cntK (ts.take i) kk ky : Int) := by simp [numAt, Tree.key, Tree.kind, hk]
            have hdep : (NestedKey.tup [kk, ky]).depth ≤ 8 := by
              have a1 : kk.depth = 0 := f1
              have a2 : ky.depth ≤ 2 := f2
              simp only [NestedKey.depth, NestedKey.depthAll]
              omega
            refine ⟨_, rfl, na, T.C_Node, ndx, _, _, rfl, hn, T.cl_Node, T.n_Node_kind, ndF_kind _ _ _ _, _, rfl, na, T.C_Node, ndx, _, _, rfl, hn, T.cl_Node, T.n_Node_key, ndF_key _ _ _ _, by show 2 ≤ sizeLine; decide, fun q hq => ?_⟩
            have e24 := e23.trans (same_add (o := .tup [vk, vy]) hq)
            have e04 := h7.trans e24
            have NQ : NK (upd (upd H2 tp (.tup [V.int (i : Int), V.ref na])) q (.tup [vk, vy])) (.ref q) (.tup [kk, ky]) := NK.laid hq (.cons (g2.same e03) (.cons (g3.same e03) .nil))
            refine ⟨_, rfl, ⟨R, es, rfl, .inl (e24 _ _ h3)⟩, _, rfl, R, q, es, _, rfl, rfl, .inl (e24 _ _ h3), h4.same e24, NQ, hdep, ?_⟩
            refine ⟨_, rfl, _, _, h6 kk ky hk, rfl, _, rfl, _, rfl, R, q, es, _, rfl, rfl, .inl (e24 _ _ h3), h4.same e24, NQ, hdep, e24 _ _ h3, Nat.lt_of_lt_of_le (show es.length < 16777216 by omega) (by decide), ?_⟩
            have tk := keep_tup (H' := H2) (o := DN P w R (putN es (.tup [kk, ky]) q (.int ((cntK (ts.take i) kk ky : Int) + 1)))) (e24 _ _ h3) (fun xs z => by cases z)
            refine ⟨_, some (.ref q), ?_, ?_, NKs.mono tk _ _ (h2.same e24), upd_same, ((h4.same e24).put NQ hdep).mono tk, ?_, fun k1 k2 hne => ?_, same_new e04 hR0⟩
            · rw [hnum, hc1, ← h6 kk ky hk]
              rfl
            · rw [upd_ne hDR]; exact e24 _ _ h1
            · exact Nat.le_trans (putN_len _ _ _ _) (by omega)
            · rw [lookN_put, etk, cntK_snoc]
              by_cases hq2 : NestedKey.tup [k1, k2] = NestedKey.tup [kk, ky]
              · rw [if_pos hq2]
                injection hq2 with hq2
                injection hq2 with z1 hq2
                injection hq2 with z2 _
                subst z1 z2
                simp [Tree.kind, Tree.key]
              · rw [if_neg hq2, h6 k1 k2 hne]
                have : ¬ (kk = k1 ∧ ky = k2) := fun z => hq2 (by rw [z.1, z.2])
                simp [Tree.kind, Tree.key, this]
        · rintro σ H5 ⟨es5, c8', rfl, j1, j2, j3, j4, j5, j6, j7⟩
          have hn5 := j7 _ _ g1
          refine ⟨_, rfl, .inl ⟨rfl, _, SqL.of j1⟩, _, rfl, na, T.C_Node, ndx, _, _, rfl, hn5, T.cl_Node, T.n_Node_kind, ndF_kind _ _ _ _, _, rfl, na, T.C_Node, ndx, _, _, rfl, hn5, T.cl_Node, T.n_Node_key, ndF_key _ _ _ _, _, rfl, by show 3 ≤ sizeLine; decide, fun q hq => ?_⟩
          have e56 : Same H5 _ := same_add (o := .tup [vk, vy, V.int (numAt all (ts.take i) (.node kk ky ko us) : Int)]) hq
          have NQ : NK (upd H5 q (.tup [vk, vy, V.int (numAt all (ts.take i) (.node kk ky ko us) : Int)])) (.ref q) (slot all (ts.take i) (.node kk ky ko us)) := NK.laid hq (.cons (g2.same j7) (.cons (g3.same j7) (.cons (.int _) .nil)))
          have tk := keep_tup (H' := H2) (o := .lst (sv ++ [V.ref q])) (e56 _ _ j1) (fun xs z => by cases z)
          refine ⟨D, sv, _, rfl, rfl, e56 _ _ j1, ?_, sv ++ [.ref q], es5, _, _, _, _, rfl, upd_same, ?_, ?_, (j4.same e56).mono tk, j5, j6, same_new (j7.trans e56) hD⟩
          · rw [h2.len, slots_length, List.length_take]
            exact Nat.lt_of_le_of_lt (Nat.min_le_left _ _) (Nat.lt_of_lt_of_le lt (by decide))
          · rw [etk, slots_snoc]
            exact NKs.mono tk _ _ ((j2.same e56).snoc NQ)
          · rw [upd_ne (Ne.symm hDR)]; exact e56 _ _ j3
    · rintro σ H2 ⟨sv, es, c5, c6, c7, c8, rfl, h1, h2, h3, h4, h5, h6, h7⟩
      rw [nd.len, List.take_length] at h2
      exact ⟨_, rfl, k D sv H2 hD h1 h2 h7⟩
end
end G
set_option Elab.async false
set_option linter.all false
set_option maxRecDepth 100000
set_option maxHeartbeats 4000000
namespace G
open PySem L2 Nd
section
variable {P : Program} {w : World} {K : PySem.W.Frag} {mg : Str → Option Value} {base : Heap}
theorem ok_l_slots (T : Txt K mg) : FnOk P w K mg base CX0 1 T.f_l_slots T.d_l_slots ["_law_nodes", "_law_place"] spSlots := by
  refine T.F_l_slots.ok sc_l_slots (fun vs H Q E h => ?_) (fun cdv A outer s H vs Q E hr h => ?_)
  · obtain ⟨_, _, _, _, _, rfl, _⟩ := h
    rfl
  · obtain ⟨M, all, a, xs, ts, rfl, ha, tr, ft, hz, k⟩ := h
    refine ⟨_, (pss_cons (ps_set (i := 2) sc_l_slots.nd rfl (Or.inl rfl) (pe_lst pa_nil))
        (pss_cons (ps_for PassesOwn.never rfl (pi_range1 rfl T.z_range (pa_cons (pe_callB call_len_seq (by rfl) T.z_len (by decide +kernel) (pa_cons (pv 0) pa_nil)) pa_nil)) (pg_name (i := 3) sc_l_slots.nd rfl (Or.inl rfl))
          (pss_cons (ps_set (i := 4) sc_l_slots.nd rfl (Or.inr rfl) (pe_ix ix_tup (pe_ix ix_list (pv 0) (pv 3) (fun _ _ => rfl)) pe_int (fun _ _ => rfl)))
          (pss_cons (ps_set (i := 5) sc_l_slots.nd rfl (Or.inr rfl) (pe_ix ix_tup (pe_ix ix_list (pv 0) (pv 3) (fun _ _ => rfl)) pe_int (fun _ _ => rfl)))
          (Evl.pss_cut (ps_if (pt_cmpR op_notN (pv 5) pe_non (nomark _))
            (pss_one (ps_set (i := 6) sc_l_slots.nd rfl (Or.inl rfl) (pe_callB call_len_seq (by rfl) T.z_len (by decide +kernel) (pa_cons (pe_lc (own := [("_law_node", 7)]) (g := gName 7) (te := tVar 7) (tt := tAnd (tTest (tOp (rEqD K) (tOp (rIxT K) (tVar 7) (tC (.int 0))) (tVar 4))) (tTest (tOp (rEqD K) (tOp (rIxT K) (tVar 7) (tC (.int 1))) (tVar 5)))) rfl sc_l_slots.nd (pi_list (pe_slice sl_list (pv 0) po_none (po_some (pv 3)))) (blkOk_by (own := [("_law_node", 7)]) (N := ["_law_nodes", "_law_place", "_law_slots_here", "_law_k", "_law_kind", "_law_key", "_law_number", "_law_node"]) (sc := defScope s_l_slots) (by decide +kernel)) (fun _ _ _ _ _ => (pg_name (i := 7) sc_l_slots.nd rfl (Or.inl rfl))) (fun _ _ _ _ _ => (pts_one (PW.pt (pw_and (pt_cmpR (op_eqD hr.units) (pe_ix ix_tup (pv 7) pe_int (fun _ _ => rfl)) (pv 4) (nomark _)) (pw_and1 (pt_cmpR (op_eqD hr.units) (pe_ix ix_tup (pv 7) pe_int (fun _ _ => rfl)) (pv 5) (nomark _))))))) (fun _ _ _ _ _ => (pv 7))) pa_nil))))
            (pss_one (ps_if (pt_cmpR op_eq (pv 1) pe_str (nomark _))
              (pss_one (ps_set (i := 6) sc_l_slots.nd rfl (Or.inl rfl) (pv 3)))
              (pss_one (ps_set (i := 6) sc_l_slots.nd rfl (Or.inl rfl) (pe_callB call_len_seq (by rfl) T.z_len (by decide +kernel) (pa_cons (pe_lc (own := [("_law_node", 7)]) (g := gName 7) (te := tVar 7) (tt := tTest (tOp rIsN (tOp (rIxT K) (tVar 7) (tC (.int 1))) (tC .non))) rfl sc_l_slots.nd (pi_list (pe_slice sl_list (pv 0) po_none (po_some (pv 3)))) (blkOk_by (own := [("_law_node", 7)]) (N := ["_law_nodes", "_law_place", "_law_slots_here", "_law_k", "_law_kind", "_law_key", "_law_number", "_law_node"]) (sc := defScope s_l_slots) (by decide +kernel)) (fun _ _ _ _ _ => (pg_name (i := 7) sc_l_slots.nd rfl (Or.inl rfl))) (fun _ _ _ _ _ => (pts_one (pt_cmpR op_isN (pe_ix ix_tup (pv 7) pe_int (fun _ _ => rfl)) pe_non (nomark _)))) (fun _ _ _ _ _ => (pv 7))) pa_nil)))))))
          (pss_one (ps_expr (pe_bm PySem.F.plainAttrs_list PySem.F.slot_list_append PySem.F.type_list_append mt_append (pv 2) (pa_cons (pe_tup (pa_cons (pv 4) (pa_cons (pv 5) (pa_cons (pv 6) pa_nil)))) pa_nil))))))))
        (pss_one (ps_ret (pv 2))))), ?_⟩
    have lx : xs.length = ts.length := tr.len
    have lz := sizeL_len ts
    have szl : (3000000 : Nat) < sizeLine := by decide
    refine ⟨Nat.zero_le _, fun D hD => ?_⟩
    have e1 : Same H (upd H D (.lst [])) := same_add hD
    refine ⟨_, rfl, a, xs, rfl, .inl (SqL.of (e1 _ _ ha)), _, rfl, by omega, by omega, ?_⟩
    refine for_it walk_range0 (fun i σ H2 => ∃ (vs : List V) (c3 c4 c5 c6 c7 : Option V), σ = [some (.ref a), some (.str (placeOf all)), some (.ref D), c3, c4, c5, c6, c7] ∧ H2 D = some (.lst vs) ∧ NKs H2 vs (slots all (ts.take i)) ∧ Same H H2)
      ⟨[], none, none, none, none, none, rfl, upd_same, .nil, e1⟩ (fun _ _ _ _ _ => True.intro) ?_ ?_
    · rintro i x σ H2 H3 hi ⟨vs, c3, c4, c5, c6, c7, rfl, h1, h2, h3⟩ ⟨rfl, rfl⟩
      have hi : i < xs.length := hi
      obtain ⟨vt, hvt⟩ : ∃ v, xs[i]? = some v := ⟨_, List.getElem?_eq_getElem hi⟩
      obtain ⟨t, ht, tt⟩ := tr.get hvt
      have etk : ts.take (i + 1) = ts.take i ++ [t] := by rw [List.take_succ, ht]; rfl
      have fl := fitT_fl (fitL_get ft ht)
      have fd := fitT_at (fitL_get ft ht)
      have lvs : vs.length = i := by rw [h2.len, slots_length, List.length_take]; omega
      cases tt with
      | @mk na nb vk vy vo nvs kk ky ko us g1 g2 g3 g4 g5 g6 g7 =>
        have dt1 : kk.depth ≤ 64 := by have := fd.1; simp only [Tree.kind] at this; omega
        have dt2 : ky.depth ≤ 64 := by have := fd.2.1; simp only [Tree.key] at this; omega
        refine ⟨_, rfl, _, rfl, a, xs, _, _, rfl, rfl, SqL.of (h3 _ _ ha), atI_nat hvt, na, _, _, _, rfl, rfl, SqT.of (h3 _ _ g1), rfl, ?_⟩
        refine ⟨_, rfl, _, rfl, a, xs, _, _, rfl, rfl, SqL.of (h3 _ _ ha), atI_nat hvt, na, _, _, _, rfl, rfl, SqT.of (h3 _ _ g1), rfl, ?_⟩
        have ct : cutV xs none (some (i : Int)) = xs.take i := cut_to rfl
        refine Evl.q_cut (M := fun σ H4 => ∃ (c7 : Option V), σ = [some (.ref a), some (.str (placeOf all)), some (.ref D), some (.int (i : Int)), some vk, some vy, some (.int (numAt all (ts.take i) (.node kk ky ko us) : Int)), c7] ∧ Same H3 H4) ?_ ?_
        · refine ⟨_, rfl, rfl, _, rfl, ?_⟩
          refine ite2n (fun hv => ?_) (fun hv => ?_)
          · have hk : ky ≠ .none := fun z => hv ((NK.non_iff g3).mpr z)
            refine ⟨_, rfl, _, rfl, (i : Int), rfl, a, xs, rfl, SqL.of (h3 _ _ ha), fun p hp => ⟨p, rfl, ⟨_, SqL.of upd_same⟩, fun D2 hD2n => ?_⟩⟩
            rw [ct] at hD2n ⊢
            have npD : p ≠ D2 := ne_of_none upd_same hD2n
            have nD2 : H3 D2 = none := (same_add hp).free hD2n
            refine lc_it (walk_list (xs := xs.take i)) (fun j H4 => Same H3 H4 ∧ H4 p = some (.lst (xs.take i)) ∧ ∃ ws, H4 D2 = some (.lst ws) ∧ ws.length = (ids (onT (cK (.node kk ky ko us)) ts) j).length)
              ⟨same_new (same_add hp) nD2, by rw [upd_ne npD]; exact upd_same, [], upd_same, rfl⟩ (fun i H3 _ h => SqL.of h.2.1) ?_ ?_
            · rintro j x H4 H5 hj ⟨s3, h4, ws, h5, h6⟩ ⟨rfl, hx⟩
              have hj : j < (xs.take i).length := hj
              have hji : j < i := by rw [List.length_take] at hj; omega
              rw [List.getElem?_take, if_pos hji] at hx
              obtain ⟨u, hu, tu⟩ := tr.get hx
              have fu := fitT_fl (fitL_get ft hu)
              have fud := fitT_at (fitL_get ft hu)
              have hl : ws.length < sizeLine := by
                rw [h6]
                have := ids_len (onT (cK (.node kk ky ko us)) ts) j
                omega
              have s03 := h3.trans s3
              have no : onT (cK (.node kk ky ko us)) ts j ≠ true → Same H3 H5 ∧ H5 p = some (.lst (xs.take i)) ∧ ∃ ws, H5 D2 = some (.lst ws) ∧ ws.length = (ids (onT (cK (.node kk ky ko us)) ts) (j + 1)).length := fun h => ⟨s3, h4, ws, h5, by rw [ids_succ, if_neg h, List.append_nil]; exact h6⟩
              cases tu with
              | @mk ua ub uk uy uo uvs ukk uky uko uus w1 w2 w3 w4 w5 w6 w7 =>
                have du1 : ukk.depth ≤ 64 := by have := fud.1; simp only [Tree.kind] at this; omega
                have du2 : uky.depth ≤ 64 := by have := fud.2.1; simp only [Tree.key] at this; omega
                refine ⟨rfl, _, rfl, ua, _, _, _, rfl, rfl, SqT.of (s03 _ _ w1), rfl, _, rfl, ?_⟩
                refine eqD_key (w2.same s03) (g2.same s03) (flK_ok fu.1) (flK_ok fl.1) du1 dt1 ⟨_, rfl, ?_⟩
                refine ite2d (fun hv1 => ?_) (fun hv1 => no (by rw [onT_at hu]; simp [cK, Tree.kind, hv1]))
                refine ⟨_, rfl, ua, _, _, _, rfl, rfl, SqT.of (s03 _ _ w1), rfl, _, rfl, ?_⟩
                refine eqD_key (w3.same s03) (g3.same s03) (flY_ok fu.2) (flY_ok fl.2) du2 dt2 ⟨_, rfl, ?_⟩
                refine ite2d (fun hv2 => ?_) (fun hv2 => no (by rw [onT_at hu]; simp [cK, Tree.key, hv2]))
                refine ⟨_, rfl, _, h5, hl, same_new s3 nD2, by rw [upd_ne npD]; exact h4, _, upd_same, ?_⟩
                rw [ids_succ, if_pos (by rw [onT_at hu]; simp [cK, Tree.kind, Tree.key, hv1, hv2]), List.length_append, List.length_append, h6]
                rfl
            · rintro H4 ⟨s3, h4, ws, h5, h6⟩
              have lk : (xs.take i).length = i := by rw [List.length_take]; omega
              rw [lk] at h6
              refine ⟨D2, ws, rfl, .inl (SqL.of h5), c7, ?_, s3⟩
              rw [h6, num_key (t := .node kk ky ko us) hk]
              rfl
          · have hk : ky = .none := (NK.non_iff g3).mp hv
            subst hk
            refine ⟨_, rfl, rfl, _, rfl, ?_⟩
            rw [place_eq]
            refine ite2b (fun hall => ?_) (fun hall => ?_)
            · refine ⟨_, rfl, c7, ?_, Same.refl _⟩
              have : numAt all (ts.take i) (.node kk .none ko us) = i := by
                rw [numAt, if_pos (show (Tree.node kk .none ko us).key = .none from rfl), if_pos hall, List.length_take]; omega
              rw [this]
              rfl
            · refine ⟨_, rfl, _, rfl, (i : Int), rfl, a, xs, rfl, SqL.of (h3 _ _ ha), fun p hp => ⟨p, rfl, ⟨_, SqL.of upd_same⟩, fun D2 hD2n => ?_⟩⟩
              rw [ct] at hD2n ⊢
              have npD : p ≠ D2 := ne_of_none upd_same hD2n
              have nD2 : H3 D2 = none := (same_add hp).free hD2n
              refine lc_it (walk_list (xs := xs.take i)) (fun j H4 => Same H3 H4 ∧ H4 p = some (.lst (xs.take i)) ∧ ∃ ws, H4 D2 = some (.lst ws) ∧ ws.length = (ids (onT (cN all) ts) j).length)
                ⟨same_new (same_add hp) nD2, by rw [upd_ne npD]; exact upd_same, [], upd_same, rfl⟩ (fun i H3 _ h => SqL.of h.2.1) ?_ ?_
              · rintro j x H4 H5 hj ⟨s3, h4, ws, h5, h6⟩ ⟨rfl, hx⟩
                have hj : j < (xs.take i).length := hj
                have hji : j < i := by rw [List.length_take] at hj; omega
                rw [List.getElem?_take, if_pos hji] at hx
                obtain ⟨u, hu, tu⟩ := tr.get hx
                have hl : ws.length < sizeLine := by
                  rw [h6]
                  have := ids_len (onT (cN all) ts) j
                  omega
                have s03 := h3.trans s3
                cases tu with
                | @mk ua ub uk uy uo uvs ukk uky uko uus w1 w2 w3 w4 w5 w6 w7 =>
                  refine ⟨rfl, _, rfl, ua, _, _, _, rfl, rfl, SqT.of (s03 _ _ w1), rfl, rfl, _, rfl, ?_⟩
                  refine ite2d (fun hv => ?_) (fun hv => ?_)
                  · have hk : uky = .none := (NK.non_iff w3).mp hv
                    refine ⟨_, rfl, _, h5, hl, same_new s3 nD2, by rw [upd_ne npD]; exact h4, _, upd_same, ?_⟩
                    rw [ids_succ, if_pos (by rw [onT_at hu, cN, hk]; simp [Tree.key]), List.length_append, List.length_append, h6]
                    rfl
                  · have hk : uky ≠ .none := fun z => hv ((NK.non_iff w3).mpr z)
                    refine ⟨s3, h4, ws, h5, ?_⟩
                    rw [ids_succ, if_neg (by rw [onT_at hu, cN, hall]; simp [Tree.key, hk]), List.append_nil]
                    exact h6
              · rintro H4 ⟨s3, h4, ws, h5, h6⟩
                have lk : (xs.take i).length = i := by rw [List.length_take]; omega
                rw [lk] at h6
                refine ⟨D2, ws, rfl, .inl (SqL.of h5), c7, ?_, s3⟩
                rw [h6, num_none (all := all) (t := .node kk .none ko us) (u := .node kk .none ko us) rfl (by omega)]
                rfl
        · rintro σ H4 ⟨c7, rfl, e4⟩
          have hD4 := e4 _ _ h1
          refine ⟨_, rfl, .inl ⟨rfl, _, SqL.of hD4⟩, _, rfl, _, rfl, _, rfl, by show 3 ≤ sizeLine; decide, fun q hq => ⟨D, vs, _, rfl, rfl, same_add hq _ _ hD4, by omega, ?_⟩⟩
          have e5 := same_add (o := .tup [vk, vy, V.int (numAt all (ts.take i) (.node kk ky ko us) : Int)]) hq
          have tk := keep_tup (H' := H) (o := .lst (vs ++ [V.ref q])) (e5 _ _ hD4) (fun xs z => by cases z)
          have e05 := (h3.trans e4).trans e5
          refine ⟨_, _, _, _, _, _, rfl, upd_same, ?_, same_new e05 hD⟩
          rw [etk, slots_snoc]
          exact NKs.mono tk _ _ (((h2.same e4).same e5).snoc (NK.laid hq (.cons ((g2.same h3).same e4) (.cons ((g3.same h3).same e4) (.cons (.int _) .nil)))))
    · rintro σ H2 ⟨vs, c3, c4, c5, c6, c7, rfl, h1, h2, h3⟩
      have : ts.take xs.length = ts := by rw [lx, List.take_length]
      exact ⟨_, rfl, k D vs H2 hD h1 (by have q := h2; rw [show ((xs.length : Int)).toNat = xs.length from rfl, this] at q; exact q) h3⟩

end
end G
set_option Elab.async false
set_option linter.all false
set_option maxRecDepth 100000
set_option maxHeartbeats 400000
namespace G
open PySem L2 Nd
theorem hu65 {k : Nat} {A : Around} (hr : Room k A) : A.units + 65 < cLine := by have := hr.un; omega
mutual
def datK : NestedKey → Dat
  | .none => .non
  | .num i => .int i
  | .text z => .str z
  | .tup ks => .tup (datKs ks)
def datKs : List NestedKey → List Dat
  | [] => []
  | k :: ks => datK k :: datKs ks
end
mutual
theorem nk_atK {P : Addr → Prop} {H : Hp} : ∀ (k : NestedKey) (v : V), NK H v k → At P H v (datK k)
  | .none, _, h => by cases h; exact .non
  | .num _, _, h => by cases h; exact .int _
  | .text _, _, h => by cases h; exact .str _
  | .tup ks, _, h => by cases h with | tup a b => exact .tup a (nks_atK ks _ b)
theorem nks_atK {P : Addr → Prop} {H : Hp} : ∀ (ks : List NestedKey) (vs : List V), NKs H vs ks → Ats P H vs (datKs ks)
  | [], _, h => by cases h; exact .nil
  | k :: ks, _, h => by cases h with | cons a b => exact .cons (nk_atK k _ a) (nks_atK ks _ b)
end
mutual
theorem simK : ∀ (k : NestedKey) (n : Nat), k.depth < n → Sim n (datK k) (datK k)
  | _, 0, h => absurd h (by omega)
  | .none, n + 1, _ => True.intro
  | .num i, n + 1, _ => rfl
  | .text z, n + 1, _ => rfl
  | .tup ks, n + 1, h => by
    rw [NestedKey.depth] at h
    exact ⟨rfl, simKs ks n (by omega)⟩
theorem simKs : ∀ (ks : List NestedKey) (n : Nat), NestedKey.depthAll ks < n → ∀ (i : Nat) (u v : Dat), (datKs ks)[i]? = some u → (datKs ks)[i]? = some v → Sim n u v
  | [], n, _, i, u, v, e, _ => by simp [datKs] at e
  | k :: ks, n, h, i, u, v, e, f => by
    rw [NestedKey.depthAll] at h
    cases i with
    | zero => simp [datKs] at e f; subst e f; exact simK k n (by omega)
    | succ i => exact simKs ks n (by omega) i u v (by simpa [datKs] using e) (by simpa [datKs] using f)
end
theorem smv_keys {H : Hp} {a b : Addr} {xs ys : List V} {ks : List NestedKey} {n : Nat} (ha : H a = some (.lst xs)) (hb : H b = some (.lst ys)) (hab : a ≠ b) (h1 : NKs H xs ks) (h2 : NKs H ys ks) (hd : NestedKey.depthAll ks < n) : SmV H (n + 1) (.ref a) (.ref b) :=
  .inr ⟨fun c => c = a, _, _, .lst ha rfl (nks_atK ks _ h1), .lst hb (fun z => hab z.symm) (nks_atK ks _ h2), rfl, simKs ks n hd⟩
theorem odd_at {K : PySem.W.Frag} {P : Addr → Prop} {H : Hp} {v : V} {d : Dat} (h : At P H v d) (g : ∀ z, d = .str z → z ≠ "all" ∧ z ≠ "plain") : Odd K H v := by
  cases h with
  | non => exact .inl ⟨_, .base .non, kit_ty (by decide +kernel)⟩
  | bl b => exact .inl ⟨_, .base (.bl b), kit_ty (by decide +kernel)⟩
  | int i => exact .inl ⟨_, .base (.int i), kit_ty (by decide +kernel)⟩
  | str z => exact .inr ⟨z, rfl, g z rfl⟩
  | lst q _ _ => exact .inl ⟨_, .base (.lst q), kit_ty (by decide +kernel)⟩
  | tup q _ => exact .inl ⟨_, .base (.tup q), kit_ty (by decide +kernel)⟩
  | dic q _ _ _ _ => exact .inl ⟨_, .base (.dK q), kit_ty (by decide +kernel)⟩
def oddL : List Dat := [.non, .bl true, .int 0, .int (10 ^ 30), .str "", .str "All", .str "al", .str "plainx", .str "plain ", .tup [], .tup [.str "all"], .lst [], .lst [.str "plain"], .dic [] [], .dic ["all"] [.int 1]]
theorem oddL_ok : ∀ d ∈ oddL, (∀ z, d = .str z → z ≠ "all" ∧ z ≠ "plain") ∧ depD d < 5 := by
  intro d hd
  simp only [oddL, List.mem_cons, List.not_mem_nil, or_false] at hd
  rcases hd with rfl | rfl | rfl | rfl | rfl | rfl | rfl | rfl | rfl | rfl | rfl | rfl | rfl | rfl | rfl <;>
    refine ⟨fun z e => ?_, by simp [depD, depDs]⟩ <;> first | (cases e; constructor <;> decide +kernel) | cases e
theorem Kd.sm {P : Addr → Prop} {M : List Addr} {H H' : Hp} (l : MutL M H) (e : Sm M H H') (hp : ∀ b, P b → b ∉ M) : Kd P P H H' := ⟨l.tup e, fun b xs pb q => e _ _ q (hp b pb), fun b xs pb q => e _ _ q (hp b pb), fun _ q => q⟩
theorem slots_dep {all : Bool} {ts : List Tree} (h : fitL ts = true) : NestedKey.depthAll (slots all ts) < 5 := by
  refine Nat.lt_of_le_of_lt (depthAll_le (n := 3) fun k hk => ?_) (by decide)
  obtain ⟨i, hi⟩ := List.mem_iff_getElem?.mp hk
  have hl := lt_of hi
  rw [slots_length] at hl
  obtain ⟨t, ht⟩ : ∃ t, ts[i]? = some t := ⟨_, List.getElem?_eq_getElem hl⟩
  rw [slot_at all ht] at hi
  cases hi
  exact slot_depth (fitL_get h ht)
theorem slot_ok {all : Bool} {pre : List Tree} {t : Tree} (h : fitT t = true) : okN (slot all pre t) = true := by
  obtain ⟨h1, h2⟩ := fitT_fl h
  simp [slot, okN, okNs, flK_ok h1, flY_ok h2]
theorem okNs_all : ∀ {ks : List NestedKey}, (∀ k ∈ ks, okN k = true) → okNs ks = true
  | [], _ => rfl
  | k :: ks, h => by rw [okNs, h k List.mem_cons_self, okNs_all fun j hj => h j (List.mem_cons_of_mem _ hj)]; rfl
theorem shaped_keys {ks : List NestedKey} (h : okNs ks = true) (hd : NestedKey.depthAll ks ≤ 60) : SeqAt.shaped (.list (NestedKey.datas ks)) = true := by
  simp only [SeqAt.shaped, PyData.canLay0, PyData.depth, okNs_lay, deps_data, h]
  simp
  omega
theorem any_keys (j : NestedKey) : ∀ ks : List NestedKey, ((NestedKey.datas ks).any fun z => PyData.eqv z j.data) = decide (j ∈ ks)
  | [] => by simp [NestedKey.datas]
  | k :: ks => by
    rw [NestedKey.datas, List.any_cons, any_keys j ks, eqv_key]
    by_cases h : k = j
    · subst h; simp
    · have : ¬ j = k := fun z => h z.symm
      simp [h, this]
theorem slot_fresh {all : Bool} {ts : List Tree} {i : Nat} {t : Tree} (h : ts[i]? = some t) : slot all (ts.take i) t ∉ (slots all ts).take i := fun z => by
  obtain ⟨m, hm⟩ := List.mem_iff_getElem?.mp z
  rw [List.getElem?_take] at hm
  by_cases hmi : m < i
  · rw [if_pos hmi] at hm
    have hl := lt_of hm
    rw [slots_length] at hl
    obtain ⟨u, hu⟩ : ∃ u, ts[m]? = some u := ⟨_, List.getElem?_eq_getElem hl⟩
    rw [slot_at all hu] at hm
    exact slot_lt all hu h hmi (Option.some.inj hm)
  · rw [if_neg hmi] at hm; cases hm
theorem place_int (i : Int) (h0 : 0 ≤ i) : atI [V.str "all", V.str "plain"] (if decide (i > 2) then 1 else 0) = some (V.str (placeOf (decide (i < 3)))) := by
  by_cases h : i > 2
  · have h3 : ¬ i < 3 := by omega
    simp only [h, h3, decide_true, decide_false]
    rfl
  · have h3 : i < 3 := by omega
    simp only [h, h3, decide_true, decide_false]
    rfl
theorem placeOf_inj (a b : Bool) : decide (placeOf a = placeOf b) = decide (a = b) := by cases a <;> cases b <;> decide +kernel
theorem depthAll_mem {k : NestedKey} : ∀ {ks : List NestedKey}, k ∈ ks → k.depth ≤ NestedKey.depthAll ks
  | j :: ks, h => by
    rw [NestedKey.depthAll]
    rcases List.mem_cons.mp h with rfl | h
    · omega
    · have := depthAll_mem h; omega
theorem NKs.take {H : Hp} : ∀ {vs : List V} {ks : List NestedKey} (n : Nat), NKs H vs ks → NKs H (vs.take n) (ks.take n)
  | _, _, 0, _ => .nil
  | _, _, n + 1, .nil => .nil
  | _, _, n + 1, .cons a b => .cons a (NKs.take n b)
end G
set_option Elab.async false
set_option linter.all false
set_option maxRecDepth 100000
set_option maxHeartbeats 1600000
namespace G
open PySem L2 Nd
section
variable {P : Program} {w : World} {K : PySem.W.Frag} {mg : Str → Option Value} {base : Heap}
theorem ok_law (T : Txt K mg) : FnOk P w K mg base CX0 20 T.f_law T.d_law ["_law_script"] (spLaw K) := by
  have G_l_stream : FnOk P w K mg base CX0 1 T.f_l_stream T.d_l_stream ["_law_script"] (spStream K) := ok_l_stream T
  have G_l_draw : FnOk P w K mg base CX0 1 T.f_l_draw T.d_l_draw ["_law_stream_here", "_law_many"] spDraw := ok_l_draw T
  have G_l_tree : FnOk P w K mg base CX0 4 T.f_l_tree T.d_l_tree ["_law_stream_here", "_law_most", "_law_deep", "_law_place"] (fun vs H Q E => ∃ n, n ≤ 2 ∧ spTree 12 n vs H Q E) := fn_any fun n hn => (ok_l_tree T 12 n).mono (by omega)
  have G_l_built : FnOk P w K mg base CX0 12 T.f_l_built T.d_l_built ["_law_nodes"] (spBuilt T.C_Node 10) := ok_l_built T 10
  have G_l_rule : FnOk P w K mg base CX0 3 T.f_l_rule T.d_l_rule ["_law_way"] (spRule T.C_Rule) := ok_l_rule T
  have G_m_Rule_eq : FnOk P w K mg base CX0 1 T.f_m_Rule_eq T.d_m_Rule_eq ["self", "other"] (spRuleEq T.C_Rule K) := ok_m_Rule_eq T
  have G_m_Rule_call : FnOk P w K mg base CX0 1 T.f_m_Rule_call T.d_m_Rule_call ["self", "nodes"] (spCall T.C_Rule T.C_Node) := ok_m_Rule_call T
  have G_l_slots : FnOk P w K mg base CX0 1 T.f_l_slots T.d_l_slots ["_law_nodes", "_law_place"] spSlots := ok_l_slots T
  have G_l_same : FnOk P w K mg base CX0 8 T.f_l_same T.d_l_same ["_law_actual", "_law_expected"] (spSameD 7) := ok_l_sameD T 7
  have G_l_refused : FnOk P w K mg base CX0 12 T.f_l_refused T.d_l_refused ["_law_value"] (spRefused K 7) := ok_l_refused T 7
  refine T.F_law.ok sc_law (fun vs H Q E h => ?_) (fun cdv A outer s H vs Q E hr h => ?_)
  · obtain ⟨_, _, rfl, _⟩ := h
    rfl
  · obtain ⟨a, ns, rfl, hS, hlen, k⟩ := h
    refine ⟨_, (pss_cons (ps_set (i := 1) sc_law.nd rfl (Or.inl rfl) (pe_call G_l_stream (hr.mono (by omega)) rfl T.g_l_stream T.F_l_stream.kp T.b_l_stream .nil pass0 (pa_cons (pv 0) pa_nil)))
        (pss_cons (ps_set (i := 2) sc_law.nd rfl (Or.inl rfl) (pe_call G_l_draw (hr.mono (by omega)) rfl T.g_l_draw T.F_l_draw.kp T.b_l_draw .nil pass0 (pa_cons (pv 1) (pa_cons pe_int pa_nil))))
        (pss_cons (ps_set (i := 3) sc_law.nd rfl (Or.inl rfl) (pe_call G_l_draw (hr.mono (by omega)) rfl T.g_l_draw T.F_l_draw.kp T.b_l_draw .nil pass0 (pa_cons (pv 1) (pa_cons pe_int pa_nil))))
        (Evl.pss_cut (ps_set (i := 4) sc_law.nd rfl (Or.inl rfl) (pe_tup (pa_cons pe_non (pa_cons pe_bl (pa_cons pe_int (pa_cons (pe_op op_pow pe_int pe_int) (pa_cons pe_str (pa_cons pe_str (pa_cons pe_str (pa_cons pe_str (pa_cons pe_str (pa_cons (pe_tup pa_nil) (pa_cons (pe_tup (pa_cons pe_str pa_nil)) (pa_cons (pe_lst pa_nil) (pa_cons (pe_lst (pa_cons pe_str pa_nil)) (pa_cons pe_dnewK (pa_cons (pe_disp (pps_cons pe_str pe_int pps_nil) (by rfl) (by rfl) (fun z => by cases z) (by decide)) pa_nil)))))))))))))))))
        (pss_cons (ps_set (i := 5) sc_law.nd rfl (Or.inl rfl) (pe_call G_l_tree (hr.mono (by omega)) rfl T.g_l_tree T.F_l_tree.kp T.b_l_tree .nil pass0 (pa_cons (pv 1) (pa_cons pe_int (pa_cons (pe_op op_add pe_int (pe_op op_mul (pe_call G_l_draw (hr.mono (by omega)) rfl T.g_l_draw T.F_l_draw.kp T.b_l_draw .nil pass0 (pa_cons (pv 1) (pa_cons pe_int pa_nil))) (pe_callTy call_int1 (by rfl) T.z_int (by decide +kernel) (pa_cons (pe_cmpR op_eq (pe_call G_l_draw (hr.mono (by omega)) rfl T.g_l_draw T.F_l_draw.kp T.b_l_draw .nil pass0 (pa_cons (pv 1) (pa_cons pe_int pa_nil))) pe_int (nomark _)) pa_nil)))) (pa_cons (pe_tup pa_nil) pa_nil))))))
        (pss_cons (ps_set (i := 6) sc_law.nd rfl (Or.inl rfl) (pe_call G_l_rule (hr.mono (by omega)) rfl T.g_l_rule T.F_l_rule.kp T.b_l_rule .nil pass0 (pa_cons (pv 2) pa_nil)))
        (pss_cons (ps_set (i := 7) sc_law.nd rfl (Or.inl rfl) (pe_call G_l_rule (hr.mono (by omega)) rfl T.g_l_rule T.F_l_rule.kp T.b_l_rule .nil pass0 (pa_cons (pv 3) pa_nil)))
        (pss_cons (ps_set (i := 8) sc_law.nd rfl (Or.inl rfl) (pe_ix ix_tup (pe_tup (pa_cons pe_str (pa_cons pe_str pa_nil))) (pe_callTy call_int1 (by rfl) T.z_int (by decide +kernel) (pa_cons (pe_cmpR op_gt (pv 2) pe_int (nomark _)) pa_nil)) (fun _ _ => rfl)))
        (pss_cons (ps_if (PW.pt (pw_or (pt_not (pt_val (pe_call G_l_same (hr.mono (by omega)) rfl T.g_l_same T.F_l_same.kp T.b_l_same .nil pass0 (pa_cons (pe_fld (pv 6) rfl) (pa_cons (pv 8) pa_nil))))) (pw_or (pt_cmpR op_notBl (pe_cmpR (Xo.op_oeq T.eqc_Rule G_m_Rule_eq T.b_m_Rule_eq (hr.mono (by omega))) (pv 6) pe_str (nomark _)) pe_bl (nomark _)) (pw_or1 (pt_cmpR op_notBl (pe_cmpR (Xo.op_one T.eqc_Rule G_m_Rule_eq T.b_m_Rule_eq (hr.mono (by omega))) (pv 6) (pe_tup pa_nil) (nomark _)) pe_bl (nomark _))))))
          (pss_one (ps_ret pe_bl))
          pss_nil)
        (pss_cons (ps_set (i := 9) sc_law.nd rfl (Or.inl rfl) (pe_cmpR (Xo.op_oeq T.eqc_Rule G_m_Rule_eq T.b_m_Rule_eq (hr.mono (by omega))) (pv 6) (pv 7) (nomark _)))
        (pss_cons (ps_if (PW.pt (pw_or (pt_not (pt_val (pe_callB call_isi (by rfl) T.z_isinstance (by decide +kernel) (pa_cons (pv 9) (pa_cons (pe_bltn (v := .ty "bool") (u := .type "bool") rfl T.z_bool (by decide +kernel) rfl) pa_nil))))) (pw_or (pt_cmpR op_ne (pv 9) (pe_cmpR op_eq (pe_cmpR op_gt (pv 2) pe_int (nomark _)) (pe_cmpR op_gt (pv 3) pe_int (nomark _)) (nomark _)) (nomark _)) (pw_or1 (pt_cmpR op_eq (pe_cmpR (Xo.op_one T.eqc_Rule G_m_Rule_eq T.b_m_Rule_eq (hr.mono (by omega))) (pv 6) (pv 7) (nomark _)) (pv 9) (nomark _))))))
          (pss_one (ps_ret pe_bl))
          pss_nil)
        (pss_cons (ps_set (i := 10) sc_law.nd rfl (Or.inl rfl) (pe_call G_l_built (hr.mono (by omega)) rfl T.g_l_built T.F_l_built.kp T.b_l_built .nil pass0 (pa_cons (pv 5) pa_nil)))
        (pss_cons (ps_set (i := 11) sc_law.nd rfl (Or.inl rfl) (pe_call G_l_slots (hr.mono (by omega)) rfl T.g_l_slots T.F_l_slots.kp T.b_l_slots .nil pass0 (pa_cons (pv 5) (pa_cons (pv 8) pa_nil))))
        (pss_cons (ps_if (pt_not (pt_val (pe_call G_l_same (hr.mono (by omega)) rfl T.g_l_same T.F_l_same.kp T.b_l_same .nil pass0 (pa_cons (StX.pe_callO (pv 6) T.co_Rule (G_m_Rule_call.raw T.b_m_Rule_call .nil) (hr.mono (by omega)) pass0 (pa_cons (pv 10) pa_nil)) (pa_cons (pv 11) pa_nil)))))
          (pss_one (ps_ret pe_bl))
          pss_nil)
        (pss_cons (ps_if (pt_not (pt_val (pe_call G_l_same (hr.mono (by omega)) rfl T.g_l_same T.F_l_same.kp T.b_l_same .nil pass0 (pa_cons (StX.pe_callO (pv 7) T.co_Rule (G_m_Rule_call.raw T.b_m_Rule_call .nil) (hr.mono (by omega)) pass0 (pa_cons (pv 10) pa_nil)) (pa_cons (pe_call G_l_slots (hr.mono (by omega)) rfl T.g_l_slots T.F_l_slots.kp T.b_l_slots .nil pass0 (pa_cons (pv 5) (pa_cons (pe_ix ix_tup (pe_tup (pa_cons pe_str (pa_cons pe_str pa_nil))) (pe_callTy call_int1 (by rfl) T.z_int (by decide +kernel) (pa_cons (pe_cmpR op_gt (pv 3) pe_int (nomark _)) pa_nil)) (fun _ _ => rfl)) pa_nil))) pa_nil)))))
          (pss_one (ps_ret pe_bl))
          pss_nil)
        (pss_cons (ps_for PassesOwn.never rfl (pi_range1 rfl T.z_range (pa_cons (pe_callB call_len_seq (by rfl) T.z_len (by decide +kernel) (pa_cons (pv 11) pa_nil)) pa_nil)) (pg_name (i := 12) sc_law.nd rfl (Or.inl rfl))
          (pss_one (ps_if (pt_cmpR (op_inD (hu65 hr)) (pe_ix ix_list (pv 11) (pv 12) (fun _ _ => rfl)) (pe_slice sl_list (pv 11) po_none (po_some (pv 12))) (by rfl))
            (pss_one (ps_ret pe_bl))
            pss_nil)))
        (pss_one (ps_ret (pe_and (pe_call G_l_same (hr.mono (by omega)) rfl T.g_l_same T.F_l_same.kp T.b_l_same .nil pass0 (pa_cons (StX.pe_callO (pv 6) T.co_Rule (G_m_Rule_call.raw T.b_m_Rule_call .nil) (hr.mono (by omega)) pass0 (pa_cons (pv 10) pa_nil)) (pa_cons (pv 11) pa_nil))) (pe_one (pe_call G_l_refused (hr.mono (by omega)) rfl T.g_l_refused T.F_l_refused.kp T.b_l_refused .nil pass0 (pa_cons (pe_ix ix_tup (pv 4) (pe_call G_l_draw (hr.mono (by omega)) rfl T.g_l_draw T.F_l_draw.kp T.b_l_draw .nil pass0 (pa_cons (pv 1) (pa_cons (pe_callB call_len_seq (by rfl) T.z_len (by decide +kernel) (pa_cons (pv 4) pa_nil)) pa_nil))) (fun _ _ => rfl)) pa_nil)))))))))))))))))))))), ?_⟩
    refine ⟨_, rfl, a, ns, rfl, hS, hlen, fun st cs H1 S1 E1 => ?_⟩
    refine ⟨_, rfl, st, cs, 5, rfl, S1, by decide, by decide, fun w1 H2 w10 w15 S2 R2 => ?_⟩
    refine ⟨_, rfl, st, cs, 5, rfl, S2, by decide, by decide, fun w2 H3 w20 w25 S3 R3 => ?_⟩
    -- the odd values
    refine Evl.q_cut (M := fun σ H4 => ∃ (ot : Addr) (os : List V), σ = [some (.ref a), some (.ref st), some (.int w1), some (.int w2), some (.ref ot), none, none, none, none, none, none, none, none] ∧ H4 ot = some (.tup os) ∧ Ats (fun b => b ∉ [st, cs]) H4 os oddL ∧ Stm H4 st cs) ?_ ?_
    · refine ⟨_, _, rfl, rfl, ⟨by decide, by decide, by decide⟩, Nat.zero_le _, fun t1 ht1 => ⟨by show 1 ≤ sizeLine; decide, fun t2 ht2 => ⟨Nat.zero_le _, fun l1 hl1 => ⟨by show 1 ≤ sizeLine; decide, fun l2 hl2 => fun d1 hd1 => fun d2 hd2 => ?_⟩⟩⟩⟩
      have s1 := same_add (o := .tup []) ht1
      have s2 := same_add (o := .tup [V.str "all"]) ht2
      have s3 := same_add (o := .lst []) hl1
      have s4 := same_add (o := .lst [V.str "plain"]) hl2
      have s5 := same_add (o := .dK []) hd1
      refine ⟨upd_same, [(.inr "all", .int 1)], rfl, by decide, by show 15 ≤ sizeLine; decide, fun ot hot => ?_⟩
      have s6 := same_new (o := .dK (mergeK [] [(Sum.inr "all", V.int 1)])) (same_add (o := .dK []) hd2) hd2
      have s7 := same_add (o := .tup [V.non, V.bl true, V.int 0, V.int (10 ^ 30), V.str "", V.str "All", V.str "al", V.str "plainx", V.str "plain ", V.ref t1, V.ref t2, V.ref l1, V.ref l2, V.ref d1, V.ref d2]) hot
      refine ⟨ot, _, rfl, upd_same, ?_, ?_⟩
      · have e26 := s3.trans (s4.trans (s5.trans (s6.trans s7)))
        have nst : ∀ {b : Addr}, H3 b = none → b ∉ [st, cs] := fun n => S3.mut.new n
        have n3 := (s1.trans s2).free hl1
        have n4 := (s1.trans (s2.trans s3)).free hl2
        have n5 := (s1.trans (s2.trans (s3.trans s4))).free hd1
        have n6 := (s1.trans (s2.trans (s3.trans (s4.trans s5)))).free hd2
        refine .cons .non (.cons (.bl _) (.cons (.int _) (.cons (.int _) (.cons (.str _) (.cons (.str _) (.cons (.str _) (.cons (.str _) (.cons (.str _) (.cons (.tup (vs := []) ?_ .nil) (.cons (.tup (vs := [V.str "all"]) ?_ (.cons (.str _) .nil)) (.cons (.lst (vs := []) ?_ (nst n3) .nil) (.cons (.lst (vs := [V.str "plain"]) ?_ (nst n4) (.cons (.str _) .nil)) (.cons (.dic (vs := []) ?_ (nst n5) List.nodup_nil rfl .nil) (.cons (.dic (vs := [.int 1]) ?_ (nst n6) (by simp) rfl (.cons (.int _) .nil)) .nil))))))))))))))
        · exact (s2.trans e26) _ _ upd_same
        · exact e26 _ _ upd_same
        · exact (s4.trans (s5.trans (s6.trans s7))) _ _ upd_same
        · exact (s5.trans (s6.trans s7)) _ _ upd_same
        · exact (s6.trans s7) _ _ upd_same
        · exact s7 _ _ upd_same
      · have e37 := s1.trans (s2.trans (s3.trans (s4.trans (s5.trans (s6.trans s7)))))
        exact S3.keep (fun o q => e37 _ _ q) (fun o q => e37 _ _ q)
    rintro σ H4 ⟨ot, os, rfl, ho4, At0, S4⟩
    have lo : os.length = 15 := At0.len
    -- the tree
    refine ⟨_, rfl, _, rfl, st, cs, 2, rfl, S4, by decide, by decide, fun r5 H5 q50 q51 S5 R5 => ?_⟩
    refine ⟨_, rfl, st, cs, 4, rfl, S5, by decide, by decide, fun r6 H6 q60 q61 S6 R6 => ⟨rfl, .inr ⟨_, rfl, _, _, rfl, rfl, .inl ⟨by omega, by omega⟩, _, _, rfl, rfl, Nat.zero_le _, fun pl hpl => ?_⟩⟩⟩
    obtain ⟨n, hn⟩ : ∃ n : Nat, (1 : Int) + r5 * (if decide (V.int r6 = V.int 0) then 1 else 0) = (n : Int) ∧ 1 ≤ n ∧ n ≤ 2 := by
      by_cases z : V.int r6 = V.int 0
      · refine ⟨(1 + r5).toNat, ?_, by omega, by omega⟩
        rw [if_pos (decide_eq_true z)]
        omega
      · refine ⟨1, ?_, by omega, by omega⟩
        rw [if_neg (by simp [z])]
        omega
    have bn : bnd 12 n ≤ 156 := by
      have : n = 1 ∨ n = 2 := by omega
      rcases this with rfl | rfl <;> decide
    have R46 := R5.trans R6
    have L6 : MutL [st, cs] H6 := S6.mut
    have L6' : MutL [st, cs] (upd H6 pl (.tup [])) := L6.same (same_add hpl)
    refine ⟨n, hn.2.2, [st, cs], st, cs, pl, [], ?_, hn.2.1, by decide, by show 0 + 2 * n < 1000; omega, by omega, S6.upd hpl, L6', by simp, by simp, upd_same, fun a7 xs7 tA H7 hA nA trA dA S7 R7 => ?_⟩
    · show [V.ref st, V.int 12, V.int (1 + r5 * (if decide (V.int r6 = V.int 0) then 1 else 0)), V.ref pl] = _
      rw [hn.1]
      rfl
    have gA : Good 156 tA := dA.good (by omega) bn
    have sz : sizeL tA < 1000000 := by have := gA.siz; omega
    have R47 : Sm [st, cs] H4 H7 := (R46.trans (Sm.same (same_add hpl))).trans R7
    have kd : Kd (fun b => b ∉ [st, cs]) (fun b => b ∉ [st, cs]) H4 H7 := Kd.sm S4.mut R47 fun b h => h
    have At7 := Ats.keep kd _ _ At0
    have ho7 := kd.tup _ _ ho4
    clear kd At0 ho4
    -- the rules
    refine ⟨_, rfl, w1, rfl, w10, w15, fun r dr H8 e8 hr8 => ?_⟩
    refine ⟨_, rfl, w2, rfl, w20, w25, fun r' dr' H9 e9 hr9 => ?_⟩
    have e79 := e8.trans e9
    have hr8 := e9 _ _ hr8
    refine ⟨by show 2 ≤ sizeLine; decide, fun tp htp => ?_⟩
    have e10 := same_add (o := .tup [V.str "all", V.str "plain"]) htp
    refine ⟨_, rfl, _, _, rfl, rfl, .inr ⟨_, rfl, tp, _, _, _, rfl, rfl, SqT.of upd_same, place_int w1 w10, ?_⟩⟩
    have e7_10 := e79.trans e10
    have hr8 := e10 _ _ hr8
    have hr9 := e10 _ _ hr9
    generalize upd H9 tp (.tup [V.str "all", V.str "plain"]) = H10 at *
    -- the first look
    refine ⟨_, rfl, r, T.C_Rule, dr, _, _, rfl, hr8, T.cl_Rule, T.n_Rule_place, ruF_place _, _, rfl, _, _, rfl, .inl ⟨fun _ => True, _, rfl, .str _, by show 0 < 7; decide⟩, fun H11 e11 => ⟨_, rfl, ?_⟩⟩
    refine iteF ?_
    have hr8 := e11 _ _ hr8
    have hr9 := e11 _ _ hr9
    refine ⟨_, rfl, r, dr, _, .type "str", rfl, hr8, .base (.str _), T.nt_Rule_str.nf, r, dr, _, _, rfl, hr8, .inl ⟨_, .base (.str _), T.nt_Rule_str.kit, false, rfl, _, _, rfl, rfl, false, rfl, ?_⟩⟩
    refine iteF ?_
    refine ⟨_, rfl, Nat.zero_le _, fun t12 ht12 => ?_⟩
    have e12 := same_add (o := .tup []) ht12
    have hr8 := e12 _ _ hr8
    have hr9 := e12 _ _ hr9
    refine ⟨r, dr, _, .type "tuple", rfl, hr8, .base (.tup upd_same), T.nt_Rule_tuple.nf, r, dr, _, _, rfl, hr8, .inl ⟨_, .base (.tup upd_same), T.nt_Rule_tuple.kit, false, rfl, _, _, rfl, rfl, false, rfl, ?_⟩⟩
    have nfR : PySem.W.notFirst K T.C_Rule (.ref T.C_Rule) = true := by unfold PySem.W.notFirst; simp
    have tyR : TyX K (upd H11 t12 (.tup [])) (.ref r') (.ref T.C_Rule) := .base (.ins hr9 T.cl_Rule T.is_Rule.ha T.is_Rule.hn T.is_Rule.htk T.is_Rule.hm)
    have e7_12 := e7_10.trans (e11.trans e12)
    generalize upd H11 t12 (.tup []) = H12 at *
    -- told
    refine ⟨_, rfl, _, rfl, r, dr, _, _, rfl, hr8, tyR, nfR, r, dr, _, _, rfl, hr8, .inr ⟨r', dr', _, rfl, hr9, _, rfl, ?_⟩⟩
    refine ⟨_, rfl, _, _, _, _, true, rfl, .ty "bool", .base (.bl _), kit_ty (by decide +kernel), true, rfl, ?_⟩
    refine iteF ?_
    refine ⟨_, rfl, _, rfl, _, _, rfl, rfl, _, rfl, _, _, rfl, rfl, rfl, rfl, _, rfl, ?_⟩
    have eqb : (false != decide (placeOf (decide (w1 < 3)) = placeOf (decide (w2 < 3)))) = decide (V.bl (decide (w1 > 2)) = V.bl (decide (w2 > 2))) := by
      rw [placeOf_inj]
      have a1 : decide (w1 < 3) = !decide (w1 > 2) := by
        by_cases h : w1 > 2
        · have : ¬ w1 < 3 := by omega
          simp [h, this]
        · have : w1 < 3 := by omega
          simp [h, this]
      have a2 : decide (w2 < 3) = !decide (w2 > 2) := by
        by_cases h : w2 > 2
        · have : ¬ w2 < 3 := by omega
          simp [h, this]
        · have : w2 < 3 := by omega
          simp [h, this]
      rw [a1, a2]
      cases decide (w1 > 2) <;> cases decide (w2 > 2) <;> simp
    refine ite2n (fun h => absurd (by rw [eqb]) h) (fun _ => ?_)
    refine ⟨_, rfl, _, rfl, r, dr, _, _, rfl, hr8, tyR, nfR, r, dr, _, _, rfl, hr8, .inr ⟨r', dr', _, rfl, hr9, _, rfl, _, rfl, rfl, _, rfl, ?_⟩⟩
    refine ite2d (fun h => ?_) (fun _ => ?_)
    · injection h with h
      revert h
      cases decide (placeOf (decide (w1 < 3)) = placeOf (decide (w2 < 3))) <;> intro h <;> cases h
    -- built, slots
    have hA12 := e7_12 _ _ hA
    have tr12 := trA.same e7_12
    refine ⟨_, rfl, [st, cs], [], a7, xs7, tA, rfl, hA12, tr12, gA.dep, sz, (fun _ h => nomatch h), fun b1 y1 H13 nb1 hb1 nd1 e13 => ?_⟩
    refine ⟨_, rfl, _, rfl, [st, cs], decide (w1 < 3), a7, xs7, tA, rfl, e13 _ _ hA12, tr12.same e13, gA.fit, sz, fun du us H14 ndu hdu ndk e14 => ?_⟩
    have hb1 := e14 _ _ hb1
    have nd1 := nd1.same e14
    have e12_14 := e13.trans e14
    have hr8 := e12_14 _ _ hr8
    have hr9 := e12_14 _ _ hr9
    have tz : tA.length < 1000000 := by have := sizeL_len tA; omega
    have dp : ∀ all, NestedKey.depthAll (slots all tA) < 6 := fun all => Nat.lt_of_lt_of_le (slots_dep gA.fit) (by decide)
    refine ⟨_, rfl, r, rfl, _, rfl, .inr ⟨dr, _, hr8⟩, decide (w1 < 3), r, dr, b1, y1, tA, rfl, hr8, hb1, nd1, gA.fit, tz, fun q1 v1 H15 n15 hq1 nk1 e15 => ?_⟩
    refine ⟨_, rfl, .ref q1, .ref du, rfl, smv_keys hq1 (e15 _ _ hdu) (fun z => by rw [z, hdu] at n15; cases n15) nk1 (ndk.same e15) (dp _), fun H16 e16 => ⟨_, rfl, ?_⟩⟩
    have e14_16 := e15.trans e16
    have hdu := e14_16 _ _ hdu
    have ndk := ndk.same e14_16
    have hb1 := e14_16 _ _ hb1
    have nd1 := nd1.same e14_16
    have hr8 := e14_16 _ _ hr8
    have hr9 := e14_16 _ _ hr9
    have e7_16 := (e7_12.trans e12_14).trans e14_16
    -- the other rule
    refine ⟨_, rfl, r', rfl, _, rfl, .inr ⟨dr', _, hr9⟩, decide (w2 < 3), r', dr', b1, y1, tA, rfl, hr9, hb1, nd1, gA.fit, tz, fun q2 v2 H17 n17 hq2 nk2 e17 => ?_⟩
    refine ⟨_, rfl, by show 2 ≤ sizeLine; decide, fun tp2 htp2 => ?_⟩
    have e18 := same_add (o := .tup [V.str "all", V.str "plain"]) htp2
    refine ⟨_, rfl, _, _, rfl, rfl, .inr ⟨_, rfl, tp2, _, _, _, rfl, rfl, SqT.of upd_same, place_int w2 w20, ?_⟩⟩
    have e16_18 := e17.trans e18
    have e7_18 := e7_16.trans e16_18
    refine ⟨[st, cs], decide (w2 < 3), a7, xs7, tA, rfl, e7_18 _ _ hA, trA.same e7_18, gA.fit, sz, fun du2 us2 H19 ndu2 hdu2 ndk2 e19 => ?_⟩
    have hq2' := e19 _ _ (e18 _ _ hq2)
    refine ⟨.ref q2, .ref du2, rfl, smv_keys hq2' hdu2 (fun z => by rw [← z, e18 _ _ hq2] at ndu2; cases ndu2) ((nk2.same e18).same e19) ndk2 (dp _), fun H20 e20 => ⟨_, rfl, ?_⟩⟩
    have e16_20 := (e16_18.trans e19).trans e20
    have hdu := e16_20 _ _ hdu
    have ndk := ndk.same e16_20
    have hb1 := e16_20 _ _ hb1
    have nd1 := nd1.same e16_20
    have hr8 := e16_20 _ _ hr8
    have e7_20 := e7_16.trans e16_20
    have lus : us.length = tA.length := by rw [ndk.len, slots_length]
    -- all different
    refine ⟨_, rfl, du, us, rfl, .inl (SqL.of hdu), _, rfl, by omega, by omega, ?_⟩
    refine for_it walk_range0 (fun i σ H21 => ∃ (c12 : Option V), σ = [some (.ref a), some (.ref st), some (.int w1), some (.int w2), some (.ref ot), some (.ref a7), some (.ref r), some (.ref r'), some (.str (placeOf (decide (w1 < 3)))), some (.bl (false != decide (placeOf (decide (w1 < 3)) = placeOf (decide (w2 < 3))))), some (.ref b1), some (.ref du), c12] ∧ Same H20 H21)
      ⟨none, rfl, Same.refl _⟩ (fun _ _ _ _ _ => True.intro) ?_ ?_
    · rintro i x σ H21 H21' hi ⟨c12, rfl, e21⟩ ⟨rfl, rfl⟩
      have hi : i < us.length := hi
      obtain ⟨v, hv⟩ : ∃ v, us[i]? = some v := ⟨_, List.getElem?_eq_getElem hi⟩
      obtain ⟨t, ht⟩ : ∃ t, tA[i]? = some t := ⟨_, List.getElem?_eq_getElem (by omega)⟩
      have ndk21 := ndk.same e21
      obtain ⟨ks, hks, nks⟩ := ndk21.get hv
      rw [slot_at _ ht] at hks
      cases hks
      have ct : cutV us none (some (i : Int)) = us.take i := cut_to rfl
      refine ⟨_, rfl, _, rfl, du, us, (i : Int), v, rfl, rfl, SqL.of (e21 _ _ hdu), atI_nat hv, ?_⟩
      refine ⟨_, rfl, _, rfl, (i : Int), rfl, du, us, rfl, SqL.of (e21 _ _ hdu), fun p hp => ?_⟩
      rw [ct]
      have e22 := same_add (o := .lst (us.take i)) hp
      have ntk := (NKs.take i ndk21).same e22
      have okt : ∀ k ∈ (slots (decide (w1 < 3)) tA).take i, okN k = true := fun k hk => by
        obtain ⟨m, hm⟩ := List.mem_iff_getElem?.mp (List.mem_of_mem_take hk)
        have hl := lt_of hm
        rw [slots_length] at hl
        obtain ⟨u, hu⟩ : ∃ u, tA[m]? = some u := ⟨_, List.getElem?_eq_getElem hl⟩
        rw [slot_at _ hu] at hm
        cases hm
        exact slot_ok (fitL_get gA.fit hu)
      have dpt : NestedKey.depthAll ((slots (decide (w1 < 3)) tA).take i) ≤ 60 := Nat.le_trans (depthAll_le (n := 6) fun k hk => by
        have q := depthAll_mem (List.mem_of_mem_take hk)
        have := dp (decide (w1 < 3))
        omega) (by decide)
      refine ⟨_, _, nk_dp _ _ (nks.same e22), .lst (SqL.of upd_same) (nks_dp _ _ ntk), shaped_key (slot_ok (fitL_get gA.fit ht)) (Nat.le_trans (slot_depth (fitL_get gA.fit ht)) (by decide)), shaped_keys (okNs_all okt) dpt, _, rfl, ?_⟩
      rw [any_keys, decide_eq_false (slot_fresh ht)]
      refine iteF ?_
      exact ⟨_, rfl, e21.trans e22⟩
    · rintro σ H21 ⟨c12, rfl, e21⟩
      have hr8 := e21 _ _ hr8
      have hb1 := e21 _ _ hb1
      have hdu := e21 _ _ hdu
      refine ⟨_, rfl, r, rfl, _, rfl, .inr ⟨dr, _, hr8⟩, decide (w1 < 3), r, dr, b1, y1, tA, rfl, hr8, hb1, nd1.same e21, gA.fit, tz, fun q3 v3 H22 n22 hq3 nk3 e22 => ?_⟩
      refine ⟨_, rfl, .ref q3, .ref du, rfl, smv_keys hq3 (e22 _ _ hdu) (fun z => by rw [z, hdu] at n22; cases n22) nk3 ((ndk.same e21).same e22) (dp _), fun H23 e23 => ⟨_, rfl, ?_⟩⟩
      have e7_23 := (e7_20.trans e21).trans (e22.trans e23)
      have S23 : Stm H23 st cs := S7.keep (fun o q => e7_23 _ _ q) (fun o q => e7_23 _ _ q)
      have ho23 := e7_23 _ _ ho7
      have At23 := At7.same e7_23
      refine iteT ?_
      refine ⟨_, rfl, _, rfl, _, rfl, ot, os, rfl, .inr (SqT.of ho23), st, cs, _, rfl, S23, by show (0 : Int) < (os.length : Int); omega, nat200 (by show (0 : Int) ≤ (os.length : Int); omega) (by show (os.length : Int) < 1000000; omega), fun r24 H24 q0 q1 S24 R24 => ?_⟩
      have q1 : r24 < (os.length : Int) := q1
      have kd := Kd.sm (P := fun b => b ∉ [st, cs]) S23.mut R24 fun b h => h
      have At24 := Ats.keep kd _ _ At23
      obtain ⟨m, rfl⟩ : ∃ m : Nat, r24 = (m : Int) := ⟨r24.toNat, (Int.toNat_of_nonneg q0).symm⟩
      obtain ⟨v, hv⟩ : ∃ v, os[m]? = some v := ⟨_, List.getElem?_eq_getElem (by omega)⟩
      obtain ⟨d, hd, atv⟩ := At24.get hv
      obtain ⟨o1, o2⟩ := oddL_ok d (List.mem_of_getElem? hd)
      refine ⟨ot, os, _, v, rfl, rfl, SqT.of (kd.tup _ _ ho23), atI_nat hv, v, _, d, rfl, odd_at atv o1, atv, by omega, fun H25 e25 => k _⟩

end
end G
set_option linter.all false
namespace G
open PySem L2 Nd
theorem fin {P : Program} {w : World} {K : PySem.W.Frag} {mg : Str → Option Value} {fa f_law : Addr} (hfa : mg "law" = some (.ref fa)) (h : ∃ T : Txt K mg, T.f_law = f_law ∧ ∀ (s : Shared) (v : Value), BindsTo s T.d_law ⟨[v], []⟩ [("_law_script", v)]) :
    ∃ fd : FuncData, (∀ (s : Shared) (v : Value), BindsTo s fd ⟨[v], []⟩ [("_law_script", v)]) ∧ ∀ base : Heap, K.In base → base.Ns mainGlobals mg → FnOk P w K mg base CX0 20 fa fd ["_law_script"] (spLaw K) := by
  obtain ⟨T, e, hb⟩ := h
  have q := T.g_law
  rw [hfa] at q
  cases q
  exact ⟨T.d_law, hb, fun base _ _ => ok_law T⟩
end G
open PySem PySem.W PyProof.Rows
set_option Elab.async false
set_option maxRecDepth 100000
set_option maxHeartbeats 0
open_top hd20 for PySem.Challenge.rw_statestay_k20_rule_slots
open PySem PySem.W PyProof.Rows
set_option maxRecDepth 100000 in
set_option maxHeartbeats 0 in
theorem PySem.Challenge.cw_statestay_k20_rule_slots_holds : PySem.Challenge.rw_statestay_k20_rule_slots.Holds := by
  refine hd20 ?_
  k_fill
  refine L2.walk_of (n := 63) (k := 20) (x := "_law_script") (CX := fun _ => L2.CX0) (sp := fun w => G.spLaw _) rfl (by decide) rfl ⟨rfl, by decide, by decide⟩ (fun w h Y => PySem.W.kIn_of Y) ?F (fun _ _ a ns hl _ hS => ⟨a, ns, rfl, hS, hl, fun _ => rfl⟩) fun _ _ _ _ _ z => z
  case F =>
    intro w mg fa h KX Gn hmg
    refine' G.fin hmg (G.txt_mk KX Gn ?aC_Rule ?pg_Rule ?hd_Rule ?po_Rule ?sa_Rule ?n_Rule_place ?xa_Rule ?xn_Rule ?xt_Rule ?xm_Rule ?at_u_Rule_ALL ?ge_u_Rule_ALL ?cv1_u_Rule_ALL ?at_u_Rule_PLAIN ?ge_u_Rule_PLAIN ?cv1_u_Rule_PLAIN ?cr1_Rule ?cr2_Rule ?aC_Node ?pg_Node ?hd_Node ?po_Node ?sa_Node ?n_Node_key ?n_Node_kind ?n_Node_nodes ?n_Node_owner ?aC_StayError ?ic_StayError ?e5_StayError ?e6_StayError ?b1_StayError ?b2_StayError ?b3_StayError ?aC_NoItem ?ic_NoItem ?e1_NoItem ?e2_NoItem ?e3_NoItem ?e4_NoItem ?e5_NoItem ?e6_NoItem ?e7_NoItem ?x1_NoItem ?x2_NoItem ?no_NoItem_path ?aC_InvalidRule ?ic_InvalidRule ?e1_InvalidRule ?e2_InvalidRule ?e3_InvalidRule ?e4_InvalidRule ?e5_InvalidRule ?e6_InvalidRule ?e7_InvalidRule ?x1_InvalidRule ?x2_InvalidRule ?no_InvalidRule_place ?sb_NoItem_StayError ?sb_NoItem_NoItem ?sb_NoItem_InvalidRule ?sb_InvalidRule_StayError ?sb_InvalidRule_NoItem ?sb_InvalidRule_InvalidRule ?a_m_NoItem_init ?i_m_NoItem_init ?l_m_NoItem_init ?c_m_NoItem_init ?k_m_NoItem_init ?a_m_InvalidRule_init ?i_m_InvalidRule_init ?l_m_InvalidRule_init ?c_m_InvalidRule_init ?k_m_InvalidRule_init ?a_m_Rule_init ?i_m_Rule_init ?l_m_Rule_init ?c_m_Rule_init ?k_m_Rule_init ?ld_m_Rule_init ?ma_Rule ?kc_Rule ?a_m_Rule_eq ?i_m_Rule_eq ?l_m_Rule_eq ?c_m_Rule_eq ?k_m_Rule_eq ?q1_Rule ?q2_Rule ?q3_Rule ?q4_Rule ?nt_Rule_str ?nt_Rule_tuple ?a_m_Rule_call ?i_m_Rule_call ?l_m_Rule_call ?c_m_Rule_call ?k_m_Rule_call ?fi_Rule ?a_m_Node_init ?i_m_Node_init ?l_m_Node_init ?c_m_Node_init ?k_m_Node_init ?ld_m_Node_init ?lte_m_Node_init0 ?ma_Node ?kc_Node ?a_l_stream ?l_l_stream ?c_l_stream ?k_l_stream ?a_l_draw ?l_l_draw ?c_l_draw ?k_l_draw ?a_l_same ?l_l_same ?c_l_same ?k_l_same ?a_l_tree_key ?l_l_tree_key ?c_l_tree_key ?k_l_tree_key ?a_l_tree ?l_l_tree ?c_l_tree ?k_l_tree ?a_l_built ?l_l_built ?c_l_built ?k_l_built ?a_l_slots ?l_l_slots ?c_l_slots ?k_l_slots ?a_l_rule ?l_l_rule ?c_l_rule ?k_l_rule ?a_l_refused ?l_l_refused ?c_l_refused ?k_l_refused ?a_law ?l_law ?c_law ?k_law ?z_bool ?z_dict ?z_enumerate ?z_int ?z_isinstance ?z_len ?z_list ?z_range ?z_str ?z_tuple)
    (case aC_Rule => k_is); (case pg_Rule => k_is); (case hd_Rule => k_is); (case po_Rule => k_is)
    (case sa_Rule => k_is); (case n_Rule_place => k_is); (case xa_Rule => k_is); (case xn_Rule => k_is)
    (case xt_Rule => k_is); (case xm_Rule => k_is); (case at_u_Rule_ALL => k_is); (case ge_u_Rule_ALL => k_is)
    (case cv1_u_Rule_ALL => k_is); (case at_u_Rule_PLAIN => k_is); (case ge_u_Rule_PLAIN => k_is); (case cv1_u_Rule_PLAIN => k_is)
    (case cr1_Rule => k_is); (case cr2_Rule => k_is); (case aC_Node => k_is); (case pg_Node => k_is)
    (case hd_Node => k_is); (case po_Node => k_is); (case sa_Node => k_is); (case n_Node_key => k_is)
    (case n_Node_kind => k_is); (case n_Node_nodes => k_is); (case n_Node_owner => k_is); (case aC_StayError => k_is)
    (case ic_StayError => k_is); (case e5_StayError => k_is); (case e6_StayError => k_is); (case b1_StayError => k_is)
    (case b2_StayError => k_is); (case b3_StayError => k_is); (case aC_NoItem => k_is); (case ic_NoItem => k_is)
    (case e1_NoItem => kx_is); (case e2_NoItem => kx_is); (case e3_NoItem => k_is); (case e4_NoItem => k_is)
    (case e5_NoItem => k_is); (case e6_NoItem => k_is); (case e7_NoItem => k_is); (case x1_NoItem => k_is)
    (case x2_NoItem => k_is); (case no_NoItem_path => k_is); (case aC_InvalidRule => k_is); (case ic_InvalidRule => k_is)
    (case e1_InvalidRule => kx_is); (case e2_InvalidRule => kx_is); (case e3_InvalidRule => k_is); (case e4_InvalidRule => k_is)
    (case e5_InvalidRule => k_is); (case e6_InvalidRule => k_is); (case e7_InvalidRule => k_is); (case x1_InvalidRule => k_is)
    (case x2_InvalidRule => k_is); (case no_InvalidRule_place => k_is); (case sb_NoItem_StayError => k_is); (case sb_NoItem_NoItem => k_is)
    (case sb_NoItem_InvalidRule => k_is); (case sb_InvalidRule_StayError => k_is); (case sb_InvalidRule_NoItem => k_is); (case sb_InvalidRule_InvalidRule => k_is)
    (case a_m_NoItem_init => k_is); (case i_m_NoItem_init => k_is); (case l_m_NoItem_init => k_is); (case c_m_NoItem_init => k_is)
    (case k_m_NoItem_init => k_is); (case a_m_InvalidRule_init => k_is); (case i_m_InvalidRule_init => k_is); (case l_m_InvalidRule_init => k_is)
    (case c_m_InvalidRule_init => k_is); (case k_m_InvalidRule_init => k_is); (case a_m_Rule_init => k_is); (case i_m_Rule_init => k_is)
    (case l_m_Rule_init => k_is); (case c_m_Rule_init => k_is); (case k_m_Rule_init => k_is); (case ld_m_Rule_init => k_is)
    (case ma_Rule => k_is); (case kc_Rule => k_is); (case a_m_Rule_eq => k_is); (case i_m_Rule_eq => k_is)
    (case l_m_Rule_eq => k_is); (case c_m_Rule_eq => k_is); (case k_m_Rule_eq => k_is); (case q1_Rule => k_is)
    (case q2_Rule => k_is); (case q3_Rule => k_is); (case q4_Rule => k_is); (case nt_Rule_str => k_is)
    (case nt_Rule_tuple => k_is); (case a_m_Rule_call => k_is); (case i_m_Rule_call => k_is); (case l_m_Rule_call => k_is)
    (case c_m_Rule_call => k_is); (case k_m_Rule_call => k_is); (case fi_Rule => k_is); (case a_m_Node_init => k_is)
    (case i_m_Node_init => k_is); (case l_m_Node_init => k_is); (case c_m_Node_init => k_is); (case k_m_Node_init => k_is)
    (case ld_m_Node_init => k_is); (case lte_m_Node_init0 => k_is); (case ma_Node => k_is); (case kc_Node => k_is)
    (case a_l_stream => k_is); (case l_l_stream => k_is); (case c_l_stream => k_is); (case k_l_stream => k_is)
    (case a_l_draw => k_is); (case l_l_draw => k_is); (case c_l_draw => k_is); (case k_l_draw => k_is)
    (case a_l_same => k_is); (case l_l_same => k_is); (case c_l_same => k_is); (case k_l_same => k_is)
    (case a_l_tree_key => k_is); (case l_l_tree_key => k_is); (case c_l_tree_key => k_is); (case k_l_tree_key => k_is)
    (case a_l_tree => k_is); (case l_l_tree => k_is); (case c_l_tree => k_is); (case k_l_tree => k_is)
    (case a_l_built => k_is); (case l_l_built => k_is); (case c_l_built => k_is); (case k_l_built => k_is)
    (case a_l_slots => k_is); (case l_l_slots => k_is); (case c_l_slots => k_is); (case k_l_slots => k_is)
    (case a_l_rule => k_is); (case l_l_rule => k_is); (case c_l_rule => k_is); (case k_l_rule => k_is)
    (case a_l_refused => k_is); (case l_l_refused => k_is); (case c_l_refused => k_is); (case k_l_refused => k_is)
    (case a_law => k_is); (case l_law => k_is); (case c_law => k_is); (case k_law => k_is)
    (case z_bool => k_is); (case z_dict => k_is); (case z_enumerate => k_is); (case z_int => k_is)
    (case z_isinstance => k_is); (case z_len => k_is); (case z_list => k_is); (case z_range => k_is)
    (case z_str => k_is); (case z_tuple => k_is)
