import PyProof.Rows.All
import HandS.ForMost
import HandS.Iter
import KE.KDictKeyed
import KE.KDictWalk
import HandS.DictComp
import HandS.Comp
import HandS.TupMul
import HandS.TupAny
import HandS.Conv
import HandS.Deep
import HandS.Zip
import HandS.IsInst
import HandS.Style
import KE.SortData
import KE.DataCmp
import KE.DataMinMax
import KE.DataFind
import HandS.TupLen
import KE.GoesEnum
import HandS.Defaults
import HandS.MakeKwOnly
import KE.KRevSl
import PyProof.EqAt
import HandS.Strs
import HandS.SortKw
import KE.KDictDisplayH
import KE.GoesZip
import KE.GoesMore
import HandS.TupSets
import HandS.Head0
import HandS.Head1
import HandS.Head2
import HandS.HeadEnd
import HandS.HeadHook1
import HandS.HeadHook2
import HandS.HeadHook4
import PySem.Challenge.RW_likedways_k35_what_is_a_net
set_option Elab.async false
set_option linter.all false
set_option maxRecDepth 100000
set_option maxHeartbeats 4000000
/-! Dicts whose keys are tuples of ints, of any depth, over HandS: an object of one's own (HO.ext), and its rules. -/
namespace DN
open PySem PySem.Spec PyProof.Rows L2
/-! ### hashes without texts -/
mutual
def hsh : NestedKey → Int
  | .none => reduceHash 0xFCA86420
  | .num i => hashInt i
  | .text _ => 0
  | .tup ks => reduceHash (Builtin.Tuple.tupleHashOf (hshs ks))
def hshs : List NestedKey → List Int
  | [] => []
  | k :: ks => hsh k :: hshs ks
end
mutual
def plain : NestedKey → Bool
  | .none => true
  | .num _ => true
  | .text _ => false
  | .tup ks => plains ks
def plains : List NestedKey → Bool
  | [] => true
  | k :: ks => plain k && plains ks
end
mutual
theorem hsh_eq (w : World) : ∀ k : NestedKey, plain k = true → k.hash w = hsh k
  | .none, _ => by rw [NestedKey.hash, hsh]
  | .num i, _ => by rw [NestedKey.hash, hsh]
  | .text _, h => by simp [plain] at h
  | .tup ks, h => by rw [NestedKey.hash, hsh, hshs_eq w ks (by simpa [plain] using h)]
theorem hshs_eq (w : World) : ∀ ks : List NestedKey, plains ks = true → NestedKey.hashes w ks = hshs ks
  | [], _ => by rw [NestedKey.hashes, hshs]
  | k :: ks, h => by
    rw [plains, Bool.and_eq_true] at h
    rw [NestedKey.hashes, hshs, hsh_eq w k h.1, hshs_eq w ks h.2]
end
/-! ### values that are keys -/
mutual
inductive KeyIs (H : Hp) : V → NestedKey → Prop
  | non : KeyIs H .non .none
  | int (i : Int) : KeyIs H (.int i) (.num i)
  | tup {a : Addr} {xs : List V} {ks : List NestedKey} : Rd H a (.tup xs) → KeyAll H xs ks → KeyIs H (.ref a) (.tup ks)
inductive KeyAll (H : Hp) : List V → List NestedKey → Prop
  | nil : KeyAll H [] []
  | cons {v : V} {k : NestedKey} {vs : List V} {ks : List NestedKey} : KeyIs H v k → KeyAll H vs ks → KeyAll H (v :: vs) (k :: ks)
end
mutual
theorem KeyIs.plain {H : Hp} : ∀ {v : V} {k : NestedKey}, KeyIs H v k → DN.plain k = true
  | _, _, .non => rfl
  | _, _, .int _ => rfl
  | _, _, .tup _ r => by rw [DN.plain]; exact KeyAll.plain r
theorem KeyAll.plain {H : Hp} : ∀ {vs : List V} {ks : List NestedKey}, KeyAll H vs ks → DN.plains ks = true
  | _, _, .nil => rfl
  | _, _, .cons a b => by rw [DN.plains, KeyIs.plain a, KeyAll.plain b]; rfl
end
mutual
theorem KeyIs.nested {P : Program} {w : World} {H : Hp} {h : Heap} (ok : HOk P w H h) : ∀ {v : V} {k : NestedKey} {u : Value}, KeyIs H v k → RelV v u → NestedIs h k u
  | _, _, _, .non, r => by cases r; exact .none
  | _, _, _, .int i, r => by obtain ⟨t, rfl⟩ := r; exact .int i t
  | _, _, _, .tup e q, r => by
    cases r
    obtain ⟨_, its, rv, ob, h1, h2, n, h3⟩ := e.ok ok
    exact .tup h1 h2 h3 (by simpa using KeyAll.nested ok q rv)
theorem KeyAll.nested {P : Program} {w : World} {H : Hp} {h : Heap} (ok : HOk P w H h) : ∀ {vs : List V} {ks : List NestedKey} {us : List Value}, KeyAll H vs ks → Vals vs us → NestedAll h ks us
  | _, _, _, .nil, .nil => .nil
  | _, _, _, .cons a b, .cons r t => .cons (KeyIs.nested ok a r) (KeyAll.nested ok b t)
end
/-- b is the tuple that is the key k -/
def KeyOk (H : Hp) (k : NestedKey) (b : Addr) : Prop := KeyIs H (.ref b) k ∧ k.depth ≤ 8
theorem KeyOk.is {P : Program} {w : World} {H : Hp} {h : Heap} {k : NestedKey} {b : Addr} (x : KeyOk H k b) (ok : HOk P w H h) : (nestedKind P w).is h k b := ⟨x.1.nested ok rfl, x.2⟩
/-! ### the object -/
abbrev Ent := NestedKey × Addr × V
def EntR (p : Ent) (e : DictEntry) : Prop := e.hash = hsh p.1 ∧ e.key = .ref p.2.1 ∧ RelV p.2.2 e.val
def DKp (a : Addr) (ep : Nat) (xs : List Ent) (h : Heap) : Prop :=
  (a == sysModules) = false ∧ xs.length ≤ sizeLine ∧ (xs.map (·.1)).Nodup ∧ ∃ o es, h.get? a = some o ∧ o.ExactDict ∧ o.data = .dict es ep ∧ Paired EntR xs es.toList
/-- a dict whose keys are tuples; ep counts how often its keys were changed -/
def DK (a : Addr) (ep : Nat) (xs : List Ent) : HO := .ext (DKp a ep xs)
theorem DKp.stay {a : Addr} {ep : Nat} {xs : List Ent} {h1 h2 : Heap} (x : DKp a ep xs h1) (k : ∀ o, h1.get? a = some o → h2.get? a = some o) : DKp a ep xs h2 := by
  obtain ⟨z, l, nd, o, es, e, r⟩ := x
  exact ⟨z, l, nd, o, es, k o e, r⟩
theorem DKp.obj {P : Program} {w : World} {H : Hp} {a : Addr} {ep : Nat} {xs : List Ent} {h : Heap} (x : DKp a ep xs h) : ObjOk P w H h a (DK a ep xs) := by
  refine ⟨x, ?_, fun h1 h2 y k => y.stay k⟩
  obtain ⟨_, _, _, o, _, e, _⟩ := x
  exact ⟨o, e⟩
theorem DK.at {P : Program} {w : World} {H : Hp} {a : Addr} {ep : Nat} {xs : List Ent} {h : Heap} (ok : HOk P w H h) (e : H a = some (DK a ep xs)) : DKp a ep xs h := (ok a _ e).1
abbrev EV := NestedKey × Addr × Value
def EnvR (p : Ent) (q : EV) : Prop := q.1 = p.1 ∧ q.2.1 = p.2.1 ∧ RelV p.2.2 q.2.2
theorem ent_vals {P : Program} {w : World} : ∀ {xs : List Ent} {es : List DictEntry}, (∀ x ∈ xs, plain x.1 = true) → Paired EntR xs es → ∃ ys : List EV, Paired EnvR xs ys ∧ es = ys.map (entryOfKey (nestedKind P w))
  | _, _, _, .nil => ⟨[], .nil, rfl⟩
  | x :: xs, e :: es, hp, .cons r t => by
    obtain ⟨ys, h1, h2⟩ := ent_vals (P := P) (w := w) (fun y hy => hp y (List.mem_cons_of_mem _ hy)) t
    refine ⟨(x.1, x.2.1, e.val) :: ys, .cons ⟨rfl, rfl, r.2.2⟩ h1, ?_⟩
    rw [List.map_cons, ← h2]
    congr 1
    have : (nestedKind P w).hash x.1 = e.hash := by
      rw [r.1]
      exact hsh_eq w x.1 (hp x (List.mem_cons_self ..))
    unfold entryOfKey
    simp only
    rw [this, ← r.2.1]
theorem vals_ent {P : Program} {w : World} : ∀ {xs : List Ent} {ys : List EV}, (∀ x ∈ xs, plain x.1 = true) → Paired EnvR xs ys → Paired EntR xs (ys.map (entryOfKey (nestedKind P w)))
  | _, _, _, .nil => .nil
  | x :: xs, y :: ys, hp, .cons r t => by
    refine .cons ⟨?_, ?_, r.2.2⟩ (vals_ent (fun z hz => hp z (List.mem_cons_of_mem _ hz)) t)
    · show (nestedKind P w).hash y.1 = hsh x.1
      rw [r.1]
      exact hsh_eq w x.1 (hp x (List.mem_cons_self ..))
    · show Value.ref y.2.1 = .ref x.2.1
      rw [r.2.1]
theorem env_keys : ∀ {xs : List Ent} {ys : List EV}, Paired EnvR xs ys → ys.map (·.1) = xs.map (·.1)
  | _, _, .nil => rfl
  | _, _, .cons r t => by rw [List.map_cons, List.map_cons, r.1, env_keys t]
theorem env_mem : ∀ {xs : List Ent} {ys : List EV}, Paired EnvR xs ys → ∀ y ∈ ys, ∃ x ∈ xs, EnvR x y
  | _, _, .nil, y, h => by cases h
  | _, _, .cons r t, y, h => by
    rcases List.mem_cons.mp h with rfl | h
    · exact ⟨_, List.mem_cons_self .., r⟩
    · obtain ⟨x, h1, h2⟩ := env_mem t y h
      exact ⟨x, List.mem_cons_of_mem _ h1, h2⟩
/-- all keys stand -/
def KeysOk (H : Hp) (xs : List Ent) : Prop := ∀ x ∈ xs, KeyOk H x.1 x.2.1
theorem KeysOk.plain {H : Hp} {xs : List Ent} (h : KeysOk H xs) : ∀ x ∈ xs, DN.plain x.1 = true := fun x hx => (h x hx).1.plain
theorem dn_of {P : Program} {w : World} {H : Hp} {h : Heap} {a : Addr} {ep : Nat} {xs : List Ent} (ok : HOk P w H h) (e : H a = some (DK a ep xs)) (ks : KeysOk H xs) :
    xs.length ≤ sizeLine ∧ (a == sysModules) = false ∧ ∃ ys : List EV, Paired EnvR xs ys ∧ h.DictOfH (nestedKind P w) a ys ∧ ∃ es, h.DictRaw a es ep ∧ es.toList = ys.map (entryOfKey (nestedKind P w)) := by
  obtain ⟨z, l, nd, o, es, e1, e2, e3, r⟩ := DK.at ok e
  obtain ⟨ys, h1, h2⟩ := ent_vals (P := P) (w := w) ks.plain r
  refine ⟨l, z, ys, h1, ⟨o, es, ep, e1, e2, e3, h2, fun y hy => ?_, by rw [env_keys h1]; exact nd⟩, es, ⟨o, e1, e2, e3⟩, h2⟩
  obtain ⟨x, hx, q1, q2, _⟩ := env_mem h1 y hy
  rw [q1, q2]
  exact (ks x hx).is ok
/-! look-ups, stores -/
section
variable {α : Type}
def atN (xs : List (NestedKey × Addr × α)) (k : NestedKey) : Option (Addr × α) := (xs.find? fun x => decide (x.1 = k)).map (·.2)
def putN (k : NestedKey) (v : α) (x : NestedKey × Addr × α) : NestedKey × Addr × α := if x.1 = k then (x.1, x.2.1, v) else x
def storedN (xs : List (NestedKey × Addr × α)) (k : NestedKey) (a : Addr) (v : α) : List (NestedKey × Addr × α) := if (atN xs k).isSome then xs.map (putN k v) else xs ++ [(k, a, v)]
def withoutN (xs : List (NestedKey × Addr × α)) (k : NestedKey) : List (NestedKey × Addr × α) := xs.filter fun x => decide (x.1 ≠ k)
end
theorem at_env {xs : List Ent} {ys : List EV} (r : Paired EnvR xs ys) (k : NestedKey) : (atN xs k = none ∧ atKey ys k = none) ∨ ∃ b v u, atN xs k = some (b, v) ∧ atKey ys k = some (b, u) ∧ RelV v u := by
  induction r with
  | nil => exact .inl ⟨rfl, rfl⟩
  | @cons x y xs ys r t ih =>
    unfold atN atKey at ih ⊢
    by_cases h : x.1 = k
    · refine .inr ⟨x.2.1, x.2.2, y.2.2, ?_, ?_, r.2.2⟩
      · rw [List.find?_cons_of_pos (by simpa using h)]; rfl
      · rw [List.find?_cons_of_pos (by rw [r.1]; simpa using h)]
        show some (y.2.1, y.2.2) = _
        rw [r.2.1]
    · rw [List.find?_cons_of_neg (by simpa using h), List.find?_cons_of_neg (by rw [r.1]; simpa using h)]
      exact ih
theorem put_env {k : NestedKey} {v : V} {u : Value} (rv : RelV v u) : ∀ {xs : List Ent} {ys : List EV}, Paired EnvR xs ys → Paired EnvR (xs.map (putN k v)) (ys.map (putAt k u))
  | _, _, .nil => .nil
  | x :: xs, y :: ys, .cons r t => by
    refine .cons ?_ (put_env rv t)
    unfold putN putAt
    rw [r.1]
    by_cases h : x.1 = k
    · rw [if_pos h, if_pos h]; exact ⟨rfl, r.2.1, rv⟩
    · rw [if_neg h, if_neg h]; exact r
theorem env_app {p : Ent} {q : EV} (r2 : EnvR p q) : ∀ {xs : List Ent} {ys : List EV}, Paired EnvR xs ys → Paired EnvR (xs ++ [p]) (ys ++ [q])
  | _, _, .nil => .cons r2 .nil
  | _, _, .cons r t => .cons r (env_app r2 t)
theorem stored_env {xs : List Ent} {ys : List EV} (r : Paired EnvR xs ys) (k : NestedKey) (b : Addr) {v : V} {u : Value} (rv : RelV v u) : Paired EnvR (storedN xs k b v) (storedH ys k b u) := by
  unfold storedN storedH
  rcases at_env r k with ⟨h1, h2⟩ | ⟨c, v', u', h1, h2, _⟩
  · rw [h1, h2]; exact env_app ⟨rfl, rfl, rv⟩ r
  · rw [h1, h2]; exact put_env rv r
theorem without_env (k : NestedKey) : ∀ {xs : List Ent} {ys : List EV}, Paired EnvR xs ys → Paired EnvR (withoutN xs k) (withoutH ys k)
  | _, _, .nil => .nil
  | x :: xs, y :: ys, .cons r t => by
    have ih := without_env k t
    unfold withoutN withoutH at ih ⊢
    by_cases h : x.1 = k
    · rw [List.filter_cons_of_neg (by simpa using h), List.filter_cons_of_neg (by rw [r.1]; simpa using h)]; exact ih
    · rw [List.filter_cons_of_pos (by simpa using h), List.filter_cons_of_pos (by rw [r.1]; simpa using h)]; exact .cons r ih
theorem stored_len {α : Type} (xs : List (NestedKey × Addr × α)) (k : NestedKey) (b : Addr) (v : α) : (storedN xs k b v).length ≤ xs.length + 1 := by
  unfold storedN
  split <;> simp
theorem stored_keys {H : Hp} {xs : List Ent} {k : NestedKey} {b : Addr} {v : V} (h : KeysOk H xs) (hk : KeyOk H k b) : KeysOk H (storedN xs k b v) := fun x hx => by
  unfold storedN at hx
  split at hx
  · obtain ⟨y, hy, rfl⟩ := List.mem_map.mp hx
    have := h y hy
    unfold putN
    split
    · exact this
    · exact this
  · rcases List.mem_append.mp hx with hx | hx
    · exact h x hx
    · rw [List.mem_singleton] at hx
      subst hx
      exact hk
theorem without_keys {H : Hp} {xs : List Ent} {k : NestedKey} (h : KeysOk H xs) : KeysOk H (withoutN xs k) := fun x hx => h x (List.mem_filter.mp hx).1
/-! ### what a step does to the keys: tuples stay -/
mutual
theorem KeyIs.mono {H H' : Hp} (k : ∀ a xs, Rd H a (.tup xs) → Rd H' a (.tup xs)) : ∀ {v : V} {y : NestedKey}, KeyIs H v y → KeyIs H' v y
  | _, _, .non => .non
  | _, _, .int i => .int i
  | _, _, .tup e r => .tup (k _ _ e) (KeyAll.mono k r)
theorem KeyAll.mono {H H' : Hp} (k : ∀ a xs, Rd H a (.tup xs) → Rd H' a (.tup xs)) : ∀ {vs : List V} {ys : List NestedKey}, KeyAll H vs ys → KeyAll H' vs ys
  | _, _, .nil => .nil
  | _, _, .cons a b => .cons (KeyIs.mono k a) (KeyAll.mono k b)
end
theorem rd_upd {H : Hp} {a : Addr} {φ : Heap → Prop} {o : HO} (e : H a = some (.ext φ)) : ∀ b xs, Rd H b (.tup xs) → Rd (upd H a o) b (.tup xs) := fun b xs h => by
  have hb : b ≠ a := fun z => by
    subst z
    rcases h with h | ⟨q, h⟩ <;> (rw [e] at h; cases h)
  unfold Rd
  rw [upd_ne hb]
  exact h
section
variable {X : Cx} {pins : List (Addr × Obj)} {σ : L2.St} {H : Hp} {s : Shared} {a b : Addr} {v : V} {u r : Value} {A : Around} {E : Value → Shared → Prop} {ep : Nat} {xs : List Ent} {k : NestedKey}
theorem room_in1 (hu : A.units + 10 < cLine) : (nestedKind X.prog X.w).room A.in1 := by
  show A.in1.units + 8 < cLine
  have : A.in1.units ≤ A.units + 1 := Nat.le_refl _
  omega
theorem n_typeIs (I : Inv X pins σ H s) (e : H a = some (DK a ep xs)) : s.TypeIs (.ref a) "dict" := by
  obtain ⟨_, _, _, o, es, e1, e2, _⟩ := DK.at I.hok e
  exact ⟨o, e1, e2.1⟩
theorem n_noDict (I : Inv X pins σ H s) (e : H a = some (DK a ep xs)) : ∀ b, Value.ref a = .ref b → ∃ ob, s.heap.get? b = some ob ∧ ob.dict = none := fun b q => by
  cases q
  obtain ⟨_, _, _, o, es, e1, e2, _⟩ := DK.at I.hok e
  exact ⟨o, e1, e2.2.1⟩
theorem n_getItem {Q : Value → Shared → Prop} (hu : A.units + 10 < cLine) (I : Inv X pins σ H s) (e : H a = some (DK a ep xs)) (ks : KeysOk H xs) (hk : KeyOk H k b) (l : (atN xs k).map (·.2) = some v) (h : ∀ w' s', Inv X pins σ H s' → RelV v w' → Q w' s') :
    wpAny (model X.prog X.w) A (getItem (.ref a) (.ref b)) Q E s := by
  obtain ⟨_, _, ys, rel, dd, _⟩ := dn_of I.hok e ks
  rcases at_env rel k with ⟨h1, _⟩ | ⟨c, v', u', h1, h2, rv⟩
  · rw [h1] at l; cases l
  · rw [h1] at l
    have l' : v' = v := Option.some.inj l
    subst l'
    exact wpAny_getItem_heap (room_in1 hu) (hk.is I.hok) dd h2 (h u' _ (I.tok _) rv)
theorem n_in {Q : Value → Shared → Prop} (hu : A.units + 10 < cLine) (I : Inv X pins σ H s) (e : H a = some (DK a ep xs)) (ks : KeysOk H xs) (hk : KeyOk H k b) (h : ∀ s', Inv X pins σ H s' → Q (.bool (atN xs k).isSome) s') :
    wpAny (model X.prog X.w) A (compareOp .In (.ref b) (.ref a)) Q E s := by
  obtain ⟨_, hd, ys, rel, dd, _⟩ := dn_of I.hok e ks
  refine wpAny_in_heap (room_in1 hu) (hk.is I.hok) hd dd ?_
  have q : (atKey ys k).isSome = (atN xs k).isSome := by
    rcases at_env rel k with ⟨h1, h2⟩ | ⟨c, v', u', h1, h2, rv⟩ <;> rw [h1, h2] <;> rfl
  rw [q]
  exact h _ (I.tok _)
theorem n_notIn {Q : Value → Shared → Prop} (hu : A.units + 10 < cLine) (I : Inv X pins σ H s) (e : H a = some (DK a ep xs)) (ks : KeysOk H xs) (hk : KeyOk H k b) (h : ∀ s', Inv X pins σ H s' → Q (.bool (!(atN xs k).isSome)) s') :
    wpAny (model X.prog X.w) A (compareOp .NotIn (.ref b) (.ref a)) Q E s := by
  obtain ⟨_, hd, ys, rel, dd, _⟩ := dn_of I.hok e ks
  refine wpAny_notIn_heap (room_in1 hu) (hk.is I.hok) hd dd ?_
  have q : (atKey ys k).isSome = (atN xs k).isSome := by
    rcases at_env rel k with ⟨h1, h2⟩ | ⟨c, v', u', h1, h2, rv⟩ <;> rw [h1, h2] <;> rfl
  rw [q]
  exact h _ (I.tok _)
theorem mut_dk (e : H a = some (DK a ep xs)) : Mut (H a) := by rw [e]; exact True.intro
theorem n_setItem {Q : Unit → Shared → Prop} (hu : A.units + 10 < cLine) (I : Inv X pins σ H s) (e : H a = some (DK a ep xs)) (ks : KeysOk H xs) (hk : KeyOk H k b) (hl : xs.length < sizeLine) (rv : RelV v r)
    (h : ∀ (ep' : Nat) s', Inv X pins σ (upd H a (DK a ep' (storedN xs k b v))) s' → Q () s') : wpAny (model X.prog X.w) A (setItem (.ref a) (.ref b) r) Q E s := by
  obtain ⟨z, hd, ys, rel, dd, _⟩ := dn_of I.hok e ks
  have hz : ys.length ≤ sizeLine := by rw [← Paired.length rel]; exact z
  refine wpAny_setItem_heap (hsz := hz) (room_in1 hu) (hk.is I.hok) dd fun h' dd' hs => ?_
  obtain ⟨q, es, ep', hq, h2, h3, h4, _, h5⟩ := dd'
  have rel' := stored_env rel k b rv
  have hkeys := stored_keys (v := v) ks hk
  have hp : DKp a ep' (storedN xs k b v) h' := ⟨hd, by have := stored_len xs k b v; omega, by rw [← env_keys rel']; exact h5, q, es, hq, h2, h3, by rw [h4]; exact vals_ent hkeys.plain rel'⟩
  exact h ep' _ (d_write I (mut_dk e) hs ⟨q, hq⟩ hp.obj)
theorem n_pop {Q : Value → Shared → Prop} (hu : A.units + 10 < cLine) (I : Inv X pins σ H s) (e : H a = some (DK a ep xs)) (ks : KeysOk H xs) (hk : KeyOk H k b) (l : (atN xs k).map (·.2) = some v)
    (h : ∀ (ep' : Nat) w' s', Inv X pins σ (upd H a (DK a ep' (withoutN xs k))) s' → RelV v w' → Q w' s') : wpAny (model X.prog X.w) A (call (.builtin "dict.pop") [.ref a, .ref b]) Q E s := by
  obtain ⟨z, hd, ys, rel, dd, _⟩ := dn_of I.hok e ks
  have hz : ys.length ≤ sizeLine := by rw [← Paired.length rel]; exact z
  rcases at_env rel k with ⟨h1, _⟩ | ⟨c, v', u', h1, h2, rv⟩
  · rw [h1] at l; cases l
  · rw [h1] at l
    have l' : v' = v := Option.some.inj l
    subst l'
    refine call_pop_heap (hsz := hz) (.inl rfl) (F.args_dict_pop_2 _ _) (room_in1 hu) (hk.is I.hok) hd dd h2 fun h' dd' hs => ?_
    obtain ⟨q, es, ep', hq, h2, h3, h4, _, h5⟩ := dd'
    have rel' := without_env k rel
    have hkeys := without_keys (k := k) ks
    have hp : DKp a ep' (withoutN xs k) h' := ⟨hd, Nat.le_trans (List.length_filter_le _ _) z, by rw [← env_keys rel']; exact h5, q, es, hq, h2, h3, by rw [h4]; exact vals_ent hkeys.plain rel'⟩
    exact h ep' u' _ (d_write I (mut_dk e) hs ⟨q, hq⟩ hp.obj) rv
end
/-! ### rules -/
section
variable {X : Cx} {o i e value : Expr} {pos pos' tpos apos cpos : Pos} {td ty tv : TE}
def AtD (H : Hp) (x y : V) (F : Addr → Nat → List Ent → NestedKey → Addr → Prop) : Prop := ∃ a ep xs k b, x = .ref a ∧ y = .ref b ∧ H a = some (DK a ep xs) ∧ KeysOk H xs ∧ KeyOk H k b ∧ F a ep xs k b
def tNGet (td ty : TE) : TE := fun σ H Q => td σ H fun x H1 => ty σ H1 fun y H2 => AtD H2 x y fun a ep xs k b => ∃ v, (atN xs k).map (·.2) = some v ∧ Q v H2
def tNIn (neg : Bool) (ty td : TE) : TE := fun σ H Q => ty σ H fun y H1 => td σ H1 fun x H2 => AtD H2 x y fun a ep xs k b => Q (.bl (if neg then !(atN xs k).isSome else (atN xs k).isSome)) H2
def sNPut (td ty tv : TE) : TS := fun D σ H => tv σ H fun v H1 => td σ H1 fun x H2 => ty σ H2 fun y H3 => AtD H3 x y fun a ep xs k b => xs.length < sizeLine ∧ ∀ ep', D.nx σ (upd H3 a (DK a ep' (storedN xs k b v)))
theorem pe_nget (hu : X.A.units + 10 < cLine) (ho : PE X o td) (hi : PE X i ty) (hs : NoSl i) : PE X (.Subscript o i pos) (tNGet td ty) := by
  refine ⟨fun pins s σ H Q I h => ?_⟩
  refine subD_of PySem.F.slot_dict_getitem.lookup hs (thn (ho.run pins s σ H _ I h) fun u s1 ⟨x, H1, I1, rx, q1⟩ => thn (hi.run pins s1 σ H1 _ I1 q1) fun iv s2 ⟨y, H2, I2, ry, a, ep, xs, k, b, ex, ey, g, ks, hk, v, l, q2⟩ => ?_)
  subst ex ey
  obtain rfl : u = Value.ref a := rx
  obtain rfl : iv = Value.ref b := ry
  exact ⟨n_typeIs I2 g, n_getItem hu I2 g ks hk l fun w' s3 I3 rw' => ⟨v, H2, I3, rw', q2⟩⟩
theorem pc_nin (hu : X.A.units + 10 < cLine) (hi : PE X i ty) (ho : PE X o td) : PC X .In i o (tNIn false ty td) := by
  refine ⟨fun pins s σ H Q I h => ?_⟩
  refine thn (hi.run pins s σ H _ I h) fun iv s1 ⟨y, H1, I1, ry, q1⟩ => thn (ho.run pins s1 σ H1 _ I1 q1) fun u s2 ⟨x, H2, I2, rx, a, ep, xs, k, b, ex, ey, g, ks, hk, q2⟩ => ?_
  subst ex ey
  obtain rfl : u = Value.ref a := rx
  obtain rfl : iv = Value.ref b := ry
  exact n_in hu I2 g ks hk fun s3 I3 => ⟨.bl (atN xs k).isSome, H2, I3, rfl, q2⟩
theorem pc_nnotin (hu : X.A.units + 10 < cLine) (hi : PE X i ty) (ho : PE X o td) : PC X .NotIn i o (tNIn true ty td) := by
  refine ⟨fun pins s σ H Q I h => ?_⟩
  refine thn (hi.run pins s σ H _ I h) fun iv s1 ⟨y, H1, I1, ry, q1⟩ => thn (ho.run pins s1 σ H1 _ I1 q1) fun u s2 ⟨x, H2, I2, rx, a, ep, xs, k, b, ex, ey, g, ks, hk, q2⟩ => ?_
  subst ex ey
  obtain rfl : u = Value.ref a := rx
  obtain rfl : iv = Value.ref b := ry
  exact n_notIn hu I2 g ks hk fun s3 I3 => ⟨.bl (!(atN xs k).isSome), H2, I3, rfl, q2⟩
theorem ps_nput (hu : X.A.units + 10 < cLine) (ho : PE X o td) (hi : PE X i ty) (hv : PE X value tv) (hs : swapsWith value (some (.Subscript o i pos')) pos.line X.env = pure false) :
    PS X (.Assign [.Subscript o i pos'] value pos) (sNPut td ty tv) := by
  refine ⟨fun pins s σ H D I h => ?_⟩
  refine wpAny_Assign_Subscript (thn (hv.run pins s σ H _ I h) fun r s1 ⟨v, H1, I1, rv, q1⟩ => thn (ho.run pins s1 σ H1 _ I1 q1) fun u s2 ⟨x, H2, I2, rx, q2⟩ => thn (hi.run pins s2 σ H2 _ I2 q2) fun iv s3 ⟨y, H3, I3, ry, a, ep, xs, k, b, ex, ey, g, ks, hk, hl, q3⟩ => ?_) hs
  subst ex ey
  obtain rfl : u = Value.ref a := rx
  obtain rfl : iv = Value.ref b := ry
  exact n_setItem hu I3 g ks hk hl rv fun ep' s4 I4 => ⟨σ, _, I4, q3 ep'⟩
def tNNew : TE := fun _ H Q => ∀ p, H p = none → Q (.ref p) (upd H p (DK p 0 []))
theorem pe_nnew : PE X (.Dict [] [] pos) tNNew := ⟨fun pins s σ H Q I h =>
  wpAny_Dict_empty ⟨.ref s.heap.objs.size, _, I.laid (a := s.heap.objs.size) (o := DK s.heap.objs.size 0 []) (t' := s.toks) (fun _ _ q => Heap.get?_push_of_some _ q) (Nat.le_refl _)
    (DKp.obj ⟨beq_eq_false_iff_ne.mpr (Ne.symm (Nat.ne_of_lt I.big)), Nat.zero_le _, List.nodup_nil, _, #[], Heap.get?_push_size _ rfl, ⟨rfl, rfl, rfl⟩, rfl, .nil⟩), rfl, h _ (I.hok.fresh (Nat.le_refl _))⟩⟩
/-- d.pop(k) -/
def tNPop (td ty : TE) : TE := fun σ H Q => td σ H fun x H1 => ∃ a ep0 xs0, x = .ref a ∧ H1 a = some (DK a ep0 xs0) ∧ ty σ H1 fun y H2 => AtD H2 x y fun a ep xs k b => ∃ v, (atN xs k).map (·.2) = some v ∧ ∀ ep', Q v (upd H2 a (DK a ep' (withoutN xs k)))
theorem pe_npop (hu : X.A.units + 10 < cLine) (ho : PE X o td) (he : PE X e ty) (m : M1 X o "pop" apos e cpos) : PE X (.Call (.Attribute o "pop" apos) [e] [] cpos) (tNPop td ty) := by
  refine ⟨fun pins s σ H Q I h => ?_⟩
  refine wpAny_Call_method m.base m.few m.line PySem.F.plainAttrs_dict PySem.F.slot_dict_pop PySem.F.type_dict_pop (thn (ho.run pins s σ H _ I h) fun u s1 ⟨x, H1, I1, rx, a, ep0, xs0, ex, d, q1⟩ => ?_)
  subst ex
  obtain rfl : u = Value.ref a := rx
  refine ⟨n_typeIs I1 d, n_noDict I1 d, ?_⟩
  rw [m.trees]
  refine Calls.callWith_builtin rfl (Calls.evalArgs_plain (Calls.spliced_cons (thn (he.run pins s1 σ H1 _ I1 q1) fun iv s2 ⟨y, H2, I2, ry, a', ep, xs, k, b, ex, ey, g, ks, hk, v, l, q2⟩ => Calls.spliced_nil ?_)))
  cases ex
  subst ey
  obtain rfl : iv = Value.ref b := ry
  exact n_pop hu I2 g ks hk l fun ep' w' s3 I3 rw' => ⟨v, _, I3, rw', q2 ep'⟩
end
/-! ### walks -/
def Itn (d : Addr) (ep : Nat) (xs : List Ent) : It :=
  ⟨fun i H => H d = some (DK d ep xs) ∧ i < xs.length, fun i H x H' => H' = H ∧ ∃ p, xs[i]? = some p ∧ x = .ref p.2.1, fun i H => H d = some (DK d ep xs) ∧ xs.length ≤ i⟩
theorem ent_get : ∀ {xs : List Ent} {es : List DictEntry} {i : Nat} {p : Ent}, Paired EntR xs es → xs[i]? = some p → ∃ e, es[i]? = some e ∧ EntR p e
  | _, _, i, p, .nil, h => by simp at h
  | _, _, 0, p, .cons r _, h => by simp at h; subst h; exact ⟨_, rfl, r⟩
  | _, _, i + 1, p, .cons _ t, h => by
    obtain ⟨e, h1, h2⟩ := ent_get (i := i) t (by simpa using h)
    exact ⟨e, by simpa using h1, h2⟩
theorem turn_n {P : Program} {w : World} {K : PySem.W.Frag} {tg : Expr} {d : Addr} {ep : Nat} {xs : List Ent} (it : Addr) : Turn P w K tg (Itn d ep xs) [it] it (fun i h => h.IsKeyIter it d i xs.length ep) where
  mem := by simp
  obj := fun i h st b hb => by
    have e : b = it := by simpa using hb
    subst e
    obtain ⟨oi, e, c, dd⟩ := st
    exact ⟨oi, e, fun v z => by rw [dd] at z; cases z⟩
  keep := fun i h h' st k => st.at fun oi e => k it (by simp) oi e
  item := by
    intro X hP hw hK hc i pins s σ H E I hf st hg
    subst hP hw hK
    obtain ⟨hd, hi⟩ := hg
    obtain ⟨f0, f1, f2, f3, f4, f5⟩ := hf it (by simp)
    obtain ⟨_, _, _, o, es, e1, e2, e3, r⟩ := DK.at I.hok hd
    have hsz : es.size = xs.length := by rw [← Array.length_toList]; exact (Paired.length r).symm
    obtain ⟨p, hp⟩ : ∃ p, xs[i]? = some p := ⟨xs[i], List.getElem?_eq_getElem hi⟩
    obtain ⟨en, hen, q1, q2, q3⟩ := ent_get r hp
    have hi' : i < es.size := by rw [hsz]; exact hi
    have hen' : es[i] = en := by
      rw [Array.getElem?_toList, Array.getElem?_eq_getElem hi'] at hen
      exact Option.some.inj hen
    have st0 : s.heap.IsKeyIter it d i es.size ep := by rw [hsz]; exact st
    refine wpAny_pyNext_keys_item_raw st0 ⟨o, e1, e2, e3⟩ hi' fun h' st' sb => ?_
    have I1 : Inv X pins σ H { s with heap := h' } := I.turned (t' := s.toks) (fun b ob hb e => (sb.2 b hb).trans e) f0 f1 f3 f4 f5
    obtain ⟨oi, e, c, dd⟩ := id st'
    refine ⟨es[i].key, rfl, go_of (s := { s with heap := h' }) e c dd (by decide) ⟨.ref p.2.1, H, I1, by rw [hen']; exact q2, ⟨rfl, p, hp, rfl⟩, by rw [← hsz]; exact st', fun b hb => (hf b hb).1⟩⟩
  done := by
    intro X hP hw hK hc i pins s σ H E I hf st hg
    subst hP hw hK
    obtain ⟨hd, hi⟩ := hg
    obtain ⟨f0, f1, f2, f3, f4, f5⟩ := hf it (by simp)
    obtain ⟨_, _, _, o, es, e1, e2, e3, r⟩ := DK.at I.hok hd
    have hsz : es.size = xs.length := by rw [← Array.length_toList]; exact (Paired.length r).symm
    have st0 : s.heap.IsKeyIter it d i es.size ep := by rw [hsz]; exact st
    exact wpAny_pyNext_keys_end_raw (I.ok.hd hc) st0 ⟨o, e1, e2, e3⟩ (by rw [hsz]; exact hi) fun h' eb => ⟨rfl, I.turned (t' := s.toks) (fun b ob hb e => eb b ob hb e) f0 f1 f3 f4 f5⟩
  self := fun A i s Q E st h => by
    refine wpAny_pyIter_slot st.typeIs F.slot_dict_keyiterator_iter (wpAny_call_entry F.slot_dict_keyiterator_iter st.typeIs F.entry_dict_keyiterator_iter ?_ (F.args_dict_keyiterator_iter_1 _))
    show wpAny _ _ (ret (.ref it)) _ _ s
    exact wpAny_pure ⟨_, rfl, "dict_keyiterator", _, st.typeIs, F.slot_dict_keyiterator_next.lookup, h⟩
def iN (td : TE) : TI := fun σ H R => td σ H fun x H1 => ∃ a ep xs, x = .ref a ∧ H1 a = some (DK a ep xs) ∧ R (Itn a ep xs) H1
theorem pi_n {X : Cx} {tg e : Expr} {td : TE} (he : PE X e td) : PI X tg e (iN td) := by
  refine ⟨fun pins s σ H R I h => ?_⟩
  refine thn (he.run pins s σ H _ I h) fun v s1 ⟨x, H1, I1, r1, a, ep, xs, ex, hd, q⟩ => ?_
  subst ex
  cases r1
  obtain ⟨hm, _, _, o, es, e1, e2, e3, r⟩ := DK.at I1.hok hd
  have hsz : es.size = xs.length := by rw [← Array.length_toList]; exact (Paired.length r).symm
  refine wpAny_pyIter_dict_raw hm ⟨o, e1, e2, e3⟩ ?_
  refine ⟨s1.heap.objs.size, [s1.heap.objs.size], _, _, H1, rfl, I1.kept (t' := s1.toks) fun b o e => Heap.get?_push_of_some _ e, turn_n s1.heap.objs.size, ⟨_, Heap.get?_push_size _ rfl, rfl, by rw [hsz]; rfl⟩, fun b hb => ?_, q⟩
  have e : b = s1.heap.objs.size := by simpa using hb
  subst e
  exact I1.fpOk (Nat.le_refl _) (I1.hok.fresh (Nat.le_refl _))
end DN
namespace DN
open PySem PySem.Spec PyProof.Rows L2
/-! ### {k: v for ..}: a dict with tuple keys -/
/-- in the block of a comprehension -/
def InB (X : Cx) (scope : Scope) (P : Cx → Prop) : Prop := ∀ (s : Shared) (H : Hp) (C : Addr) (cl : List (Str × Addr)) (fp : List Addr), P (X.blk s H scope (compEnvC scope cl C X.env) fp)
def PutD (D : Addr) (Nx : Hp → Prop) (y z : V) (H : Hp) : Prop := ∃ ep xs k b, y = .ref b ∧ H D = some (DK D ep xs) ∧ KeysOk H xs ∧ KeyOk H k b ∧ xs.length < sizeLine ∧ ∀ ep', Nx (upd H D (DK D ep' (storedN xs k b z)))
def TurnD (D : Addr) (g : TG) (tt : TT) (tk tv : TE) (vs : List Nat) (σ : L2.St) (Nx : Hp → Prop) (x : V) (H : Hp) : Prop :=
  g x (wipe σ vs) H fun σ2 H2 => wipe σ2 vs = wipe σ vs ∧ tt σ2 H2 fun b H3 => if b = true then tk σ2 H3 fun y H4 => tv σ2 H4 fun z H5 => PutD D Nx y z H5 else Nx H3
def tDn (wi : TI) (g : TG) (tt : TT) (tk tv : TE) (vs : List Nat) : TE := fun σ H Q => wi σ H fun J H1 => ∀ D, H1 D = none → ∃ W : Nat → Nat → Hp → Prop, (∃ m, W 0 m (upd H1 D (DK D 0 []))) ∧
  ∀ i m H, W i m H → (J.stop i H ∧ Q (.ref D) H) ∨ (J.go i H ∧ ∃ Nx : Hp → Prop, (∀ H', Nx H' → ∃ m', m' < m ∧ W (i + 1) m' H') ∧ ∀ x H', J.yld i H x H' → TurnD D g tt tk tv vs σ Nx x H')
theorem n_dictSet {X : Cx} {pins : List (Addr × Obj)} {σ : L2.St} {H : Hp} {s : Shared} {E : Value → Shared → Prop} {D b : Addr} {ep : Nat} {xs : List Ent} {k : NestedKey} {v : V} {r : Value} {Q : Unit → Shared → Prop}
    (hu : X.A.units + 10 < cLine) (I : Inv X pins σ H s) (e : H D = some (DK D ep xs)) (ks : KeysOk H xs) (hk : KeyOk H k b) (hl : xs.length < sizeLine) (rv : RelV v r)
    (h : ∀ (ep' : Nat) s', Inv X pins σ (upd H D (DK D ep' (storedN xs k b v))) s' → Q () s') : wpAny (model X.prog X.w) X.A (dictSet D (.ref b) r) Q E s := by
  obtain ⟨z, hd, ys, rel, dd, _⟩ := dn_of I.hok e ks
  have room : (nestedKind X.prog X.w).room X.A := by show X.A.units + 8 < cLine; omega
  refine wpAny_dictSet_heap (hsz := by rw [← Paired.length rel]; exact z) room (hk.is I.hok) dd fun h' ⟨q, es, ep', hq, h2, h3, h4, _, h5⟩ hs => h ep' _ (d_write I (mut_dk e) hs ⟨q, hq⟩ (DKp.obj ?_))
  have rel' := stored_env rel k b rv
  exact ⟨hd, by have := stored_len xs k b v; omega, by rw [← env_keys rel']; exact h5, q, es, hq, h2, h3, by rw [h4]; exact vals_ent (stored_keys (v := v) ks hk).plain rel'⟩
theorem new_dk {h : Heap} (hb : sysModules < h.objs.size) : DKp h.objs.size 0 [] (h.push { cls := .type "dict", data := .dict #[] }) :=
  ⟨beq_eq_false_iff_ne.mpr (Ne.symm (Nat.ne_of_lt hb)), Nat.zero_le _, List.nodup_nil, _, #[], Heap.get?_push_size _ rfl, ⟨rfl, rfl, rfl⟩, rfl, .nil⟩
section
variable {X : Cx} {kx vx tg iter : Expr} {ifs : List Expr} {scope : Scope} {own : List (Str × Nat)} {pos pos' : Pos} {wi : TI} {g : TG} {tt : TT} {tk tv : TE}
/-- the parts -/
structure Pts (X : Cx) (kx vx tg iter : Expr) (ifs : List Expr) (scope : Scope) (own : List (Str × Nat)) (wi : TI) (g : TG) (tt : TT) (tk tv : TE) : Prop where
  calm : X.calm = true
  nd : X.N.Nodup
  it : PI X tg iter wi
  ok : BlkOk X.N X.env.scope scope own
  tg : InB X scope fun X' => PG X' tg g
  ts : InB X scope fun X' => PTs X' ifs tt
  ky : InB X scope fun X' => PE X' kx tk
  vl : InB X scope fun X' => PE X' vx tv
  st : ∀ x, foldedSetIterable iter X.env x = pure x
  hu : X.A.units + 10 < cLine
theorem dn_core {pins : List (Addr × Obj)} {s : Shared} {σ : L2.St} {H : Hp} {Q : VK} {use : Option (Value → Sem Unit)} {Qf : Value → Shared → Prop} (p : Pts X kx vx tg iter ifs scope own wi g tt tk tv) (I : Inv X pins σ H s) (h : tDn wi g tt tk tv (own.map (·.2)) σ H Q)
    (fin : ∀ D C s' m H', Inv X pins σ H' s' → Q (.ref D) H' → s'.heap.Ns C m → FpOk X pins H' C → compPost (model X.prog X.w) X.A X.xe use Qf (.ref D) C (.ok .next) s') :
    wpAny (model X.prog X.w) X.A (comprehension (.DictComp kx vx [⟨tg, iter, ifs, 0⟩] scope pos) scope X.env pos' newDict false (eval iter X.env) use) Qf X.xe s := by
  have cells : ∀ y ∈ scope.names, y.2 = .free → ∃ c, X.env.cells.lookup y.1 = some c := fun y hy e => (p.ok.free y hy e).elim (fun k => I.ok.has _ (.inl k)) fun k => I.ok.has _ (.inr k)
  refine wpAny_comprehension_free (use := use) rfl p.st (closure_ok cells) p.ok.kind (fun y hy e => by rw [p.ok.uniq y hy, e]) (thn (p.it.run pins s σ H _ I h) fun xv s1 hx => thn hx fun itv s2 ⟨it, fp, tn, J, H2, e, I2, T, st2, f2, q⟩ => ?_)
  subst e
  refine wpAny_newObj_type (newEnv_comp ?_)
  generalize hD : s2.heap.objs.size = D
  have le : s2.heap.objs.size ≤ D := Nat.le_of_eq hD
  obtain ⟨W, ⟨m0, w0⟩, turn⟩ := q D (I2.hok.fresh le)
  generalize hs3 : ({ s2 with heap := s2.heap.push { cls := .type "dict", data := .dict #[] } } : Shared) = s3
  have h3 : s3.heap = s2.heap.push { cls := .type "dict", data := .dict #[] } := by rw [← hs3]
  have I3 : Inv X pins σ (upd H2 D (DK D 0 [])) s3 := by
    rw [← hs3]
    exact I2.laid (t' := s2.toks) (fun b o e => Heap.get?_push_of_some _ e) le (by rw [← hD]; exact (new_dk I2.big).obj)
  have f3 : ∀ b ∈ fp, FpOk X pins (upd H2 D (DK D 0 [])) b ∧ b < s3.heap.objs.size := fun b hb => by
    obtain ⟨o, e, _⟩ := T.obj _ _ st2 b hb
    have lt := Heap.lt_size e
    exact ⟨⟨by rw [upd_ne (by rw [← hD]; exact Nat.ne_of_lt lt)]; exact (f2 b hb).1, (f2 b hb).2⟩, by rw [h3, Heap.size_push]; exact Nat.lt_succ_of_lt lt⟩
  have st3 : tn 0 s3.heap := T.keep _ _ _ st2 fun b _ o e => by rw [h3]; exact Heap.get?_push_of_some _ e
  have I4 := block_start I3 p.ok p.nd f3
  let ce := compEnvC scope (cellsFrom (s3.heap.objs.size + 1) scope.names (cloFrom X.env.cells scope.names [])) s3.heap.objs.size X.env
  let Y := X.blk s3 (upd H2 D (DK D 0 [])) scope ce fp
  have pg : PG Y tg g := p.tg ..
  have pt : PTs Y ifs tt := p.ts ..
  have pk : PE Y kx tk := p.ky ..
  have pv : PE Y vx tv := p.vl ..
  have n0 : ∀ b ∈ fp, (upd H2 D (DK D 0 [])) b = none := fun b hb => (f3 b hb).1.1
  generalize hs4 : ({ s3 with heap := pushCells (s3.heap.push { cls := .type "dict", data := .dict #[] }) scope.names } : Shared) = s4 at I4 ⊢
  have st4 : tn 0 s4.heap := T.keep _ _ _ st3 fun b _ o e => by rw [← hs4]; exact pushCells_keeps _ _ _ _ (Heap.get?_push_of_some _ e)
  have fpo : ∀ {σ' : L2.St} {H' : Hp} {s' : Shared}, Inv Y [] σ' H' s' → (∀ b ∈ fp, H' b = none) → ∀ b ∈ fp, FpOk Y [] H' b := fun {σ' H' s'} I' hn b hb =>
    ⟨hn b hb, (I'.ok.exf b hb).1, I'.ok.exfs b hb, .inl hb, fun x c e => (I'.ok.exf b hb).2 x c e, fun q hq => absurd (show q ∈ ([] : List (Addr × Obj)) ++ [] from hq) (by simp)⟩
  let Lv : Nat → Shared → Prop := fun n s' => ∃ i H', Inv Y [] (wipe σ (own.map (·.2))) H' s' ∧ tn i s'.heap ∧ (∀ b ∈ fp, H' b = none) ∧ W i n H'
  have loop : codeAny (model X.prog X.w) X.A (.compLoop (.DictComp kx vx [⟨tg, iter, ifs, 0⟩] scope pos) 0 (.ref it) (.ref D) ce) (compPost (model X.prog X.w) X.A X.xe use Qf (.ref D) s3.heap.objs.size) s4 := by
    refine compLoop_anyD Lv (fun n s5 ⟨i, H5, I5, st5, n5, w5⟩ => ?_) m0 ⟨0, _, I4, st4, n0, w0⟩
    rcases turn i n H5 w5 with ⟨stop, qq⟩ | ⟨go, Nx, hNx, step⟩
    · refine thnF (T.done Y rfl rfl rfl p.calm i [] s5 _ H5 (fun _ _ => False) I5 (fpo I5 n5) st5 stop) fun r s6 ⟨hr, I6⟩ => ?_
      subst hr
      have I7 : Inv X pins σ H5 s6 := I3.call' (ch := fp) I6.os I6.base I6.hok I6.bare fun b hb => let z := (f3 b hb).1.2; ⟨z.2.2.1, z.1, z.2.2.2.1, z.2.2.2.2⟩
      obtain ⟨m, hn, _⟩ := I6.loc
      exact fin D _ s6 m H5 I7 qq hn (I3.fpOk (Nat.le_refl _) I6.free)
    · refine thnF (T.item Y rfl rfl rfl p.calm i [] s5 _ H5 (fun _ _ => False) I5 (fpo I5 n5) st5 go) fun r s6 ⟨u, hr, h6⟩ => ?_
      subst hr
      refine thnF h6 fun _ s7 ⟨x, H7, I7, r7, y7, st7, n7⟩ => ?_
      refine thnF (pg.run _ s7 _ H7 x u _ (I7.pinned (fpo I7 n7) (T.obj _ _ st7)) r7 (step x H7 y7)) fun _ s8 ⟨σ8, H8, I8, hw8, q8⟩ => ?_
      refine thnF (pt.run _ s8 σ8 H8 _ I8 q8) fun b s9 ⟨H9, I9, q9⟩ => ?_
      have back : ∀ {s' : Shared} {H' : Hp}, Inv Y ([] ++ pinsAt fp s7.heap) σ8 H' s' → Nx H' → ∃ m, m < n ∧ Lv m s' := fun {s' H'} I' nx => by
        obtain ⟨m', hm, w'⟩ := hNx H' nx
        have pin' : ∀ b ∈ fp, ∀ o, s7.heap.get? b = some o → s'.heap.get? b = some o ∧ H' b = none := fun b hb o e => by
          have z := I'.pin (b, o) (List.mem_append_right _ (List.mem_append_right _ (mem_pinsAt hb e)))
          exact ⟨z.1, z.2.1⟩
        refine ⟨m', hm, i + 1, H', (I'.unpinned (pins := [])).weak (by rw [← hw8, wipe_length]) fun j v e => (wipe_some (by rw [hw8]; exact e)).1, T.keep _ _ _ st7 fun b hb o e => (pin' b hb o e).1, fun b hb => ?_, w'⟩
        obtain ⟨o, e, _⟩ := T.obj _ _ st7 b hb
        exact (pin' b hb o e).2
      cases b with
      | false => exact back I9 (by simpa using q9)
      | true =>
        simp only [if_true] at q9 ⊢
        refine thnF (pk.run _ s9 σ8 H9 _ I9 q9) fun z s10 ⟨yk, H10, I10, r10, q10⟩ => thnF (pv.run _ s10 σ8 H10 _ I10 q10) fun z2 s11 ⟨yv, H11, I11, r11, ep, xs, k, b, ek, hD11, ks, hk, hz, nx⟩ => ?_
        subst ek
        obtain rfl : z = Value.ref b := r10
        exact n_dictSet (X := Y) p.hu I11 hD11 ks hk hz r11 fun ep' s12 I12 => back I12 (nx ep')
  exact codeAny_compStart_dict loop (T.self X.A 0 _ _ _ st4 loop)
theorem pe_dn (p : Pts X kx vx tg iter ifs scope own wi g tt tk tv) : PE X (.DictComp kx vx [⟨tg, iter, ifs, 0⟩] scope pos) (tDn wi g tt tk tv (own.map (·.2))) := ⟨fun pins s σ H Q I h => by
  rw [arm_eval_DictComp]
  exact dn_core p I h fun D C s' m H' I' q hn ⟨f0, f1, f2, f3, f4, f5⟩ => ⟨m, hn, fun h'' sb => ⟨.ref D, H', I'.turned (t' := s'.toks) (fun b o hb e => (sb.2 b hb).trans e) f0 f1 f3 f4 f5, rfl, q⟩⟩⟩
theorem ps_dn {i : Nat} {y : Str} {py spos : Pos} (p : Pts X kx vx tg iter ifs scope own wi g tt tk tv) (hy : X.N[i]? = some y) (hyl : X.env.scope.names.lookup y = some .local) (hsw : swapsWith (.DictComp kx vx [⟨tg, iter, ifs, 0⟩] scope pos) (some (.Name y py)) spos.line X.env = pure true) :
    PS X (.Assign [.Name y py] (.DictComp kx vx [⟨tg, iter, ifs, 0⟩] scope pos) spos) (tAsg (tDn wi g tt tk tv (own.map (·.2))) (gName i)) := ⟨fun pins s σ H Dn I h => by
  rw [exec_Assign_Name_used _ _ _ _ hsw]
  refine wpAny_bind (wpAny_standAt (wpAny_bind ?_))
  show wpAny _ X.A (do let _ ← comprehension (.DictComp kx vx [⟨tg, iter, ifs, 0⟩] scope pos) scope X.env (firstIterPos [⟨tg, iter, ifs, 0⟩] pos) newDict false (eval iter X.env) (some (assign (.Name y py) X.env))) _ _ s
  have h' : tDn wi g tt tk tv (own.map (·.2)) σ H (fun x H1 => gName i x σ H1 Dn.nx) := h
  refine wpAny_bind (thn (dn_core (Qf := fun _ s' => SP X pins Dn .next s') p I h' fun L C s' m H' I' q hn ⟨f0, f1, f2, f3, f4, f5⟩ => ?_) fun _ s' hq => wpAny_pure (wpAny_pure hq))
  show wpAny _ _ (assign (.Name y py) X.env (.ref L)) _ _ _
  refine wpAny_assign_Name (store_ok2 (v := V.ref L) I' p.nd hy (.inl hyl) rfl (fun s2 I2 ⟨a, sb, ha⟩ => ?_) (.inr hyl))
  have haC : C ≠ a := ha.elim (fun z => by rw [z]; exact f1) fun z e => f4 y a z e.symm
  exact ⟨m, hn.sameBut sb haC, fun h3 sb3 => ⟨_, H', I2.turned (t' := s2.toks) (fun b o hb e => (sb3.2 b hb).trans e) f0 f1 f3 f4 f5, q⟩⟩⟩
end
end DN
/-! New tuples, each known with its object (so that it bears no attributes of its own): displays, sums, cuts, repeats, tuple(..). -/
namespace TN
open PySem PySem.Spec PyProof.Rows L2
/-- whatever the new tuple's place and object -/
def NewT (Q : VK) (H : Hp) (xs : List V) : Prop := ∀ (p : Addr) (o : Obj), H p = none → o.dict = none → Q (.ref p) (upd H p (.frz o (.tup xs)))
section
variable {X : Cx} {pins : List (Addr × Obj)} {σ : L2.St} {H : Hp} {s : Shared} {Q : VK}
theorem ep_new {xs : List V} {its : List Value} {n t' : Nat} (I : Inv X pins σ H s) (rv : Vals xs its) (hz : xs.length ≤ sizeLine) (q : NewT Q H xs) :
    EP X pins σ Q (.ref s.heap.objs.size) { s with heap := s.heap.push { cls := .type "tuple", data := .seq its.toArray n }, toks := t' } := by
  have at' : (s.heap.push { cls := .type "tuple", data := .seq its.toArray n }).get? s.heap.objs.size = some { cls := .type "tuple", data := .seq its.toArray n } := Heap.get?_push_size _ rfl
  refine ⟨.ref s.heap.objs.size, upd H s.heap.objs.size (.frz { cls := .type "tuple", data := .seq its.toArray n } (.tup xs)), ?_, rfl, q _ _ (I.hok.fresh (Nat.le_refl _)) rfl⟩
  refine I.laid (t' := t') (fun b u e => Heap.get?_push_of_some _ e) (Nat.le_refl _) ?_
  exact ⟨at', hz, its, rv, ⟨_, at', rfl, n, rfl⟩⟩
variable {e a : Expr} {es : List Expr} {te : TE} {t : TA} {pos p : Pos}
def tTupN (t : TA) : TE := fun σ H Q => t σ H fun xs H1 => xs.length ≤ sizeLine ∧ NewT Q H1 xs
theorem pe_tupN {k : Nat} (h : PA X es t) : PE X (.Tuple es k pos) (tTupN t) :=
  ⟨fun pins s σ H Q I hq => wpAny_Tuple_spliced (thn (h.run pos pins s σ H _ I hq) fun us s1 ⟨xs, H1, I1, r, z, q⟩ => ⟨by rw [← r.length]; exact z, ep_new I1 r z q⟩)⟩
def rCatN (K : PySem.W.Frag) : R2 := fun x y H Q => ∃ a b xs ys, x = .ref a ∧ y = .ref b ∧ SqT K H a xs ∧ SqT K H b ys ∧ xs.length + ys.length ≤ sizeLine ∧
  (xs = [] → Q (.ref b) H) ∧ (ys = [] → Q (.ref a) H) ∧ NewT Q H (xs ++ ys)
theorem op_catN : OpR X (binaryOp .Add) (rCatN X.K) := fun pins s σ H x y v u Q I rx ry h => by
  obtain ⟨a, b, xs, ys, ex, ey, ha, hb, hz, q0, q1, q2⟩ := h
  subst ex ey
  cases rx
  cases ry
  obtain ⟨its, r1, p1, _⟩ := I.tuple ha
  obtain ⟨its2, r2, p2, _⟩ := I.tuple hb
  by_cases hx : xs = []
  · subst hx
    cases r1
    exact cat_tup0 p1 p2 ⟨.ref b, H, I, rfl, q0 rfl⟩
  · refine HT.cat_tup p1 p2 (fun z => hx (r1.nil_iff.mp z)) (fun z => ⟨.ref a, H, I, rfl, q1 (r2.nil_iff.mp z)⟩) (fun _ => ?_) (by rw [← r1.length, ← r2.length]; exact hz)
    exact ep_new (t' := s.toks) I (r1.append r2) (by rw [List.length_append]; exact hz) q2
def rSlN (K : PySem.W.Frag) : V → Option Int → Option Int → Hp → VK → Prop := fun x lo hi H Q => ∃ a xs, x = .ref a ∧ SqT K H a xs ∧
  (HT.sIx xs.length 0 lo = 0 ∧ HT.sIx xs.length xs.length hi = xs.length → Q (.ref a) H) ∧ NewT Q H (cutV xs lo hi)
theorem sl_tupN : SlR X (rSlN X.K) := fun pins s σ H x v vl vu lo hi sl Q I rx hs pl pu h => by
  obtain ⟨a, xs, ex, hx, q1, q2⟩ := h
  subst ex
  cases rx
  obtain ⟨its, r, ht, hz⟩ := I.tuple hx
  have hl : its.toArray.size = xs.length := (List.size_toArray ..).trans r.length.symm
  refine ⟨"tuple", _, PyProof.Rows.slot_tuple_getitem.lookup, ht.typeIs, ?_⟩
  by_cases hw : HT.sIx xs.length 0 lo = 0 ∧ HT.sIx xs.length xs.length hi = xs.length
  · exact getItem_tuple_whole ht hs pl pu (hl ▸ hw) ⟨.ref a, H, I, rfl, q1 hw⟩
  · refine HT.getItem_tuple_cut ht hs pl pu (hl ▸ hw) ?_ (hl ▸ hz)
    rw [hl]
    exact ep_new (t' := s.toks) I ((r.drop _).take _) (Nat.le_trans (cutV_length xs lo hi) hz) q2
def rRepN (K : PySem.W.Frag) : R2 := fun x y H Q => ∃ l k xs, x = .ref l ∧ y = .int k ∧ SqT K H l xs ∧ xs ≠ [] ∧ 2 ≤ k ∧ k ≤ 1000 ∧ xs.length ≤ 1000 ∧ NewT Q H (List.replicate k.toNat xs).flatten
theorem op_repN : OpR X (binaryOp .Mult) (rRepN X.K) := fun pins s σ H x y v u Q I rx ry h => by
  obtain ⟨l, k, xs, ex, ey, hT, hne, h1, h2, hz, q⟩ := h
  subst ex ey
  cases rx
  obtain ⟨t, rfl⟩ := ry
  obtain ⟨its, r, ⟨⟨cls, dd, data, sl⟩, ho, hc, n, hd⟩, _⟩ := I.tuple hT
  dsimp only at hc hd
  subst hc hd
  have hle : its.length = xs.length := r.length.symm
  have hi : its.toArray.isEmpty = false := by
    cases its with
    | nil => cases r; exact absurd rfl hne
    | cons a b => rfl
  have hs0 : its.toArray.size = xs.length := by rw [List.size_toArray, hle]
  have hm : ((its.toArray.size : Nat) : Int) * k ≤ 1000000 := by
    rw [hs0]
    exact Int.le_trans (Int.mul_le_mul_of_nonneg_right (show ((xs.length : Nat) : Int) ≤ 1000 by omega) (by omega)) (by omega)
  have fl : k.toNat * xs.length ≤ 1000 * 1000 := Nat.mul_le_mul (by omega) hz
  have c1 : (its.toArray.isEmpty || k == 1) = false := by rw [hi, Bool.false_or]; exact beq_eq_false_iff_ne.mpr (by omega)
  have c2 : (decide (k ≤ 0) || its.toArray.isEmpty) = false := by rw [hi, Bool.or_false]; exact decide_eq_false (by omega)
  have c4 : Builtin.Tuple.tupleTooMany (((its.toArray.size : Nat) : Int) * k) = false := by
    unfold Builtin.Tuple.tupleTooMany
    exact decide_eq_false (by rw [sizeLine_eq]; omega)
  have cl : (List.replicate k.toNat its).flatten.length ≤ sizeLine := by rw [PyProof.Rows.lm_len_rep_flat, hle, sizeLine_eq]; omega
  have mul := tuple_mulW l its.toArray n dd sl k t (by rw [decide_eq_false (by omega), decide_eq_false (by omega)] <;> rfl) c1 c2 (by omega) c4 (by rw [size_rep, List.size_toArray]; exact cl)
  refine wpAny_binaryOp_repeat_ref (T := "tuple") (U := "int") (by decide) ⟨_, ho, rfl⟩ (fun s' => typeIs_int s' k t) noFill_tuple_mul F.fills_int_mul F.slot_int_rmul repeat_tuple F.slot_int_index.lookup ?_
  refine call_meets F.slot_int_rmul (typeIs_int s k t) F.entry_int_rmul (F.args_int_rmul_2 _ _) (int_rmul_tuple k t l its.toArray n dd sl) ⟨ho, rfl, ⟨_, ho, rfl⟩, ?_⟩
  refine call_meets F.slot_tuple_mul ⟨_, ho, rfl⟩ F.entry_tuple_mul (F.args_tuple_mul_2 _ _) mul ⟨ho, ?_⟩
  rw [size_rep]
  exact ep_new (t' := s.toks) I (r.rep k.toNat) (by rw [PyProof.Rows.lm_len_rep_flat, sizeLine_eq]; omega) q
theorem call_tupleN : CallR X (.type "tuple") (fun xs H Q => ∃ p ys, xs = [.ref p] ∧ ((SqL X.K H p ys ∧ NewT Q H ys) ∨ (SqT X.K H p ys ∧ Q (.ref p) H))) := fun pins s σ H xs us Q I r h => by
  obtain ⟨p, ys, ex, h⟩ := h
  subst ex
  obtain ⟨u, rfl, rx⟩ := vals1 r
  cases rx
  rcases h with ⟨hq, q⟩ | ⟨hq, q⟩
  · obtain ⟨its, r', pl, hz⟩ := I.list hq
    refine call_tuple_list pl.isList (fun h' kp => ?_) (by rw [List.size_toArray, ← r'.length]; exact hz)
    exact ep_new (t' := s.toks) (I.kept (t' := s.toks) kp : Inv X pins σ H { s with heap := h' }) r' hz q
  · obtain ⟨its, _, pl, _⟩ := I.tuple hq
    exact call_tuple_same pl ⟨.ref p, H, I, rfl, q⟩
def tTupRgN (te : L2.St → Hp → (Int → Int → Hp → Prop) → Prop) : TE := fun σ H Q => te σ H fun a b H1 => RgOk a b ∧ NewT Q H1 (rgV a b)
theorem pe_tupRgN {te : L2.St → Hp → (Int → Int → Hp → Prop) → Prop} (hc : X.calm = true) (hg : Gl X "tuple") (hm : X.mg "tuple" = none) (he : PRg X e te) (na : starEach [e] X.env = (false, eval e X.env) :: starEach [] X.env) : PE X (.Call (.Name "tuple" p) [e] [] pos) (tTupRgN te) := by
  refine ⟨fun pins s σ H Q I h => Call_ (ld_blt I hg hm boot_tuple (PyProof.Rows.callWith_type1 (args_cons (thn (he pins s σ H _ I h) fun x s1 y => args_nil ?_) na) na))⟩
  obtain ⟨r, a, b, t, u, v, H1, ex, hr, I1, ⟨b1, b2, b3, b4, b5⟩, q⟩ := y
  subst ex
  refine call_tuple_range (n := (b - a).toNat) (I1.ok.hd hc) hr (small_one b1 b2 b3 b4) (rangeSize_nat a b) b5 fun h' tk acc hk hi => ?_
  have z := ep_new (n := 0) (t' := tk) (Q := Q) (I1.kept hk : Inv X pins σ H1 { s1 with heap := h', toks := tk }) (vals_rg hi) (by rw [rgV_length, sizeLine_eq]; omega) q
  rw [Array.toArray_toList] at z
  exact z
end
end TN
/-! A layer of my own over HandS: Python's values as plain data, a frame's names as data or lists of its own; every judgement has one reading, told by a plain function over that data. -/
namespace PF
open PySem PySem.Spec PyProof.Rows L2
abbrev D := PyData
abbrev St := L2.St
/-! ### keys of dicts -/
mutual
def keyD : D → Option NestedKey
  | .none => some .none
  | .int i => some (.num i)
  | .tuple ds => (keysD ds).map .tup
  | _ => none
def keysD : List D → Option (List NestedKey)
  | [] => some []
  | d :: ds => (keyD d).bind fun k => (keysD ds).map fun ks => k :: ks
end
/-- a key of a dict: a tuple -/
def keyT : D → Option NestedKey
  | .tuple ds => (keyD (.tuple ds)).bind fun k => if k.depth ≤ 8 then some k else none
  | _ => none
/-- a dict as a datum -/
def dicD (kvs : List (D × D)) : D := .dict ((.bool true, .none) :: kvs)
/-! ### values as data, over the part of the heap that no more changes -/
/-- a tuple that is known with its object, which bears no attributes -/
def TupG (G : Hp) (a : Addr) (xs : List V) : Prop := ∃ o : Obj, G a = some (.frz o (.tup xs)) ∧ o.dict = none
theorem TupG.rd {G : Hp} {a : Addr} {xs : List V} (h : TupG G a xs) : Rd G a (.tup xs) := let ⟨o, e, _⟩ := h; .inr ⟨o, e⟩
mutual
inductive Rp (K : PySem.W.Frag) (G : Hp) : V → D → Prop
  | non : Rp K G .non .none
  | bl (b : Bool) : Rp K G (.bl b) (.bool b)
  | int (i : Int) : Rp K G (.int i) (.int i)
  | str (x : Str) : Rp K G (.str x) (.str x)
  | lst {a : Addr} {xs : List V} {ds : List D} : Rd G a (.lst xs) → RpAll K G xs ds → Rp K G (.ref a) (.list ds)
  | tup {a : Addr} {xs : List V} {ds : List D} : TupG G a xs → RpAll K G xs ds → Rp K G (.ref a) (.tuple ds)
  /-- the law's script: a list of ints that may stand in the written part; told by a datum that is no dict's -/
  | scr {a : Addr} {ns : List Int} : SqL K G a (ns.map V.int) → Rp K G (.ref a) (.dict ((.list [], .none) :: ns.map fun n => (PyData.int n, PyData.none)))
  | dic {a : Addr} {ep : Nat} {xs : List DN.Ent} {kvs : List (D × D)} : G a = some (DN.DK a ep xs) → RpKV K G xs kvs → Rp K G (.ref a) (.dict ((.bool true, .none) :: kvs))
inductive RpAll (K : PySem.W.Frag) (G : Hp) : List V → List D → Prop
  | nil : RpAll K G [] []
  | cons {v : V} {vs : List V} {d : D} {ds : List D} : Rp K G v d → RpAll K G vs ds → RpAll K G (v :: vs) (d :: ds)
inductive RpKV (K : PySem.W.Frag) (G : Hp) : List DN.Ent → List (D × D) → Prop
  | nil : RpKV K G [] []
  | cons {k : NestedKey} {b : Addr} {v : V} {xs : List DN.Ent} {d e : D} {kvs : List (D × D)} : keyT d = some k → Rp K G (.ref b) d → Rp K G v e → RpKV K G xs kvs → RpKV K G ((k, b, v) :: xs) ((d, e) :: kvs)
end
section
variable {K : PySem.W.Frag} {G G' H H' H0 G0 : Hp}
theorem rdM {a : Addr} {u : HO} (e : Same H H') (h : Rd H a u) : Rd H' a u := by
  rcases h with h | ⟨o, h⟩
  · exact .inl (e _ _ h)
  · exact .inr ⟨o, e _ _ h⟩
theorem tgM {a : Addr} {xs : List V} (e : Same H H') (h : TupG H a xs) : TupG H' a xs := let ⟨o, h1, h2⟩ := h; ⟨o, e _ _ h1, h2⟩
mutual
theorem Rp.mono (e : Same G G') : ∀ {v : V} {d : D}, Rp K G v d → Rp K G' v d
  | _, _, .non => .non
  | _, _, .bl b => .bl b
  | _, _, .int i => .int i
  | _, _, .str x => .str x
  | _, _, .lst h r => .lst (rdM e h) (RpAll.mono e r)
  | _, _, .tup h r => .tup (tgM e h) (RpAll.mono e r)
  | _, _, .scr h => .scr (e.seq h)
  | _, _, .dic h r => .dic (e _ _ h) (RpKV.mono e r)
theorem RpAll.mono (e : Same G G') : ∀ {vs : List V} {ds : List D}, RpAll K G vs ds → RpAll K G' vs ds
  | _, _, .nil => .nil
  | _, _, .cons a b => .cons (Rp.mono e a) (RpAll.mono e b)
theorem RpKV.mono (e : Same G G') : ∀ {xs : List DN.Ent} {kvs : List (D × D)}, RpKV K G xs kvs → RpKV K G' xs kvs
  | _, _, .nil => .nil
  | _, _, .cons h a b c => .cons h (Rp.mono e a) (Rp.mono e b) (RpKV.mono e c)
end
mutual
theorem Rp.dp : ∀ {v : V} {d : D}, d.canLay0 = true → Rp K G v d → Dp K G v d
  | _, _, _, .non => .non
  | _, _, _, .bl b => .bl b
  | _, _, _, .int i => .int i
  | _, _, _, .str x => .str x
  | _, _, hc, .lst h r => .lst (.inl h) (RpAll.dp (by simpa [PyData.canLay0] using hc) r)
  | _, _, hc, .tup h r => .tup (.inl h.rd) (RpAll.dp (by simpa [PyData.canLay0] using hc) r)
  | _, _, hc, .scr _ => by simp [PyData.canLay0] at hc
  | _, _, hc, .dic _ _ => by simp [PyData.canLay0] at hc
theorem RpAll.dp : ∀ {vs : List V} {ds : List D}, PyData.canLayAll0 ds = true → RpAll K G vs ds → DpAll K G vs ds
  | _, _, _, .nil => .nil
  | _, _, hc, .cons a b => .cons (Rp.dp (by simp [PyData.canLayAll0] at hc; exact hc.1) a) (RpAll.dp (by simp [PyData.canLayAll0] at hc; exact hc.2) b)
end
theorem RpAll.length : ∀ {vs : List V} {ds : List D}, RpAll K G vs ds → vs.length = ds.length
  | _, _, .nil => rfl
  | _, _, .cons _ t => by simp [RpAll.length t]
theorem RpAll.get : ∀ {vs : List V} {ds : List D}, RpAll K G vs ds → ∀ (i : Nat) {d : D}, ds[i]? = some d → ∃ v, vs[i]? = some v ∧ Rp K G v d
  | _, _, .nil, i, d, e => by simp at e
  | _, _, .cons r _, 0, d, e => by simp at e; subst e; exact ⟨_, rfl, r⟩
  | _, _, .cons _ t, i + 1, d, e => by
    obtain ⟨v, h1, h2⟩ := RpAll.get t i (by simpa using e)
    exact ⟨v, by simpa using h1, h2⟩
theorem RpAll.getV : ∀ {vs : List V} {ds : List D}, RpAll K G vs ds → ∀ (i : Nat) {v : V}, vs[i]? = some v → ∃ d, ds[i]? = some d ∧ Rp K G v d
  | _, _, .nil, i, d, e => by simp at e
  | _, _, .cons r _, 0, d, e => by simp at e; subst e; exact ⟨_, rfl, r⟩
  | _, _, .cons _ t, i + 1, d, e => by
    obtain ⟨v, h1, h2⟩ := RpAll.getV t i (by simpa using e)
    exact ⟨v, by simpa using h1, h2⟩
theorem RpAll.append : ∀ {vs ws : List V} {ds es : List D}, RpAll K G vs ds → RpAll K G ws es → RpAll K G (vs ++ ws) (ds ++ es)
  | _, _, _, _, .nil, s => s
  | _, _, _, _, .cons r t, s => .cons r (RpAll.append t s)
theorem RpAll.take : ∀ {vs : List V} {ds : List D} (n : Nat), RpAll K G vs ds → RpAll K G (vs.take n) (ds.take n)
  | _, _, 0, _ => .nil
  | _, _, _ + 1, .nil => .nil
  | _, _, n + 1, .cons r t => .cons r (RpAll.take n t)
theorem RpAll.drop : ∀ {vs : List V} {ds : List D} (n : Nat), RpAll K G vs ds → RpAll K G (vs.drop n) (ds.drop n)
  | _, _, 0, r => r
  | _, _, _ + 1, .nil => .nil
  | _, _, n + 1, .cons _ t => RpAll.drop n t
theorem RpAll.set {v : V} {d : D} (r : Rp K G v d) : ∀ {vs : List V} {ds : List D} (i : Nat), RpAll K G vs ds → RpAll K G (vs.set i v) (ds.set i d)
  | _, _, _, .nil => .nil
  | _, _, 0, .cons _ t => .cons r t
  | _, _, i + 1, .cons q t => .cons q (RpAll.set r i t)
theorem RpAll.reverse : ∀ {vs : List V} {ds : List D}, RpAll K G vs ds → RpAll K G vs.reverse ds.reverse
  | _, _, .nil => .nil
  | _, _, .cons r t => by
    rw [List.reverse_cons, List.reverse_cons]
    exact (RpAll.reverse t).append (.cons r .nil)
theorem RpAll.eraseIdx : ∀ {vs : List V} {ds : List D} (i : Nat), RpAll K G vs ds → RpAll K G (vs.eraseIdx i) (ds.eraseIdx i)
  | _, _, _, .nil => .nil
  | _, _, 0, .cons _ t => t
  | _, _, i + 1, .cons q t => .cons q (RpAll.eraseIdx i t)
theorem RpAll.dropLast : ∀ {vs : List V} {ds : List D}, RpAll K G vs ds → RpAll K G vs.dropLast ds.dropLast := fun {vs ds} h => by
  rw [List.dropLast_eq_take, List.dropLast_eq_take, h.length]
  exact h.take _
theorem RpAll.rep : ∀ {vs : List V} {ds : List D}, RpAll K G vs ds → ∀ n : Nat, RpAll K G (List.replicate n vs).flatten (List.replicate n ds).flatten := fun {vs ds} h n => by
  induction n with
  | zero => exact .nil
  | succ n ih =>
    rw [List.replicate_succ, List.replicate_succ, List.flatten_cons, List.flatten_cons]
    exact h.append ih
theorem rpAll_ints : ∀ (ns : List Int), RpAll K G (ns.map V.int) (ns.map PyData.int)
  | [] => .nil
  | n :: r => .cons (.int n) (rpAll_ints r)
/-- data of ints are values that are ints -/
theorem RpAll.ints : ∀ {ns : List Int} {vs : List V}, RpAll K G vs (ns.map PyData.int) → vs = ns.map V.int
  | [], _, .nil => rfl
  | n :: r, _, .cons h t => by
    cases h
    rw [RpAll.ints (ns := r) t]
    rfl
theorem RpAll.bools : ∀ {ns : List Bool} {vs : List V}, RpAll K G vs (ns.map PyData.bool) → vs = ns.map V.bl
  | [], _, .nil => rfl
  | n :: r, _, .cons h t => by
    cases h
    rw [RpAll.bools (ns := r) t]
    rfl
/-! ### steps: what stood stands; what is shut away stays so, and only what is new is shut away -/
structure Step (H G H' G' : Hp) : Prop where
  same : Same H H'
  gg : Same G G'
  gh : Same G' H'
  old : ∀ a, H a ≠ none → G' a = G a
theorem Step.refl (h : Same G H) : Step H G H G := ⟨Same.refl _, Same.refl _, h, fun _ _ => rfl⟩
theorem some_ne {a : Addr} {o : HO} (h : H a = some o) : H a ≠ none := fun z => by rw [h] at z; cases z
theorem ne_some {a : Addr} (h : H a ≠ none) : ∃ o, H a = some o := by
  cases e : H a with
  | none => exact absurd e h
  | some o => exact ⟨o, rfl⟩
theorem Step.trans {H1 G1 H2 G2 : Hp} (a : Step H G H1 G1) (b : Step H1 G1 H2 G2) : Step H G H2 G2 :=
  ⟨a.same.trans b.same, a.gg.trans b.gg, b.gh, fun c h => by
    obtain ⟨o, e⟩ := ne_some h
    rw [b.old c (some_ne (a.same c o e)), a.old c h]⟩
theorem same_new {p : Addr} {o : HO} (h : H p = none) : Same H (upd H p o) := fun b x e => by
  rw [upd_ne (ne_of_none e h)]
  exact e
/-- a new thing, shut away at once -/
theorem Step.new {p : Addr} {o : HO} (h : Same G H) (hp : H p = none) : Step H G (upd H p o) (upd G p o) where
  same := same_new hp
  gg := same_new (h.free hp)
  gh := fun b x e => by
    by_cases hb : b = p
    · subst hb
      rw [upd_same] at e ⊢
      exact e
    · rw [upd_ne hb] at e ⊢
      exact h b x e
  old := fun a ha => upd_ne fun e => ha (by rw [e]; exact hp)
/-- a new thing, not shut away -/
theorem Step.new' {p : Addr} {o : HO} (h : Same G H) (hp : H p = none) : Step H G (upd H p o) G :=
  ⟨same_new hp, Same.refl _, h.trans (same_new hp), fun _ _ => rfl⟩
/-- what is new since H may be shut away -/
theorem Step.shut {p : Addr} {o : HO} (s : Step H G H' G') (hp : H p = none) (hn : G' p = none) (ho : H' p = some o) : Step H G H' (upd G' p o) where
  same := s.same
  gg := s.gg.trans (same_new hn)
  gh := fun b x e => by
    by_cases hb : b = p
    · subst hb
      rw [upd_same] at e
      rw [← e]
      exact ho
    · rw [upd_ne hb] at e
      exact s.gh b x e
  old := fun a ha => by
    rw [upd_ne fun e => ha (by rw [e]; exact hp)]
    exact s.old a ha
/-! ### a frame: slots hold data, or a list that is the frame's own -/
inductive SV where
  | val (d : D)
  | own (xs : List D)
  | dic (kvs : List (D × D))
abbrev Env := List (Option SV)
def SlotOk (K : PySem.W.Frag) (H0 H G : Hp) : SV → V → Prop
  | .val d, v => Rp K G v d
  | .own xs, v => ∃ a vs, v = .ref a ∧ H a = some (.lst vs) ∧ RpAll K G vs xs ∧ G a = none ∧ H0 a = none
  | .dic kvs, v => ∃ a ep xs, v = .ref a ∧ H a = some (DN.DK a ep xs) ∧ RpKV K G xs kvs ∧ G a = none ∧ H0 a = none
structure EnvOk (K : PySem.W.Frag) (H0 G0 H G : Hp) (σ : St) (ρ : Env) : Prop where
  len : σ.length = ρ.length
  st : Step H0 G0 H G
  sl : ∀ (i : Nat) sv, ρ[i]? = some (some sv) → ∃ v, σ[i]? = some (some v) ∧ SlotOk K H0 H G sv v
  sep : ∀ (i j : Nat) xs ys, i ≠ j → ρ[i]? = some (some (.own xs)) → ρ[j]? = some (some (.own ys)) → σ[i]? ≠ σ[j]?
  sepD : ∀ (i j : Nat) xs ys, i ≠ j → ρ[i]? = some (some (.dic xs)) → ρ[j]? = some (some (.dic ys)) → σ[i]? ≠ σ[j]?
theorem EnvOk.gh {σ : St} {ρ : Env} (e : EnvOk K H0 G0 H G σ ρ) : Same G H := e.st.gh
theorem EnvOk.step {σ : St} {ρ : Env} (e : EnvOk K H0 G0 H G σ ρ) (s : Step H G H' G') : EnvOk K H0 G0 H' G' σ ρ where
  len := e.len
  st := e.st.trans s
  sl := fun i sv h => by
    obtain ⟨v, h1, h2⟩ := e.sl i sv h
    refine ⟨v, h1, ?_⟩
    cases sv with
    | val d => exact Rp.mono s.gg h2
    | own xs =>
      obtain ⟨a, vs, e1, e2, e3, e4, e5⟩ := h2
      refine ⟨a, vs, e1, s.same _ _ e2, e3.mono s.gg, ?_, e5⟩
      rw [s.old a (some_ne e2)]
      exact e4
    | dic kvs =>
      obtain ⟨a, ep, xs, e1, e2, e3, e4, e5⟩ := h2
      refine ⟨a, ep, xs, e1, s.same _ _ e2, e3.mono s.gg, ?_, e5⟩
      rw [s.old a (some_ne e2)]
      exact e4
  sep := e.sep
  sepD := e.sepD
/-! ### what an expression gives: shut away (fz), to be looked at (bw: maybe a list of the frame's own), new (ow: a list is new and nobody else's) -/
inductive Md where
  | fz | bw | ow
def OwnV (K : PySem.W.Frag) (H G : Hp) (v : V) (xs : List D) : Prop := ∃ a vs, v = .ref a ∧ H a = some (.lst vs) ∧ RpAll K G vs xs
def Rb (K : PySem.W.Frag) (H G : Hp) (v : V) (d : D) : Prop := Rp K G v d ∨ ∃ xs, d = .list xs ∧ OwnV K H G v xs
def Res (K : PySem.W.Frag) (H H' G' : Hp) (v : V) (d : D) : Md → Prop
  | .fz => Rp K G' v d
  | .bw => Rb K H' G' v d
  | .ow => match d with
    | .list xs => ∃ a vs, v = .ref a ∧ H a = none ∧ H' a = some (.lst vs) ∧ G' a = none ∧ RpAll K G' vs xs
    | _ => Rp K G' v d
abbrev Den := Env → Option D
def tE (K : PySem.W.Frag) (m : Md) (f : Den) : TE := fun σ H Q => ∃ H0 G0 G ρ d, EnvOk K H0 G0 H G σ ρ ∧ f ρ = some d ∧ ∀ v H' G', Step H G H' G' → Res K H H' G' v d m → Q v H'
def tT (K : PySem.W.Frag) (f : Env → Option Bool) : TT := fun σ H Q => ∃ H0 G0 G ρ b, EnvOk K H0 G0 H G σ ρ ∧ f ρ = some b ∧ ∀ H' G', Step H G H' G' → Q b H'
def tA (K : PySem.W.Frag) (f : Env → Option (List D)) : TA := fun σ H Q => ∃ H0 G0 G ρ ds, EnvOk K H0 G0 H G σ ρ ∧ f ρ = some ds ∧ ∀ vs H' G', Step H G H' G' → RpAll K G' vs ds → Q vs H'
def tAb (K : PySem.W.Frag) (f : Env → Option (List D)) : TA := fun σ H Q => ∃ H0 G0 G ρ ds, EnvOk K H0 G0 H G σ ρ ∧ f ρ = some ds ∧ ∀ vs H' G', Step H G H' G' → Paired (Rb K H' G') vs ds → Q vs H'
inductive Out where
  | next (ρ : Env) | ret (d : D) | brk (ρ : Env) | cont (ρ : Env) | reto (d : D)
abbrev DenS := Env → Option Out
def Goes (K : PySem.W.Frag) (H0 G0 B : Hp) (Dn : Ends) : Out → Prop
  | .next ρ' => ∀ σ' H' G', Same B G' → EnvOk K H0 G0 H' G' σ' ρ' → Dn.nx σ' H'
  | .brk ρ' => ∀ σ' H' G', Same B G' → EnvOk K H0 G0 H' G' σ' ρ' → Dn.bk σ' H'
  | .cont ρ' => ∀ σ' H' G', Same B G' → EnvOk K H0 G0 H' G' σ' ρ' → Dn.ct σ' H'
  | .ret d => ∀ v H' G', Step H0 G0 H' G' → Rp K G' v d → Dn.rt v H'
  | .reto d => ∀ v H' G', Step H0 G0 H' G' → Res K H0 H' G' v d .ow → Dn.rt v H'
theorem Goes.mono {K : PySem.W.Frag} {H0 G0 B B' : Hp} {Dn : Ends} (g : Same B B') : ∀ {out : Out}, Goes K H0 G0 B Dn out → Goes K H0 G0 B' Dn out
  | .next _, h => fun σ' H' G' s e => h σ' H' G' (g.trans s) e
  | .brk _, h => fun σ' H' G' s e => h σ' H' G' (g.trans s) e
  | .cont _, h => fun σ' H' G' s e => h σ' H' G' (g.trans s) e
  | .ret _, h => h
  | .reto _, h => h
def tS (K : PySem.W.Frag) (F : DenS) : TS := fun Dn σ H => ∃ H0 G0 G ρ out, EnvOk K H0 G0 H G σ ρ ∧ F ρ = some out ∧ Goes K H0 G0 G Dn out
def tG (K : PySem.W.Frag) (b : D → Env → Option Env) : TG := fun v σ H Q => ∃ H0 G0 G ρ d ρ', EnvOk K H0 G0 H G σ ρ ∧ Rp K G v d ∧ b d ρ = some ρ' ∧ ∀ σ', EnvOk K H0 G0 H G σ' ρ' → Q σ' H
end
/-! ### weaker readings -/
section
variable {X : Cx}
theorem peW {e : Expr} {t t' : TE} (h : PE X e t) (w : ∀ σ H Q, t' σ H Q → t σ H Q) : PE X e t' := ⟨fun pins s σ H Q I q => h.run pins s σ H Q I (w σ H Q q)⟩
theorem ptW {e : Expr} {t t' : TT} (h : PT X e t) (w : ∀ σ H Q, t' σ H Q → t σ H Q) : PT X e t' := ⟨fun pins s σ H Q I q => h.run pins s σ H Q I (w σ H Q q)⟩
theorem pwW {e : Expr} {t t' : TT} (h : PW X e t) (w : ∀ σ H Q, t' σ H Q → t σ H Q) : PW X e t' := ⟨fun wh pins s σ H Q I q => h.run wh pins s σ H Q I (w σ H Q q)⟩
theorem paW {e : List Expr} {t t' : TA} (h : PA X e t) (w : ∀ σ H Q, t' σ H Q → t σ H Q) : PA X e t' := ⟨fun p pins s σ H Q I q => h.run p pins s σ H Q I (w σ H Q q)⟩
theorem psW {e : Stmt} {t t' : TS} (h : PS X e t) (w : ∀ D σ H, t' D σ H → t D σ H) : PS X e t' := ⟨fun pins s σ H D I q => h.run pins s σ H D I (w D σ H q)⟩
theorem pssW {e : List Stmt} {t t' : TS} (h : PSs X e t) (w : ∀ D σ H, t' D σ H → t D σ H) : PSs X e t' := ⟨fun pins s σ H D I q => h.run pins s σ H D I (w D σ H q)⟩
theorem pgW {e : Expr} {t t' : TG} (h : PG X e t) (w : ∀ v σ H Q, t' v σ H Q → t v σ H Q) : PG X e t' := ⟨fun pins s σ H v u Q I r q => h.run pins s σ H v u Q I r (w v σ H Q q)⟩
end
end PF
namespace PF
open PySem PySem.Spec PyProof.Rows L2
/-! ### dicts as data -/
section
variable {K : PySem.W.Frag} {G H : Hp}
mutual
theorem key_is : ∀ {v : V} {d : D} {k : NestedKey}, Rp K G v d → keyD d = some k → DN.KeyIs G v k
  | _, _, _, .non, h => by cases h; exact .non
  | _, _, _, .bl _, h => by simp [keyD] at h
  | _, _, _, .int i, h => by cases h; exact .int i
  | _, _, _, .str _, h => by simp [keyD] at h
  | _, _, _, .lst _ _, h => by simp [keyD] at h
  | _, _, _, .tup e r, h => by
    rw [keyD] at h
    obtain ⟨ks, h1, h2⟩ := Option.map_eq_some_iff.mp h
    subst h2
    exact .tup e.rd (keys_is r h1)
  | _, _, _, .scr _, h => by simp [keyD] at h
  | _, _, _, .dic _ _, h => by simp [keyD] at h
theorem keys_is : ∀ {vs : List V} {ds : List D} {ks : List NestedKey}, RpAll K G vs ds → keysD ds = some ks → DN.KeyAll G vs ks
  | _, _, _, .nil, h => by rw [keysD] at h; cases h; exact .nil
  | _, _, _, .cons a b, h => by
    rw [keysD] at h
    obtain ⟨k, h1, h⟩ := Option.bind_eq_some_iff.mp h
    obtain ⟨ks, h2, h3⟩ := Option.map_eq_some_iff.mp h
    subst h3
    exact .cons (key_is a h1) (keys_is b h2)
end
theorem keyT_tup {d : D} {k : NestedKey} (h : keyT d = some k) : (∃ ds, d = .tuple ds) ∧ keyD d = some k ∧ k.depth ≤ 8 := by
  unfold keyT at h
  split at h
  · obtain ⟨k', h1, h⟩ := Option.bind_eq_some_iff.mp h
    split at h
    · cases h; exact ⟨⟨_, rfl⟩, h1, by assumption⟩
    · cases h
  · cases h
theorem key_ok {d : D} {k : NestedKey} {b : Addr} (r : Rp K G (.ref b) d) (h : keyT d = some k) (gh : Same G H) : DN.KeyOk H k b :=
  let ⟨_, h1, h2⟩ := keyT_tup h
  ⟨(key_is r h1).mono fun a xs e => rdM gh e, h2⟩
theorem kv_keys : ∀ {xs : List DN.Ent} {kvs : List (D × D)}, RpKV K G xs kvs → Same G H → DN.KeysOk H xs
  | _, _, .nil, _ => fun x hx => by cases hx
  | _, _, .cons h a _ c, gh => fun x hx => by
    rcases List.mem_cons.mp hx with rfl | hx
    · exact key_ok a h gh
    · exact kv_keys c gh x hx
theorem kv_len : ∀ {xs : List DN.Ent} {kvs : List (D × D)}, RpKV K G xs kvs → xs.length = kvs.length
  | _, _, .nil => rfl
  | _, _, .cons _ _ _ c => by rw [List.length_cons, List.length_cons, kv_len c]
theorem kv_get : ∀ {xs : List DN.Ent} {kvs : List (D × D)}, RpKV K G xs kvs → ∀ {i : Nat} {p : D × D}, kvs[i]? = some p → ∃ x, xs[i]? = some x ∧ keyT p.1 = some x.1 ∧ Rp K G (.ref x.2.1) p.1 ∧ Rp K G x.2.2 p.2
  | _, _, .nil, i, p, h => by simp at h
  | _, _, .cons h a b c, 0, p, e => by simp at e; subst e; exact ⟨_, rfl, h, a, b⟩
  | _, _, .cons _ _ _ c, i + 1, p, e => by
    obtain ⟨x, h1, h2⟩ := kv_get c (i := i) (by simpa using e)
    exact ⟨x, by simpa using h1, h2⟩
end
def isKy (k : NestedKey) (p : D × D) : Bool := decide (keyT p.1 = some k)
def getKV (kvs : List (D × D)) (k : NestedKey) : Option D := (kvs.find? (isKy k)).map (·.2)
def putKV (kvs : List (D × D)) (k : NestedKey) (d v : D) : List (D × D) := if (getKV kvs k).isSome then kvs.map fun p => if isKy k p = true then (p.1, v) else p else kvs ++ [(d, v)]
def dropKV (kvs : List (D × D)) (k : NestedKey) : List (D × D) := kvs.filter fun p => !isKy k p
section
variable {K : PySem.W.Frag} {G H : Hp} {k : NestedKey}
theorem isKy_iff {p : D × D} {k' : NestedKey} (h : keyT p.1 = some k') : isKy k p = decide (k' = k) := by
  unfold isKy
  rw [h]
  exact decide_eq_decide.mpr ⟨fun e => Option.some.inj e, fun e => by rw [e]⟩
theorem kv_at : ∀ {xs : List DN.Ent} {kvs : List (D × D)}, RpKV K G xs kvs → (DN.atN xs k = none ∧ getKV kvs k = none) ∨ ∃ b v d, DN.atN xs k = some (b, v) ∧ getKV kvs k = some d ∧ Rp K G v d
  | _, _, .nil => .inl ⟨rfl, rfl⟩
  | _, _, .cons (k := k') (b := b) (v := v) (d := d) (e := e) h ra rb c => by
    have ih := kv_at c
    have e1 := isKy_iff (k := k) (p := (d, e)) h
    unfold DN.atN getKV at ih ⊢
    by_cases hk : k' = k
    · refine .inr ⟨b, v, e, ?_, ?_, rb⟩
      · rw [List.find?_cons_of_pos (by simpa using hk)]; rfl
      · rw [List.find?_cons_of_pos (by rw [e1]; simpa using hk)]; rfl
    · rw [List.find?_cons_of_neg (by simpa using hk), List.find?_cons_of_neg (by rw [e1]; simpa using hk)]
      exact ih
theorem kv_some {xs : List DN.Ent} {kvs : List (D × D)} (r : RpKV K G xs kvs) : (DN.atN xs k).isSome = (getKV kvs k).isSome := by
  rcases kv_at (k := k) r with ⟨h1, h2⟩ | ⟨b, v, d, h1, h2, _⟩ <;> rw [h1, h2] <;> rfl
theorem kv_put {v : V} {e : D} (rv : Rp K G v e) : ∀ {xs : List DN.Ent} {kvs : List (D × D)}, RpKV K G xs kvs → RpKV K G (xs.map (DN.putN k v)) (kvs.map fun p => if isKy k p = true then (p.1, e) else p)
  | _, _, .nil => .nil
  | _, _, .cons (k := k') (b := b) (v := v') (d := d) (e := e') h ra rb c => by
    have ih := kv_put rv c
    have e1 := isKy_iff (k := k) (p := (d, e')) h
    rw [List.map_cons, List.map_cons]
    unfold DN.putN
    by_cases hk : k' = k
    · rw [if_pos hk, if_pos (by rw [e1]; simpa using hk)]; exact .cons h ra rv ih
    · rw [if_neg hk, if_neg (by rw [e1]; simpa using hk)]; exact .cons h ra rb ih
theorem kv_app {b : Addr} {v : V} {d e : D} (h : keyT d = some k) (rb : Rp K G (.ref b) d) (rv : Rp K G v e) : ∀ {xs : List DN.Ent} {kvs : List (D × D)}, RpKV K G xs kvs → RpKV K G (xs ++ [(k, b, v)]) (kvs ++ [(d, e)])
  | _, _, .nil => .cons h rb rv .nil
  | _, _, .cons h' ra rb' c => .cons h' ra rb' (kv_app h rb rv c)
theorem kv_stored {xs : List DN.Ent} {kvs : List (D × D)} {b : Addr} {v : V} {d e : D} (r : RpKV K G xs kvs) (h : keyT d = some k) (rb : Rp K G (.ref b) d) (rv : Rp K G v e) : RpKV K G (DN.storedN xs k b v) (putKV kvs k d e) := by
  unfold DN.storedN putKV
  rw [kv_some r]
  split
  · exact kv_put rv r
  · exact kv_app h rb rv r
theorem kv_drop : ∀ {xs : List DN.Ent} {kvs : List (D × D)}, RpKV K G xs kvs → RpKV K G (DN.withoutN xs k) (dropKV kvs k)
  | _, _, .nil => .nil
  | _, _, .cons (k := k') (b := b) (v := v') (d := d) (e := e') h ra rb c => by
    have ih := kv_drop c
    have e1 := isKy_iff (k := k) (p := (d, e')) h
    unfold DN.withoutN dropKV at ih ⊢
    by_cases hk : k' = k
    · rw [List.filter_cons_of_neg (by simpa using hk), List.filter_cons_of_neg (by rw [e1]; simpa using hk)]; exact ih
    · rw [List.filter_cons_of_pos (by simpa using hk), List.filter_cons_of_pos (by rw [e1]; simpa using hk)]; exact .cons h ra rb ih
end
/-! by values -/
section
variable {X : Cx}
def rInN (n : Bool) : R2 := fun x y H Q => DN.AtD H y x fun a ep xs k b => Q (.bl (if n = true then !(DN.atN xs k).isSome else (DN.atN xs k).isSome)) H
theorem op_inN (hu : X.A.units + 65 < cLine) : OpR X (compareOp .In) (rInN false) := by
  intro pins s σ H x y v u Q I rx ry h
  obtain ⟨a, ep, xs, k, b, ey, ex, g, ks, hk, q⟩ := h
  subst ex ey
  cases rx
  cases ry
  exact DN.n_in (by omega) I g ks hk fun s' I' => ⟨.bl (DN.atN xs k).isSome, H, I', rfl, q⟩
theorem op_notInN (hu : X.A.units + 65 < cLine) : OpR X (compareOp .NotIn) (rInN true) := by
  intro pins s σ H x y v u Q I rx ry h
  obtain ⟨a, ep, xs, k, b, ey, ex, g, ks, hk, q⟩ := h
  subst ex ey
  cases rx
  cases ry
  exact DN.n_notIn (by omega) I g ks hk fun s' I' => ⟨.bl (!(DN.atN xs k).isSome), H, I', rfl, q⟩
def rIxN : R2 := fun x y H Q => DN.AtD H x y fun a ep xs k b => ∃ v, (DN.atN xs k).map (·.2) = some v ∧ Q v H
theorem ix_n (hu : X.A.units + 65 < cLine) : IxR X rIxN := by
  intro value slice pins s σ H x y v u Q I rx ry h hs
  obtain ⟨a, ep, xs, k, b, ex, ey, g, ks, hk, z, l, q⟩ := h
  subst ex ey
  cases rx
  cases ry
  exact tail_any (ops := [.ref a, .ref b]) (DN.n_typeIs I g) PySem.F.slot_dict_getitem.lookup (DN.n_getItem (by omega) I g ks hk l fun w' s' I' rw' => ⟨z, H, I', rw', q⟩) hs
/-- what a dict and a key are, as data: the facts of the heap -/
theorem atD_of {K : PySem.W.Frag} {H G : Hp} {x y : V} {kvs : List (D × D)} {dk : D} {k : NestedKey} {F : Addr → Nat → List DN.Ent → NestedKey → Addr → Prop} (gh : Same G H) (rx : Rp K G x (dicD kvs)) (ry : Rp K G y dk) (hk : keyT dk = some k)
    (h : ∀ a ep xs b, RpKV K G xs kvs → F a ep xs k b) : DN.AtD H x y F := by
  obtain ⟨⟨ds, rfl⟩, _, _⟩ := keyT_tup hk
  generalize hd : dicD kvs = d at rx
  cases rx with
  | dic e r =>
    injection hd with hd
    injection hd with _ hd
    subst hd
    cases ry with
    | tup e2 r2 => exact ⟨_, _, _, k, _, rfl, rfl, gh _ _ e, kv_keys r gh, key_ok (.tup e2 r2) hk gh, h _ _ _ _ r⟩
  | _ => cases hd
end
end PF
/-! dicts with tuple keys: len(d), list(d) -/
namespace DN
open PySem PySem.Spec PyProof.Rows L2
theorem vals_ents : ∀ xs : List Ent, Vals (xs.map fun x => V.ref x.2.1) (xs.map fun x => Value.ref x.2.1)
  | [] => .nil
  | _ :: r => .cons rfl (vals_ents r)
section
variable {X : Cx}
def rLenN : List V → Hp → VK → Prop := fun vs H Q => ∃ a ep xs, vs = [.ref a] ∧ H a = some (DK a ep xs) ∧ KeysOk H xs ∧ Q (.int ((xs.length : Nat) : Int)) H
theorem call_lenN : CallR X (.builtin "len") rLenN := by
  intro pins s σ H vs us Q I r h
  obtain ⟨a, ep, xs, rfl, ha, hk, q⟩ := h
  obtain ⟨u, rfl, rx⟩ := vals1 r
  obtain rfl : u = .ref a := rx
  obtain ⟨z, hd, ys, rel, dd, _⟩ := dn_of I.hok ha hk
  have hl : xs.length = ys.length := Paired.length rel
  refine call_len_dictH hd dd (by rw [← hl]; rw [sizeLine_eq] at z; omega) ?_
  rw [← hl]
  exact ⟨.int ((xs.length : Nat) : Int), H, I.tok _, ⟨_, rfl⟩, q⟩
def rListN : List V → Hp → VK → Prop := fun vs H Q => ∃ a ep xs, vs = [.ref a] ∧ H a = some (DK a ep xs) ∧ ∀ l, H l = none → Q (.ref l) (upd H l (.lst (xs.map fun x => V.ref x.2.1)))
theorem call_listN (hc : X.calm = true) : CallR X (.type "list") rListN := by
  intro pins s σ H vs us Q I r h
  obtain ⟨a, ep, xs, rfl, ha, q⟩ := h
  obtain ⟨u, rfl, rx⟩ := vals1 r
  obtain rfl : u = .ref a := rx
  obtain ⟨hs, z, nd, o, es, ho, hx, hdt, he⟩ := DK.at I.hok ha
  have l1 : es.size = xs.length := by rw [← Array.length_toList]; exact (Paired.length he).symm
  refine PySem.W.kdl_call (kdl_raw hs hx hdt) (I.ok.hd hc) ho (by omega) fun h' tk acc' c' kp e it => ?_
  have ea : acc'.toList = xs.map fun x => Value.ref x.2.1 := by
    have hl : acc'.toList.length = xs.length := by rw [Array.length_toList, it.1]; exact l1
    refine List.ext_getElem (by rw [hl, List.length_map]) fun j h1 h2 => ?_
    have hj : j < xs.length := by omega
    obtain ⟨en, hen, hv⟩ := it.2 j acc'.toList[j] (by rw [← Array.getElem?_toList]; exact List.getElem?_eq_getElem h1)
    obtain ⟨en', g1, g2⟩ := ent_get he (List.getElem?_eq_getElem hj)
    rw [Array.getElem?_toList, hen] at g1
    cases g1
    rw [hv, g2.2.1, List.getElem_map]
  have rv : Vals (xs.map fun x => V.ref x.2.1) acc'.toList := by
    rw [ea]
    exact vals_ents xs
  refine ⟨.ref s.heap.objs.size, _, I.laid (t' := tk) (o := .lst (xs.map fun x => V.ref x.2.1)) kp (Nat.le_refl _) ?_, rfl, q _ (I.hok.fresh (Nat.le_refl _))⟩
  exact ⟨by rw [List.length_map]; exact z, acc'.toList, c', rv, by rw [Array.toArray_toList]; exact e⟩
end
end DN
namespace PF
open PySem PySem.Spec PyProof.Rows L2
section
variable {K : PySem.W.Frag} {G G' H H' H0 G0 : Hp}
theorem Rb.step {v : V} {d : D} (r : Rb K H G v d) (s : Step H G H' G') : Rb K H' G' v d := by
  rcases r with r | ⟨xs, rfl, a, vs, rfl, h, r⟩
  · exact .inl (r.mono s.gg)
  · exact .inr ⟨xs, rfl, a, vs, rfl, s.same _ _ h, r.mono s.gg⟩
theorem Rb.dp {v : V} {d : D} (hc : SeqAt.shaped d = true) (gh : Same G H) (r : Rb K H G v d) : Dp K H v d := by
  have hl : d.canLay0 = true := SeqAt.canLay_of_shaped hc
  rcases r with r | ⟨xs, rfl, a, vs, rfl, h, r⟩
  · exact (r.mono gh).dp hl
  · exact .lst (SqL.of h) ((r.mono gh).dp (by simpa [PyData.canLay0] using hl))
theorem Rb.int {v : V} {i : Int} (r : Rb K H G v (.int i)) : v = .int i := by
  rcases r with r | ⟨xs, e, _⟩
  · cases r; rfl
  · cases e
theorem Rb.bool {v : V} {i : Bool} (r : Rb K H G v (.bool i)) : v = .bl i := by
  rcases r with r | ⟨xs, e, _⟩
  · cases r; rfl
  · cases e
theorem Rb.str {v : V} {i : Str} (r : Rb K H G v (.str i)) : v = .str i := by
  rcases r with r | ⟨xs, e, _⟩
  · cases r; rfl
  · cases e
theorem Rb.none {v : V} (r : Rb K H G v .none) : v = .non := by
  rcases r with r | ⟨xs, e, _⟩
  · cases r; rfl
  · cases e
theorem Rb.tup {v : V} {ds : List D} (r : Rb K H G v (.tuple ds)) : ∃ a vs, v = .ref a ∧ TupG G a vs ∧ RpAll K G vs ds := by
  rcases r with r | ⟨xs, e, _⟩
  · cases r with
    | tup h q => exact ⟨_, _, rfl, h, q⟩
  · cases e
theorem Rb.lst {v : V} {ds : List D} (gh : Same G H) (r : Rb K H G v (.list ds)) : ∃ a vs, v = .ref a ∧ Rd H a (.lst vs) ∧ RpAll K G vs ds := by
  rcases r with r | ⟨xs, e, a, vs, rfl, h, q⟩
  · cases r with
    | lst h q => exact ⟨_, _, rfl, rdM gh h, q⟩
  · cases e
    exact ⟨a, vs, rfl, .inl h, q⟩
theorem Res.back {v : V} {d : D} {m : Md} {H2 G2 : Hp} (s : Step H G H2 G2) (r : Res K H2 H' G' v d m) : Res K H H' G' v d m := by
  cases m with
  | fz => exact r
  | bw => exact r
  | ow =>
    cases d with
    | list xs =>
      obtain ⟨a, vs, e, n, h, g, q⟩ := r
      exact ⟨a, vs, e, s.same.free n, h, g, q⟩
    | _ => exact r
theorem ow_int (i : Int) : Res K H H' G' (.int i) (.int i) .ow := Rp.int i
theorem ow_bool (i : Bool) : Res K H H' G' (.bl i) (.bool i) .ow := Rp.bl i
theorem ow_str (i : Str) : Res K H H' G' (.str i) (.str i) .ow := Rp.str i
/-- a new list -/
theorem ow_new {p : Addr} {vs : List V} {ds : List D} (gh : Same G H) (hp : H p = .none) (r : RpAll K G vs ds) : Step H G (upd H p (.lst vs)) G ∧ Res K H (upd H p (.lst vs)) G (.ref p) (.list ds) .ow :=
  ⟨Step.new' gh hp, p, vs, rfl, hp, upd_same, gh.free hp, r⟩
/-- a new tuple -/
theorem tup_new {p : Addr} {o : Obj} {vs : List V} {ds : List D} (gh : Same G H) (hp : H p = .none) (ho : o.dict = .none) (r : RpAll K G vs ds) : Step H G (upd H p (.frz o (.tup vs))) (upd G p (.frz o (.tup vs))) ∧ Res K H (upd H p (.frz o (.tup vs))) (upd G p (.frz o (.tup vs))) (.ref p) (.tuple ds) .ow :=
  ⟨Step.new gh hp, Rp.tup ⟨o, upd_same, ho⟩ (r.mono (same_new (gh.free hp)))⟩
theorem rp_ow {v : V} {d : D} (r : Rp K G' v d) (h : ∀ xs, d ≠ .list xs) : Res K H H' G' v d .ow := by
  cases d with
  | list xs => exact absurd rfl (h xs)
  | _ => exact r
end
section
variable {X : Cx}
/-- a new list may be shut away -/
theorem fz_ow {e : Expr} {f : Den} (h : PE X e (tE X.K .ow f)) : PE X e (tE X.K .fz f) := peW h fun σ H Q ⟨H0, G0, G, ρ, d, ok, hf, q⟩ => by
  refine ⟨H0, G0, G, ρ, d, ok, hf, fun v H' G' s r => ?_⟩
  cases d with
  | list xs =>
    obtain ⟨a, vs, rfl, n, hv, g, rr⟩ := r
    exact q _ _ _ (s.shut n g hv) (Rp.lst (.inl upd_same) (rr.mono (same_new g)))
  | _ => exact q _ _ _ s r
theorem bw_fz {e : Expr} {f : Den} (h : PE X e (tE X.K .fz f)) : PE X e (tE X.K .bw f) := peW h fun σ H Q ⟨H0, G0, G, ρ, d, ok, hf, q⟩ => ⟨H0, G0, G, ρ, d, ok, hf, fun v H' G' s r => q v H' G' s (.inl r)⟩
theorem bw_ow {e : Expr} {f : Den} (h : PE X e (tE X.K .ow f)) : PE X e (tE X.K .bw f) := bw_fz (fz_ow h)
/-- what is no list is new as it lies -/
theorem peM {e : Expr} {f g : Den} {m : Md} (h : PE X e (tE X.K m f)) (w : ∀ ρ d, g ρ = some d → f ρ = some d) : PE X e (tE X.K m g) := peW h fun σ H Q ⟨H0, G0, G, ρ, d, ok, hf, q⟩ => ⟨H0, G0, G, ρ, d, ok, w ρ d hf, q⟩
/-! ### names, constants -/
def dVar (i : Nat) : Den := fun ρ => match ρ[i]? with | some (some (.val d)) => some d | _ => none
def dVarB (i : Nat) : Den := fun ρ => match ρ[i]? with | some (some (.val d)) => some d | some (some (.own xs)) => some (.list xs) | _ => none
def dC (d : D) : Den := fun _ => some d
theorem dVar_eq {i : Nat} {ρ : Env} {d : D} (h : dVar i ρ = some d) : ρ[i]? = some (some (.val d)) := by
  unfold dVar at h
  split at h
  · cases h; assumption
  · cases h
theorem e_var {i : Nat} {x : Str} {pos : Pos} (hN : X.N[i]? = some x) (hv : Vis X.env.scope x) (hd : (x == ("__debug__" : Str)) = false) (hcd : (x == ("__classdict__" : Str)) = false) : PE X (.Name x pos) (tE X.K .fz (dVar i)) :=
  peW (pe_var hN hv hd hcd) fun σ H Q ⟨H0, G0, G, ρ, d, ok, hf, q⟩ => by
    obtain ⟨v, h1, h2⟩ := ok.sl i _ (dVar_eq hf)
    exact ⟨v, h1, q v H G (Step.refl ok.gh) h2⟩
theorem e_varB {i : Nat} {x : Str} {pos : Pos} (hN : X.N[i]? = some x) (hv : Vis X.env.scope x) (hd : (x == ("__debug__" : Str)) = false) (hcd : (x == ("__classdict__" : Str)) = false) : PE X (.Name x pos) (tE X.K .bw (dVarB i)) :=
  peW (pe_var hN hv hd hcd) fun σ H Q ⟨H0, G0, G, ρ, d, ok, hf, q⟩ => by
    unfold dVarB at hf
    split at hf
    · rename_i d' e
      cases hf
      obtain ⟨v, h1, h2⟩ := ok.sl i _ e
      exact ⟨v, h1, q v H G (Step.refl ok.gh) (.inl h2)⟩
    · rename_i xs e
      cases hf
      obtain ⟨v, h1, a, vs, h2, h3, h4, h5, h6⟩ := ok.sl i _ e
      exact ⟨v, h1, q v H G (Step.refl ok.gh) (.inr ⟨xs, rfl, a, vs, h2, h3, h4⟩)⟩
    · cases hf
theorem e_const {e : Expr} {v : V} {d : D} (h : PE X e (tC v)) (r : ∀ G, Rp X.K G v d) (hd : ∀ xs, d ≠ .list xs) : PE X e (tE X.K .ow (dC d)) := peW h fun σ H Q ⟨H0, G0, G, ρ, d', ok, hf, q⟩ => by
  cases hf
  exact q v H G (Step.refl ok.gh) (rp_ow (r G) hd)
theorem e_int {i : Int} {j : Nat} {pos : Pos} : PE X (.Constant (.int i) j pos) (tE X.K .ow (dC (.int i))) := e_const pe_int (fun _ => .int i) (fun _ z => nomatch z)
theorem e_bool {i : Bool} {j : Nat} {pos : Pos} : PE X (.Constant (.bool i) j pos) (tE X.K .ow (dC (.bool i))) := e_const pe_bl (fun _ => .bl i) (fun _ z => nomatch z)
theorem e_none {j : Nat} {pos : Pos} : PE X (.Constant .none j pos) (tE X.K .ow (dC .none)) := e_const pe_non (fun _ => .non) (fun _ z => nomatch z)
theorem e_str {x : Str} {j : Nat} {pos : Pos} : PE X (.Constant (.str x) j pos) (tE X.K .ow (dC (.str x))) := e_const pe_str (fun _ => .str x) (fun _ z => nomatch z)
/-! ### two operands -/
def d2 (g : D → D → Option D) (f f' : Den) : Den := fun ρ => (f ρ).bind fun x => (f' ρ).bind fun y => g x y
def Op2 (K : PySem.W.Frag) (r : R2) (g : D → D → Option D) (m : Md) : Prop := ∀ (H G : Hp) (x y : V) (dx dy d : D) (Q : VK), Same G H → Rb K H G x dx → Rb K H G y dy → g dx dy = some d → (∀ v H' G', Step H G H' G' → Res K H H' G' v d m → Q v H') → r x y H Q
theorem d2_eq {g : D → D → Option D} {f f' : Den} {ρ : Env} {d : D} (h : d2 g f f' ρ = some d) : ∃ x y, f ρ = some x ∧ f' ρ = some y ∧ g x y = some d := by
  unfold d2 at h
  cases e : f ρ with
  | none => rw [e] at h; cases h
  | some x =>
    rw [e] at h
    cases e' : f' ρ with
    | none => rw [e'] at h; cases h
    | some y => rw [e'] at h; exact ⟨x, y, rfl, rfl, h⟩
theorem two {a b : Expr} {fa fb : Den} {g : D → D → Option D} {r : R2} {m : Md} (ho : Op2 X.K r g m) {σ : St} {H : Hp} {Q : VK} (h : tE X.K m (d2 g fa fb) σ H Q) : tOp r (tE X.K .bw fa) (tE X.K .bw fb) σ H Q := by
  obtain ⟨H0, G0, G, ρ, d, ok, hf, q⟩ := h
  obtain ⟨x, y, ha, hb, hg⟩ := d2_eq hf
  refine ⟨H0, G0, G, ρ, x, ok, ha, fun v H1 G1 s1 r1 => ?_⟩
  refine ⟨H0, G0, G1, ρ, y, ok.step s1, hb, fun u H2 G2 s2 r2 => ?_⟩
  exact ho H2 G2 v u x y d Q s2.gh (Rb.step r1 s2) r2 hg fun v' H' G' s r => q v' H' G' ((s1.trans s2).trans s) (Res.back (s1.trans s2) r)
theorem e_bin {a b : Expr} {fa fb : Den} {op : Operator} {g : D → D → Option D} {r : R2} {m : Md} {pos : Pos} (hop : OpR X (binaryOp op) r) (ho : Op2 X.K r g m) (ha : PE X a (tE X.K .bw fa)) (hb : PE X b (tE X.K .bw fb)) : PE X (.BinOp a op b pos) (tE X.K m (d2 g fa fb)) :=
  peW (pe_op hop ha hb) fun σ H Q h => two (a := a) (b := b) ho h
theorem e_cmp {a b : Expr} {fa fb : Den} {op : CmpOp} {g : D → D → Option D} {r : R2} {m : Md} {pos : Pos} (hop : OpR X (compareOp op) r) (ho : Op2 X.K r g m) (hm : behindInMarks op b = false) (ha : PE X a (tE X.K .bw fa)) (hb : PE X b (tE X.K .bw fb)) : PE X (.Compare a [op] [b] pos) (tE X.K m (d2 g fa fb)) :=
  peW (pe_cmpR hop ha hb hm) fun σ H Q h => two (a := a) (b := b) ho h
theorem Op2.or {K : PySem.W.Frag} {r r' : R2} {g g' : D → D → Option D} {m : Md} (h : Op2 K r g m) (h' : Op2 K r' g' m) (k : D → D → Option D) (hk : ∀ x y d, k x y = some d → g x y = some d ∨ g' x y = some d) : Op2 K (fun x y H Q => r x y H Q ∨ r' x y H Q) k m :=
  fun H G x y dx dy d Q gh rx ry e q => by
    rcases hk dx dy d e with e | e
    · exact .inl (h H G x y dx dy d Q gh rx ry e q)
    · exact .inr (h' H G x y dx dy d Q gh rx ry e q)
/-! ### arithmetic -/
def aInt2 (c : Int → Int → Bool) (g : Int → Int → Int) : D → D → Option D
  | .int i, .int j => if c i j = true then some (.int (g i j)) else none
  | _, _ => none
theorem aInt2_eq {c : Int → Int → Bool} {g : Int → Int → Int} {x y d : D} (h : aInt2 c g x y = some d) : ∃ i j, x = .int i ∧ y = .int j ∧ c i j = true ∧ d = .int (g i j) := by
  unfold aInt2 at h
  split at h
  · split at h
    · cases h; exact ⟨_, _, rfl, rfl, by assumption, rfl⟩
    · cases h
  · cases h
theorem op2_rI {K : PySem.W.Frag} {C : Int → Int → Prop} {c : Int → Int → Bool} {g : Int → Int → Int} (hc : ∀ i j, c i j = true → C i j) : Op2 K (rI C fun i j => .int (g i j)) (aInt2 c g) .ow := fun H G x y dx dy d Q gh rx ry e q => by
  obtain ⟨i, j, rfl, rfl, h, rfl⟩ := aInt2_eq e
  cases rx.int
  cases ry.int
  exact ⟨i, j, rfl, rfl, hc i j h, q _ H G (Step.refl gh) (ow_int _)⟩
theorem op2_rI0 {K : PySem.W.Frag} {g : Int → Int → Int} : Op2 K (rI0 fun i j => .int (g i j)) (aInt2 (fun _ _ => true) g) .ow := fun H G x y dx dy d Q gh rx ry e q => by
  obtain ⟨i, j, rfl, rfl, h, rfl⟩ := aInt2_eq e
  cases rx.int
  cases ry.int
  exact ⟨i, j, rfl, rfl, q _ H G (Step.refl gh) (ow_int _)⟩
def big64 (i : Int) : Bool := decide (-(2 ^ 64) < i) && decide (i < 2 ^ 64)
def cMul (i j : Int) : Bool := big64 i || big64 j
theorem cMul_ok (i j : Int) (h : cMul i j = true) : CMul i j := by
  unfold cMul big64 at h
  simp only [Bool.or_eq_true, Bool.and_eq_true, decide_eq_true_eq] at h
  exact h
/-! lists and tuples joined, repeated -/
def rCatR : R2 := fun x y H Q => ∃ l b xs zs, x = .ref l ∧ y = .ref b ∧ Rd H l (.lst xs) ∧ Rd H b (.lst zs) ∧ xs.length + zs.length ≤ sizeLine ∧ ∀ p, H p = none → Q (.ref p) (upd H p (.lst (xs ++ zs)))
theorem op_catR : OpR X (binaryOp .Add) rCatR := by
  intro pins s σ H x y v u Q I rx ry h
  obtain ⟨l, b, xs, zs, rfl, rfl, hH, hB, hz, q⟩ := h
  cases rx
  cases ry
  obtain ⟨z, its, n, r, e⟩ := hH.ok I.hok
  obtain ⟨z2, its2, n2, r2, e2⟩ := hB.ok I.hok
  have l1 := r.length
  have l2 := r2.length
  refine PySem.P.add_list e e2 ?_ (by rw [List.size_toArray, List.size_toArray]; omega)
  have ea : its.toArray ++ its2.toArray = (its ++ its2).toArray := by simp
  rw [ea]
  exact ⟨.ref _, _, I.lnew (t' := s.toks) (r.append r2) (by rw [List.length_append]; omega), rfl, q _ I.fresh⟩
def aCatL : D → D → Option D
  | .list xs, .list ys => if xs.length + ys.length ≤ sizeLine then some (.list (xs ++ ys)) else none
  | _, _ => none
def aCatT : D → D → Option D
  | .tuple xs, .tuple ys => if xs.length + ys.length ≤ sizeLine then some (.tuple (xs ++ ys)) else none
  | _, _ => none
def aCatS : D → D → Option D
  | .str xs, .str ys => if xs.length + ys.length ≤ sizeLine then some (.str (xs ++ ys)) else none
  | _, _ => none
theorem op2_catL {K : PySem.W.Frag} : Op2 K rCatR aCatL .ow := fun H G x y dx dy d Q gh rx ry e q => by
  unfold aCatL at e
  split at e
  · rename_i xs ys
    split at e
    · rename_i hl
      cases e
      obtain ⟨a, vs, rfl, h1, r1⟩ := rx.lst gh
      obtain ⟨b, us, rfl, h2, r2⟩ := ry.lst gh
      refine ⟨a, b, vs, us, rfl, rfl, h1, h2, by rw [r1.length, r2.length]; exact hl, fun p hp => ?_⟩
      obtain ⟨s, r⟩ := ow_new gh hp (r1.append r2)
      exact q _ _ _ s r
    · cases e
  · cases e
theorem op2_catT {K : PySem.W.Frag} : Op2 K (TN.rCatN K) aCatT .ow := fun H G x y dx dy d Q gh rx ry e q => by
  unfold aCatT at e
  split at e
  · rename_i xs ys
    split at e
    · rename_i hl
      cases e
      obtain ⟨a, vs, rfl, h1, r1⟩ := rx.tup
      obtain ⟨b, us, rfl, h2, r2⟩ := ry.tup
      refine ⟨a, b, vs, us, rfl, rfl, .inl (rdM gh h1.rd), .inl (rdM gh h2.rd), by rw [r1.length, r2.length]; exact hl, fun z => ?_, fun z => ?_, fun p o hp ho => ?_⟩
      · subst z
        cases r1
        exact q _ _ _ (Step.refl gh) (Rp.tup h2 r2)
      · subst z
        cases r2
        rw [List.append_nil] at q
        exact q _ _ _ (Step.refl gh) (Rp.tup h1 r1)
      · obtain ⟨s, r⟩ := tup_new gh hp ho (r1.append r2)
        exact q _ _ _ s r
    · cases e
  · cases e
theorem op2_catS {K : PySem.W.Frag} : Op2 K (fun x y H Q => ∃ i j, x = .str i ∧ y = .str j ∧ i.length + j.length ≤ sizeLine ∧ Q (.str (i ++ j)) H) aCatS .ow := fun H G x y dx dy d Q gh rx ry e q => by
  unfold aCatS at e
  split at e
  · split at e
    · cases e
      cases rx.str
      cases ry.str
      exact ⟨_, _, rfl, rfl, by assumption, q _ _ _ (Step.refl gh) (ow_str _)⟩
    · cases e
  · cases e
def aAdd : D → D → Option D
  | .int i, .int j => some (.int (i + j))
  | .list xs, .list ys => if xs.length + ys.length ≤ sizeLine then some (.list (xs ++ ys)) else none
  | .tuple xs, .tuple ys => if xs.length + ys.length ≤ sizeLine then some (.tuple (xs ++ ys)) else none
  | .str xs, .str ys => if xs.length + ys.length ≤ sizeLine then some (.str (xs ++ ys)) else none
  | _, _ => none
theorem e_add {a b : Expr} {fa fb : Den} {pos : Pos} (ha : PE X a (tE X.K .bw fa)) (hb : PE X b (tE X.K .bw fb)) : PE X (.BinOp a .Add b pos) (tE X.K .ow (d2 aAdd fa fb)) := by
  refine e_bin (op_add.or (op_catR.or (TN.op_catN.or op_add_str))) (Op2.or op2_rI0 (Op2.or op2_catL (Op2.or op2_catT op2_catS (fun x y => (aCatT x y).or (aCatS x y)) ?_) (fun x y => (aCatL x y).or ((aCatT x y).or (aCatS x y))) ?_) aAdd ?_) ha hb
  · intro x y d h
    cases e : aCatT x y with
    | none => rw [e] at h; exact .inr h
    | some z => rw [e] at h; exact .inl h
  · intro x y d h
    cases e : aCatL x y with
    | none => rw [e] at h; exact .inr h
    | some z => rw [e] at h; exact .inl h
  · intro x y d h
    unfold aAdd at h
    split at h
    · exact .inl h
    · rename_i xs ys
      have h' : aCatL (.list xs) (.list ys) = some d := h
      exact .inr (by rw [h']; rfl)
    · rename_i xs ys
      have h' : aCatT (.tuple xs) (.tuple ys) = some d := h
      exact .inr (by rw [h']; rfl)
    · rename_i xs ys
      have h' : aCatS (.str xs) (.str ys) = some d := h
      exact .inr (by rw [h']; rfl)
    · cases h
end
end PF
namespace PF
open PySem PySem.Spec PyProof.Rows L2
section
variable {X : Cx} {a b c : Expr} {fa fb fc : Den} {pos : Pos}
/-! ### more arithmetic -/
def aSub : D → D → Option D := aInt2 (fun _ _ => true) (fun i j => i - j)
theorem e_sub (ha : PE X a (tE X.K .bw fa)) (hb : PE X b (tE X.K .bw fb)) : PE X (.BinOp a .Sub b pos) (tE X.K .ow (d2 aSub fa fb)) := e_bin op_sub op2_rI0 ha hb
def aMod : D → D → Option D := aInt2 (fun _ j => decide (0 < j)) (fun i j => i % j)
theorem e_mod (ha : PE X a (tE X.K .bw fa)) (hb : PE X b (tE X.K .bw fb)) : PE X (.BinOp a .Mod b pos) (tE X.K .ow (d2 aMod fa fb)) := e_bin op_mod (op2_rI fun _ _ h => of_decide_eq_true h) ha hb
def cDiv (_ j : Int) : Bool := decide (0 < j) && decide (j < 1073741824)
def aDiv : D → D → Option D := aInt2 cDiv (fun i j => i / j)
theorem e_div (ha : PE X a (tE X.K .bw fa)) (hb : PE X b (tE X.K .bw fb)) : PE X (.BinOp a .FloorDiv b pos) (tE X.K .ow (d2 aDiv fa fb)) := e_bin op_fdiv (op2_rI fun i j h => by
  unfold cDiv at h
  simp only [Bool.and_eq_true, decide_eq_true_eq] at h
  exact h) ha hb
def cPow (i j : Int) : Bool := decide (0 ≤ j) && decide (j ≤ 1000000) && decide (i.natAbs < 2 ^ 64)
def aPow : D → D → Option D := aInt2 cPow (fun i j => i ^ j.toNat)
theorem e_pow (ha : PE X a (tE X.K .bw fa)) (hb : PE X b (tE X.K .bw fb)) : PE X (.BinOp a .Pow b pos) (tE X.K .ow (d2 aPow fa fb)) := e_bin op_pow (op2_rI fun i j h => by
  unfold cPow at h
  simp only [Bool.and_eq_true, decide_eq_true_eq] at h
  exact ⟨h.1.1, h.1.2, h.2⟩) ha hb
/-! *: numbers, a tuple or a list so often -/
def rRepR : R2 := fun x y H Q => ∃ l k xs, x = .ref l ∧ y = .int k ∧ Rd H l (.lst xs) ∧ -(2 ^ 63) ≤ k ∧ k < 2 ^ 63 ∧ xs.length * k.toNat ≤ sizeLine ∧
  ∀ p, H p = none → Q (.ref p) (upd H p (.lst (List.replicate k.toNat xs).flatten))
theorem op_repR : OpR X (binaryOp .Mult) rRepR := by
  intro pins s σ H x y v u Q I rx ry h
  obtain ⟨l, k, xs, rfl, rfl, hH, h1, h2, hz, q⟩ := h
  cases rx
  obtain ⟨t, rfl⟩ := ry
  obtain ⟨z, its, n, r, e⟩ := hH.ok I.hok
  have hl := r.length
  have hlen : its.toArray.size * k.toNat ≤ sizeLine := by rw [List.size_toArray, ← hl]; exact hz
  have hcap : ¬ its.toArray.size * k.toNat > (2 ^ 63 - 1) / 8 := by
    have : (sizeLine : Nat) ≤ (2 ^ 63 - 1) / 8 := by decide
    omega
  have hfit : ¬ (!Builtin.List.listFitsIndex k) = true := by
    rw [fitsIndex_both h1 h2]
    exact Bool.false_ne_true
  have hlong : ¬ Builtin.List.listTooLong (its.toArray.size * k.toNat) = true := by
    rw [notLongL hlen]
    exact Bool.false_ne_true
  have hnew : List.foldl (fun x1 x2 => x1 ++ x2) #[] (List.replicate (if its.toArray.isEmpty = true then 0 else k.toNat) its.toArray) = (List.replicate k.toNat its).flatten.toArray := by
    have f0 : ∀ m : Nat, List.foldl (fun x1 x2 => x1 ++ x2) #[] (List.replicate m its.toArray) = (List.replicate m its).flatten.toArray := fun m => by
      have := foldl_rep its m []
      rw [List.nil_append] at this
      exact this
    rw [f0]
    cases its with
    | nil => simp
    | cons a r' => rw [if_neg (by simp)]
  refine wpAny_binaryOp_repeat_ref (T := "list") (U := "int") (by decide) ⟨_, e, rfl⟩ (fun s' => typeIs_int s' k t) noFill_list_mul F.fills_int_mul F.slot_int_rmul repeat_list F.slot_int_index.lookup
    (call_meets F.slot_int_rmul (typeIs_int s k t) F.entry_int_rmul (F.args_int_rmul_2 _ _) (int___rmul___int_list k t l its.toArray n)
      ⟨e, rfl, ⟨_, e, rfl⟩, call_meets F.slot_list_mul ⟨_, e, rfl⟩ F.entry_list_mul (F.args_list_mul_2 _ _) (AutoListH.list___mul___list_int_3 l its.toArray n k t hfit hcap hlong) ⟨e, ?_⟩⟩)
  rw [hnew]
  exact ⟨.ref _, _, I.lnew (t' := s.toks) (r.rep k.toNat) (by rw [PyProof.Rows.lm_len_rep_flat, Nat.mul_comm]; exact hz), rfl, q _ I.fresh⟩
/-- a tuple once is the tuple itself -/
theorem tuple_mul1 (l : Addr) (items : Array Value) (n : Nat) (dd : Option Addr) (sl : Array (Option Value)) (u : Tok) :
    Meets (Builtin.«tuple.__mul__» ⟨[.ref l, .int 1 u], []⟩) (fun _ R s => s.heap.get? l = some { cls := .type "tuple", dict := dd, data := .seq items n, slots := sl } ∧
      R (.ok (.ret (Value.ref l))) s) :=
  .of_wp fun prog w A R s h => by
    obtain ⟨hp, g, d, tk, os⟩ := s
    obtain ⟨hl, h⟩ := h
    have f1 := AutoSeq1.idx_int
    wp_walk using wpAny_loadPart' hl
    first
      | exact ⟨_, rfl, h⟩
      | (refine wpAny_ite_true (decide_eq_true (by simp)) ?_
         wp_walk using wpAny_loadPart' hl
         exact ⟨_, rfl, h⟩)
def rRep1 (K : PySem.W.Frag) : R2 := fun x y H Q => ∃ l xs, x = .ref l ∧ y = .int 1 ∧ SqT K H l xs ∧ Q (.ref l) H
theorem op_rep1 : OpR X (binaryOp .Mult) (rRep1 X.K) := by
  intro pins s σ H x y v u Q I rx ry h
  obtain ⟨l, xs, rfl, rfl, hT, q⟩ := h
  cases rx
  obtain ⟨t, rfl⟩ := ry
  obtain ⟨its, r, ⟨⟨cls, dd, data, sl⟩, ho, hc, n, hd⟩, hs⟩ := I.tuple hT
  simp only at hc hd
  subst hc hd
  refine wpAny_binaryOp_repeat_ref (T := "tuple") (U := "int") (by decide) ⟨_, ho, rfl⟩ (fun s' => typeIs_int s' 1 t) noFill_tuple_mul F.fills_int_mul F.slot_int_rmul repeat_tuple F.slot_int_index.lookup
    (call_meets F.slot_int_rmul (typeIs_int s 1 t) F.entry_int_rmul (F.args_int_rmul_2 _ _) (int_rmul_tuple 1 t l its.toArray n dd sl)
      ⟨ho, rfl, ⟨_, ho, rfl⟩, call_meets F.slot_tuple_mul ⟨_, ho, rfl⟩ F.entry_tuple_mul (F.args_tuple_mul_2 _ _) (tuple_mul1 l its.toArray n dd sl t) ⟨ho, ?_⟩⟩)
  exact ⟨.ref l, H, I, rfl, q⟩
def aMul : D → D → Option D
  | .int i, .int j => if cMul i j = true then some (.int (i * j)) else none
  | .list xs, .int k => if k < 2 ^ 63 ∧ -(2 ^ 63) ≤ k ∧ xs.length * k.toNat ≤ sizeLine then some (.list (List.replicate k.toNat xs).flatten) else none
  | .tuple xs, .int k => if xs ≠ [] ∧ 1 ≤ k ∧ k ≤ 1000 ∧ xs.length ≤ 1000 then some (.tuple (List.replicate k.toNat xs).flatten) else none
  | _, _ => none
theorem e_mul (ha : PE X a (tE X.K .bw fa)) (hb : PE X b (tE X.K .bw fb)) : PE X (.BinOp a .Mult b pos) (tE X.K .ow (d2 aMul fa fb)) := by
  refine e_bin (op_mul.or (op_repR.or (op_rep1.or TN.op_repN))) (fun H G x y dx dy d Q gh rx ry e q => ?_) ha hb
  unfold aMul at e
  split at e
  · rename_i i j
    split at e
    · cases e
      rename_i hc
      cases rx.int
      cases ry.int
      exact .inl ⟨i, j, rfl, rfl, cMul_ok _ _ hc, q _ H G (Step.refl gh) (ow_int _)⟩
    · cases e
  · rename_i xs k
    split at e
    · cases e
      rename_i hc
      cases ry.int
      obtain ⟨l, vs, rfl, h1, r1⟩ := rx.lst gh
      refine .inr (.inl ⟨l, k, vs, rfl, rfl, h1, hc.2.1, hc.1, by rw [r1.length]; exact hc.2.2, fun p hp => ?_⟩)
      obtain ⟨s, r⟩ := ow_new gh hp (r1.rep k.toNat)
      exact q _ _ _ s r
    · cases e
  · rename_i xs k
    split at e
    · cases e
      rename_i hc
      cases ry.int
      obtain ⟨l, vs, rfl, h1, r1⟩ := rx.tup
      obtain ⟨h2, h3, h4, h5⟩ := hc
      by_cases hk : k = 1
      · subst hk
        refine .inr (.inr (.inl ⟨l, vs, rfl, rfl, .inl (rdM gh h1.rd), q _ _ _ (Step.refl gh) ?_⟩))
        have e1 : (List.replicate (1 : Int).toNat xs).flatten = xs := by simp
        rw [e1]
        exact Rp.tup h1 r1
      · refine .inr (.inr (.inr ⟨l, k, vs, rfl, rfl, .inl (rdM gh h1.rd), ?_, by omega, h4, by rw [r1.length]; exact h5, fun p o hp ho => ?_⟩))
        · intro z
          subst z
          cases r1
          exact h2 rfl
        · obtain ⟨s, r⟩ := tup_new gh hp ho (r1.rep k.toNat)
          exact q _ _ _ s r
    · cases e
  · cases e
def d1 (g : D → Option D) (f : Den) : Den := fun ρ => (f ρ).bind g
theorem d1_eq {g : D → Option D} {f : Den} {ρ : Env} {d : D} (h : d1 g f ρ = some d) : ∃ x, f ρ = some x ∧ g x = some d := by
  unfold d1 at h
  cases e : f ρ with
  | none => rw [e] at h; cases h
  | some x => rw [e] at h; exact ⟨x, rfl, h⟩
def aNeg : D → Option D
  | .int i => some (.int (-i))
  | _ => none
theorem e_neg (ha : PE X a (tE X.K .bw fa)) : PE X (.UnaryOp .USub a pos) (tE X.K .ow (d1 aNeg fa)) :=
  peW (pe_un un_neg ha) fun σ H Q ⟨H0, G0, G, ρ, d, ok, hf, q⟩ => by
    obtain ⟨x, hx, hg⟩ := d1_eq hf
    unfold aNeg at hg
    split at hg
    · rename_i i
      cases hg
      refine ⟨H0, G0, G, ρ, _, ok, hx, fun v H1 G1 s r => ?_⟩
      cases Rb.int r
      exact ⟨i, rfl, q _ _ _ s (ow_int _)⟩
    · cases hg
/-! ### comparisons -/
def isN : D → Bool
  | .none => true
  | _ => false
/-- the order of data: ints by g, other data that are alike by gd -/
def aOrd (g : Int → Int → Bool) (gd : D → D → Bool) (x y : D) : Option D := match x, y with
  | .int i, .int j => some (.bool (g i j))
  | x, y => if SeqAt.shaped x = true ∧ SeqAt.shaped y = true ∧ PySem.W.alike x y = true ∧ isN x = false then some (.bool (gd x y)) else none
def rOrdD (K : PySem.W.Frag) (gd : D → D → Bool) : R2 := fun x y H Q => ∃ d e, Dp K H x d ∧ Dp K H y e ∧ SeqAt.shaped d = true ∧ SeqAt.shaped e = true ∧ PySem.W.alike d e = true ∧ d ≠ .none ∧ Q (.bl (gd d e)) H
theorem op2_ord {K : PySem.W.Frag} {g : Int → Int → Bool} {gd : D → D → Bool} : Op2 K (fun x y H Q => rI0 (fun i j => .bl (g i j)) x y H Q ∨ rOrdD K gd x y H Q) (aOrd g gd) .ow := fun H G x y dx dy d Q gh rx ry e q => by
  unfold aOrd at e
  split at e
  · cases e
    cases rx.int
    cases ry.int
    exact .inl ⟨_, _, rfl, rfl, q _ _ _ (Step.refl gh) (ow_bool _)⟩
  · split at e
    · rename_i h
      cases e
      exact .inr ⟨dx, dy, rx.dp h.1 gh, ry.dp h.2.1 gh, h.1, h.2.1, h.2.2.1, fun z => by rw [z] at h; exact absurd h.2.2.2 (by simp [isN]), q _ _ _ (Step.refl gh) (ow_bool _)⟩
    · cases e
theorem op_ltD (hu : X.A.units + 65 < cLine) : OpR X (compareOp .Lt) (rOrdD X.K PySem.W.dataLt) := by
  intro pins s σ H x y v u Q I rx ry h
  obtain ⟨d, e, hd, he, sd, se, ha, hn, q⟩ := h
  obtain ⟨as, r1⟩ := Dp.reads I d x v hd rx
  obtain ⟨bs, r2⟩ := Dp.reads I e y u he ry
  exact PySem.W.lt_data r1 r2 ha hn (SeqAt.room_of_shaped sd (by omega)) ⟨.bl _, H, I, rfl, q⟩
theorem op_gtD (hu : X.A.units + 65 < cLine) : OpR X (compareOp .Gt) (rOrdD X.K fun d e => PySem.W.dataLt e d) := by
  intro pins s σ H x y v u Q I rx ry h
  obtain ⟨d, e, hd, he, sd, se, ha, hn, q⟩ := h
  obtain ⟨as, r1⟩ := Dp.reads I d x v hd rx
  obtain ⟨bs, r2⟩ := Dp.reads I e y u he ry
  exact PySem.W.gt_data r1 r2 ha hn (SeqAt.room_of_shaped sd (by omega)) ⟨.bl _, H, I, rfl, q⟩
theorem op_leD (hu : X.A.units + 65 < cLine) : OpR X (compareOp .LtE) (rOrdD X.K fun d e => !PySem.W.dataLt e d) := by
  intro pins s σ H x y v u Q I rx ry h
  obtain ⟨d, e, hd, he, sd, se, ha, hn, q⟩ := h
  obtain ⟨as, r1⟩ := Dp.reads I d x v hd rx
  obtain ⟨bs, r2⟩ := Dp.reads I e y u he ry
  exact PySem.W.le_data r1 r2 ha hn (SeqAt.room_of_shaped sd (by omega)) ⟨.bl _, H, I, rfl, q⟩
theorem op_geD (hu : X.A.units + 65 < cLine) : OpR X (compareOp .GtE) (rOrdD X.K fun d e => !PySem.W.dataLt d e) := by
  intro pins s σ H x y v u Q I rx ry h
  obtain ⟨d, e, hd, he, sd, se, ha, hn, q⟩ := h
  obtain ⟨as, r1⟩ := Dp.reads I d x v hd rx
  obtain ⟨bs, r2⟩ := Dp.reads I e y u he ry
  exact PySem.W.ge_data r1 r2 ha hn (SeqAt.room_of_shaped sd (by omega)) ⟨.bl _, H, I, rfl, q⟩
def aEq (x y : D) : Option D := if SeqAt.shaped x = true ∧ SeqAt.shaped y = true then some (.bool (PyData.eqv x y)) else none
def aNe (x y : D) : Option D := if SeqAt.shaped x = true ∧ SeqAt.shaped y = true then some (.bool (!PyData.eqv x y)) else none
theorem op2_eq {K : PySem.W.Frag} : Op2 K (rEqD K) aEq .ow := fun H G x y dx dy d Q gh rx ry e q => by
  unfold aEq at e
  split at e
  · rename_i h
    cases e
    exact ⟨dx, dy, rx.dp h.1 gh, ry.dp h.2 gh, h.1, h.2, q _ _ _ (Step.refl gh) (ow_bool _)⟩
  · cases e
theorem op2_ne {K : PySem.W.Frag} : Op2 K (rNeD K) aNe .ow := fun H G x y dx dy d Q gh rx ry e q => by
  unfold aNe at e
  split at e
  · rename_i h
    cases e
    exact ⟨dx, dy, rx.dp h.1 gh, ry.dp h.2 gh, h.1, h.2, q _ _ _ (Step.refl gh) (ow_bool _)⟩
  · cases e
def rInT (K : PySem.W.Frag) (n : Bool) : R2 := fun x y H Q => ∃ d ds, Dp K H x d ∧ Dp K H y (.tuple ds) ∧ SeqAt.shaped d = true ∧ SeqAt.shaped (.tuple ds) = true ∧ Q (.bl (if n = true then !ds.any fun z => PyData.eqv z d else ds.any fun z => PyData.eqv z d)) H
theorem op_inT (hu : X.A.units + 65 < cLine) : OpR X (compareOp .In) (rInT X.K false) := by
  intro pins s σ H x y v u Q I rx ry h
  obtain ⟨d, ds, hd, he, sd, se, q⟩ := h
  obtain ⟨as, r1⟩ := Dp.reads I d x v hd rx
  obtain ⟨bs, r2⟩ := Dp.reads I (.tuple ds) y u he ry
  exact SeqAt.in_tuple_reads r2 r1 (SeqAt.canLay_of_shaped se) (SeqAt.canLay_of_shaped sd) (room_in_shaped sd hu) ⟨.bl _, H, I, rfl, q⟩
theorem op_notInT (hu : X.A.units + 65 < cLine) : OpR X (compareOp .NotIn) (rInT X.K true) := by
  intro pins s σ H x y v u Q I rx ry h
  obtain ⟨d, ds, hd, he, sd, se, q⟩ := h
  obtain ⟨as, r1⟩ := Dp.reads I d x v hd rx
  obtain ⟨bs, r2⟩ := Dp.reads I (.tuple ds) y u he ry
  exact SeqAt.notIn_tuple_reads r2 r1 (SeqAt.canLay_of_shaped se) (SeqAt.canLay_of_shaped sd) (room_in_shaped sd hu) ⟨.bl _, H, I, rfl, q⟩
def aIn (n : Bool) : D → D → Option D
  | d, .list ds => if SeqAt.shaped d = true ∧ SeqAt.shaped (.list ds) = true then some (.bool (if n = true then !ds.any fun z => PyData.eqv z d else ds.any fun z => PyData.eqv z d)) else none
  | d, .tuple ds => if SeqAt.shaped d = true ∧ SeqAt.shaped (.tuple ds) = true then some (.bool (if n = true then !ds.any fun z => PyData.eqv z d else ds.any fun z => PyData.eqv z d)) else none
  | d, .dict ((.bool true, .none) :: kvs) => (keyT d).map fun k => .bool (if n = true then !(getKV kvs k).isSome else (getKV kvs k).isSome)
  | _, _ => none
theorem Rb.noL {K : PySem.W.Frag} {H G : Hp} {v : V} {d : D} (r : Rb K H G v d) (h : ∀ xs, d ≠ .list xs) : Rp K G v d := by
  rcases r with r | ⟨xs, e, _⟩
  · exact r
  · exact absurd e (h xs)
theorem in_n {K : PySem.W.Frag} {n : Bool} {H G : Hp} {x y : V} {dx : D} {kvs : List (D × D)} {k : NestedKey} {Q : VK} (gh : Same G H) (rx : Rb K H G x dx) (ry : Rb K H G y (.dict ((.bool true, .none) :: kvs))) (hk : keyT dx = some k)
    (q : Q (.bl (if n = true then !(getKV kvs k).isSome else (getKV kvs k).isSome)) H) : rInN n x y H Q :=
  atD_of gh (ry.noL fun _ z => nomatch z) (rx.noL fun _ z => by obtain ⟨⟨ds, e⟩, _⟩ := keyT_tup hk; rw [e] at z; cases z) hk fun a ep xs b r => by
    rw [kv_some r]
    exact q
theorem op2_in {K : PySem.W.Frag} : Op2 K (fun x y H Q => rInD K x y H Q ∨ rInT K false x y H Q ∨ rInN false x y H Q) (aIn false) .ow := fun H G x y dx dy d Q gh rx ry e q => by
  unfold aIn at e
  split at e
  · split at e
    · rename_i h
      cases e
      exact .inl ⟨dx, _, rx.dp h.1 gh, ry.dp h.2 gh, h.1, h.2, q _ _ _ (Step.refl gh) (ow_bool _)⟩
    · cases e
  · split at e
    · rename_i h
      cases e
      exact .inr (.inl ⟨dx, _, rx.dp h.1 gh, ry.dp h.2 gh, h.1, h.2, q _ _ _ (Step.refl gh) (ow_bool _)⟩)
    · cases e
  · obtain ⟨k, hk, e⟩ := Option.map_eq_some_iff.mp e
    subst e
    exact .inr (.inr (in_n gh rx ry hk (q _ _ _ (Step.refl gh) (ow_bool _))))
  · cases e
theorem op2_notIn {K : PySem.W.Frag} : Op2 K (fun x y H Q => rNotInD K x y H Q ∨ rInT K true x y H Q ∨ rInN true x y H Q) (aIn true) .ow := fun H G x y dx dy d Q gh rx ry e q => by
  unfold aIn at e
  split at e
  · split at e
    · rename_i h
      cases e
      exact .inl ⟨dx, _, rx.dp h.1 gh, ry.dp h.2 gh, h.1, h.2, q _ _ _ (Step.refl gh) (ow_bool _)⟩
    · cases e
  · split at e
    · rename_i h
      cases e
      exact .inr (.inl ⟨dx, _, rx.dp h.1 gh, ry.dp h.2 gh, h.1, h.2, q _ _ _ (Step.refl gh) (ow_bool _)⟩)
    · cases e
  · obtain ⟨k, hk, e⟩ := Option.map_eq_some_iff.mp e
    subst e
    exact .inr (.inr (in_n gh rx ry hk (q _ _ _ (Step.refl gh) (ow_bool _))))
  · cases e
/-- is None, is not None -/
def aIsN (n : Bool) : D → D → Option D
  | d, .none => some (.bool (match d with | .none => !n | _ => n))
  | .bool a, .bool b => some (.bool (if n = true then !decide (a = b) else decide (a = b)))
  | _, _ => none
theorem Rb.isNone {K : PySem.W.Frag} {H G : Hp} {v : V} {d : D} (r : Rb K H G v d) : decide (v = .non) = (match d with | .none => true | _ => false) := by
  rcases r with r | ⟨xs, rfl, a, vs, rfl, _⟩
  · cases r <;> rfl
  · rfl
theorem op2_isN {K : PySem.W.Frag} : Op2 K (fun x y H Q => (y = .non ∧ Q (.bl (decide (x = .non))) H) ∨ rIsB x y H Q) (aIsN false) .ow := fun H G x y dx dy d Q gh rx ry e q => by
  unfold aIsN at e
  split at e
  · cases e
    cases ry.none
    refine .inl ⟨rfl, ?_⟩
    rw [rx.isNone]
    have := q (.bl (match dx with | .none => true | _ => false)) H G (Step.refl gh)
    cases dx <;> exact this (ow_bool _)
  · cases e
    cases rx.bool
    cases ry.bool
    exact .inr ⟨_, _, rfl, rfl, q _ _ _ (Step.refl gh) (ow_bool _)⟩
  · cases e
theorem op2_notN {K : PySem.W.Frag} : Op2 K (fun x y H Q => (y = .non ∧ Q (.bl (!decide (x = .non))) H) ∨ rNotB x y H Q) (aIsN true) .ow := fun H G x y dx dy d Q gh rx ry e q => by
  unfold aIsN at e
  split at e
  · cases e
    cases ry.none
    refine .inl ⟨rfl, ?_⟩
    rw [rx.isNone]
    have := q (.bl (!(match dx with | .none => true | _ => false))) H G (Step.refl gh)
    cases dx <;> exact this (ow_bool _)
  · cases e
    cases rx.bool
    cases ry.bool
    exact .inr ⟨_, _, rfl, rfl, q _ _ _ (Step.refl gh) (ow_bool _)⟩
  · cases e
/-- the comparison of one kind -/
def aCmp : CmpOp → D → D → Option D
  | .Eq => aEq
  | .NotEq => aNe
  | .Lt => aOrd (fun i j => decide (i < j)) PySem.W.dataLt
  | .LtE => aOrd (fun i j => decide (i ≤ j)) fun d e => !PySem.W.dataLt e d
  | .Gt => aOrd (fun i j => decide (j < i)) fun d e => PySem.W.dataLt e d
  | .GtE => aOrd (fun i j => decide (j ≤ i)) fun d e => !PySem.W.dataLt d e
  | .Is => aIsN false
  | .IsNot => aIsN true
  | .In => aIn false
  | .NotIn => aIn true
/-- any comparison: its reading, by values -/
theorem cmp_any (hu : X.A.units + 65 < cLine) (op : CmpOp) : ∃ r, OpR X (compareOp op) r ∧ Op2 X.K r (aCmp op) .ow := by
  cases op with
  | Eq => exact ⟨_, op_eqD (by omega), op2_eq⟩
  | NotEq => exact ⟨_, op_neD (by omega), op2_ne⟩
  | Lt => exact ⟨_, op_lt.or (op_ltD hu), op2_ord⟩
  | LtE => exact ⟨_, op_le.or (op_leD hu), op2_ord⟩
  | Gt => exact ⟨_, op_gt.or (op_gtD hu), op2_ord⟩
  | GtE => exact ⟨_, op_ge.or (op_geD hu), op2_ord⟩
  | Is => exact ⟨_, op_isN.or op_isBl, op2_isN⟩
  | IsNot => exact ⟨_, op_notN.or op_notBl, op2_notN⟩
  | In => exact ⟨_, (op_inD hu).or ((op_inT hu).or (op_inN hu)), op2_in⟩
  | NotIn => exact ⟨_, (op_notInD hu).or ((op_notInT hu).or (op_notInN hu)), op2_notIn⟩
theorem e_cmp1 {op : CmpOp} (hu : X.A.units + 65 < cLine) (hm : behindInMarks op b = false) (ha : PE X a (tE X.K .bw fa)) (hb : PE X b (tE X.K .bw fb)) : PE X (.Compare a [op] [b] pos) (tE X.K .ow (d2 (aCmp op) fa fb)) := by
  obtain ⟨r, h1, h2⟩ := cmp_any hu op
  exact e_cmp h1 h2 hm ha hb
/-! tests: the truth of a value that is a bool -/
def dT (f : Den) : Env → Option Bool := fun ρ => match f ρ with | some (.bool b) => some b | _ => none
theorem dT_eq {f : Den} {ρ : Env} {b : Bool} (h : dT f ρ = some b) : f ρ = some (.bool b) := by
  unfold dT at h
  split at h
  · cases h; assumption
  · cases h
theorem t_cmp1 {op : CmpOp} (hu : X.A.units + 65 < cLine) (hm : behindInMarks op b = false) (ha : PE X a (tE X.K .bw fa)) (hb : PE X b (tE X.K .bw fb)) : PT X (.Compare a [op] [b] pos) (tT X.K (dT (d2 (aCmp op) fa fb))) := by
  obtain ⟨r, h1, h2⟩ := cmp_any hu op
  refine ptW (pt_cmpR h1 ha hb hm) fun σ H Q ⟨H0, G0, G, ρ, k, ok, hf, q⟩ => ?_
  refine two (a := a) (b := b) h2 ⟨H0, G0, G, ρ, _, ok, dT_eq hf, fun v H' G' s r => ?_⟩
  cases (show Rp X.K G' v (.bool k) from r)
  exact ⟨k, rfl, q _ _ s⟩
/-- a op b op' c -/
def dChain (g g' : D → D → Option D) (f1 f2 f3 : Den) : Den := fun ρ => (f1 ρ).bind fun x => (f2 ρ).bind fun y => match g x y with
  | some (.bool true) => (f3 ρ).bind fun z => g' y z
  | some (.bool false) => some (.bool false)
  | _ => none
theorem chain_read {op op' : CmpOp} {r r' : R2} (h2 : Op2 X.K r (aCmp op) .ow) (h4 : Op2 X.K r' (aCmp op') .ow) {σ : St} {H : Hp} {Q : VK} (h : tE X.K .ow (dChain (aCmp op) (aCmp op') fa fb fc) σ H Q) :
    tChain r r' (tE X.K .bw fa) (tE X.K .bw fb) (tE X.K .bw fc) σ H Q := by
  obtain ⟨H0, G0, G, ρ, d, ok, hf, q⟩ := h
  unfold dChain at hf
  cases ea : fa ρ with
  | none => rw [ea] at hf; cases hf
  | some x =>
    rw [ea] at hf
    cases eb : fb ρ with
    | none => rw [eb] at hf; cases hf
    | some y =>
      rw [eb] at hf
      simp only [Option.bind_some] at hf
      refine ⟨H0, G0, G, ρ, x, ok, ea, fun v H1 G1 s1 r1 => ⟨H0, G0, G1, ρ, y, ok.step s1, eb, fun u H2 G2 s2 r2 => ?_⟩⟩
      split at hf
      · rename_i e1
        refine h2 H2 G2 v u x y _ _ s2.gh (Rb.step r1 s2) r2 e1 fun z H3 G3 s3 r3 => ?_
        cases (show Rp X.K G3 z (.bool true) from r3)
        refine ⟨true, rfl, ?_⟩
        refine iteT ?_
        cases ec : fc ρ with
        | none => rw [ec] at hf; cases hf
        | some w =>
          rw [ec] at hf
          refine ⟨H0, G0, G3, ρ, w, (ok.step (s1.trans s2)).step s3, ec, fun t H4 G4 s4 r4 => ?_⟩
          refine h4 H4 G4 u t y w d Q s4.gh (Rb.step (Rb.step r2 s3) s4) r4 hf fun v' H' G' s r => ?_
          have st := ((s1.trans s2).trans s3).trans s4
          exact q v' H' G' (st.trans s) (Res.back st r)
      · rename_i e1
        cases hf
        refine h2 H2 G2 v u x y _ _ s2.gh (Rb.step r1 s2) r2 e1 fun z H3 G3 s3 r3 => ?_
        cases (show Rp X.K G3 z (.bool false) from r3)
        refine ⟨false, rfl, ?_⟩
        refine iteF ?_
        exact q _ _ _ ((s1.trans s2).trans s3) (ow_bool _)
      · cases hf
theorem e_chain {op op' : CmpOp} (hu : X.A.units + 65 < cLine) (hm : lastMarks [op, op'] [b, c] = false) (ha : PE X a (tE X.K .bw fa)) (hb : PE X b (tE X.K .bw fb)) (hc : PE X c (tE X.K .bw fc)) : PE X (.Compare a [op, op'] [b, c] pos) (tE X.K .ow (dChain (aCmp op) (aCmp op') fa fb fc)) := by
  obtain ⟨r, h1, h2⟩ := cmp_any hu op
  obtain ⟨r', h3, h4⟩ := cmp_any hu op'
  exact peW (pe_chain h1 h3 ha hb hc hm) fun σ H Q h => chain_read h2 h4 h
theorem t_chain {op op' : CmpOp} (hu : X.A.units + 65 < cLine) (hm : lastMarks [op, op'] [b, c] = false) (ha : PE X a (tE X.K .bw fa)) (hb : PE X b (tE X.K .bw fb)) (hc : PE X c (tE X.K .bw fc)) : PT X (.Compare a [op, op'] [b, c] pos) (tT X.K (dT (dChain (aCmp op) (aCmp op') fa fb fc))) := by
  obtain ⟨r, h1, h2⟩ := cmp_any hu op
  obtain ⟨r', h3, h4⟩ := cmp_any hu op'
  refine ptW (pt_chain h1 h3 ha hb hc hm) fun σ H Q ⟨H0, G0, G, ρ, k, ok, hf, q⟩ => ?_
  refine chain_read h2 h4 ⟨H0, G0, G, ρ, _, ok, dT_eq hf, fun v H' G' s r => ?_⟩
  cases (show Rp X.K G' v (.bool k) from r)
  exact ⟨k, rfl, q _ _ s⟩
/-! ### not, and, or -/
def dNot (f : Den) : Den := fun ρ => match f ρ with | some (.bool b) => some (.bool (!b)) | _ => none
def dAnd (f g : Den) : Den := fun ρ => match f ρ with | some (.bool true) => g ρ | some (.bool false) => some (.bool false) | _ => none
def dOr (f g : Den) : Den := fun ρ => match f ρ with | some (.bool true) => some (.bool true) | some (.bool false) => g ρ | _ => none
def dIf (c f g : Den) : Den := fun ρ => match c ρ with | some (.bool true) => f ρ | some (.bool false) => g ρ | _ => none
theorem t_val {e : Expr} {f : Den} (h : PE X e (tE X.K .fz f)) (he : ∀ whole, isTrue e X.env whole = (do let v ← whole; standAt e.pos; holding [v] (truthy v))) : PT X e (tT X.K (dT f)) :=
  ptW (pt_val h he) fun σ H Q ⟨H0, G0, G, ρ, k, ok, hf, q⟩ => ⟨H0, G0, G, ρ, _, ok, dT_eq hf, fun v H' G' s r => by
    cases (show Rp X.K G' v (.bool k) from r)
    exact ⟨k, rfl, q _ _ s⟩⟩
theorem e_not (ha : PE X a (tE X.K .fz fa)) : PE X (.UnaryOp .Not a pos) (tE X.K .ow (dNot fa)) :=
  peW (pe_not ha) fun σ H Q ⟨H0, G0, G, ρ, d, ok, hf, q⟩ => by
    unfold dNot at hf
    split at hf
    · rename_i b e
      cases hf
      refine ⟨H0, G0, G, ρ, _, ok, e, fun v H' G' s r => ?_⟩
      cases (show Rp X.K G' v (.bool b) from r)
      exact ⟨b, rfl, q _ _ _ s (ow_bool _)⟩
    · cases hf
theorem t_not (ha : PT X a (tT X.K (dT fa))) : PT X (.UnaryOp .Not a pos) (tT X.K (dT (dNot fa))) :=
  ptW (pt_not ha) fun σ H Q ⟨H0, G0, G, ρ, k, ok, hf, q⟩ => by
    have hf := dT_eq hf
    unfold dNot at hf
    split at hf
    · rename_i b e
      cases hf
      exact ⟨H0, G0, G, ρ, b, ok, by unfold dT; rw [e], fun H' G' s => q _ _ s⟩
    · cases hf
theorem e_and {rest : List Expr} {f g : Den} (ha : PE X a (tE X.K .fz f)) (hb : PE X (.BoolOp .And (b :: rest) pos) (tE X.K .fz g)) : PE X (.BoolOp .And (a :: b :: rest) pos) (tE X.K .fz (dAnd f g)) :=
  peW (pe_and ha hb) fun σ H Q ⟨H0, G0, G, ρ, d, ok, hf, q⟩ => by
    unfold dAnd at hf
    split at hf
    · rename_i e
      refine ⟨H0, G0, G, ρ, _, ok, e, fun v H' G' s r => ?_⟩
      cases (show Rp X.K G' v (.bool true) from r)
      refine ⟨true, rfl, ?_⟩
      refine iteT ?_
      exact ⟨H0, G0, G', ρ, d, ok.step s, hf, fun v2 H2 G2 s2 r2 => q v2 H2 G2 (s.trans s2) r2⟩
    · rename_i e
      cases hf
      refine ⟨H0, G0, G, ρ, _, ok, e, fun v H' G' s r => ?_⟩
      cases (show Rp X.K G' v (.bool false) from r)
      refine ⟨false, rfl, ?_⟩
      refine iteF ?_
      exact q _ _ _ s (.bl _)
    · cases hf
theorem e_or {rest : List Expr} {f g : Den} (ha : PE X a (tE X.K .fz f)) (hb : PE X (.BoolOp .Or (b :: rest) pos) (tE X.K .fz g)) : PE X (.BoolOp .Or (a :: b :: rest) pos) (tE X.K .fz (dOr f g)) :=
  peW (pe_or ha hb) fun σ H Q ⟨H0, G0, G, ρ, d, ok, hf, q⟩ => by
    unfold dOr at hf
    split at hf
    · rename_i e
      cases hf
      refine ⟨H0, G0, G, ρ, _, ok, e, fun v H' G' s r => ?_⟩
      cases (show Rp X.K G' v (.bool true) from r)
      refine ⟨true, rfl, ?_⟩
      refine iteT ?_
      exact q _ _ _ s (.bl _)
    · rename_i e
      refine ⟨H0, G0, G, ρ, _, ok, e, fun v H' G' s r => ?_⟩
      cases (show Rp X.K G' v (.bool false) from r)
      refine ⟨false, rfl, ?_⟩
      refine iteF ?_
      exact ⟨H0, G0, G', ρ, d, ok.step s, hf, fun v2 H2 G2 s2 r2 => q v2 H2 G2 (s.trans s2) r2⟩
    · cases hf
theorem w_and {rest : List Expr} {f g : Den} (ha : PT X a (tT X.K (dT f))) (hb : PW X (.BoolOp .And (b :: rest) pos) (tT X.K (dT g))) : PW X (.BoolOp .And (a :: b :: rest) pos) (tT X.K (dT (dAnd f g))) :=
  pwW (pw_and ha hb) fun σ H Q ⟨H0, G0, G, ρ, k, ok, hf, q⟩ => by
    have hf := dT_eq hf
    unfold dAnd at hf
    split at hf
    · rename_i e
      refine ⟨H0, G0, G, ρ, true, ok, by unfold dT; rw [e], fun H' G' s => ?_⟩
      refine iteT ?_
      exact ⟨H0, G0, G', ρ, k, ok.step s, by unfold dT; rw [hf], fun H2 G2 s2 => q H2 G2 (s.trans s2)⟩
    · rename_i e
      cases hf
      refine ⟨H0, G0, G, ρ, false, ok, by unfold dT; rw [e], fun H' G' s => ?_⟩
      refine iteF ?_
      exact q _ _ s
    · cases hf
theorem w_or {rest : List Expr} {f g : Den} (ha : PT X a (tT X.K (dT f))) (hb : PW X (.BoolOp .Or (b :: rest) pos) (tT X.K (dT g))) : PW X (.BoolOp .Or (a :: b :: rest) pos) (tT X.K (dT (dOr f g))) :=
  pwW (pw_or ha hb) fun σ H Q ⟨H0, G0, G, ρ, k, ok, hf, q⟩ => by
    have hf := dT_eq hf
    unfold dOr at hf
    split at hf
    · rename_i e
      cases hf
      refine ⟨H0, G0, G, ρ, true, ok, by unfold dT; rw [e], fun H' G' s => ?_⟩
      refine iteT ?_
      exact q _ _ s
    · rename_i e
      refine ⟨H0, G0, G, ρ, false, ok, by unfold dT; rw [e], fun H' G' s => ?_⟩
      refine iteF ?_
      exact ⟨H0, G0, G', ρ, k, ok.step s, by unfold dT; rw [hf], fun H2 G2 s2 => q H2 G2 (s.trans s2)⟩
    · cases hf
theorem e_if (hc : PT X c (tT X.K (dT fc))) (ha : PE X a (tE X.K .fz fa)) (hb : PE X b (tE X.K .fz fb)) : PE X (.IfExp c a b pos) (tE X.K .fz (dIf fc fa fb)) :=
  peW (pe_ifExp hc ha hb) fun σ H Q ⟨H0, G0, G, ρ, d, ok, hf, q⟩ => by
    unfold dIf at hf
    split at hf
    · rename_i e
      refine ⟨H0, G0, G, ρ, true, ok, by unfold dT; rw [e], fun H' G' s => ?_⟩
      refine iteT ?_
      exact ⟨H0, G0, G', ρ, d, ok.step s, hf, fun v2 H2 G2 s2 r2 => q v2 H2 G2 (s.trans s2) r2⟩
    · rename_i e
      refine ⟨H0, G0, G, ρ, false, ok, by unfold dT; rw [e], fun H' G' s => ?_⟩
      refine iteF ?_
      exact ⟨H0, G0, G', ρ, d, ok.step s, hf, fun v2 H2 G2 s2 r2 => q v2 H2 G2 (s.trans s2) r2⟩
    · cases hf
end
end PF
namespace PF
open PySem PySem.Spec PyProof.Rows L2
section
variable {X : Cx} {a b c e : Expr} {es : List Expr} {fa fb fc f : Den} {fs : List Den} {pos p : Pos}
/-! ### several expressions -/
def dArgs : List Den → Env → Option (List D)
  | [], _ => some []
  | f :: fs, ρ => (f ρ).bind fun x => (dArgs fs ρ).bind fun xs => some (x :: xs)
theorem dArgs_cons {ρ : Env} {ds : List D} (h : dArgs (f :: fs) ρ = some ds) : ∃ x xs, f ρ = some x ∧ dArgs fs ρ = some xs ∧ ds = x :: xs := by
  unfold dArgs at h
  cases e1 : f ρ with
  | none => rw [e1] at h; cases h
  | some x =>
    rw [e1] at h
    cases e2 : dArgs fs ρ with
    | none => rw [e2] at h; cases h
    | some xs =>
      rw [e2] at h
      cases h
      exact ⟨x, xs, rfl, rfl, rfl⟩
theorem dArgs_len : ∀ {fs : List Den} {ρ : Env} {ds : List D}, dArgs fs ρ = some ds → ds.length = fs.length
  | [], _, _, h => by cases h; rfl
  | f :: fs, ρ, _, h => by
    obtain ⟨x, xs, _, h2, rfl⟩ := dArgs_cons h
    simp [dArgs_len h2]
def isStar : Expr → Bool
  | .Starred _ _ => true
  | _ => false
theorem star_ok (h : isStar e = false) (env : PySem.Env) : starEach (e :: es) env = (false, eval e env) :: starEach es env := by
  cases e <;> first | rfl | (exact absurd h (by simp [isStar]))
theorem a_nil : PA X [] (tA X.K (dArgs [])) := paW pa_nil fun σ H Q ⟨H0, G0, G, ρ, ds, ok, hf, q⟩ => by
  cases hf
  exact q [] H G (Step.refl ok.gh) .nil
theorem a_cons (hs : isStar e = false) (ha : PE X e (tE X.K .fz f)) (hr : PA X es (tA X.K (dArgs fs))) : PA X (e :: es) (tA X.K (dArgs (f :: fs))) :=
  paW (pa_cons ha hr (star_ok hs _)) fun σ H Q ⟨H0, G0, G, ρ, ds, ok, hf, q⟩ => by
    obtain ⟨x, xs, h1, h2, rfl⟩ := dArgs_cons hf
    refine ⟨H0, G0, G, ρ, x, ok, h1, fun v H1 G1 s1 r1 => ⟨H0, G0, G1, ρ, xs, ok.step s1, h2, fun vs H2 G2 s2 r2 => ?_⟩⟩
    exact q (v :: vs) H2 G2 (s1.trans s2) (.cons (Rp.mono s2.gg r1) r2)
theorem ab_nil : PA X [] (tAb X.K (dArgs [])) := paW pa_nil fun σ H Q ⟨H0, G0, G, ρ, ds, ok, hf, q⟩ => by
  cases hf
  exact q [] H G (Step.refl ok.gh) .nil
theorem pairedRb {K : PySem.W.Frag} {H G H' G' : Hp} : ∀ {vs : List V} {ds : List D}, Paired (Rb K H G) vs ds → Step H G H' G' → Paired (Rb K H' G') vs ds
  | _, _, .nil, _ => .nil
  | _, _, .cons a t, s => .cons (Rb.step a s) (pairedRb t s)
theorem ab_cons (hs : isStar e = false) (ha : PE X e (tE X.K .bw f)) (hr : PA X es (tAb X.K (dArgs fs))) : PA X (e :: es) (tAb X.K (dArgs (f :: fs))) :=
  paW (pa_cons ha hr (star_ok hs _)) fun σ H Q ⟨H0, G0, G, ρ, ds, ok, hf, q⟩ => by
    obtain ⟨x, xs, h1, h2, rfl⟩ := dArgs_cons hf
    refine ⟨H0, G0, G, ρ, x, ok, h1, fun v H1 G1 s1 r1 => ⟨H0, G0, G1, ρ, xs, ok.step s1, h2, fun vs H2 G2 s2 r2 => ?_⟩⟩
    exact q (v :: vs) H2 G2 (s1.trans s2) (.cons (Rb.step r1 s2) r2)
/-! ### displays -/
def dTup (fs : List Den) : Den := fun ρ => (dArgs fs ρ).map .tuple
def dLst (fs : List Den) : Den := fun ρ => (dArgs fs ρ).map .list
theorem e_tup {k : Nat} (hl : fs.length ≤ 1000) (h : PA X es (tA X.K (dArgs fs))) : PE X (.Tuple es k pos) (tE X.K .ow (dTup fs)) :=
  peW (TN.pe_tupN h) fun σ H Q ⟨H0, G0, G, ρ, d, ok, hf, q⟩ => by
    unfold dTup at hf
    cases e1 : dArgs fs ρ with
    | none => rw [e1] at hf; cases hf
    | some ds =>
      rw [e1] at hf
      cases hf
      refine ⟨H0, G0, G, ρ, ds, ok, e1, fun vs H1 G1 s r => ⟨?_, fun p o hp ho => ?_⟩⟩
      · rw [r.length, dArgs_len e1]
        exact Nat.le_of_lt (small1000 hl)
      · obtain ⟨s2, r2⟩ := tup_new s.gh hp ho r
        exact q _ _ _ (s.trans s2) (Res.back s r2)
theorem e_lst (hl : fs.length ≤ 1000) (h : PA X es (tA X.K (dArgs fs))) : PE X (.List es pos) (tE X.K .ow (dLst fs)) :=
  peW (pe_lst h) fun σ H Q ⟨H0, G0, G, ρ, d, ok, hf, q⟩ => by
    unfold dLst at hf
    cases e1 : dArgs fs ρ with
    | none => rw [e1] at hf; cases hf
    | some ds =>
      rw [e1] at hf
      cases hf
      refine ⟨H0, G0, G, ρ, ds, ok, e1, fun vs H1 G1 s r => ⟨?_, fun p hp => ?_⟩⟩
      · rw [r.length, dArgs_len e1]
        exact Nat.le_of_lt (small1000 hl)
      · obtain ⟨s2, r2⟩ := ow_new s.gh hp r
        exact q _ _ _ (s.trans s2) (Res.back s r2)
/-! ### items -/
def aIx : D → D → Option D
  | .list ds, .int i => atI ds i
  | .tuple ds, .int i => atI ds i
  | .str z, .int i => if z.length ≤ sizeLine then (atI z.cps.toList i).map fun c => .str ⟨#[c]⟩ else none
  | .dict ((.list [], .none) :: r), .int i => atI (r.map (·.1)) i
  | .dict ((.bool true, .none) :: kvs), d => (keyT d).bind (getKV kvs)
  | _, _ => none
theorem atI_rel {K : PySem.W.Frag} {G : Hp} {vs : List V} {ds : List D} (r : RpAll K G vs ds) {i : Int} {d : D} (h : atI ds i = some d) : ∃ v, atI vs i = some v ∧ Rp K G v d := by
  unfold atI at h ⊢
  rw [r.length]
  cases e : ixN ds.length i with
  | none => rw [e] at h; cases h
  | some j =>
    rw [e] at h
    exact r.get j h
theorem Rb.scr {K : PySem.W.Frag} {H G : Hp} {v : V} {r : List (D × D)} (h : Rb K H G v (.dict ((.list [], .none) :: r))) : ∃ (a : Addr) (ns : List Int), v = .ref a ∧ r = ns.map (fun n => (PyData.int n, PyData.none)) ∧ SqL K G a (ns.map V.int) := by
  rcases h with h | ⟨xs, e, _⟩
  · generalize hd : (PyData.dict ((.list [], .none) :: r)) = d at h
    cases h with
    | scr h =>
      injection hd with hd
      injection hd with _ hd
      exact ⟨_, _, rfl, hd, h⟩
    | _ => cases hd
  · cases e
theorem op2_ix {K : PySem.W.Frag} : Op2 K (fun x y H Q => rIx K x y H Q ∨ rIxN x y H Q) aIx .fz := fun H G x y dx dy d Q gh rx ry e q => by
  unfold aIx at e
  split at e
  · cases ry.int
    obtain ⟨a, vs, rfl, h1, r1⟩ := rx.lst gh
    obtain ⟨v, h2, r2⟩ := atI_rel r1 e
    exact .inl (.inl ⟨a, vs, _, v, rfl, rfl, .inl h1, h2, q _ _ _ (Step.refl gh) r2⟩)
  · cases ry.int
    obtain ⟨a, vs, rfl, h1, r1⟩ := rx.tup
    obtain ⟨v, h2, r2⟩ := atI_rel r1 e
    exact .inl (.inr (.inl ⟨a, vs, _, v, rfl, rfl, .inl (rdM gh h1.rd), h2, q _ _ _ (Step.refl gh) r2⟩))
  · split at e
    · rename_i z i hz
      cases ry.int
      cases rx.str
      cases e1 : atI z.cps.toList i with
      | none => rw [e1] at e; cases e
      | some c =>
        rw [e1] at e
        cases e
        exact .inl (.inr (.inr ⟨z, i, c, rfl, rfl, hz, e1, q _ _ _ (Step.refl gh) (Rp.str _)⟩))
    · cases e
  · cases ry.int
    obtain ⟨a, ns, rfl, er, h⟩ := rx.scr
    subst er
    have er : (ns.map fun n => (PyData.int n, PyData.none)).map (·.1) = ns.map PyData.int := by rw [List.map_map]; rfl
    rw [er] at e
    obtain ⟨v, h2, r2⟩ := atI_rel (rpAll_ints (K := K) (G := G) ns) e
    exact .inl (.inl ⟨a, _, _, v, rfl, rfl, gh.seq h, h2, q _ _ _ (Step.refl gh) r2⟩)
  · obtain ⟨k, hk, e⟩ := Option.bind_eq_some_iff.mp e
    refine .inr (atD_of gh (rx.noL fun _ z => nomatch z) (ry.noL fun _ z => by obtain ⟨⟨ds, e⟩, _⟩ := keyT_tup hk; rw [e] at z; cases z) hk fun a ep xs b r => ?_)
    rcases kv_at (k := k) r with ⟨_, h2⟩ | ⟨c, v, d', h1, h2, rv⟩
    · rw [h2] at e; cases e
    · rw [h2] at e
      cases e
      exact ⟨v, by rw [h1]; rfl, q _ _ _ (Step.refl gh) rv⟩
  · cases e
def isSlice : Expr → Bool
  | .Slice _ _ _ _ => true
  | _ => false
theorem plain_ix (h : isSlice b = false) : PlainIx b := fun o i => by
  cases b <;> first | rfl | (exact absurd h (by simp [isSlice]))
theorem e_ix (hu : X.A.units + 65 < cLine) (hs : isSlice b = false) (ha : PE X a (tE X.K .bw fa)) (hb : PE X b (tE X.K .bw fb)) : PE X (.Subscript a b pos) (tE X.K .fz (d2 aIx fa fb)) :=
  peW (pe_ix (ix_seq.or (ix_n hu)) ha hb (plain_ix hs)) fun σ H Q h => two (a := a) (b := b) op2_ix h
/-! ### slices -/
def cutD (xs : List D) (lo hi : Option Int) : List D := (xs.drop (HT.sIx xs.length 0 lo)).take (HT.sIx xs.length xs.length hi - HT.sIx xs.length 0 lo)
theorem cut_rel {K : PySem.W.Frag} {G : Hp} {vs : List V} {ds : List D} (r : RpAll K G vs ds) (lo hi : Option Int) : RpAll K G (cutV vs lo hi) (cutD ds lo hi) := by
  unfold cutV cutD
  rw [r.length]
  exact (r.drop _).take _
def aCut : D → Option Int → Option Int → Option D
  | .list ds, lo, hi => some (.list (cutD ds lo hi))
  | .tuple ds, lo, hi => some (.tuple (cutD ds lo hi))
  | _, _, _ => none
theorem cut_whole (ds : List D) (lo hi : Option Int) (h1 : HT.sIx ds.length 0 lo = 0) (h2 : HT.sIx ds.length ds.length hi = ds.length) : cutD ds lo hi = ds := by
  unfold cutD
  rw [h1, h2]
  simp
def dOpt : Option Den → Env → Option (Option Int)
  | none, _ => some none
  | some f, ρ => match f ρ with | some (.int i) => some (some i) | _ => none
def tO (K : PySem.W.Frag) (o : Option Den) : TO := fun σ H Q => ∃ H0 G0 G ρ i, EnvOk K H0 G0 H G σ ρ ∧ dOpt o ρ = some i ∧ ∀ H' G', Step H G H' G' → Q i H'
theorem poW {o : Option Expr} {t t' : TO} (h : PO X o t) (w : ∀ σ H Q, t' σ H Q → t σ H Q) : PO X o t' := ⟨fun pins s σ H Q I q => h.run pins s σ H Q I (w σ H Q q)⟩
theorem o_none : PO X none (tO X.K none) := poW po_none fun σ H Q ⟨H0, G0, G, ρ, i, ok, hf, q⟩ => by
  cases hf
  exact q H G (Step.refl ok.gh)
theorem o_some (h : PE X e (tE X.K .bw f)) : PO X (some e) (tO X.K (some f)) := poW (po_some h) fun σ H Q ⟨H0, G0, G, ρ, i, ok, hf, q⟩ => by
  have hf' : (match f ρ with | some (.int i) => some (some i) | _ => none) = some i := hf
  split at hf'
  · rename_i j e1
    cases hf'
    exact ⟨H0, G0, G, ρ, _, ok, e1, fun v H' G' s r => ⟨j, Rb.int r, q _ _ s⟩⟩
  · cases hf'
def dCut (f : Den) (lo hi : Option Den) : Den := fun ρ => (f ρ).bind fun x => (dOpt lo ρ).bind fun l => (dOpt hi ρ).bind fun h => aCut x l h
theorem e_cut {lo hi : Option Expr} {fl fh : Option Den} (he : PE X e (tE X.K .bw f)) (hl : PO X lo (tO X.K fl)) (hh : PO X hi (tO X.K fh)) : PE X (.Subscript e (.Slice lo hi none p) pos) (tE X.K .ow (dCut f fl fh)) :=
  peW (pe_slice (sl_list.or TN.sl_tupN) he hl hh) fun σ H Q ⟨H0, G0, G, ρ, d, ok, hf, q⟩ => by
    unfold dCut at hf
    cases e1 : f ρ with
    | none => rw [e1] at hf; cases hf
    | some x =>
      cases e2 : dOpt fl ρ with
      | none => rw [e1, e2] at hf; cases hf
      | some l =>
        cases e3 : dOpt fh ρ with
        | none => rw [e1, e2, e3] at hf; cases hf
        | some h =>
          rw [e1, e2, e3] at hf
          simp only [Option.bind_some] at hf
          refine ⟨H0, G0, G, ρ, x, ok, e1, fun v H1 G1 s1 r1 => ⟨H0, G0, G1, ρ, l, ok.step s1, e2, fun H2 G2 s2 => ⟨H0, G0, G2, ρ, h, (ok.step s1).step s2, e3, fun H3 G3 s3 => ?_⟩⟩⟩
          have r3 := Rb.step r1 (s2.trans s3)
          have st := s1.trans (s2.trans s3)
          unfold aCut at hf
          split at hf
          · cases hf
            obtain ⟨a, vs, rfl, h1, rr⟩ := r3.lst s3.gh
            refine .inl ⟨a, vs, rfl, .inl h1, fun p hp => ?_⟩
            obtain ⟨s4, r4⟩ := ow_new s3.gh hp (cut_rel rr l h)
            exact q _ _ _ (st.trans s4) (Res.back st r4)
          · cases hf
            obtain ⟨a, vs, rfl, h1, rr⟩ := r3.tup
            refine .inr ⟨a, vs, rfl, .inl (rdM s3.gh h1.rd), fun ⟨w1, w2⟩ => ?_, fun p o hp ho => ?_⟩
            · rw [rr.length] at w1 w2
              refine q _ _ _ st ?_
              rw [cut_whole _ _ _ w1 w2]
              exact Rp.tup h1 rr
            · obtain ⟨s4, r4⟩ := tup_new s3.gh hp ho (cut_rel rr l h)
              exact q _ _ _ (st.trans s4) (Res.back st r4)
          · cases hf
/-! ### built-in functions -/
def Cal (K : PySem.W.Frag) (r : List V → Hp → VK → Prop) (g : List D → Option D) (m : Md) : Prop := ∀ (H G : Hp) (vs : List V) (ds : List D) (d : D) (Q : VK), Same G H → Paired (Rb K H G) vs ds → g ds = some d → (∀ v H' G', Step H G H' G' → Res K H H' G' v d m → Q v H') → r vs H Q
def dCall (g : List D → Option D) (fs : List Den) : Den := fun ρ => (dArgs fs ρ).bind g
theorem dCall_eq {g : List D → Option D} {ρ : Env} {d : D} (h : dCall g fs ρ = some d) : ∃ ds, dArgs fs ρ = some ds ∧ g ds = some d := by
  unfold dCall at h
  cases e : dArgs fs ρ with
  | none => rw [e] at h; cases h
  | some ds => rw [e] at h; exact ⟨ds, rfl, h⟩
theorem cal_read {r : List V → Hp → VK → Prop} {g : List D → Option D} {m : Md} (hg : Cal X.K r g m) {σ : St} {H : Hp} {Q : VK} (h : tE X.K m (dCall g fs) σ H Q) : tCB r (tAb X.K (dArgs fs)) σ H Q := by
  obtain ⟨H0, G0, G, ρ, d, ok, hf, q⟩ := h
  obtain ⟨ds, h1, h2⟩ := dCall_eq hf
  exact ⟨H0, G0, G, ρ, ds, ok, h1, fun vs H1 G1 s r1 => hg H1 G1 vs ds d Q s.gh r1 h2 fun v H' G' s' r' => q v H' G' (s.trans s') (Res.back s r')⟩
theorem back_ok (pos : Pos) (env : PySem.Env) : ∀ (es : List Expr), es.all (fun e => !isStar e) = true → (backTo pos (starEach es env)).any (·.1) = false
  | [], _ => rfl
  | e :: r, h => by
    simp only [List.all_cons, Bool.and_eq_true] at h
    rw [star_ok (by simpa using h.1)]
    show (false || (backTo pos (starEach r env)).any (·.1)) = false
    rw [back_ok pos env r h.2]
    rfl
theorem e_callB {x : Str} {id : String} {r : List V → Hp → VK → Prop} {g : List D → Option D} {m : Md} (hc : CallR X (.builtin id) r) (hg : Cal X.K r g m) (gl : Gl X x) (hm : X.mg x = none) (hv : bootBuiltins x = some (.builtin id)) (hn : x ≠ "__name__") (hdb : (x == ("__debug__" : Str)) = false)
    (hs : (e :: es).all (fun e => !isStar e) = true) (ha : PA X (e :: es) (tAb X.K (dArgs fs))) : PE X (.Call (.Name x p) (e :: es) [] pos) (tE X.K m (dCall g fs)) := by
  simp only [List.all_cons, Bool.and_eq_true] at hs
  exact peW (pe_callB hc gl hm hv ha hn hdb (star_ok (by simpa using hs.1) _) (back_ok _ _ _ hs.2)) fun σ H Q h => cal_read hg h
theorem e_callTy {x : Str} {T : String} {r : List V → Hp → VK → Prop} {g : List D → Option D} {m : Md} (hc : CallR X (.type T) r) (hg : Cal X.K r g m) (gl : Gl X x) (hm : X.mg x = none) (hv : bootBuiltins x = some (.type T)) (hn : x ≠ "__name__") (hdb : (x == ("__debug__" : Str)) = false)
    (hs : (e :: es).all (fun e => !isStar e) = true) (ha : PA X (e :: es) (tAb X.K (dArgs fs))) : PE X (.Call (.Name x p) (e :: es) [] pos) (tE X.K m (dCall g fs)) := by
  simp only [List.all_cons, Bool.and_eq_true] at hs
  exact peW (pe_callTy hc gl hm hv ha hn hdb (star_ok (by simpa using hs.1) _) (back_ok _ _ _ hs.2)) fun σ H Q h => cal_read hg h
theorem paired1 {K : PySem.W.Frag} {H G : Hp} {vs : List V} {d : D} (h : Paired (Rb K H G) vs [d]) : ∃ v, vs = [v] ∧ Rb K H G v d := by
  cases h with
  | cons a t => cases t; exact ⟨_, rfl, a⟩
theorem paired2 {K : PySem.W.Frag} {H G : Hp} {vs : List V} {d d' : D} (h : Paired (Rb K H G) vs [d, d']) : ∃ v v', vs = [v, v'] ∧ Rb K H G v d ∧ Rb K H G v' d' := by
  cases h with
  | cons a t =>
    obtain ⟨v', rfl, b⟩ := paired1 t
    exact ⟨_, v', rfl, a, b⟩
def bLen : List D → Option D
  | [.list ds] => some (.int ds.length)
  | [.tuple ds] => some (.int ds.length)
  | [.str z] => if z.length ≤ sizeLine then some (.int z.length) else none
  | [.dict ((.list [], .none) :: r)] => some (.int r.length)
  | _ => none
theorem cal_len {K : PySem.W.Frag} : Cal K (fun xs H Q => (∃ p ys, xs = [.ref p] ∧ (SqL K H p ys ∨ SqT K H p ys) ∧ Q (.int ys.length) H) ∨ ∃ z, xs = [.str z] ∧ z.length ≤ sizeLine ∧ Q (.int z.length) H) bLen .ow := fun H G vs ds d Q gh r e q => by
  unfold bLen at e
  split at e
  · cases e
    obtain ⟨v, rfl, rv⟩ := paired1 r
    obtain ⟨a, us, rfl, h1, r1⟩ := rv.lst gh
    refine .inl ⟨a, us, rfl, .inl (.inl h1), ?_⟩
    rw [r1.length]
    exact q _ _ _ (Step.refl gh) (ow_int _)
  · cases e
    obtain ⟨v, rfl, rv⟩ := paired1 r
    obtain ⟨a, us, rfl, h1, r1⟩ := rv.tup
    refine .inl ⟨a, us, rfl, .inr (.inl (rdM gh h1.rd)), ?_⟩
    rw [r1.length]
    exact q _ _ _ (Step.refl gh) (ow_int _)
  · split at e
    · cases e
      obtain ⟨v, rfl, rv⟩ := paired1 r
      cases rv.str
      exact .inr ⟨_, rfl, by assumption, q _ _ _ (Step.refl gh) (ow_int _)⟩
    · cases e
  · cases e
    obtain ⟨v, rfl, rv⟩ := paired1 r
    obtain ⟨a, ns, rfl, er, h⟩ := rv.scr
    subst er
    refine .inl ⟨a, _, rfl, .inl (gh.seq h), ?_⟩
    have := q (.int ((ns.map fun n => (PyData.int n, PyData.none)).length : Nat)) _ _ (Step.refl gh) (ow_int _)
    rw [List.length_map] at this ⊢
    exact this
  · cases e
/-! ints of a list -/
def intsOf : List D → Option (List Int)
  | [] => some []
  | .int i :: r => (intsOf r).map (i :: ·)
  | _ :: _ => none
theorem intsOf_eq : ∀ {ds : List D} {ns : List Int}, intsOf ds = some ns → ds = ns.map PyData.int
  | [], _, h => by cases h; rfl
  | .int i :: r, _, h => by
    unfold intsOf at h
    cases e : intsOf r with
    | none => rw [e] at h; cases h
    | some ms =>
      rw [e] at h
      cases h
      rw [intsOf_eq e]
      rfl
  | .none :: _, _, h => by cases h
  | .bool _ :: _, _, h => by cases h
  | .str _ :: _, _, h => by cases h
  | .list _ :: _, _, h => by cases h
  | .tuple _ :: _, _, h => by cases h
  | .dict _ :: _, _, h => by cases h
def boolsOf : List D → Option (List Bool)
  | [] => some []
  | .bool i :: r => (boolsOf r).map (i :: ·)
  | _ :: _ => none
theorem boolsOf_eq : ∀ {ds : List D} {ns : List Bool}, boolsOf ds = some ns → ds = ns.map PyData.bool
  | [], _, h => by cases h; rfl
  | .bool i :: r, _, h => by
    unfold boolsOf at h
    cases e : boolsOf r with
    | none => rw [e] at h; cases h
    | some ms =>
      rw [e] at h
      cases h
      rw [boolsOf_eq e]
      rfl
  | .none :: _, _, h => by cases h
  | .int _ :: _, _, h => by cases h
  | .str _ :: _, _, h => by cases h
  | .list _ :: _, _, h => by cases h
  | .tuple _ :: _, _, h => by cases h
  | .dict _ :: _, _, h => by cases h
theorem Rb.intsL {K : PySem.W.Frag} {H G : Hp} {v : V} {ds : List D} {ns : List Int} (gh : Same G H) (r : Rb K H G v (.list ds)) (h : intsOf ds = some ns) : ∃ a, v = .ref a ∧ Rd H a (.lst (ns.map V.int)) := by
  obtain ⟨a, us, rfl, h1, r1⟩ := r.lst gh
  rw [intsOf_eq h] at r1
  rw [r1.ints] at h1
  exact ⟨a, rfl, h1⟩
theorem Rb.boolsL {K : PySem.W.Frag} {H G : Hp} {v : V} {ds : List D} {ns : List Bool} (gh : Same G H) (r : Rb K H G v (.list ds)) (h : boolsOf ds = some ns) : ∃ a, v = .ref a ∧ Rd H a (.lst (ns.map V.bl)) := by
  obtain ⟨a, us, rfl, h1, r1⟩ := r.lst gh
  rw [boolsOf_eq h] at r1
  rw [r1.bools] at h1
  exact ⟨a, rfl, h1⟩
def bSum : List D → Option D
  | [.list ds] => (intsOf ds).map fun ns => .int ns.sum
  | _ => none
theorem cal_sum {K : PySem.W.Frag} : Cal K (rSum K) bSum .ow := fun H G vs ds d Q gh r e q => by
  unfold bSum at e
  split at e
  · rename_i xs
    cases e1 : intsOf xs with
    | none => rw [e1] at e; cases e
    | some ns =>
      rw [e1] at e
      cases e
      obtain ⟨v, rfl, rv⟩ := paired1 r
      obtain ⟨a, rfl, h⟩ := rv.intsL gh e1
      exact ⟨a, ns, rfl, .inl h, q _ _ _ (Step.refl gh) (ow_int _)⟩
  · cases e
def bAll : List D → Option D
  | [.list ds] => (boolsOf ds).map fun ns => .bool (ns.all id)
  | _ => none
def bAny : List D → Option D
  | [.list ds] => (boolsOf ds).map fun ns => .bool (ns.any id)
  | _ => none
theorem cal_all {K : PySem.W.Frag} : Cal K (rAll K) bAll .ow := fun H G vs ds d Q gh r e q => by
  unfold bAll at e
  split at e
  · rename_i xs
    cases e1 : boolsOf xs with
    | none => rw [e1] at e; cases e
    | some ns =>
      rw [e1] at e
      cases e
      obtain ⟨v, rfl, rv⟩ := paired1 r
      obtain ⟨a, rfl, h⟩ := rv.boolsL gh e1
      exact ⟨a, ns, rfl, .inl h, q _ _ _ (Step.refl gh) (ow_bool _)⟩
  · cases e
theorem cal_any {K : PySem.W.Frag} : Cal K (rAny K) bAny .ow := fun H G vs ds d Q gh r e q => by
  unfold bAny at e
  split at e
  · rename_i xs
    cases e1 : boolsOf xs with
    | none => rw [e1] at e; cases e
    | some ns =>
      rw [e1] at e
      cases e
      obtain ⟨v, rfl, rv⟩ := paired1 r
      obtain ⟨a, rfl, h⟩ := rv.boolsL gh e1
      exact ⟨a, ns, rfl, .inl h, q _ _ _ (Step.refl gh) (ow_bool _)⟩
  · cases e
/-! min, max: two numbers, or a list of them -/
def minL : Int → List Int → Int
  | m, [] => m
  | m, x :: r => minL (if x < m then x else m) r
def maxL : Int → List Int → Int
  | m, [] => m
  | m, x :: r => maxL (if m < x then x else m) r
theorem minL_spec : ∀ (r : List Int) (m : Int), minL m r ∈ m :: r ∧ ∀ y ∈ m :: r, minL m r ≤ y
  | [], m => ⟨List.mem_singleton.mpr rfl, fun y hy => by rw [List.mem_singleton.mp hy]; exact Int.le_refl _⟩
  | x :: r, m => by
    obtain ⟨h1, h2⟩ := minL_spec r (if x < m then x else m)
    have e : minL m (x :: r) = minL (if x < m then x else m) r := rfl
    rw [e]
    have h3 := h2 _ (List.mem_cons_self ..)
    refine ⟨?_, fun y hy => ?_⟩
    · rcases List.mem_cons.mp h1 with h | h
      · rw [h]; split <;> simp
      · exact List.mem_cons_of_mem _ (List.mem_cons_of_mem _ h)
    · have k1 : (if x < m then x else m) ≤ m := by split <;> omega
      have k2 : (if x < m then x else m) ≤ x := by split <;> omega
      rcases List.mem_cons.mp hy with h | h
      · rw [h]; exact Int.le_trans h3 k1
      · rcases List.mem_cons.mp h with h | h
        · rw [h]; exact Int.le_trans h3 k2
        · exact h2 _ (List.mem_cons_of_mem _ h)
theorem maxL_spec : ∀ (r : List Int) (m : Int), maxL m r ∈ m :: r ∧ ∀ y ∈ m :: r, y ≤ maxL m r
  | [], m => ⟨List.mem_singleton.mpr rfl, fun y hy => by rw [List.mem_singleton.mp hy]; exact Int.le_refl _⟩
  | x :: r, m => by
    obtain ⟨h1, h2⟩ := maxL_spec r (if m < x then x else m)
    have e : maxL m (x :: r) = maxL (if m < x then x else m) r := rfl
    rw [e]
    have h3 := h2 _ (List.mem_cons_self ..)
    refine ⟨?_, fun y hy => ?_⟩
    · rcases List.mem_cons.mp h1 with h | h
      · rw [h]; split <;> simp
      · exact List.mem_cons_of_mem _ (List.mem_cons_of_mem _ h)
    · have k1 : m ≤ (if m < x then x else m) := by split <;> omega
      have k2 : x ≤ (if m < x then x else m) := by split <;> omega
      rcases List.mem_cons.mp hy with h | h
      · rw [h]; exact Int.le_trans k1 h3
      · rcases List.mem_cons.mp h with h | h
        · rw [h]; exact Int.le_trans k2 h3
        · exact h2 _ (List.mem_cons_of_mem _ h)
end
end PF
namespace PF
open PySem PySem.Spec PyProof.Rows L2
section
variable {X : Cx} {a b c e : Expr} {es : List Expr} {fa fb fc f : Den} {fs : List Den} {pos p : Pos}
/-! ### min, max of two numbers; tuple, list -/
def bMin2 : List D → Option D
  | [.int i, .int j] => some (.int (if j < i then j else i))
  | _ => none
def bMax2 : List D → Option D
  | [.int i, .int j] => some (.int (if j > i then j else i))
  | _ => none
theorem cal_min2 {K : PySem.W.Frag} : Cal K (fun xs H Q => ∃ i j, xs = [.int i, .int j] ∧ Q (.int (if j < i then j else i)) H) bMin2 .ow := fun H G vs ds d Q gh r e q => by
  unfold bMin2 at e
  split at e
  · cases e
    obtain ⟨v, u, rfl, h1, h2⟩ := paired2 r
    cases h1.int
    cases h2.int
    exact ⟨_, _, rfl, q _ _ _ (Step.refl gh) (ow_int _)⟩
  · cases e
theorem cal_max2 {K : PySem.W.Frag} : Cal K (fun xs H Q => ∃ i j, xs = [.int i, .int j] ∧ Q (.int (if j > i then j else i)) H) bMax2 .ow := fun H G vs ds d Q gh r e q => by
  unfold bMax2 at e
  split at e
  · cases e
    obtain ⟨v, u, rfl, h1, h2⟩ := paired2 r
    cases h1.int
    cases h2.int
    exact ⟨_, _, rfl, q _ _ _ (Step.refl gh) (ow_int _)⟩
  · cases e
def bTuple : List D → Option D
  | [.list ds] => some (.tuple ds)
  | [.tuple ds] => some (.tuple ds)
  | _ => none
theorem cal_tuple {K : PySem.W.Frag} : Cal K (fun xs H Q => ∃ p ys, xs = [.ref p] ∧ ((SqL K H p ys ∧ TN.NewT Q H ys) ∨ (SqT K H p ys ∧ Q (.ref p) H))) bTuple .ow := fun H G vs ds d Q gh r e q => by
  unfold bTuple at e
  split at e
  · cases e
    obtain ⟨v, rfl, rv⟩ := paired1 r
    obtain ⟨a, us, rfl, h1, r1⟩ := rv.lst gh
    refine ⟨a, us, rfl, .inl ⟨.inl h1, fun l o hl ho => ?_⟩⟩
    obtain ⟨s, r⟩ := tup_new gh hl ho r1
    exact q _ _ _ s r
  · cases e
    obtain ⟨v, rfl, rv⟩ := paired1 r
    obtain ⟨a, us, rfl, h1, r1⟩ := rv.tup
    exact ⟨a, us, rfl, .inr ⟨.inl (rdM gh h1.rd), q _ _ _ (Step.refl gh) (Rp.tup h1 r1)⟩⟩
  · cases e
theorem Rb.dic {K : PySem.W.Frag} {H G : Hp} {v : V} {kvs : List (D × D)} (r : Rb K H G v (.dict ((.bool true, .none) :: kvs))) : ∃ a ep xs, v = .ref a ∧ G a = some (DN.DK a ep xs) ∧ RpKV K G xs kvs := by
  have r' := r.noL fun _ z => nomatch z
  generalize hd : PyData.dict ((.bool true, .none) :: kvs) = d at r'
  cases r' with
  | dic e r =>
    injection hd with hd
    injection hd with _ hd
    subst hd
    exact ⟨_, _, _, rfl, e, r⟩
  | _ => cases hd
theorem kv_refs {K : PySem.W.Frag} {G : Hp} : ∀ {xs : List DN.Ent} {kvs : List (D × D)}, RpKV K G xs kvs → RpAll K G (xs.map fun x => V.ref x.2.1) (kvs.map (·.1))
  | _, _, .nil => .nil
  | _, _, .cons _ r _ t => .cons r (kv_refs t)
def bList : List D → Option D
  | [.list ds] => some (.list ds)
  | [.tuple ds] => some (.list ds)
  | [.dict ((.bool true, .none) :: kvs)] => some (.list (kvs.map (·.1)))
  | _ => none
theorem cal_list {K : PySem.W.Frag} : Cal K (fun xs H Q => (∃ p ys, xs = [.ref p] ∧ (SqL K H p ys ∨ SqT K H p ys) ∧ ∀ l, H l = none → Q (.ref l) (upd H l (.lst ys))) ∨ DN.rListN xs H Q) bList .ow := fun H G vs ds d Q gh r e q => by
  unfold bList at e
  split at e
  · cases e
    obtain ⟨v, rfl, rv⟩ := paired1 r
    obtain ⟨a, us, rfl, h1, r1⟩ := rv.lst gh
    refine .inl ⟨a, us, rfl, .inl (.inl h1), fun l hl => ?_⟩
    obtain ⟨s, r⟩ := ow_new gh hl r1
    exact q _ _ _ s r
  · cases e
    obtain ⟨v, rfl, rv⟩ := paired1 r
    obtain ⟨a, us, rfl, h1, r1⟩ := rv.tup
    refine .inl ⟨a, us, rfl, .inr (.inl (rdM gh h1.rd)), fun l hl => ?_⟩
    obtain ⟨s, r⟩ := ow_new gh hl r1
    exact q _ _ _ s r
  · cases e
    obtain ⟨v, rfl, rv⟩ := paired1 r
    obtain ⟨a, ep, xs, rfl, h1, r1⟩ := rv.dic
    refine .inr ⟨a, ep, xs, rfl, gh _ _ h1, fun l hl => ?_⟩
    obtain ⟨s, r⟩ := ow_new gh hl (kv_refs r1)
    exact q _ _ _ s r
  · cases e
/-! ### range as a list, a tuple -/
def rgI (a b : Int) : List Int := (List.range (b - a).toNat).map fun i => a + (i : Nat)
def rgD (a b : Int) : List D := (rgI a b).map PyData.int
theorem rg_rel {K : PySem.W.Frag} {G : Hp} (a b : Int) : RpAll K G (rgV a b) (rgD a b) := by
  have e : rgV a b = (rgI a b).map V.int := by unfold rgV rgI; rw [List.map_map]; rfl
  rw [e]
  exact rpAll_ints _
def rgOk (a b : Int) : Bool := decide (-(2 ^ 62) ≤ a) && decide (a < 2 ^ 62) && decide (-(2 ^ 62) ≤ b) && decide (b < 2 ^ 62) && decide ((b - a).toNat ≤ 2 ^ 24)
theorem rgOk_eq {a b : Int} (h : rgOk a b = true) : RgOk a b := by
  unfold rgOk at h
  simp only [Bool.and_eq_true, decide_eq_true_eq] at h
  exact ⟨h.1.1.1.1, h.1.1.1.2, h.1.1.2, h.1.2, h.2⟩
def aRg : D → D → Option (List D)
  | .int a, .int b => if rgOk a b = true then some (rgD a b) else none
  | _, _ => none
theorem aRg_eq {x y : D} {ds : List D} (h : aRg x y = some ds) : ∃ a b, x = .int a ∧ y = .int b ∧ rgOk a b = true ∧ ds = rgD a b := by
  unfold aRg at h
  split at h
  · split at h
    · cases h; exact ⟨_, _, rfl, rfl, by assumption, rfl⟩
    · cases h
  · cases h
def dRg (f1 f2 : Den) : Env → Option (List D) := fun ρ => (f1 ρ).bind fun x => (f2 ρ).bind fun y => aRg x y
theorem dRg_eq {f1 f2 : Den} {ρ : Env} {ds : List D} (h : dRg f1 f2 ρ = some ds) : ∃ a b, f1 ρ = some (.int a) ∧ f2 ρ = some (.int b) ∧ rgOk a b = true ∧ ds = rgD a b := by
  unfold dRg at h
  cases e : f1 ρ with
  | none => rw [e] at h; cases h
  | some x =>
    cases e2 : f2 ρ with
    | none => rw [e, e2] at h; cases h
    | some y =>
      rw [e, e2] at h
      obtain ⟨a, b, rfl, rfl, h1, h2⟩ := aRg_eq h
      exact ⟨a, b, rfl, rfl, h1, h2⟩
def tRg (K : PySem.W.Frag) (g : Env → Option (List D)) : St → Hp → (Int → Int → Hp → Prop) → Prop := fun σ H Q => ∃ H0 G0 G ρ a b, EnvOk K H0 G0 H G σ ρ ∧ g ρ = some (rgD a b) ∧ rgOk a b = true ∧ ∀ H' G', Step H G H' G' → Q a b H'
theorem rg1_read {σ : St} {H : Hp} {Q : Int → Int → Hp → Prop} {H0 G0 G : Hp} {ρ : Env} {n : Int} (ok : EnvOk X.K H0 G0 H G σ ρ) (hf : fa ρ = some (.int n)) (q : ∀ H' G', Step H G H' G' → Q 0 n H') : tRg1 (tE X.K .bw fa) σ H Q :=
  ⟨H0, G0, G, ρ, _, ok, hf, fun v H' G' s r => ⟨n, Rb.int r, q H' G' s⟩⟩
theorem rg2_read {σ : St} {H : Hp} {Q : Int → Int → Hp → Prop} {H0 G0 G : Hp} {ρ : Env} {m n : Int} (ok : EnvOk X.K H0 G0 H G σ ρ) (h1 : fa ρ = some (.int m)) (h2 : fb ρ = some (.int n)) (q : ∀ H' G', Step H G H' G' → Q m n H') : tRg2 (tE X.K .bw fa) (tE X.K .bw fb) σ H Q :=
  ⟨H0, G0, G, ρ, _, ok, h1, fun v H1 G1 s r => ⟨H0, G0, G1, ρ, _, ok.step s, h2, fun u H2 G2 s2 r2 => ⟨m, n, Rb.int r, Rb.int r2, q H2 G2 (s.trans s2)⟩⟩⟩
def dLstOf (g : Env → Option (List D)) : Den := fun ρ => (g ρ).map .list
def dTupOf (g : Env → Option (List D)) : Den := fun ρ => (g ρ).map .tuple
theorem lstOf_eq {g : Env → Option (List D)} {ρ : Env} {d : D} (h : dLstOf g ρ = some d) : ∃ ds, g ρ = some ds ∧ d = .list ds := by
  unfold dLstOf at h
  cases e : g ρ with
  | none => rw [e] at h; cases h
  | some ds => rw [e] at h; cases h; exact ⟨ds, rfl, rfl⟩
theorem tupOf_eq {g : Env → Option (List D)} {ρ : Env} {d : D} (h : dTupOf g ρ = some d) : ∃ ds, g ρ = some ds ∧ d = .tuple ds := by
  unfold dTupOf at h
  cases e : g ρ with
  | none => rw [e] at h; cases h
  | some ds => rw [e] at h; cases h; exact ⟨ds, rfl, rfl⟩
theorem lstRg_fin {σ : St} {H : Hp} {Q : VK} {te : St → Hp → (Int → Int → Hp → Prop) → Prop} {H0 G0 G : Hp} {ρ : Env} {m n : Int} (ok : EnvOk X.K H0 G0 H G σ ρ) (hk : rgOk m n = true) (q : ∀ v H' G', Step H G H' G' → Res X.K H H' G' v (.list (rgD m n)) .ow → Q v H')
    (h : ∀ R : Int → Int → Hp → Prop, (∀ H' G', Step H G H' G' → R m n H') → te σ H R) : tLstRg te σ H Q :=
  h _ fun H' G' s => ⟨rgOk_eq hk, fun p hp => by
    obtain ⟨s2, r2⟩ := ow_new (K := X.K) s.gh hp (rg_rel m n)
    exact q _ _ _ (s.trans s2) (Res.back s r2)⟩
theorem tupRg_fin {σ : St} {H : Hp} {Q : VK} {te : St → Hp → (Int → Int → Hp → Prop) → Prop} {H0 G0 G : Hp} {ρ : Env} {m n : Int} (ok : EnvOk X.K H0 G0 H G σ ρ) (hk : rgOk m n = true) (q : ∀ v H' G', Step H G H' G' → Res X.K H H' G' v (.tuple (rgD m n)) .ow → Q v H')
    (h : ∀ R : Int → Int → Hp → Prop, (∀ H' G', Step H G H' G' → R m n H') → te σ H R) : TN.tTupRgN te σ H Q :=
  h _ fun H' G' s => ⟨rgOk_eq hk, fun p o hp ho => by
    obtain ⟨s2, r2⟩ := tup_new (K := X.K) s.gh hp ho (rg_rel m n)
    exact q _ _ _ (s.trans s2) (Res.back s r2)⟩
theorem st1 {es : List Expr} (h : isStar e = false) : starEach (e :: es) X.env = (false, eval e X.env) :: starEach es X.env := star_ok h _
theorem notStarCall {g : Expr} {l : List Expr} {k : List Keyword} {p : Pos} : isStar (.Call g l k p) = false := rfl
theorem e_listRg1 (hc : X.calm = true) (gl : Gl X "list") (hm : X.mg "list" = none) (gr : Gl X "range") (hr : X.mg "range" = none) (na : isStar a = false) (ha : PE X a (tE X.K .bw fa)) {p2 pos2 : Pos} :
    PE X (.Call (.Name "list" p) [.Call (.Name "range" p2) [a] [] pos2] [] pos) (tE X.K .ow (dLstOf (dRg (dC (.int 0)) fa))) :=
  peW (pe_listRg hc gl hm (prg_1 gr hr ha (st1 na)) (st1 notStarCall)) fun σ H Q ⟨H0, G0, G, ρ, d, ok, hf, q⟩ => by
    obtain ⟨ds, h1, rfl⟩ := lstOf_eq hf
    obtain ⟨m, n, h2, h3, h4, rfl⟩ := dRg_eq h1
    cases h2
    exact lstRg_fin ok h4 q fun R hR => rg1_read ok h3 hR
theorem e_listRg2 (hc : X.calm = true) (gl : Gl X "list") (hm : X.mg "list" = none) (gr : Gl X "range") (hr : X.mg "range" = none) (na : isStar a = false) (nb : isStar b = false) (ha : PE X a (tE X.K .bw fa)) (hb : PE X b (tE X.K .bw fb)) {p2 pos2 : Pos} :
    PE X (.Call (.Name "list" p) [.Call (.Name "range" p2) [a, b] [] pos2] [] pos) (tE X.K .ow (dLstOf (dRg fa fb))) :=
  peW (pe_listRg hc gl hm (prg_2 gr hr ha hb (st1 na) (st1 nb) (back_ok _ _ _ (by simp [nb]))) (st1 notStarCall)) fun σ H Q ⟨H0, G0, G, ρ, d, ok, hf, q⟩ => by
    obtain ⟨ds, h1, rfl⟩ := lstOf_eq hf
    obtain ⟨m, n, h2, h3, h4, rfl⟩ := dRg_eq h1
    exact lstRg_fin ok h4 q fun R hR => rg2_read ok h2 h3 hR
theorem e_tupRg1 (hc : X.calm = true) (gl : Gl X "tuple") (hm : X.mg "tuple" = none) (gr : Gl X "range") (hr : X.mg "range" = none) (na : isStar a = false) (ha : PE X a (tE X.K .bw fa)) {p2 pos2 : Pos} :
    PE X (.Call (.Name "tuple" p) [.Call (.Name "range" p2) [a] [] pos2] [] pos) (tE X.K .ow (dTupOf (dRg (dC (.int 0)) fa))) :=
  peW (TN.pe_tupRgN hc gl hm (prg_1 gr hr ha (st1 na)) (st1 notStarCall)) fun σ H Q ⟨H0, G0, G, ρ, d, ok, hf, q⟩ => by
    obtain ⟨ds, h1, rfl⟩ := tupOf_eq hf
    obtain ⟨m, n, h2, h3, h4, rfl⟩ := dRg_eq h1
    cases h2
    exact tupRg_fin ok h4 q fun R hR => rg1_read ok h3 hR
theorem e_tupRg2 (hc : X.calm = true) (gl : Gl X "tuple") (hm : X.mg "tuple" = none) (gr : Gl X "range") (hr : X.mg "range" = none) (na : isStar a = false) (nb : isStar b = false) (ha : PE X a (tE X.K .bw fa)) (hb : PE X b (tE X.K .bw fb)) {p2 pos2 : Pos} :
    PE X (.Call (.Name "tuple" p) [.Call (.Name "range" p2) [a, b] [] pos2] [] pos) (tE X.K .ow (dTupOf (dRg fa fb))) :=
  peW (TN.pe_tupRgN hc gl hm (prg_2 gr hr ha hb (st1 na) (st1 nb) (back_ok _ _ _ (by simp [nb]))) (st1 notStarCall)) fun σ H Q ⟨H0, G0, G, ρ, d, ok, hf, q⟩ => by
    obtain ⟨ds, h1, rfl⟩ := tupOf_eq hf
    obtain ⟨m, n, h2, h3, h4, rfl⟩ := dRg_eq h1
    exact tupRg_fin ok h4 q fun R hR => rg2_read ok h2 h3 hR
/-! ### isinstance -/
inductive Kd where
  | int | bool | str | list | tuple
def Kd.nm : Kd → String
  | .int => "int" | .bool => "bool" | .str => "str" | .list => "list" | .tuple => "tuple"
def tyD : D → String
  | .none => "NoneType" | .bool _ => "bool" | .int _ => "int" | .str _ => "str" | .list _ => "list" | .tuple _ => "tuple" | .dict _ => "dict"
def isK : Kd → D → Bool
  | .int, .int _ => true
  | .int, .bool _ => true
  | .bool, .bool _ => true
  | .str, .str _ => true
  | .list, .list _ => true
  | .tuple, .tuple _ => true
  | _, _ => false
theorem kit_all (k : Kd) (d : D) : kitB (tyD d) k.nm = some (isK k d) := by
  cases k <;> cases d <;> (simp only [tyD, Kd.nm, isK]; decide +kernel)
theorem tyX_of {K : PySem.W.Frag} {H G : Hp} {v : V} {d : D} (hd : ∀ r, d ≠ .dict r) (gh : Same G H) (r : Rb K H G v d) : TyX K H v (.type (tyD d)) := by
  rcases r with r | ⟨xs, rfl, a, vs, rfl, h, _⟩
  · cases r with
    | non => exact .base .non
    | bl b => exact .base (.bl b)
    | int i => exact .base (.int i)
    | str x => exact .base (.str x)
    | lst h _ =>
      rcases rdM gh h with h | ⟨o, h⟩
      · exact .base (.lst h)
      · exact .base (.frz h)
    | tup h _ =>
      rcases rdM gh h.rd with h | ⟨o, h⟩
      · exact .base (.tup h)
      · exact .fTuple h
    | scr h => exact absurd rfl (hd _)
    | dic h _ => exact absurd rfl (hd _)
  · exact .base (.lst h)
def aIsi (ks : List Kd) : D → Option D
  | .dict _ => none
  | d => some (.bool (ks.any (isK · d)))
def dIsi (ks : List Kd) (f : Den) : Den := fun ρ => (f ρ).bind (aIsi ks)
theorem isi_eq {ks : List Kd} {ρ : Env} {d : D} (h : dIsi ks f ρ = some d) : ∃ x, f ρ = some x ∧ d = .bool (ks.any (isK · x)) ∧ ∀ r, x ≠ .dict r := by
  unfold dIsi at h
  cases e : f ρ with
  | none => rw [e] at h; cases h
  | some x =>
    rw [e] at h
    have h' : aIsi ks x = some d := h
    cases x <;> first | (cases h'; exact ⟨_, rfl, rfl, fun _ z => nomatch z⟩) | cases h'
theorem e_isi {T : Str} {k : Kd} {pT : Pos} (gl : Gl X "isinstance") (hm : X.mg "isinstance" = none) (gT : Gl X T) (hT : X.mg T = none) (hv : bootBuiltins T = some (.type k.nm)) (hn : T ≠ "__name__") (hdb : (T == ("__debug__" : Str)) = false) (hs : isStar a = false) (ha : PE X a (tE X.K .bw fa)) :
    PE X (.Call (.Name "isinstance" p) [a, .Name T pT] [] pos) (tE X.K .ow (dIsi [k] fa)) :=
  peW (pe_callB call_isi gl hm boot_isinstance (pa_cons ha (pa_cons (pe_bltn gT hT hv (show RelV (.ty k.nm) (.type k.nm) from rfl) hn hdb) pa_nil (st1 rfl)) (st1 hs)) (by decide) (by decide) (st1 hs) (back_ok _ _ _ rfl)) fun σ H Q ⟨H0, G0, G, ρ, d, ok, hf, q⟩ => by
    obtain ⟨x, h1, rfl, hnd⟩ := isi_eq hf
    refine ⟨H0, G0, G, ρ, x, ok, h1, fun v H1 G1 s r => ⟨v, .ty k.nm, _, _, _, rfl, .ty _, tyX_of hnd s.gh r, kit_ty (kit_all k x), ?_⟩⟩
    have := q (.bl ([k].any (isK · x))) H1 G1 s (ow_bool _)
    simpa using this
/-! two or more classes: a tuple of names -/
inductive KNames (X : Cx) : List Expr → List Kd → Prop where
  | nil : KNames X [] []
  | cons {T : Str} {k : Kd} {pT : Pos} {r : List Expr} {ks : List Kd} (gT : Gl X T) (hT : X.mg T = none) (hv : bootBuiltins T = some (.type k.nm)) (hn : T ≠ "__name__") (hdb : (T == ("__debug__" : Str)) = false) (t : KNames X r ks) : KNames X (.Name T pT :: r) (k :: ks)
def tKs (ks : List Kd) : TA := fun _ H Q => Q (ks.map fun k => V.ty k.nm) H
theorem pa_ks : ∀ {es : List Expr} {ks : List Kd}, KNames X es ks → PA X es (tKs ks)
  | _, _, .nil => pa_nil
  | _, _, @KNames.cons _ T k pT r ks gT hT hv hn hdb t => paW (pa_cons (pe_bltn gT hT hv (show RelV (.ty k.nm) (.type k.nm) from rfl) hn hdb) (pa_ks t) (st1 rfl)) fun σ H Q h => h
theorem ks_len : ∀ {es : List Expr} {ks : List Kd}, KNames X es ks → es.length = ks.length
  | _, _, .nil => rfl
  | _, _, .cons _ _ _ _ _ t => by simp [ks_len t]
theorem kit_any {K : PySem.W.Frag} (d : D) : ∀ ks : List Kd, PySem.W.kitAny K (.type (tyD d)) (ks.map fun k => Value.type k.nm) = some (ks.any (isK · d))
  | [] => rfl
  | k :: ks => kitAny_cons (b := isK k d) (kit_ty (kit_all k d)) (fun hb => by rw [kit_any d ks, List.any_cons, hb, Bool.false_or]) (fun hb => by rw [List.any_cons, hb, Bool.true_or])
theorem cls_all : ∀ ks : List Kd, Paired ClsV (ks.map fun k => V.ty k.nm) (ks.map fun k => Value.type k.nm)
  | [] => .nil
  | k :: ks => .cons (.ty _) (cls_all ks)
theorem e_isiT {ks : List Kd} {j : Nat} {pT : Pos} (gl : Gl X "isinstance") (hm : X.mg "isinstance" = none) (hk : KNames X es ks) (hl : ks.length ≤ 1000) (hs : isStar a = false) (ha : PE X a (tE X.K .bw fa)) :
    PE X (.Call (.Name "isinstance" p) [a, .Tuple es j pT] [] pos) (tE X.K .ow (dIsi ks fa)) :=
  peW (pe_callB call_isiT gl hm boot_isinstance (pa_cons ha (pa_cons (pe_tup (pa_ks hk)) pa_nil (st1 rfl)) (st1 hs)) (by decide) (by decide) (st1 hs) (back_ok _ _ _ rfl)) fun σ H Q ⟨H0, G0, G, ρ, d, ok, hf, q⟩ => by
    obtain ⟨x, h1, rfl, hnd⟩ := isi_eq hf
    refine ⟨H0, G0, G, ρ, x, ok, h1, fun v H1 G1 s r => ⟨?_, fun p hp => ?_⟩⟩
    · rw [List.length_map]
      exact Nat.le_of_lt (small1000 hl)
    · have s2 : Step H1 G1 (upd H1 p (.tup (ks.map fun k => V.ty k.nm))) G1 := Step.new' s.gh hp
      exact ⟨v, p, _, _, _, _, rfl, upd_same, cls_all ks, tyX_of hnd s2.gh (Rb.step r s2), kit_any x ks, q _ _ _ (s.trans s2) (ow_bool _)⟩
/-! ### defs of the program -/
def spF (K : PySem.W.Frag) (n : Nat) (f : List D → Option D) : Sp := fun vs H Q _ => ∃ G ds d, Same G H ∧ RpAll K G vs ds ∧ ds.length = n ∧ f ds = some d ∧ ∀ v H' G', Step H G H' G' → Rp K G' v d → Q v H'
theorem e_call {x : Str} {k n : Nat} {fa' : Addr} {fd : FuncData} {ps : List Str} {g : List D → Option D} (F : FnOk X.prog X.w X.K X.mg X.base CX0 k fa' fd ps (spF X.K n g)) (hr : Room k X.A) (gl : Gl X x) (hm : X.mg x = some (.ref fa')) (hk : PySem.W.keepIn X.K (.ref fa') = true) (hb : Binds X.K fd ps [])
    (hdb : (x == ("__debug__" : Str)) = false) (hl : fs.length = n) (hs : (e :: es).all (fun e => !isStar e) = true) (ha : PA X (e :: es) (tA X.K (dArgs fs))) : PE X (.Call (.Name x p) (e :: es) [] pos) (tE X.K .fz (dCall g fs)) := by
  simp only [List.all_cons, Bool.and_eq_true] at hs
  exact peW (pe_call F hr gl hm hk hb .nil pass0 ha hdb (star_ok (by simpa using hs.1) _) (back_ok _ _ _ hs.2)) fun σ H Q ⟨H0, G0, G, ρ, d, ok, hf, q⟩ => by
    obtain ⟨ds, h1, h2⟩ := dCall_eq hf
    refine ⟨H0, G0, G, ρ, ds, ok, h1, fun vs H1 G1 s r => ?_⟩
    show spF X.K n g (vs ++ []) H1 Q E0
    rw [List.append_nil]
    exact ⟨G1, ds, d, s.gh, r, by rw [dArgs_len h1, hl], h2, fun v H' G' s' r' => q v H' G' (s.trans s') r'⟩
end
end PF
namespace PF
open PySem PySem.Spec PyProof.Rows L2
/-! ### enumerate of a tuple: made, and its turns -/
set_option maxHeartbeats 1000000 in
theorem meets_enumT (l : Addr) (items : Array Value) :
    Meets (Builtin.«enumerate.__new__» ⟨[.type "enumerate", .ref l], []⟩) (fun _ R s => s.heap.IsTuple l items ∧
      R (.ok (.ret (.ref (s.heap.push { cls := .type "tuple_iterator", data := .fields #[.ref l, .int 0 0] }).objs.size)))
        { s with heap := (s.heap.push { cls := .type "tuple_iterator", data := .fields #[.ref l, .int 0 0] }).push { cls := .type "enumerate", data := .fields #[.none, .bool false, .ref s.heap.objs.size, rawInt 0, .none, .none] } }) :=
  .of_wp fun prog w A R s h => by
    obtain ⟨hp, g, d, tk, os⟩ := s; obtain ⟨h1, h⟩ := h
    have hsub := sub_enumerate
    have q1 : ∀ {A' : Around} {E : Value → Shared → Prop} {Q : Value → Shared → Prop}, Q (.ref hp.objs.size) ⟨hp.push { cls := .type "tuple_iterator", data := .fields #[.ref l, .int 0 0] }, g, d, tk, os⟩ → wpAny (model prog w) A' (pyIter (.ref l)) Q E ⟨hp, g, d, tk, os⟩ :=
      fun q => (begins_tuple l items).iter prog w _ _ ⟨hp, g, d, tk, os⟩ _ h1 q
    wp_walk using q1
    refine wpAny_stack_any fun st => wpAny_pure ?_
    split
    · rename_i c _ _ _ _ _
      cases (c == Value.type "enumerate")
      · wp_walk using q1
        exact ⟨_, rfl, h⟩
      · wp_walk using q1
        exact ⟨_, rfl, h⟩
    · wp_walk using q1
      exact ⟨_, rfl, h⟩
theorem call_enumT {prog : Program} {w : World} {A : Around} {E : Value → Shared → Prop} {s : Shared} {l : Addr} {items : Array Value} {Q : Value → Shared → Prop} (hL : s.heap.IsTuple l items)
    (h : ∀ h', IsEnum h' (s.heap.objs.size + 1) s.heap.objs.size 0 .none → h'.IsTupleIter s.heap.objs.size l 0 → h'.objs.size = s.heap.objs.size + 2 →
      (∀ b o, s.heap.get? b = some o → h'.get? b = some o) → Q (.ref (s.heap.objs.size + 1)) { s with heap := h' }) :
    wpAny (model prog w) A (call (.type "enumerate") [.ref l]) Q E s := by
  refine callType_new F.called_enumerate (by decide) (F.typeCall_enumerate_1 _) (F.newCall_enumerate_1 _) (fun obj => F.args_object_init_2 obj _) F.entry_enumerate_new
    (meets_enumT l items) ⟨hL, ?_⟩
  have hz : (s.heap.push { cls := .type "tuple_iterator", data := .fields #[.ref l, .int 0 0] }).objs.size = s.heap.objs.size + 1 := Heap.size_push ..
  show _ ∧ _
  rw [hz]
  have he : IsEnum ((s.heap.push { cls := .type "tuple_iterator", data := .fields #[.ref l, .int 0 0] }).push
      { cls := .type "enumerate", data := .fields #[.none, .bool false, .ref s.heap.objs.size, rawInt 0, .none, .none] }) (s.heap.objs.size + 1) s.heap.objs.size 0 .none := by
    have := Heap.get?_push_size (s.heap.push { cls := .type "tuple_iterator", data := .fields #[.ref l, .int 0 0] })
      (o := { cls := .type "enumerate", data := .fields #[.none, .bool false, .ref s.heap.objs.size, rawInt 0, .none, .none] }) rfl
    rw [hz] at this; exact this
  refine ⟨⟨_, he, rfl⟩, h _ he ⟨_, Heap.get?_push_of_some _ (Heap.get?_push_size _ rfl), rfl, rfl⟩ (by rw [Heap.size_push, hz]) fun b o x => Heap.get?_push_of_some _ (Heap.get?_push_of_some _ x)⟩
def IteT (K : PySem.W.Frag) (a : Addr) : It :=
  ⟨fun i H => ∃ (xs : List V) (x : V), SqT K H a xs ∧ xs[i]? = some x, fun i H v H' => ∃ T x, v = .ref T ∧ H T = none ∧ H' = upd H T (.tup [.int (i : Nat), x]) ∧ ∀ xs, SqT K H a xs → xs[i]? = some x, fun i H => ∃ xs : List V, SqT K H a xs ∧ xs.length ≤ i⟩
theorem turn_enumT {P : Program} {w : World} {K : PySem.W.Frag} {elts : List Expr} {kk : Nat} {tpos : Pos} (a e it : Addr) :
    Turn P w K (.Tuple elts kk tpos) (IteT K a) [e, it] e (fun i h => (∃ old, IsEnum h e it ((i : Nat) : Int) old) ∧ h.IsTupleIter it a i ∧ e ≠ it ∧ a ≠ it ∧ a ≠ e) where
  mem := by simp
  obj := fun i h st b hb => by
    obtain ⟨⟨old, he⟩, ⟨o, ho, hc, hd⟩, _⟩ := st
    have e' : b = e ∨ b = it := by simpa using hb
    rcases e' with z | z
    · rw [z]; exact ⟨_, he, fun v q => nomatch q⟩
    · rw [z]; exact ⟨o, ho, fun v q => by rw [hd] at q; cases q⟩
  keep := fun i h h' st k => let ⟨⟨old, he⟩, hi, hne⟩ := st; ⟨⟨old, k e (by simp) _ he⟩, hi.at fun o q => k it (by simp) o q, hne⟩
  item := by
    intro X hP hw hK hc i pins s σ H E I hf st hg
    subst hP hw hK
    obtain ⟨⟨old, he⟩, hit, hne, hai, hae⟩ := st
    obtain ⟨xs, x, hq, hx⟩ := hg
    obtain ⟨its, rv, p, hz⟩ := I.tuple hq
    obtain ⟨u, hu, ru⟩ := rv.get hx
    have hel : e < s.heap.objs.size := Heap.lt_size he
    have hil : it < s.heap.objs.size := by obtain ⟨_, q, _⟩ := hit; exact Heap.lt_size q
    have hIT : s.heap.IsTuple a its.toArray := p
    have hlt : i < its.toArray.size := by
      have := (List.getElem?_eq_some_iff.mp hu).1
      simpa using this
    refine wpAny_pyNext_enum_itemD (Draws.tuple (A := X.A.in1) (I.ok.hd hc) it a hai its.toArray) he ⟨hit, hIT⟩ hlt hne (by simp [hne, Ne.symm hae]) fun u' h' tk hu' ho hst hT hsz hk => ?_
    have eu : u' = u := by
      have q1 : its.toArray[i]? = some u := by simpa using hu
      exact Option.some.inj (hu'.symm.trans q1)
    subst eu
    refine ⟨_, rfl, wpAny_letOwnedTupleGo_enum (s := { s with heap := h', toks := tk + 1 }) ho fun h'' he' sb => ?_⟩
    have hT2 : h''.get? s.heap.objs.size = some { cls := .type "tuple", data := .seq #[.int i tk, u'] } := (sb.2 _ (Nat.ne_of_gt hel)).trans hT
    have new : ObjOk X.prog X.w (upd H s.heap.objs.size (.tup [.int (i : Nat), x])) h'' s.heap.objs.size (.tup [.int (i : Nat), x]) :=
      ⟨by show 2 ≤ sizeLine; decide, [.int i tk, u'], .cons ⟨_, rfl⟩ (.cons ru .nil), ⟨_, hT2, rfl, _, rfl⟩⟩
    have I1 : Inv X pins σ (upd H s.heap.objs.size (.tup [.int (i : Nat), x])) { s with heap := h'', toks := tk + 1 } :=
      I.turnedNew (ch := [e, it]) (fun b ob hb q => (sb.2 b (fun z => hb (by simp [z]))).trans (hk b ob (fun z => hb (by simp [z])) (fun z => hb (by simp [z])) q)) hf (Nat.le_refl _) new
    refine ⟨.ref s.heap.objs.size, _, I1, rfl, ⟨_, x, rfl, I.hok.fresh (Nat.le_refl _), rfl, fun ys hy => by rw [I.tuple_inj hy hq]; exact hx⟩, ⟨⟨u', ?_⟩, hst.1.at fun o q => (sb.2 it (Ne.symm hne)).trans q, hne, hai, hae⟩, fun b hb => ?_⟩
    · have e1 : ((i + 1 : Nat) : Int) = (i : Int) + 1 := by omega
      rw [e1]; exact he'
    · have hb' : b < s.heap.objs.size := by
        have e' : b = e ∨ b = it := by simpa using hb
        rcases e' with z | z
        · rw [z]; exact hel
        · rw [z]; exact hil
      rw [upd_ne (Nat.ne_of_lt hb')]
      exact (hf b hb).1
  done := by
    intro X hP hw hK hc i pins s σ H E I hf st hg
    subst hP hw hK
    obtain ⟨⟨old, he⟩, hit, hne, hai, hae⟩ := st
    obtain ⟨xs, hq, hx⟩ := hg
    obtain ⟨its, rv, p, hz⟩ := I.tuple hq
    obtain ⟨f0, f1, f2, f3, f4, f5⟩ := hf it (by simp)
    have hl := rv.length
    have hIT : s.heap.IsTuple a its.toArray := p
    refine wpAny_pyNext_enum_endD (n := i) (fp := [it, a]) (P := fun _ _ => True) (St := fun j h => j = i ∧ h.IsTupleIter it a i ∧ h.IsTuple a its.toArray) ?_ he ⟨rfl, hit, hIT⟩ fun h' eb => ⟨rfl, I.turned (t' := s.toks) (fun b o hb q => eb b o hb q) f0 f1 f3 f4 f5⟩
    exact {
      live := fun _ _ st => let ⟨o, ho, _⟩ := st.2.1; ⟨o, ho⟩
      frame := fun _ _ _ st hk => ⟨st.1, st.2.1.at fun o e => hk it (by simp) o e, st.2.2.at fun o e => hk a (by simp) o e⟩
      item := fun j s Q E hi st hQ => absurd hi (by rw [st.1]; exact Nat.lt_irrefl _)
      done := fun s Q E st hE => wpAny_nextOf_tuple_end (I.ok.hd hc) st.2.1 st.2.2 (by simp; omega) hE }
  self := fun A i s Q E st h => let ⟨⟨_, he⟩, _⟩ := st; wpAny_pyIter_enum he h
def iEnumT (K : PySem.W.Frag) (ta : TA) : TI := fun σ H R => ta σ H fun vs H1 => ∃ a xs, vs = [.ref a] ∧ SqT K H1 a xs ∧ R (IteT K a) H1
theorem pi_enumT {X : Cx} {e : Expr} {ta : TA} {p pos tpos : Pos} {elts : List Expr} {kk : Nat} (hg : Gl X "enumerate") (hm : X.mg "enumerate" = none) (ha : PA X [e] ta) (hs : starEach [e] X.env = [(false, eval e X.env)]) :
    PI X (.Tuple elts kk tpos) (.Call (.Name "enumerate" p) [e] [] pos) (iEnumT X.K ta) := by
  refine ⟨fun pins s σ H R I h => ?_⟩
  refine Call_ (ld_blt I hg hm boot_enumerate (PyProof.Rows.callWith_type1 (thn (ha.run pos pins s σ H _ I h) fun us s1 ⟨vs, H1, I1, r1, q1⟩ => ?_) hs rfl))
  obtain ⟨a, xs, ex, hq, q⟩ := q1
  subst ex
  cases r1 with
  | cons r rr =>
    cases rr
    cases r
    obtain ⟨its, rv, p', hz⟩ := I1.tuple hq
    have hIT : s1.heap.IsTuple a its.toArray := p'
    have hal : a < s1.heap.objs.size := by obtain ⟨_, q, _⟩ := hIT; exact Heap.lt_size q
    refine call_enumT hIT fun h' he hit hsz hk => wpAny_pyIter_enum he ?_
    have I2 : Inv X pins σ H1 { s1 with heap := h' } := I1.kept (t' := s1.toks) hk
    refine ⟨s1.heap.objs.size + 1, [s1.heap.objs.size + 1, s1.heap.objs.size], _, _, H1, rfl, I2, turn_enumT a (s1.heap.objs.size + 1) s1.heap.objs.size, ⟨⟨.none, he⟩, hit, Nat.succ_ne_self _, Nat.ne_of_lt hal, Nat.ne_of_lt (Nat.lt_succ_of_lt hal)⟩, fun b hb => ?_, q⟩
    have e' : b = s1.heap.objs.size + 1 ∨ b = s1.heap.objs.size := by simpa using hb
    have hle : s1.heap.objs.size ≤ b := by
      rcases e' with z | z
      · rw [z]; exact Nat.le_add_right _ _
      · rw [z]; exact Nat.le_refl _
    exact I1.fpOk hle (I1.hok.fresh hle)
end PF
namespace PF
open PySem PySem.Spec PyProof.Rows L2 RZ
/-! ### what is walked, as a list of data -/
/-- the pairs that enumerate and zip make are plain tuples: their items are data -/
def RpW (pr : Bool) (K : PySem.W.Frag) (G : Hp) (v : V) (d : D) : Prop := Rp K G v d ∨ (pr = true ∧ ∃ a vs ds, v = .ref a ∧ d = .tuple ds ∧ Rd G a (.tup vs) ∧ RpAll K G vs ds)
structure ItOk (pr : Bool) (K : PySem.W.Frag) (G1 : Hp) (C : Hp → Prop) (J : It) (items : List D) : Prop where
  len : items.length ≤ sizeLine
  stop : ∀ H G i, C H → Same G1 G → Same G H → items.length = i → J.stop i H
  go : ∀ H G i d, C H → Same G1 G → Same G H → items[i]? = some d → J.go i H ∧ ∀ x H', J.yld i H x H' → ∃ G', Step H G H' G' ∧ RpW pr K G' x d
def tI (pr : Bool) (K : PySem.W.Frag) (m : Md) (it : Env → Option (List D)) : TI := fun σ H R => ∃ H0 G0 G ρ items, EnvOk K H0 G0 H G σ ρ ∧ it ρ = some items ∧ ∀ J H' G', Step H G H' G' → ItOk pr K G' (match m with | .bw => Same H' | _ => fun _ => True) J items → R J H'
section
variable {X : Cx} {pr : Bool} {tg a b c e : Expr} {es : List Expr} {fa fb fc f : Den} {fs : List Den} {pos p : Pos} {m : Md}
theorem piW {wi wi' : TI} (h : PI X tg e wi) (w : ∀ σ H R, wi' σ H R → wi σ H R) : PI X tg e wi' := ⟨fun pins s σ H R I q => h.run pins s σ H R I (w σ H R q)⟩
theorem PI.or {wi wi' : TI} (h : PI X tg e wi) (h' : PI X tg e wi') : PI X tg e (fun σ H R => wi σ H R ∨ wi' σ H R) := ⟨fun pins s σ H R I q => by
  rcases q with q | q
  · exact h.run pins s σ H R I q
  · exact h'.run pins s σ H R I q⟩
/-- lists and tuples are no longer than may be: what the machine knows, for the reading -/
theorem piL {wi : TI} (h : PI X tg e wi) : PI X tg e (fun σ H R => wi σ H fun J H1 => ∃ n, ((∃ a xs, (SqL X.K H1 a xs ∨ SqT X.K H1 a xs) ∧ n ≤ xs.length) ∨ n ≤ sizeLine ∨ ∃ a ep xs, H1 a = some (DN.DK a ep xs) ∧ n ≤ xs.length) ∧ (n ≤ sizeLine → R J H1)) := ⟨fun pins s σ H R I q => by
  refine thn (h.run pins s σ H _ I q) fun v s1 h1 => thn h1 fun itv s2 ⟨it, fp, tn, J, H', e1, I', T, t0, ff, n, hn, r⟩ => ?_
  refine ⟨it, fp, tn, J, H', e1, I', T, t0, ff, r ?_⟩
  rcases hn with ⟨a, xs, hx | hx, hl⟩ | hn | ⟨a, ep, xs, hx, hl⟩
  · obtain ⟨_, _, _, z⟩ := I'.list hx
    exact Nat.le_trans hl z
  · obtain ⟨_, _, _, z⟩ := I'.tuple hx
    exact Nat.le_trans hl z
  · exact hn
  · exact Nat.le_trans hl (DN.DK.at I'.hok hx).2.1⟩
def dItems0 (f : Den) : Env → Option (List D) := fun ρ => match f ρ with | some (.list ds) => some ds | some (.tuple ds) => some ds | _ => none
def dItems (f : Den) : Env → Option (List D) := fun ρ => match f ρ with | some (.list ds) => some ds | some (.tuple ds) => some ds | some (.dict ((.bool true, .none) :: kvs)) => some (kvs.map (·.1)) | _ => none
theorem it_dic {pr : Bool} {K : PySem.W.Frag} {G : Hp} {C : Hp → Prop} {a : Addr} {ep : Nat} {xs : List DN.Ent} {kvs : List (D × D)} (h : ∀ H G', C H → Same G G' → Same G' H → H a = some (DN.DK a ep xs)) (r : RpKV K G xs kvs) (hl : kvs.length ≤ sizeLine) : ItOk pr K G C (DN.Itn a ep xs) (kvs.map (·.1)) where
  len := by rw [List.length_map]; exact hl
  stop := fun H G' i hC g1 gh hi => ⟨h H G' hC g1 gh, by rw [List.length_map] at hi; rw [kv_len r]; exact Nat.le_of_eq hi⟩
  go := fun H G' i d hC g1 gh hi => by
    rw [List.getElem?_map] at hi
    obtain ⟨p, hp, e⟩ := Option.map_eq_some_iff.mp hi
    subst e
    obtain ⟨x, h1, h2, h3, h4⟩ := kv_get r hp
    refine ⟨⟨h H G' hC g1 gh, (List.getElem?_eq_some_iff.mp h1).1⟩, fun y H' ⟨e1, q, e2, e3⟩ => ?_⟩
    subst e1 e3
    rw [h1] at e2
    cases e2
    exact ⟨G', Step.refl gh, .inl (Rp.mono g1 h3)⟩
theorem RpAll.atV {K : PySem.W.Frag} {G : Hp} {vs : List V} {ds : List D} (r : RpAll K G vs ds) {i : Nat} {d : D} {v : V} (h : ds[i]? = some d) (h2 : vs[i]? = some v) : Rp K G v d := by
  obtain ⟨v', h1, h3⟩ := r.get i h
  rw [h1] at h2
  cases h2
  exact h3
theorem it_tup {pr : Bool} {K : PySem.W.Frag} {G : Hp} {C : Hp → Prop} {a : Addr} {vs : List V} {ds : List D} (h : Rd G a (.tup vs)) (r : RpAll K G vs ds) (hl : ds.length ≤ sizeLine) : ItOk pr K G C (Itt K a) ds where
  len := hl
  stop := fun H G' i _ g1 gh hi => ⟨vs, .inl (rdM (g1.trans gh) h), by rw [r.length]; exact Nat.le_of_eq hi⟩
  go := fun H G' i d _ g1 gh hi => by
    obtain ⟨v, h1, h2⟩ := r.get i hi
    refine ⟨⟨vs, v, .inl (rdM (g1.trans gh) h), h1⟩, fun x H' ⟨e1, e2⟩ => ?_⟩
    subst e1
    have e3 := e2 vs (.inl (rdM (g1.trans gh) h))
    exact ⟨G', Step.refl gh, .inl ((r.atV hi e3).mono g1)⟩
theorem it_lst {pr : Bool} {K : PySem.W.Frag} {G : Hp} {C : Hp → Prop} {a : Addr} {vs : List V} {ds : List D} (h : ∀ H G', C H → Same G G' → Same G' H → Rd H a (.lst vs)) (r : RpAll K G vs ds) (hl : ds.length ≤ sizeLine) : ItOk pr K G C (Itl K a) ds where
  len := hl
  stop := fun H G' i hC g1 gh hi => ⟨vs, .inl (h H G' hC g1 gh), by rw [r.length]; exact Nat.le_of_eq hi⟩
  go := fun H G' i d hC g1 gh hi => by
    obtain ⟨v, h1, h2⟩ := r.get i hi
    refine ⟨⟨vs, v, .inl (h H G' hC g1 gh), h1⟩, fun x H' ⟨e1, e2⟩ => ?_⟩
    subst e1
    have e3 := e2 vs (.inl (h _ G' hC g1 gh))
    exact ⟨G', Step.refl gh, .inl ((r.atV hi e3).mono g1)⟩
theorem i_seq (he : PE X e (tE X.K .fz f)) : PI X tg e (tI pr X.K .fz (dItems f)) :=
  piW (piL (PI.or (pi_list he) (PI.or (pi_tup he) (DN.pi_n he)))) fun σ H R ⟨H0, G0, G, ρ, items, ok, hf, q⟩ => by
    unfold dItems at hf
    split at hf
    · rename_i ds e1
      cases hf
      refine .inl ⟨H0, G0, G, ρ, _, ok, e1, fun v H1 G1 s r => ?_⟩
      cases r with
      | lst h rr => exact ⟨_, rfl, ⟨_, .inl (rdM s.gh h)⟩, items.length, .inl ⟨_, _, .inl (.inl (rdM s.gh h)), by rw [rr.length]; exact Nat.le_refl _⟩, fun hl => q _ _ _ s (it_lst (fun H G' _ g1 gh => rdM (g1.trans gh) h) rr hl)⟩
    · rename_i ds e1
      cases hf
      refine .inr (.inl ⟨H0, G0, G, ρ, _, ok, e1, fun v H1 G1 s r => ?_⟩)
      cases r with
      | tup h rr => exact ⟨_, rfl, ⟨_, .inl (rdM s.gh h.rd)⟩, items.length, .inl ⟨_, _, .inr (.inl (rdM s.gh h.rd)), by rw [rr.length]; exact Nat.le_refl _⟩, fun hl => q _ _ _ s (it_tup h.rd rr hl)⟩
    · rename_i kvs e1
      cases hf
      refine .inr (.inr ⟨H0, G0, G, ρ, _, ok, e1, fun v H1 G1 s r => ?_⟩)
      obtain ⟨a, ep, xs, rfl, h, rr⟩ := Rb.dic (.inl r : Rb X.K H1 G1 v _)
      exact ⟨a, ep, xs, rfl, s.gh _ _ h, kvs.length, .inr (.inr ⟨a, ep, xs, s.gh _ _ h, by rw [kv_len rr]; exact Nat.le_refl _⟩), fun hl => q _ _ _ s (it_dic (fun H G' _ g1 gh => (g1.trans gh) _ _ h) rr hl)⟩
    · cases hf
theorem i_seqB (he : PE X e (tE X.K .bw f)) : PI X tg e (tI pr X.K .bw (dItems f)) :=
  piW (piL (PI.or (pi_list he) (PI.or (pi_tup he) (DN.pi_n he)))) fun σ H R ⟨H0, G0, G, ρ, items, ok, hf, q⟩ => by
    unfold dItems at hf
    split at hf
    · rename_i ds e1
      cases hf
      refine .inl ⟨H0, G0, G, ρ, _, ok, e1, fun v H1 G1 s r => ?_⟩
      obtain ⟨a, vs, rfl, h, rr⟩ := Rb.lst s.gh r
      exact ⟨_, rfl, ⟨_, .inl h⟩, items.length, .inl ⟨_, _, .inl (.inl h), by rw [rr.length]; exact Nat.le_refl _⟩, fun hl => q _ _ _ s (it_lst (fun H G' hC g1 gh => rdM hC h) rr hl)⟩
    · rename_i ds e1
      cases hf
      refine .inr (.inl ⟨H0, G0, G, ρ, _, ok, e1, fun v H1 G1 s r => ?_⟩)
      obtain ⟨a, vs, rfl, h, rr⟩ := Rb.tup r
      exact ⟨_, rfl, ⟨_, .inl (rdM s.gh h.rd)⟩, items.length, .inl ⟨_, _, .inr (.inl (rdM s.gh h.rd)), by rw [rr.length]; exact Nat.le_refl _⟩, fun hl => q _ _ _ s (it_tup h.rd rr hl)⟩
    · rename_i kvs e1
      cases hf
      refine .inr (.inr ⟨H0, G0, G, ρ, _, ok, e1, fun v H1 G1 s r => ?_⟩)
      obtain ⟨a, ep, xs, rfl, h, rr⟩ := Rb.dic r
      exact ⟨a, ep, xs, rfl, s.gh _ _ h, kvs.length, .inr (.inr ⟨a, ep, xs, s.gh _ _ h, by rw [kv_len rr]; exact Nat.le_refl _⟩), fun hl => q _ _ _ s (it_dic (fun H G' _ g1 gh => (g1.trans gh) _ _ h) rr hl)⟩
    · cases hf
/-! ranges -/
theorem rgD_length (a b : Int) : (rgD a b).length = (b - a).toNat := by unfold rgD rgI; rw [List.length_map, List.length_map, List.length_range]
theorem rgD_get {a b : Int} {i : Nat} {d : D} (h : (rgD a b)[i]? = some d) : i < (b - a).toNat ∧ d = .int (a + (i : Nat)) := by
  have hi : i < (rgD a b).length := (List.getElem?_eq_some_iff.mp h).1
  rw [rgD_length] at hi
  refine ⟨hi, ?_⟩
  unfold rgD rgI at h
  rw [List.map_map, List.getElem?_map, List.getElem?_range hi] at h
  cases h
  rfl
theorem it_rg {pr : Bool} {K : PySem.W.Frag} {G : Hp} {C : Hp → Prop} {a b : Int} (h : rgOk a b = true) : ItOk pr K G C (Itr a (b - a).toNat) (rgD a b) where
  len := by
    rw [rgD_length, sizeLine_eq]
    have := (rgOk_eq h).2.2.2.2
    omega
  stop := fun H G' i _ _ _ hi => by rw [rgD_length] at hi; exact Nat.le_of_eq hi
  go := fun H G' i d _ g1 gh hi => by
    obtain ⟨h1, rfl⟩ := rgD_get hi
    refine ⟨h1, fun x H' ⟨e1, e2⟩ => ?_⟩
    subst e1 e2
    exact ⟨G', Step.refl gh, .inl (.int _)⟩
theorem i_rg1 (gr : Gl X "range") (hr : X.mg "range" = none) (na : isStar a = false) (ha : PE X a (tE X.K .bw fa)) : PI X tg (.Call (.Name "range" p) [a] [] pos) (tI pr X.K m (dRg (dC (.int 0)) fa)) :=
  piW (pi_range1 gr hr (pa_cons ha pa_nil (st1 na)) (st1 na)) fun σ H R ⟨H0, G0, G, ρ, items, ok, hf, q⟩ => by
    obtain ⟨m', n, h2, h3, h4, rfl⟩ := dRg_eq hf
    cases h2
    refine ⟨H0, G0, G, ρ, _, ok, h3, fun v H1 G1 s r => ⟨n, by rw [Rb.int r], (rgOk_eq h4).2.2.1, (rgOk_eq h4).2.2.2.1, ?_⟩⟩
    have e : (n - 0).toNat = n.toNat := by rw [Int.sub_zero]
    rw [← e]
    exact q _ _ _ s (it_rg h4)
theorem i_rg2 (gr : Gl X "range") (hr : X.mg "range" = none) (na : isStar a = false) (nb : isStar b = false) (ha : PE X a (tE X.K .bw fa)) (hb : PE X b (tE X.K .bw fb)) : PI X tg (.Call (.Name "range" p) [a, b] [] pos) (tI pr X.K m (dRg fa fb)) :=
  piW (pi_range2 gr hr (pa_cons ha (pa_cons hb pa_nil (st1 nb)) (st1 na)) (by rw [st1 na, st1 nb]; rfl) (by rw [st1 nb]; rfl)) fun σ H R ⟨H0, G0, G, ρ, items, ok, hf, q⟩ => by
    obtain ⟨m', n, h2, h3, h4, rfl⟩ := dRg_eq hf
    refine ⟨H0, G0, G, ρ, _, ok, h2, fun v H1 G1 s r => ⟨H0, G0, G1, ρ, _, ok.step s, h3, fun u H2 G2 s2 r2 => ⟨m', n, by rw [Rb.int r, Rb.int r2], ⟨(rgOk_eq h4).1, (rgOk_eq h4).2.1, (rgOk_eq h4).2.2.1, (rgOk_eq h4).2.2.2.1⟩, ?_⟩⟩⟩
    exact q _ _ _ (s.trans s2) (it_rg h4)
/-! enumerate, zip: new pairs -/
def enumD : Nat → List D → List D
  | _, [] => []
  | n, d :: r => .tuple [.int (n : Nat), d] :: enumD (n + 1) r
theorem enumD_length : ∀ (n : Nat) (ds : List D), (enumD n ds).length = ds.length
  | _, [] => rfl
  | n, _ :: r => by simp [enumD, enumD_length (n + 1) r]
theorem enumD_get : ∀ (ds : List D) (n i : Nat) {d : D}, (enumD n ds)[i]? = some d → ∃ x, ds[i]? = some x ∧ d = .tuple [.int ((n + i : Nat) : Int), x]
  | [], _, _, _, h => by simp [enumD] at h
  | x :: r, n, 0, d, h => by simp [enumD] at h; exact ⟨x, rfl, h.symm⟩
  | x :: r, n, i + 1, d, h => by
    have h' : (enumD (n + 1) r)[i]? = some d := by simpa [enumD] using h
    obtain ⟨y, h1, h2⟩ := enumD_get r (n + 1) i h'
    refine ⟨y, by simpa using h1, ?_⟩
    rw [h2, show n + 1 + i = n + (i + 1) by omega]
def dEnum (f : Den) : Env → Option (List D) := fun ρ => (dItems0 f ρ).map (enumD 0)
theorem pair_new {K : PySem.W.Frag} {H G : Hp} {T : Addr} {x y : V} {dx dy : D} (gh : Same G H) (hT : H T = none) (r1 : Rp K G x dx) (r2 : Rp K G y dy) : ∃ G', Step H G (upd H T (.tup [x, y])) G' ∧ RpW true K G' (.ref T) (.tuple [dx, dy]) :=
  ⟨upd G T (.tup [x, y]), Step.new gh hT, .inr ⟨rfl, T, [x, y], [dx, dy], rfl, rfl, .inl upd_same, RpAll.mono (same_new (gh.free hT)) (.cons r1 (.cons r2 .nil))⟩⟩
theorem it_enumT {K : PySem.W.Frag} {G : Hp} {C : Hp → Prop} {a : Addr} {vs : List V} {ds : List D} (h : Rd G a (.tup vs)) (r : RpAll K G vs ds) (hl : ds.length ≤ sizeLine) : ItOk true K G C (IteT K a) (enumD 0 ds) where
  len := by rw [enumD_length]; exact hl
  stop := fun H G' i _ g1 gh hi => ⟨vs, .inl (rdM (g1.trans gh) h), by rw [r.length]; rw [enumD_length] at hi; exact Nat.le_of_eq hi⟩
  go := fun H G' i d _ g1 gh hi => by
    obtain ⟨x, h1, rfl⟩ := enumD_get ds 0 i hi
    obtain ⟨v, h2, h3⟩ := r.get i h1
    refine ⟨⟨vs, v, .inl (rdM (g1.trans gh) h), h2⟩, fun y H' ⟨T, x', e1, e2, e3, e4⟩ => ?_⟩
    subst e1 e3
    have e5 := e4 vs (.inl (rdM (g1.trans gh) h))
    have e6 := pair_new gh e2 (.int (i : Nat)) ((r.atV h1 e5).mono g1)
    rw [Nat.zero_add]
    exact e6
theorem it_enumL {K : PySem.W.Frag} {G : Hp} {C : Hp → Prop} {a : Addr} {vs : List V} {ds : List D} (h : ∀ H G', C H → Same G G' → Same G' H → Rd H a (.lst vs)) (r : RpAll K G vs ds) (hl : ds.length ≤ sizeLine) : ItOk true K G C (Ite K a) (enumD 0 ds) where
  len := by rw [enumD_length]; exact hl
  stop := fun H G' i hC g1 gh hi => ⟨vs, .inl (h H G' hC g1 gh), by rw [r.length]; rw [enumD_length] at hi; exact Nat.le_of_eq hi⟩
  go := fun H G' i d hC g1 gh hi => by
    obtain ⟨x, h1, rfl⟩ := enumD_get ds 0 i hi
    obtain ⟨v, h2, h3⟩ := r.get i h1
    refine ⟨⟨vs, v, .inl (h H G' hC g1 gh), h2⟩, fun y H' ⟨T, x', e1, e2, e3, e4⟩ => ?_⟩
    subst e1 e3
    have e5 := e4 vs (.inl (h H G' hC g1 gh))
    have e6 := pair_new gh e2 (.int (i : Nat)) ((r.atV h1 e5).mono g1)
    rw [Nat.zero_add]
    exact e6
theorem dEnum_eq {ρ : Env} {items : List D} (h : dEnum f ρ = some items) : ∃ ds, (f ρ = some (.list ds) ∨ f ρ = some (.tuple ds)) ∧ items = enumD 0 ds := by
  unfold dEnum dItems0 at h
  split at h
  · cases h; exact ⟨_, .inl (by assumption), rfl⟩
  · cases h; exact ⟨_, .inr (by assumption), rfl⟩
  · cases h
theorem i_enum {elts : List Expr} {kk : Nat} {tpos : Pos} (gl : Gl X "enumerate") (hm : X.mg "enumerate" = none) (na : isStar e = false) (he : PE X e (tE X.K .fz f)) : PI X (.Tuple elts kk tpos) (.Call (.Name "enumerate" p) [e] [] pos) (tI true X.K .fz (dEnum f)) :=
  piW (piL (PI.or (pi_enum gl hm (pa_cons he pa_nil (st1 na)) (st1 na)) (pi_enumT gl hm (pa_cons he pa_nil (st1 na)) (st1 na)))) fun σ H R ⟨H0, G0, G, ρ, items, ok, hf, q⟩ => by
    obtain ⟨ds, e1 | e1, rfl⟩ := dEnum_eq hf
    · refine .inl ⟨H0, G0, G, ρ, _, ok, e1, fun v H1 G1 s r => ?_⟩
      cases r with
      | lst h rr => exact ⟨_, _, rfl, .inl (rdM s.gh h), ds.length, .inl ⟨_, _, .inl (.inl (rdM s.gh h)), by rw [rr.length]; exact Nat.le_refl _⟩, fun hl => q _ _ _ s (it_enumL (fun H G' _ g1 gh => rdM (g1.trans gh) h) rr hl)⟩
    · refine .inr ⟨H0, G0, G, ρ, _, ok, e1, fun v H1 G1 s r => ?_⟩
      cases r with
      | tup h rr => exact ⟨_, _, rfl, .inl (rdM s.gh h.rd), ds.length, .inl ⟨_, _, .inr (.inl (rdM s.gh h.rd)), by rw [rr.length]; exact Nat.le_refl _⟩, fun hl => q _ _ _ s (it_enumT h.rd rr hl)⟩
theorem i_enumB {elts : List Expr} {kk : Nat} {tpos : Pos} (gl : Gl X "enumerate") (hm : X.mg "enumerate" = none) (na : isStar e = false) (he : PE X e (tE X.K .bw f)) : PI X (.Tuple elts kk tpos) (.Call (.Name "enumerate" p) [e] [] pos) (tI true X.K .bw (dEnum f)) :=
  piW (piL (PI.or (pi_enum gl hm (pa_cons he pa_nil (st1 na)) (st1 na)) (pi_enumT gl hm (pa_cons he pa_nil (st1 na)) (st1 na)))) fun σ H R ⟨H0, G0, G, ρ, items, ok, hf, q⟩ => by
    obtain ⟨ds, e1 | e1, rfl⟩ := dEnum_eq hf
    · refine .inl ⟨H0, G0, G, ρ, _, ok, e1, fun v H1 G1 s r => ?_⟩
      obtain ⟨a, vs, rfl, h, rr⟩ := Rb.lst s.gh r
      exact ⟨_, _, rfl, .inl h, ds.length, .inl ⟨_, _, .inl (.inl h), by rw [rr.length]; exact Nat.le_refl _⟩, fun hl => q _ _ _ s (it_enumL (fun H G' hC g1 gh => rdM hC h) rr hl)⟩
    · refine .inr ⟨H0, G0, G, ρ, _, ok, e1, fun v H1 G1 s r => ?_⟩
      obtain ⟨a, vs, rfl, h, rr⟩ := Rb.tup r
      exact ⟨_, _, rfl, .inl (rdM s.gh h.rd), ds.length, .inl ⟨_, _, .inr (.inl (rdM s.gh h.rd)), by rw [rr.length]; exact Nat.le_refl _⟩, fun hl => q _ _ _ s (it_enumT h.rd rr hl)⟩
def zipD : List D → List D → List D
  | x :: xs, y :: ys => .tuple [x, y] :: zipD xs ys
  | _, _ => []
theorem zipD_length : ∀ xs ys : List D, (zipD xs ys).length = min xs.length ys.length
  | [], _ => by simp [zipD]
  | _ :: _, [] => by simp [zipD]
  | x :: xs, y :: ys => by simp [zipD, zipD_length xs ys]
theorem zipD_get : ∀ (xs ys : List D) (i : Nat) {d : D}, (zipD xs ys)[i]? = some d → ∃ x y, xs[i]? = some x ∧ ys[i]? = some y ∧ d = .tuple [x, y]
  | [], _, _, _, h => by simp [zipD] at h
  | _ :: _, [], _, _, h => by simp [zipD] at h
  | x :: xs, y :: ys, 0, d, h => by simp [zipD] at h; exact ⟨x, y, rfl, rfl, h.symm⟩
  | x :: xs, y :: ys, i + 1, d, h => by
    obtain ⟨a, b, h1, h2, h3⟩ := zipD_get xs ys i (by simpa [zipD] using h)
    exact ⟨a, b, by simpa using h1, by simpa using h2, h3⟩
/-- zip of two lists, or of two tuples -/
def dZip (f g : Den) : Env → Option (List D) := fun ρ => match f ρ, g ρ with
  | some (.list xs), some (.list ys) => some (zipD xs ys)
  | some (.tuple xs), some (.tuple ys) => some (zipD xs ys)
  | _, _ => none
theorem it_zipT {K : PySem.W.Frag} {G : Hp} {C : Hp → Prop} {a b : Addr} {vs us : List V} {ds es : List D} (h : Rd G a (.tup vs)) (r : RpAll K G vs ds) (h' : Rd G b (.tup us)) (r' : RpAll K G us es) (hl : ds.length ≤ sizeLine) : ItOk true K G C (ItzT K a b) (zipD ds es) where
  len := by rw [zipD_length]; omega
  stop := fun H G' i _ g1 gh hi => ⟨vs, us, .inl (rdM (g1.trans gh) h), .inl (rdM (g1.trans gh) h'), by rw [r.length, r'.length]; rw [zipD_length] at hi; omega⟩
  go := fun H G' i d _ g1 gh hi => by
    obtain ⟨x, y, h1, h2, rfl⟩ := zipD_get ds es i hi
    obtain ⟨v, q1, q2⟩ := r.get i h1
    obtain ⟨u, q3, q4⟩ := r'.get i h2
    refine ⟨⟨vs, us, v, u, .inl (rdM (g1.trans gh) h), .inl (rdM (g1.trans gh) h'), q1, q3⟩, fun z H' ⟨T, x', y', e1, e2, e3, e4, e5⟩ => ?_⟩
    subst e1 e3
    exact pair_new gh e2 ((r.atV h1 (e4 vs (.inl (rdM (g1.trans gh) h)))).mono g1) ((r'.atV h2 (e5 us (.inl (rdM (g1.trans gh) h')))).mono g1)
theorem it_zipL {K : PySem.W.Frag} {G : Hp} {C : Hp → Prop} {a b : Addr} {vs us : List V} {ds es : List D} (h : ∀ H G', C H → Same G G' → Same G' H → Rd H a (.lst vs)) (r : RpAll K G vs ds) (h' : ∀ H G', C H → Same G G' → Same G' H → Rd H b (.lst us)) (r' : RpAll K G us es) (hl : ds.length ≤ sizeLine) : ItOk true K G C (Itz K a b) (zipD ds es) where
  len := by rw [zipD_length]; omega
  stop := fun H G' i hC g1 gh hi => ⟨vs, us, .inl (h H G' hC g1 gh), .inl (h' H G' hC g1 gh), by rw [r.length, r'.length]; rw [zipD_length] at hi; omega⟩
  go := fun H G' i d hC g1 gh hi => by
    obtain ⟨x, y, h1, h2, rfl⟩ := zipD_get ds es i hi
    obtain ⟨v, q1, q2⟩ := r.get i h1
    obtain ⟨u, q3, q4⟩ := r'.get i h2
    refine ⟨⟨vs, us, v, u, .inl (h H G' hC g1 gh), .inl (h' H G' hC g1 gh), q1, q3⟩, fun z H' ⟨T, x', y', e1, e2, e3, e4, e5⟩ => ?_⟩
    subst e1 e3
    exact pair_new gh e2 ((r.atV h1 (e4 vs (.inl (h H G' hC g1 gh)))).mono g1) ((r'.atV h2 (e5 us (.inl (h' H G' hC g1 gh)))).mono g1)
theorem dZip_eq {f g : Den} {ρ : Env} {items : List D} (h : dZip f g ρ = some items) : ∃ xs ys, items = zipD xs ys ∧ ((f ρ = some (.list xs) ∧ g ρ = some (.list ys)) ∨ (f ρ = some (.tuple xs) ∧ g ρ = some (.tuple ys))) := by
  unfold dZip at h
  split at h
  · cases h; exact ⟨_, _, rfl, .inl ⟨by assumption, by assumption⟩⟩
  · cases h; exact ⟨_, _, rfl, .inr ⟨by assumption, by assumption⟩⟩
  · cases h
theorem i_zip {elts : List Expr} {kk : Nat} {tpos : Pos} (gl : Gl X "zip") (hm : X.mg "zip" = none) (na : isStar a = false) (nb : isStar b = false) (ha : PE X a (tE X.K .fz fa)) (hb : PE X b (tE X.K .fz fb)) : PI X (.Tuple elts kk tpos) (.Call (.Name "zip" p) [a, b] [] pos) (tI true X.K .fz (dZip fa fb)) :=
  piW (piL (pi_zipA gl hm (pa_cons ha (pa_cons hb pa_nil (st1 nb)) (st1 na)) (st1 na) (back_ok _ _ _ (by simp [nb])))) fun σ H R ⟨H0, G0, G, ρ, items, ok, hf, q⟩ => by
    obtain ⟨xs, ys, rfl, ⟨e1, e2⟩ | ⟨e1, e2⟩⟩ := dZip_eq hf
    · refine ⟨H0, G0, G, ρ, _, ok, e1, fun v H1 G1 s r => ⟨H0, G0, G1, ρ, _, ok.step s, e2, fun u H2 G2 s2 r2 => ?_⟩⟩
      cases r with
      | lst h rr =>
        cases r2 with
        | lst h2 rr2 =>
          have h' := rdM s2.gg h
          have rr' := rr.mono s2.gg
          exact ⟨_, _, _, _, rfl, .inl ⟨.inl (rdM s2.gh h'), .inl (rdM s2.gh h2), xs.length, .inl ⟨_, _, .inl (.inl (rdM s2.gh h')), by rw [rr'.length]; exact Nat.le_refl _⟩, fun hl => q _ _ _ (s.trans s2) (it_zipL (fun H G' _ g1 gh => rdM (g1.trans gh) h') rr' (fun H G' _ g1 gh => rdM (g1.trans gh) h2) rr2 hl)⟩⟩
    · refine ⟨H0, G0, G, ρ, _, ok, e1, fun v H1 G1 s r => ⟨H0, G0, G1, ρ, _, ok.step s, e2, fun u H2 G2 s2 r2 => ?_⟩⟩
      cases r with
      | tup h rr =>
        cases r2 with
        | tup h2 rr2 =>
          have h' := rdM s2.gg h.rd
          have rr' := rr.mono s2.gg
          exact ⟨_, _, _, _, rfl, .inr ⟨.inl (rdM s2.gh h'), .inl (rdM s2.gh h2.rd), xs.length, .inl ⟨_, _, .inr (.inl (rdM s2.gh h')), by rw [rr'.length]; exact Nat.le_refl _⟩, fun hl => q _ _ _ (s.trans s2) (it_zipT h' rr' h2.rd rr2 hl)⟩⟩
theorem i_zipB {elts : List Expr} {kk : Nat} {tpos : Pos} (gl : Gl X "zip") (hm : X.mg "zip" = none) (na : isStar a = false) (nb : isStar b = false) (ha : PE X a (tE X.K .bw fa)) (hb : PE X b (tE X.K .bw fb)) : PI X (.Tuple elts kk tpos) (.Call (.Name "zip" p) [a, b] [] pos) (tI true X.K .bw (dZip fa fb)) :=
  piW (piL (pi_zipA gl hm (pa_cons ha (pa_cons hb pa_nil (st1 nb)) (st1 na)) (st1 na) (back_ok _ _ _ (by simp [nb])))) fun σ H R ⟨H0, G0, G, ρ, items, ok, hf, q⟩ => by
    obtain ⟨xs, ys, rfl, ⟨e1, e2⟩ | ⟨e1, e2⟩⟩ := dZip_eq hf
    · refine ⟨H0, G0, G, ρ, _, ok, e1, fun v H1 G1 s r => ⟨H0, G0, G1, ρ, _, ok.step s, e2, fun u H2 G2 s2 r2 => ?_⟩⟩
      obtain ⟨a, vs, rfl, h, rr⟩ := Rb.lst s2.gh (Rb.step r s2)
      obtain ⟨b, us, rfl, h', rr'⟩ := Rb.lst s2.gh r2
      exact ⟨_, _, _, _, rfl, .inl ⟨.inl h, .inl h', xs.length, .inl ⟨_, _, .inl (.inl h), by rw [rr.length]; exact Nat.le_refl _⟩, fun hl => q _ _ _ (s.trans s2) (it_zipL (fun H G' hC g1 gh => rdM hC h) rr (fun H G' hC g1 gh => rdM hC h') rr' hl)⟩⟩
    · refine ⟨H0, G0, G, ρ, _, ok, e1, fun v H1 G1 s r => ⟨H0, G0, G1, ρ, _, ok.step s, e2, fun u H2 G2 s2 r2 => ?_⟩⟩
      obtain ⟨a, vs, rfl, h, rr⟩ := Rb.tup (Rb.step r s2)
      obtain ⟨b, us, rfl, h', rr'⟩ := Rb.tup r2
      exact ⟨_, _, _, _, rfl, .inr ⟨.inl (rdM s2.gh h.rd), .inl (rdM s2.gh h'.rd), xs.length, .inl ⟨_, _, .inr (.inl (rdM s2.gh h.rd)), by rw [rr.length]; exact Nat.le_refl _⟩, fun hl => q _ _ _ (s.trans s2) (it_zipT h.rd rr h'.rd rr' hl)⟩⟩
end
end PF
namespace PF
open PySem PySem.Spec PyProof.Rows L2 RZ
/-! ### targets -/
/-- σ' is σ but for the slots ts -/
def Only (ts : List Nat) (σ σ' : St) : Prop := ∀ vs : List Nat, (∀ t ∈ ts, t ∈ vs) → wipe σ' vs = wipe σ vs
theorem Only.refl (ts : List Nat) (σ : St) : Only ts σ σ := fun _ _ => rfl
theorem wipe_get (σ : St) : ∀ (vs : List Nat) (j : Nat), (wipe σ vs)[j]? = if j ∈ vs then (if j < σ.length then some none else none) else σ[j]?
  | [], j => by simp [wipe]
  | v :: vs, j => by
    unfold wipe
    rw [List.getElem?_set, wipe_length, wipe_get σ vs j]
    by_cases h : v = j
    · subst h
      simp
    · have h' : ¬ j = v := fun e => h e.symm
      simp [h, h']
theorem Only.set {i : Nat} {σ : St} {x : Option V} : Only [i] σ (σ.set i x) := fun vs h => by
  have hi := h i (List.mem_singleton.mpr rfl)
  refine List.ext_getElem? fun j => ?_
  rw [wipe_get, wipe_get, List.length_set, List.getElem?_set]
  by_cases hj : j ∈ vs
  · simp [hj]
  · have : ¬ i = j := fun e => hj (e ▸ hi)
    simp [hj, this]
theorem Only.trans {ts us : List Nat} {σ σ1 σ2 : St} (a : Only ts σ σ1) (b : Only us σ1 σ2) : Only (ts ++ us) σ σ2 := fun vs h =>
  (b vs fun t ht => h t (List.mem_append_right _ ht)).trans (a vs fun t ht => h t (List.mem_append_left _ ht))
def tGo (pr : Bool) (K : PySem.W.Frag) (ts : List Nat) (b : D → Env → Option Env) : TG := fun v σ H Q => ∃ H0 G0 G ρ d ρ', EnvOk K H0 G0 H G σ ρ ∧ RpW pr K G v d ∧ b d ρ = some ρ' ∧ ∀ σ', EnvOk K H0 G0 H G σ' ρ' → Only ts σ σ' → Q σ' H
def tGos (K : PySem.W.Frag) (ts : List Nat) (b : List D → Env → Option Env) : TGs := fun vs σ H Q => ∃ H0 G0 G ρ ds ρ', EnvOk K H0 G0 H G σ ρ ∧ RpAll K G vs ds ∧ b ds ρ = some ρ' ∧ ∀ σ', EnvOk K H0 G0 H G σ' ρ' → Only ts σ σ' → Q σ' H
section
variable {K : PySem.W.Frag} {H0 G0 H G H' G' : Hp} {σ : St} {ρ : Env}
theorem EnvOk.set_val {i : Nat} {v : V} {d : D} (e : EnvOk K H0 G0 H G σ ρ) (r : Rp K G v d) : EnvOk K H0 G0 H G (σ.set i (some v)) (ρ.set i (some (.val d))) where
  len := by rw [List.length_set, List.length_set]; exact e.len
  st := e.st
  sl := fun j sv h => by
    rw [List.getElem?_set] at h ⊢
    by_cases hj : i = j
    · subst hj
      by_cases hl : i < ρ.length
      · have hl' : i < σ.length := by rw [e.len]; exact hl
        simp only [hl, hl', if_true] at h ⊢
        cases h
        exact ⟨v, rfl, r⟩
      · simp [hl] at h
    · simp only [hj, if_false] at h ⊢
      exact e.sl j sv h
  sep := fun j k xs ys hjk h1 h2 => by
    rw [List.getElem?_set] at h1 h2
    by_cases hj : i = j
    · subst hj
      by_cases hl : i < ρ.length
      · simp [hl] at h1
      · simp [hl] at h1
    · by_cases hk : i = k
      · subst hk
        by_cases hl : i < ρ.length
        · simp [hl] at h2
        · simp [hl] at h2
      · simp only [hj, hk, if_false] at h1 h2
        rw [List.getElem?_set_ne hj, List.getElem?_set_ne hk]
        exact e.sep j k xs ys hjk h1 h2
  sepD := fun j k xs ys hjk h1 h2 => by
    rw [List.getElem?_set] at h1 h2
    by_cases hj : i = j
    · subst hj
      by_cases hl : i < ρ.length
      · simp [hl] at h1
      · simp [hl] at h1
    · by_cases hk : i = k
      · subst hk
        by_cases hl : i < ρ.length
        · simp [hl] at h2
        · simp [hl] at h2
      · simp only [hj, hk, if_false] at h1 h2
        rw [List.getElem?_set_ne hj, List.getElem?_set_ne hk]
        exact e.sepD j k xs ys hjk h1 h2
/-- a new list of the frame's own -/
theorem EnvOk.set_own {i : Nat} {a : Addr} {vs : List V} {xs : List D} (e : EnvOk K H0 G0 H G σ ρ) (s : Step H G H' G') (hn : H a = none) (ha : H' a = some (.lst vs)) (hg : G' a = none) (r : RpAll K G' vs xs) : EnvOk K H0 G0 H' G' (σ.set i (some (.ref a))) (ρ.set i (some (.own xs))) := by
  have e' := e.step s
  have other : ∀ (j : Nat) ys, ρ[j]? = some (some (.own ys)) → σ[j]? ≠ some (some (.ref a)) := fun j ys h z => by
    obtain ⟨v, h1, b, us, h2, h3, _⟩ := e.sl j _ h
    rw [z] at h1
    have e1 : V.ref a = v := Option.some.inj (Option.some.inj h1)
    rw [h2] at e1
    have e2 : a = b := V.ref.inj e1
    rw [← e2, hn] at h3
    cases h3
  refine ⟨by rw [List.length_set, List.length_set]; exact e.len, e'.st, fun j sv h => ?_, fun j k ys zs hjk h1 h2 => ?_, fun j k xs ys hjk h1 h2 => ?_⟩
  · rw [List.getElem?_set] at h ⊢
    by_cases hj : i = j
    · subst hj
      by_cases hl : i < ρ.length
      · have hl' : i < σ.length := by rw [e.len]; exact hl
        simp only [hl, hl', if_true] at h ⊢
        cases h
        exact ⟨_, rfl, a, vs, rfl, ha, r, hg, e.st.same.free hn⟩
      · simp [hl] at h
    · simp only [hj, if_false] at h ⊢
      exact e'.sl j sv h
  · rw [List.getElem?_set] at h1 h2
    rw [List.getElem?_set, List.getElem?_set]
    by_cases hj : i = j
    · subst hj
      have hk : ¬ i = k := hjk
      by_cases hl : i < ρ.length
      · have hl' : i < σ.length := by rw [e.len]; exact hl
        simp only [hk, if_false] at h2
        simp only [hl', if_true, hk, if_false]
        exact fun z => other k zs h2 z.symm
      · simp [hl] at h1
    · by_cases hk : i = k
      · subst hk
        by_cases hl : i < ρ.length
        · have hl' : i < σ.length := by rw [e.len]; exact hl
          simp only [hj, if_false] at h1
          simp only [hl', if_true, hj, if_false]
          exact fun z => other j ys h1 z
        · simp [hl] at h2
      · simp only [hj, hk, if_false] at h1 h2 ⊢
        exact e.sep j k ys zs hjk h1 h2
  · rw [List.getElem?_set] at h1 h2
    by_cases hj : i = j
    · subst hj
      by_cases hl : i < ρ.length
      · simp [hl] at h1
      · simp [hl] at h1
    · by_cases hk : i = k
      · subst hk
        by_cases hl : i < ρ.length
        · simp [hl] at h2
        · simp [hl] at h2
      · simp only [hj, hk, if_false] at h1 h2
        rw [List.getElem?_set_ne hj, List.getElem?_set_ne hk]
        exact e.sepD j k xs ys hjk h1 h2
/-- a new dict of the frame's own -/
theorem EnvOk.set_dic {i : Nat} {a : Addr} {ep : Nat} {vs : List DN.Ent} {xs : List (D × D)} (e : EnvOk K H0 G0 H G σ ρ) (s : Step H G H' G') (hn : H a = none) (ha : H' a = some (DN.DK a ep vs)) (hg : G' a = none) (r : RpKV K G' vs xs) : EnvOk K H0 G0 H' G' (σ.set i (some (.ref a))) (ρ.set i (some (.dic xs))) := by
  have e' := e.step s
  have other : ∀ (j : Nat) ys, ρ[j]? = some (some (.dic ys)) → σ[j]? ≠ some (some (.ref a)) := fun j ys h z => by
    obtain ⟨v, h1, b, _, us, h2, h3, _⟩ := e.sl j _ h
    rw [z] at h1
    have e1 : V.ref a = v := Option.some.inj (Option.some.inj h1)
    rw [h2] at e1
    have e2 : a = b := V.ref.inj e1
    rw [← e2, hn] at h3
    cases h3
  refine ⟨by rw [List.length_set, List.length_set]; exact e.len, e'.st, fun j sv h => ?_, fun j k xs ys hjk h1 h2 => ?_, fun j k ys zs hjk h1 h2 => ?_⟩
  · rw [List.getElem?_set] at h ⊢
    by_cases hj : i = j
    · subst hj
      by_cases hl : i < ρ.length
      · have hl' : i < σ.length := by rw [e.len]; exact hl
        simp only [hl, hl', if_true] at h ⊢
        cases h
        exact ⟨_, rfl, a, ep, vs, rfl, ha, r, hg, e.st.same.free hn⟩
      · simp [hl] at h
    · simp only [hj, if_false] at h ⊢
      exact e'.sl j sv h
  · rw [List.getElem?_set] at h1 h2
    by_cases hj : i = j
    · subst hj
      by_cases hl : i < ρ.length
      · simp [hl] at h1
      · simp [hl] at h1
    · by_cases hk : i = k
      · subst hk
        by_cases hl : i < ρ.length
        · simp [hl] at h2
        · simp [hl] at h2
      · simp only [hj, hk, if_false] at h1 h2
        rw [List.getElem?_set_ne hj, List.getElem?_set_ne hk]
        exact e.sep j k xs ys hjk h1 h2
  · rw [List.getElem?_set] at h1 h2
    rw [List.getElem?_set, List.getElem?_set]
    by_cases hj : i = j
    · subst hj
      have hk : ¬ i = k := hjk
      by_cases hl : i < ρ.length
      · have hl' : i < σ.length := by rw [e.len]; exact hl
        simp only [hk, if_false] at h2
        simp only [hl', if_true, hk, if_false]
        exact fun z => other k zs h2 z.symm
      · simp [hl] at h1
    · by_cases hk : i = k
      · subst hk
        by_cases hl : i < ρ.length
        · have hl' : i < σ.length := by rw [e.len]; exact hl
          simp only [hj, if_false] at h1
          simp only [hl', if_true, hj, if_false]
          exact fun z => other j ys h1 z
        · simp [hl] at h2
      · simp only [hj, hk, if_false] at h1 h2 ⊢
        exact e.sepD j k ys zs hjk h1 h2
/-- what is forgotten -/
def wipeE (ρ : Env) : List Nat → Env
  | [] => ρ
  | v :: vs => (wipeE ρ vs).set v none
theorem EnvOk.unset {i : Nat} (e : EnvOk K H0 G0 H G σ ρ) : EnvOk K H0 G0 H G (σ.set i none) (ρ.set i none) where
  len := by rw [List.length_set, List.length_set]; exact e.len
  st := e.st
  sl := fun j sv h => by
    rw [List.getElem?_set] at h ⊢
    by_cases hj : i = j
    · subst hj
      by_cases hl : i < ρ.length
      · simp [hl] at h
      · simp [hl] at h
    · simp only [hj, if_false] at h ⊢
      exact e.sl j sv h
  sep := fun j k xs ys hjk h1 h2 => by
    rw [List.getElem?_set] at h1 h2
    by_cases hj : i = j
    · subst hj
      by_cases hl : i < ρ.length
      · simp [hl] at h1
      · simp [hl] at h1
    · by_cases hk : i = k
      · subst hk
        by_cases hl : i < ρ.length
        · simp [hl] at h2
        · simp [hl] at h2
      · simp only [hj, hk, if_false] at h1 h2
        rw [List.getElem?_set_ne hj, List.getElem?_set_ne hk]
        exact e.sep j k xs ys hjk h1 h2
  sepD := fun j k xs ys hjk h1 h2 => by
    rw [List.getElem?_set] at h1 h2
    by_cases hj : i = j
    · subst hj
      by_cases hl : i < ρ.length
      · simp [hl] at h1
      · simp [hl] at h1
    · by_cases hk : i = k
      · subst hk
        by_cases hl : i < ρ.length
        · simp [hl] at h2
        · simp [hl] at h2
      · simp only [hj, hk, if_false] at h1 h2
        rw [List.getElem?_set_ne hj, List.getElem?_set_ne hk]
        exact e.sepD j k xs ys hjk h1 h2
theorem EnvOk.wipe (e : EnvOk K H0 G0 H G σ ρ) : ∀ vs : List Nat, EnvOk K H0 G0 H G (L2.wipe σ vs) (wipeE ρ vs)
  | [] => e
  | v :: vs => (EnvOk.wipe e vs).unset
end
section
variable {X : Cx} {tg a b c e : Expr} {es : List Expr} {fa fb fc f : Den} {fs : List Den} {pos p : Pos} {m : Md}
def bName (i : Nat) : D → Env → Option Env := fun d ρ => some (ρ.set i (some (.val d)))
theorem g_name {i : Nat} {x : Str} (hN : X.N.Nodup) (hi : X.N[i]? = some x) (hx : Loc X.env.scope x) (hf : X.fn x = true ∨ X.env.scope.names.lookup x = some .local) : PG X (.Name x pos) (tGo false X.K [i] (bName i)) :=
  pgW (pg_name hN hi hx hf) fun v σ H Q ⟨H0, G0, G, ρ, d, ρ', ok, r, hb, q⟩ => by
    cases hb
    rcases r with r | ⟨z, _⟩
    · exact q _ (ok.set_val r) Only.set
    · cases z
def bNil : List D → Env → Option Env
  | [], ρ => some ρ
  | _ :: _, _ => none
def bCons (b : D → Env → Option Env) (bs : List D → Env → Option Env) : List D → Env → Option Env
  | [], _ => none
  | d :: ds, ρ => (b d ρ).bind (bs ds)
def bTup (bs : List D → Env → Option Env) : D → Env → Option Env
  | .tuple ds, ρ => bs ds ρ
  | _, _ => none
theorem pgsW {es : List Expr} {t t' : TGs} (h : PGs X es t) (w : ∀ v σ H Q, t' v σ H Q → t v σ H Q) : PGs X es t' := ⟨fun pins s σ H v u Q I r q => h.run pins s σ H v u Q I r (w v σ H Q q)⟩
theorem gs_nil : PGs X [] (tGos X.K [] bNil) := pgsW pgs_nil fun v σ H Q ⟨H0, G0, G, ρ, ds, ρ', ok, r, hb, q⟩ => by
  cases ds with
  | nil =>
    cases hb
    cases r
    exact ⟨rfl, q _ ok (Only.refl _ _)⟩
  | cons _ _ => cases hb
theorem assign_star (h : isStar e = false) (env : PySem.Env) : (assignEach (e :: es) env) = (false, assign e env) :: assignEach es env := by
  cases e <;> first | rfl | (exact absurd h (by simp [isStar]))
theorem gs_cons {pr : Bool} {ts us : List Nat} {bb : D → Env → Option Env} {bs : List D → Env → Option Env} (hs : isStar e = false) (h1 : PG X e (tGo pr X.K ts bb)) (h2 : PGs X es (tGos X.K us bs)) : PGs X (e :: es) (tGos X.K (ts ++ us) (bCons bb bs)) :=
  pgsW (pgs_cons h1 h2 (by rw [assign_star hs]; rfl)) fun v σ H Q ⟨H0, G0, G, ρ, ds, ρ', ok, r, hb, q⟩ => by
    cases r with
    | nil => cases hb
    | @cons v vs d ds r1 r2 =>
      have hb' : (bb d ρ).bind (bs ds) = some ρ' := hb
      cases e1 : bb d ρ with
      | none => rw [e1] at hb'; cases hb'
      | some ρ1 =>
        rw [e1] at hb'
        refine ⟨v, vs, rfl, H0, G0, G, ρ, d, ρ1, ok, .inl r1, e1, fun σ1 ok1 o1 => ?_⟩
        exact ⟨H0, G0, G, ρ1, ds, ρ', ok1, r2, hb', fun σ2 ok2 o2 => q σ2 ok2 (o1.trans o2)⟩
/-- how many things a list of targets takes: told by its length alone -/
theorem bs_len_nil : ∀ (ds : List D) (ρ ρ' : Env), bNil ds ρ = some ρ' → ds.length = 0
  | [], _, _, _ => rfl
  | _ :: _, _, _, h => by cases h
theorem bs_len_cons {n : Nat} {bb : D → Env → Option Env} {bs : List D → Env → Option Env} (h : ∀ ds ρ ρ', bs ds ρ = some ρ' → ds.length = n) : ∀ (ds : List D) (ρ ρ' : Env), bCons bb bs ds ρ = some ρ' → ds.length = n + 1
  | [], _, _, h => by cases h
  | d :: ds, ρ, ρ', hb => by
    have hb' : (bb d ρ).bind (bs ds) = some ρ' := hb
    cases e1 : bb d ρ with
    | none => rw [e1] at hb'; cases hb'
    | some ρ1 =>
      rw [e1] at hb'
      rw [List.length_cons, h _ _ _ hb']
theorem assign_len (env : PySem.Env) : ∀ es : List Expr, (assignEach es env).length = es.length
  | [] => rfl
  | e :: r => by
    have h := assign_len env r
    cases e <;> (show (assignEach r env).length + 1 = r.length + 1; rw [h])
theorem assign_nostar (env : PySem.Env) : ∀ es : List Expr, es.all (fun e => !isStar e) = true → (assignEach es env).findIdx? (·.1) = none
  | [], _ => rfl
  | e :: r, h => by
    simp only [List.all_cons, Bool.and_eq_true] at h
    rw [assign_star (by simpa using h.1), List.findIdx?_cons, assign_nostar env r h.2]
    rfl
theorem g_tup {pr : Bool} {ts : List Nat} {bs : List D → Env → Option Env} {k : Nat} (hc : X.calm = true) (hs : es.all (fun e => !isStar e) = true) (hl : ∀ ds ρ ρ', bs ds ρ = some ρ' → ds.length = es.length) (h : PGs X es (tGos X.K ts bs)) : PG X (.Tuple es k pos) (tGo pr X.K ts (bTup bs)) :=
  pgW (pg_tup hc h (assign_len _ es) (assign_nostar _ es hs)) fun v σ H Q ⟨H0, G0, G, ρ, d, ρ', ok, r, hb, q⟩ => by
    cases d with
    | tuple ds =>
      have hb' : bs ds ρ = some ρ' := hb
      rcases r with r | ⟨_, a, vs, es', rfl, e2, h1, r1⟩
      · cases r with
        | tup h1 r1 => exact ⟨_, _, rfl, .inl (rdM ok.gh h1.rd), by rw [r1.length]; exact hl _ _ _ hb', H0, G0, G, ρ, ds, ρ', ok, r1, hb', q⟩
      · cases e2
        exact ⟨_, _, rfl, .inl (rdM ok.gh h1), by rw [r1.length]; exact hl _ _ _ hb', H0, G0, G, ρ, ds, ρ', ok, r1, hb', q⟩
    | _ => cases hb
/-! ### list comprehensions -/
def compL (b : D → Env → Option Env) (c : Env → Option Bool) (e : Den) (ρ0 : Env) : List D → Option (List D)
  | [] => some []
  | x :: xs => (b x ρ0).bind fun ρ1 => (c ρ1).bind fun ok => if ok = true then (e ρ1).bind fun y => (compL b c e ρ0 xs).bind fun ys => some (y :: ys) else compL b c e ρ0 xs
def dComp (it : Env → Option (List D)) (vs : List Nat) (b : D → Env → Option Env) (c : Env → Option Bool) (e : Den) : Den := fun ρ => (it ρ).bind fun items => (compL b c e (wipeE ρ vs) items).map .list
theorem wipe_wipe (σ : St) (vs : List Nat) : wipe (wipe σ vs) vs = wipe σ vs := by
  refine List.ext_getElem? fun j => ?_
  rw [wipe_get, wipe_get, wipe_length]
  by_cases hj : j ∈ vs
  · simp [hj]
  · simp [hj]
def tTs (K : PySem.W.Frag) (c : Env → Option Bool) : TT := tT K c
theorem comp_read {pr : Bool} {K : PySem.W.Frag} {it : Env → Option (List D)} {vs ts : List Nat} {bb : D → Env → Option Env} {cc : Env → Option Bool} {ee : Den} (hts : ∀ t ∈ ts, t ∈ vs) {σ : St} {H : Hp} {Q : VK} (h : tE K .ow (dComp it vs bb cc ee) σ H Q) :
    tLc (tI pr K .bw it) (tGo pr K ts bb) (tT K cc) (tE K .fz ee) vs σ H Q := by
  obtain ⟨H0, G0, G, ρ, d, ok, hf, q⟩ := h
  unfold dComp at hf
  cases e1 : it ρ with
  | none => rw [e1] at hf; cases hf
  | some items =>
    rw [e1] at hf
    cases e2 : compL bb cc ee (wipeE ρ vs) items with
    | none => simp only [Option.bind_some, e2, Option.map_none] at hf; cases hf
    | some res =>
      simp only [Option.bind_some, e2, Option.map_some] at hf
      cases hf
      refine ⟨H0, G0, G, ρ, items, ok, e1, fun J H1 G1 s1 hJ D0 hD0 => ?_⟩
      have ok1 := ok.step s1
      refine ⟨fun i mm Hc => ∃ Gc accV accD, i + mm = items.length ∧ Step H1 G1 Hc Gc ∧ Hc D0 = some (.lst accV) ∧ Gc D0 = none ∧ RpAll K Gc accV accD ∧ accD.length ≤ i ∧ (compL bb cc ee (wipeE ρ vs) (items.drop i)).map (accD ++ ·) = some res,
        ⟨items.length, G1, [], [], by omega, Step.new' s1.gh hD0, upd_same, s1.gh.free hD0, .nil, Nat.le_refl _, by rw [List.drop_zero, e2]; rfl⟩, fun i mm Hc hW => ?_⟩
      obtain ⟨Gc, accV, accD, hi, st, hD, hG, ra, hal, hr⟩ := hW
      by_cases hlt : i < items.length
      · have hg : items[i]? = some items[i] := List.getElem?_eq_getElem hlt
        obtain ⟨go, yl⟩ := hJ.go Hc Gc i _ st.same st.gg st.gh hg
        have hdrop : items.drop i = items[i] :: items.drop (i + 1) := List.drop_eq_getElem_cons hlt
        rw [hdrop] at hr
        refine .inr ⟨go, fun Hn => ∃ Gn accV accD, Step H1 G1 Hn Gn ∧ Hn D0 = some (.lst accV) ∧ Gn D0 = none ∧ RpAll K Gn accV accD ∧ accD.length ≤ i + 1 ∧ (compL bb cc ee (wipeE ρ vs) (items.drop (i + 1))).map (accD ++ ·) = some res, fun Hn ⟨Gn, av, ad, h1, h2, h3, h4, h5, h6⟩ => ⟨mm - 1, by omega, Gn, av, ad, by omega, h1, h2, h3, h4, h5, h6⟩, fun x Hy hy => ?_⟩
        obtain ⟨Gy, sy, ry⟩ := yl x Hy hy
        have sty := st.trans sy
        have oky : EnvOk K H0 G0 Hy Gy (wipe σ vs) (wipeE ρ vs) := (ok1.step sty).wipe vs
        have hr' : ((bb items[i] (wipeE ρ vs)).bind fun ρ1 => (cc ρ1).bind fun okb => if okb = true then (ee ρ1).bind fun y => (compL bb cc ee (wipeE ρ vs) (items.drop (i + 1))).bind fun ys => some (y :: ys) else compL bb cc ee (wipeE ρ vs) (items.drop (i + 1))).map (accD ++ ·) = some res := hr
        cases eb : bb items[i] (wipeE ρ vs) with
        | none => rw [eb] at hr'; cases hr'
        | some ρ1 =>
          rw [eb] at hr'
          simp only [Option.bind_some] at hr'
          refine ⟨H0, G0, Gy, _, _, ρ1, oky, ry, eb, fun σ2 ok2 on2 => ⟨?_, ?_⟩⟩
          · rw [on2 vs hts, wipe_wipe]
          · cases ec : cc ρ1 with
            | none => rw [ec] at hr'; cases hr'
            | some bt =>
              rw [ec] at hr'
              simp only [Option.bind_some] at hr'
              refine ⟨H0, G0, Gy, ρ1, bt, ok2, ec, fun H3 G3 s3 => ?_⟩
              have hDy : Hy D0 = some (.lst accV) := sy.same _ _ hD
              have hGy : Gy D0 = none := by rw [sy.old D0 (some_ne hD)]; exact hG
              have hD3 : H3 D0 = some (.lst accV) := s3.same _ _ hDy
              have hG3 : G3 D0 = none := by rw [s3.old D0 (some_ne hDy)]; exact hGy
              have st3 := sty.trans s3
              cases bt with
              | false =>
                refine iteF ?_
                simp only [Bool.false_eq_true, if_false] at hr'
                exact ⟨G3, accV, accD, st3, hD3, hG3, ra.mono (sy.gg.trans s3.gg), by omega, hr'⟩
              | true =>
                refine iteT ?_
                simp only [if_true] at hr'
                cases ee1 : ee ρ1 with
                | none => rw [ee1] at hr'; cases hr'
                | some y =>
                  rw [ee1] at hr'
                  simp only [Option.bind_some] at hr'
                  refine ⟨H0, G0, G3, ρ1, y, ok2.step s3, ee1, fun v H4 G4 s4 r4 => ?_⟩
                  have hD4 : H4 D0 = some (.lst accV) := s4.same _ _ hD3
                  have hG4 : G4 D0 = none := by rw [s4.old D0 (some_ne hD3)]; exact hG3
                  have ra4 : RpAll K G4 accV accD := ra.mono ((sy.gg.trans s3.gg).trans s4.gg)
                  have r4' : Rp K G4 v y := r4
                  have hlen := hJ.len
                  refine ⟨accV, hD4, by rw [ra4.length]; omega, G4, accV ++ [v], accD ++ [y], ?_, upd_same, hG4, ra4.append (.cons r4' .nil), by rw [List.length_append]; simp; omega, ?_⟩
                  · have st4 := st3.trans s4
                    refine ⟨fun b o hb => ?_, st4.gg, fun b o hb => ?_, st4.old⟩
                    · have nb : b ≠ D0 := fun z => by rw [z, hD0] at hb; cases hb
                      rw [upd_ne nb]
                      exact st4.same b o hb
                    · have nb : b ≠ D0 := fun z => by rw [z, hG4] at hb; cases hb
                      rw [upd_ne nb]
                      exact st4.gh b o hb
                  · cases ec2 : compL bb cc ee (wipeE ρ vs) (items.drop (i + 1)) with
                    | none => rw [ec2] at hr'; cases hr'
                    | some ys =>
                      rw [ec2] at hr'
                      simp only [Option.bind_some, Option.map_some, Option.some.injEq] at hr' ⊢
                      rw [List.append_assoc]
                      exact hr'
      · have hge : items.length ≤ i := by omega
        refine .inl ⟨hJ.stop Hc Gc i st.same st.gg st.gh (by omega), ?_⟩
        rw [List.drop_of_length_le hge] at hr
        simp only [compL, Option.map_some, List.append_nil, Option.some.injEq] at hr
        subst hr
        exact q _ _ _ (s1.trans st) ⟨D0, accV, rfl, s1.same.free hD0, hD, hG, ra⟩
end
end PF
namespace PF
open PySem PySem.Spec PyProof.Rows L2 RZ
section
variable {X : Cx} {tg a b c e : Expr} {es : List Expr} {fa fb fc f : Den} {fs : List Den} {pos p : Pos} {m : Md}
/-! ### a comprehension as a value -/
theorem e_comp {pr : Bool} {elt iter : Expr} {ifs : List Expr} {scope : Scope} {own : List (Str × Nat)} {it : Env → Option (List D)} {ts : List Nat} {bb : D → Env → Option Env} {cc : Env → Option Bool} {ee : Den} (hc : X.calm = true) (hN : X.N.Nodup) (hi : PI X tg iter (tI pr X.K .bw it)) (ok : BlkOk X.N X.env.scope scope own) (hts : ∀ t ∈ ts, t ∈ own.map (·.2))
    (hg : ∀ (s : Shared) (H : Hp) (C : Addr) (cl : List (Str × Addr)) (fp : List Addr), PG (X.blk s H scope (compEnvC scope cl C X.env) fp) tg (tGo pr X.K ts bb)) (ht : ∀ (s : Shared) (H : Hp) (C : Addr) (cl : List (Str × Addr)) (fp : List Addr), PTs (X.blk s H scope (compEnvC scope cl C X.env) fp) ifs (tT X.K cc))
    (he : ∀ (s : Shared) (H : Hp) (C : Addr) (cl : List (Str × Addr)) (fp : List Addr), PE (X.blk s H scope (compEnvC scope cl C X.env) fp) elt (tE X.K .fz ee)) (hs : ∀ x, foldedSetIterable iter X.env x = pure x) :
    PE X (.ListComp elt [⟨tg, iter, ifs, 0⟩] scope pos) (tE X.K .ow (dComp it (own.map (·.2)) bb cc ee)) :=
  peW (pe_lc hc hN hi ok hg ht he hs) fun σ H Q h => comp_read hts h
/-! ### statements -/
theorem ss_nil : PSs X [] (tS X.K fun ρ => some (.next ρ)) := pssW pss_nil fun Dn σ H ⟨H0, G0, G, ρ, out, ok, hf, q⟩ => by
  cases hf
  exact q σ H G (Same.refl _) ok
def dSeq (F F' : DenS) : DenS := fun ρ => match F ρ with
  | some (.next ρ') => F' ρ'
  | r => r
theorem seq_read {K : PySem.W.Frag} {F F' : DenS} {Dn : Ends} {σ : St} {H : Hp} (h : tS K (dSeq F F') Dn σ H) : tSeq (tS K F) (tS K F') Dn σ H := by
  obtain ⟨H0, G0, G, ρ, out, ok, hf, q⟩ := h
  unfold dSeq at hf
  cases e1 : F ρ with
  | none => rw [e1] at hf; cases hf
  | some o =>
    rw [e1] at hf
    refine ⟨H0, G0, G, ρ, o, ok, e1, ?_⟩
    cases o with
    | next ρ' => exact fun σ' H' G' g ok' => ⟨H0, G0, G', ρ', out, ok', hf, q.mono g⟩
    | ret d => cases hf; exact q
    | reto d => cases hf; exact q
    | brk ρ' => cases hf; exact q
    | cont ρ' => cases hf; exact q
theorem ss_cons {st : Stmt} {rest : List Stmt} {F F' : DenS} (h1 : PS X st (tS X.K F)) (h2 : PSs X rest (tS X.K F')) : PSs X (st :: rest) (tS X.K (dSeq F F')) := pssW (pss_cons h1 h2) fun Dn σ H h => seq_read h
theorem ss_one {st : Stmt} {F : DenS} (h1 : PS X st (tS X.K F)) : PSs X [st] (tS X.K F) := pss_one h1
/-! what a name of the frame's own is before it is handed on -/
def fz1 (ρ : Env) (i : Nat) : Env := match ρ[i]? with
  | some (some (.own xs)) => ρ.set i (some (.val (.list xs)))
  | some (some (.dic kvs)) => ρ.set i (some (.val (dicD kvs)))
  | _ => ρ
def fzE (ρ : Env) (is : List Nat) : Env := is.foldl fz1 ρ
theorem own_ne {K : PySem.W.Frag} {H0 G0 H G : Hp} {σ : St} {ρ : Env} (e : EnvOk K H0 G0 H G σ ρ) {i j : Nat} {xs ys : List D} {a b : Addr} (hij : i ≠ j) (h1 : ρ[i]? = some (some (.own xs))) (h2 : ρ[j]? = some (some (.own ys))) (s1 : σ[i]? = some (some (.ref a))) (s2 : σ[j]? = some (some (.ref b))) : a ≠ b := fun z => by
  subst z
  exact e.sep i j xs ys hij h1 h2 (s1.trans s2.symm)
theorem dic_ne {K : PySem.W.Frag} {H0 G0 H G : Hp} {σ : St} {ρ : Env} (e : EnvOk K H0 G0 H G σ ρ) {i j : Nat} {xs ys : List (D × D)} {a b : Addr} (hij : i ≠ j) (h1 : ρ[i]? = some (some (.dic xs))) (h2 : ρ[j]? = some (some (.dic ys))) (s1 : σ[i]? = some (some (.ref a))) (s2 : σ[j]? = some (some (.ref b))) : a ≠ b := fun z => by
  subst z
  exact e.sepD i j xs ys hij h1 h2 (s1.trans s2.symm)
theorem lst_dk {H : Hp} {a b : Addr} {vs : List V} {ep : Nat} {xs : List DN.Ent} (h1 : H a = some (.lst vs)) (h2 : H b = some (DN.DK b ep xs)) : a ≠ b := fun z => by
  subst z
  rw [h1] at h2
  cases h2
theorem EnvOk.fz1 {K : PySem.W.Frag} {H0 G0 H G : Hp} {σ : St} {ρ : Env} (e : EnvOk K H0 G0 H G σ ρ) (i : Nat) : ∃ G', Same G G' ∧ EnvOk K H0 G0 H G' σ (PF.fz1 ρ i) := by
  unfold PF.fz1
  split
  · rename_i xs hi
    obtain ⟨v, h1, a, vs, rfl, h2, h3, h4, h5⟩ := e.sl i _ hi
    have gg : Same G (upd G a (.lst vs)) := same_new h4
    have hil : i < ρ.length := (List.getElem?_eq_some_iff.mp hi).1
    refine ⟨upd G a (.lst vs), gg, ⟨by rw [List.length_set]; exact e.len, ⟨e.st.same, e.st.gg.trans gg, fun b o hb => ?_, fun b hb => ?_⟩, fun j sv h => ?_, fun j k ys zs hjk q1 q2 => ?_, fun j k ys zs hjk q1 q2 => ?_⟩⟩
    · by_cases hba : b = a
      · subst hba
        rw [upd_same] at hb
        cases hb
        exact h2
      · rw [upd_ne hba] at hb
        exact e.gh b o hb
    · rw [upd_ne fun z => hb (by rw [z]; exact h5)]
      exact e.st.old b hb
    · rw [List.getElem?_set] at h
      by_cases hj : i = j
      · subst hj
        simp only [hil, if_true] at h
        cases h
        exact ⟨_, h1, Rp.lst (.inl upd_same) (h3.mono gg)⟩
      · simp only [hj, if_false] at h
        obtain ⟨v, k1, k2⟩ := e.sl j sv h
        refine ⟨v, k1, ?_⟩
        cases sv with
        | val d => exact Rp.mono gg k2
        | own ys =>
          obtain ⟨b, us, rfl, k3, k4, k5, k6⟩ := k2
          refine ⟨b, us, rfl, k3, k4.mono gg, ?_, k6⟩
          rw [upd_ne (own_ne e (fun z => hj z.symm) h hi k1 h1)]
          exact k5
        | dic ys =>
          obtain ⟨b, ep, us, rfl, k3, k4, k5, k6⟩ := k2
          refine ⟨b, ep, us, rfl, k3, k4.mono gg, ?_, k6⟩
          rw [upd_ne (lst_dk h2 k3).symm]
          exact k5
    · rw [List.getElem?_set] at q1 q2
      by_cases hj : i = j
      · subst hj
        simp [hil] at q1
      · by_cases hk : i = k
        · subst hk
          simp [hil] at q2
        · simp only [hj, hk, if_false] at q1 q2
          exact e.sep j k ys zs hjk q1 q2
    · rw [List.getElem?_set] at q1 q2
      by_cases hj : i = j
      · subst hj
        simp [hil] at q1
      · by_cases hk : i = k
        · subst hk
          simp [hil] at q2
        · simp only [hj, hk, if_false] at q1 q2
          exact e.sepD j k ys zs hjk q1 q2
  · rename_i xs hi
    obtain ⟨v, h1, a, ep, vs, rfl, h2, h3, h4, h5⟩ := e.sl i _ hi
    have gg : Same G (upd G a (DN.DK a ep vs)) := same_new h4
    have hil : i < ρ.length := (List.getElem?_eq_some_iff.mp hi).1
    refine ⟨upd G a (DN.DK a ep vs), gg, ⟨by rw [List.length_set]; exact e.len, ⟨e.st.same, e.st.gg.trans gg, fun b o hb => ?_, fun b hb => ?_⟩, fun j sv h => ?_, fun j k ys zs hjk q1 q2 => ?_, fun j k ys zs hjk q1 q2 => ?_⟩⟩
    · by_cases hba : b = a
      · subst hba
        rw [upd_same] at hb
        cases hb
        exact h2
      · rw [upd_ne hba] at hb
        exact e.gh b o hb
    · rw [upd_ne fun z => hb (by rw [z]; exact h5)]
      exact e.st.old b hb
    · rw [List.getElem?_set] at h
      by_cases hj : i = j
      · subst hj
        simp only [hil, if_true] at h
        cases h
        exact ⟨_, h1, Rp.dic upd_same (h3.mono gg)⟩
      · simp only [hj, if_false] at h
        obtain ⟨v, k1, k2⟩ := e.sl j sv h
        refine ⟨v, k1, ?_⟩
        cases sv with
        | val d => exact Rp.mono gg k2
        | own ys =>
          obtain ⟨b, us, rfl, k3, k4, k5, k6⟩ := k2
          refine ⟨b, us, rfl, k3, k4.mono gg, ?_, k6⟩
          rw [upd_ne (lst_dk k3 h2)]
          exact k5
        | dic ys =>
          obtain ⟨b, ep', us, rfl, k3, k4, k5, k6⟩ := k2
          refine ⟨b, ep', us, rfl, k3, k4.mono gg, ?_, k6⟩
          rw [upd_ne (dic_ne e (fun z => hj z.symm) h hi k1 h1)]
          exact k5
    · rw [List.getElem?_set] at q1 q2
      by_cases hj : i = j
      · subst hj
        simp [hil] at q1
      · by_cases hk : i = k
        · subst hk
          simp [hil] at q2
        · simp only [hj, hk, if_false] at q1 q2
          exact e.sep j k ys zs hjk q1 q2
    · rw [List.getElem?_set] at q1 q2
      by_cases hj : i = j
      · subst hj
        simp [hil] at q1
      · by_cases hk : i = k
        · subst hk
          simp [hil] at q2
        · simp only [hj, hk, if_false] at q1 q2
          exact e.sepD j k ys zs hjk q1 q2
  · exact ⟨G, Same.refl _, e⟩
theorem EnvOk.fzE {K : PySem.W.Frag} {H0 G0 H : Hp} {σ : St} : ∀ (is : List Nat) {G : Hp} {ρ : Env}, EnvOk K H0 G0 H G σ ρ → ∃ G', Same G G' ∧ EnvOk K H0 G0 H G' σ (PF.fzE ρ is)
  | [], G, ρ, e => ⟨G, Same.refl _, e⟩
  | i :: is, G, ρ, e => by
    obtain ⟨G1, g1, e1⟩ := e.fz1 i
    obtain ⟨G2, g2, e2⟩ := EnvOk.fzE is e1
    exact ⟨G2, g1.trans g2, e2⟩
theorem s_fz {st : Stmt} {F : DenS} (is : List Nat) (h : PS X st (tS X.K F)) : PS X st (tS X.K fun ρ => F (fzE ρ is)) := psW h fun Dn σ H ⟨H0, G0, G, ρ, out, ok, hf, q⟩ => by
  obtain ⟨G', g, ok'⟩ := EnvOk.fzE is ok
  exact ⟨H0, G0, G', _, out, ok', hf, q.mono g⟩
/-! assignments -/
def dSet (i : Nat) (f : Den) : DenS := fun ρ => (f ρ).map fun d => .next (ρ.set i (some (.val d)))
def dOwn (i : Nat) (f : Den) : DenS := fun ρ => match f ρ with
  | some (.list xs) => some (.next (ρ.set i (some (.own xs))))
  | _ => none
theorem set_read {K : PySem.W.Frag} {i : Nat} {Dn : Ends} {σ : St} {H : Hp} (h : tS K (dSet i f) Dn σ H) : tAsg (tE K .fz f) (gName i) Dn σ H := by
  obtain ⟨H0, G0, G, ρ, out, ok, hf, q⟩ := h
  unfold dSet at hf
  cases e1 : f ρ with
  | none => rw [e1] at hf; cases hf
  | some d =>
    rw [e1] at hf
    cases hf
    exact ⟨H0, G0, G, ρ, d, ok, e1, fun v H' G' s r => q _ _ _ s.gg ((ok.step s).set_val r)⟩
theorem own_read {K : PySem.W.Frag} {i : Nat} {Dn : Ends} {σ : St} {H : Hp} (h : tS K (dOwn i f) Dn σ H) : tAsg (tE K .ow f) (gName i) Dn σ H := by
  obtain ⟨H0, G0, G, ρ, out, ok, hf, q⟩ := h
  unfold dOwn at hf
  split at hf
  · rename_i xs e1
    cases hf
    refine ⟨H0, G0, G, ρ, _, ok, e1, fun v H' G' s r => ?_⟩
    obtain ⟨a, vs, rfl, n, h1, h2, h3⟩ := r
    exact q _ _ _ s.gg (ok.set_own s n h1 h2 h3)
  · cases hf
def isComp : Expr → Bool
  | .ListComp .. => true
  | .SetComp .. => true
  | .DictComp .. => true
  | _ => false
theorem swaps_no {t : Expr} {l : Nat} {env : PySem.Env} (h : isComp e = false) : swapsWith e (some t) l env = pure false := by
  cases e <;> first | rfl | (exact absurd h (by simp [isComp]))
theorem swaps_no0 {l : Nat} {env : PySem.Env} (h : isComp e = false) : swapsWith e none l env = pure false := by
  cases e <;> first | rfl | (exact absurd h (by simp [isComp]))
variable {i : Nat} {x : Str} {p' : Pos}
theorem s_set (hN : X.N.Nodup) (hi : X.N[i]? = some x) (hx : Loc X.env.scope x) (hf : X.fn x = true ∨ X.env.scope.names.lookup x = some .local) (hs : swapsWith e (some (.Name x p')) pos.line X.env = pure false) (he : PE X e (tE X.K .fz f)) : PS X (.Assign [.Name x p'] e pos) (tS X.K (dSet i f)) :=
  psW (ps_set hN hi hx he hs hf) fun Dn σ H h => set_read h
theorem s_own (hN : X.N.Nodup) (hi : X.N[i]? = some x) (hx : Loc X.env.scope x) (hf : X.fn x = true ∨ X.env.scope.names.lookup x = some .local) (hs : swapsWith e (some (.Name x p')) pos.line X.env = pure false) (he : PE X e (tE X.K .ow f)) : PS X (.Assign [.Name x p'] e pos) (tS X.K (dOwn i f)) :=
  psW (ps_set hN hi hx he hs hf) fun Dn σ H h => own_read h
/-! x = [.. for ..] where the list is stored within: the same readings -/
theorem s_lc {pr : Bool} {elt iter : Expr} {ifs : List Expr} {scope : Scope} {own : List (Str × Nat)} {it : Env → Option (List D)} {ts : List Nat} {bb : D → Env → Option Env} {cc : Env → Option Bool} {ee : Den} {G : DenS} (hc : X.calm = true) (hN : X.N.Nodup) (hy : X.N[i]? = some x) (hyl : X.env.scope.names.lookup x = some .local)
    (hsw : swapsWith (.ListComp elt [⟨tg, iter, ifs, 0⟩] scope pos) (some (.Name x p')) p.line X.env = pure true) (hi : PI X tg iter (tI pr X.K .bw it)) (ok : BlkOk X.N X.env.scope scope own) (hts : ∀ t ∈ ts, t ∈ own.map (·.2))
    (hg : ∀ (s : Shared) (H : Hp) (C : Addr) (cl : List (Str × Addr)) (fp : List Addr), PG (X.blk s H scope (compEnvC scope cl C X.env) fp) tg (tGo pr X.K ts bb)) (ht : ∀ (s : Shared) (H : Hp) (C : Addr) (cl : List (Str × Addr)) (fp : List Addr), PTs (X.blk s H scope (compEnvC scope cl C X.env) fp) ifs (tT X.K cc))
    (he : ∀ (s : Shared) (H : Hp) (C : Addr) (cl : List (Str × Addr)) (fp : List Addr), PE (X.blk s H scope (compEnvC scope cl C X.env) fp) elt (tE X.K .fz ee)) (hs : ∀ x, foldedSetIterable iter X.env x = pure x)
    (w : ∀ Dn σ H, tS X.K G Dn σ H → tAsg (tE X.K .ow (dComp it (own.map (·.2)) bb cc ee)) (gName i) Dn σ H) :
    PS X (.Assign [.Name x p'] (.ListComp elt [⟨tg, iter, ifs, 0⟩] scope pos) p) (tS X.K G) :=
  psW (ps_setLc hc hN hy hyl hsw hi ok hg ht he hs) fun Dn σ H h => comp_read hts (w Dn σ H h)
theorem fz_asg {K : PySem.W.Frag} {g : TG} {Dn : Ends} {σ : St} {H : Hp} (h : tAsg (tE K .fz f) g Dn σ H) : tAsg (tE K .ow f) g Dn σ H := by
  obtain ⟨H0, G0, G, ρ, d, ok, hf, q⟩ := h
  refine ⟨H0, G0, G, ρ, d, ok, hf, fun v H' G' s r => ?_⟩
  cases d with
  | list xs =>
    obtain ⟨a, vs, rfl, n, hv, g, rr⟩ := r
    exact q _ _ _ (s.shut n g hv) (Rp.lst (.inl upd_same) (rr.mono (same_new g)))
  | _ => exact q _ _ _ s r
/-! a, b = e -/
def dUnp (b : D → Env → Option Env) (f : Den) : DenS := fun ρ => (f ρ).bind fun d => (b d ρ).map .next
theorem s_unp {pr : Bool} {ts : List Nat} {bb : D → Env → Option Env} (h1 : isStar tg = false) (hs : swapsWithSole [tg] e pos.line X.env = pure false) (hw : swappedStores [tg] e X.env = pure none) (hg : PG X tg (tGo pr X.K ts bb)) (he : PE X e (tE X.K .fz f)) : PS X (.Assign [tg] e pos) (tS X.K (dUnp bb f)) :=
  psW (ps_asg he hg hs hw (by rw [assign_star h1]; rfl)) fun Dn σ H ⟨H0, G0, G, ρ, out, ok, hf, q⟩ => by
    unfold dUnp at hf
    cases e1 : f ρ with
    | none => rw [e1] at hf; cases hf
    | some d =>
      rw [e1] at hf
      cases e2 : bb d ρ with
      | none => simp only [Option.bind_some, e2, Option.map_none] at hf; cases hf
      | some ρ' =>
        simp only [Option.bind_some, e2, Option.map_some] at hf
        cases hf
        exact ⟨H0, G0, G, ρ, d, ok, e1, fun v H' G' s r => ⟨H0, G0, G', ρ, d, ρ', ok.step s, .inl r, e2, fun σ' ok' _ => q σ' H' G' s.gg ok'⟩⟩
/-! return -/
def dRet (f : Den) : DenS := fun ρ => (f ρ).map .ret
theorem s_ret (he : PE X e (tE X.K .fz f)) : PS X (.Return (some e) pos) (tS X.K (dRet f)) :=
  psW (ps_ret he) fun Dn σ H ⟨H0, G0, G, ρ, out, ok, hf, q⟩ => by
    unfold dRet at hf
    cases e1 : f ρ with
    | none => rw [e1] at hf; cases hf
    | some d =>
      rw [e1] at hf
      cases hf
      exact ⟨H0, G0, G, ρ, d, ok, e1, fun v H' G' s r => q v H' G' (ok.st.trans s) r⟩
/-! return of what is the frame's own -/
def tR (K : PySem.W.Frag) (f : Den) : TE := fun σ H Q => ∃ H0 G0 G ρ d, EnvOk K H0 G0 H G σ ρ ∧ f ρ = some d ∧ ∀ v H' G', Step H0 G0 H' G' → Res K H0 H' G' v d .ow → Q v H'
theorem res_up {K : PySem.W.Frag} {H0 G0 H G H' G' : Hp} {v : V} {d : D} (s : Step H0 G0 H G) (r : Res K H H' G' v d .ow) : Res K H0 H' G' v d .ow := by
  cases d with
  | list xs =>
    obtain ⟨a, vs, h1, h2, h3⟩ := r
    exact ⟨a, vs, h1, s.same.free h2, h3⟩
  | _ => exact r
theorem r_ow (h : PE X e (tE X.K .ow f)) : PE X e (tR X.K f) := peW h fun σ H Q ⟨H0, G0, G, ρ, d, ok, hf, q⟩ => ⟨H0, G0, G, ρ, d, ok, hf, fun v H' G' s r => q v H' G' (ok.st.trans s) (res_up ok.st r)⟩
theorem r_fz (is : List Nat) (h : PE X e (tR X.K f)) : PE X e (tR X.K fun ρ => f (fzE ρ is)) := peW h fun σ H Q ⟨H0, G0, G, ρ, d, ok, hf, q⟩ => by
  obtain ⟨G', g, ok'⟩ := EnvOk.fzE is ok
  exact ⟨H0, G0, G', _, d, ok', hf, q⟩
def noL : D → Bool
  | .list _ => false
  | _ => true
def dRO (i : Nat) : Den := fun ρ => match ρ[i]? with
  | some (some (.own xs)) => some (.list xs)
  | some (some (.val d)) => if noL d = true then some d else none
  | _ => none
theorem r_name {i : Nat} {x : Str} (hN : X.N[i]? = some x) (hv : Vis X.env.scope x) (hd : (x == ("__debug__" : Str)) = false) (hcd : (x == ("__classdict__" : Str)) = false) : PE X (.Name x pos) (tR X.K (dRO i)) :=
  peW (pe_var hN hv hd hcd) fun σ H Q ⟨H0, G0, G, ρ, d, ok, hf, q⟩ => by
    unfold dRO at hf
    split at hf
    · rename_i xs e1
      cases hf
      obtain ⟨v, h1, a, vs, rfl, h2, h3, h4, h5⟩ := ok.sl i _ e1
      exact ⟨_, h1, q _ _ _ ok.st ⟨a, vs, rfl, h5, h2, h4, h3⟩⟩
    · rename_i d' e1
      split at hf
      · rename_i hl
        cases hf
        obtain ⟨v, h1, h2⟩ := ok.sl i _ e1
        refine ⟨_, h1, q _ _ _ ok.st ?_⟩
        cases d with
        | list xs => cases hl
        | _ => exact h2
      · cases hf
    · cases hf
def dRetO (f : Den) : DenS := fun ρ => (f ρ).map .reto
theorem s_retO (he : PE X e (tR X.K f)) : PS X (.Return (some e) pos) (tS X.K (dRetO f)) :=
  psW (ps_ret he) fun Dn σ H ⟨H0, G0, G, ρ, out, ok, hf, q⟩ => by
    unfold dRetO at hf
    cases e1 : f ρ with
    | none => rw [e1] at hf; cases hf
    | some d =>
      rw [e1] at hf
      cases hf
      exact ⟨H0, G0, G, ρ, d, ok, e1, fun v H' G' s r => q v H' G' s r⟩
theorem s_pass : PS X (.Pass pos) (tS X.K fun ρ => some (.next ρ)) := psW ps_pass fun Dn σ H ⟨H0, G0, G, ρ, out, ok, hf, q⟩ => by
  cases hf
  exact q σ H G (Same.refl _) ok
theorem s_break : PS X (.Break pos) (tS X.K fun ρ => some (.brk ρ)) := psW ps_break fun Dn σ H ⟨H0, G0, G, ρ, out, ok, hf, q⟩ => by
  cases hf
  exact q σ H G (Same.refl _) ok
theorem s_continue : PS X (.Continue pos) (tS X.K fun ρ => some (.cont ρ)) := psW ps_continue fun Dn σ H ⟨H0, G0, G, ρ, out, ok, hf, q⟩ => by
  cases hf
  exact q σ H G (Same.refl _) ok
/-! if -/
def dIfS (c : Den) (F F' : DenS) : DenS := fun ρ => match c ρ with
  | some (.bool true) => F ρ
  | some (.bool false) => F' ρ
  | _ => none
theorem s_if {A B : List Stmt} {F F' : DenS} (hc : PT X c (tT X.K (dT fc))) (ha : PSs X A (tS X.K F)) (hb : PSs X B (tS X.K F')) : PS X (.If c A B pos) (tS X.K (dIfS fc F F')) :=
  psW (ps_if hc ha hb) fun Dn σ H ⟨H0, G0, G, ρ, out, ok, hf, q⟩ => by
    unfold dIfS at hf
    split at hf
    · rename_i e1
      refine ⟨H0, G0, G, ρ, true, ok, by unfold dT; rw [e1], fun H' G' s => ?_⟩
      refine iteT ?_
      exact ⟨H0, G0, G', ρ, out, ok.step s, hf, q.mono s.gg⟩
    · rename_i e1
      refine ⟨H0, G0, G, ρ, false, ok, by unfold dT; rw [e1], fun H' G' s => ?_⟩
      refine iteF ?_
      exact ⟨H0, G0, G', ρ, out, ok.step s, hf, q.mono s.gg⟩
    · cases hf
/-! for -/
def forL (b : D → Env → Option Env) (F : DenS) : List D → Env → Option Out
  | [], ρ => some (.next ρ)
  | x :: xs, ρ => (b x ρ).bind fun ρ1 => match F ρ1 with
    | some (.next ρ2) => forL b F xs ρ2
    | some (.cont ρ2) => forL b F xs ρ2
    | some (.brk ρ2) => some (.next ρ2)
    | some (.ret d) => some (.ret d)
    | some (.reto d) => some (.reto d)
    | none => none
def dFor (it : Env → Option (List D)) (b : D → Env → Option Env) (F : DenS) : DenS := fun ρ => (it ρ).bind fun items => forL b F items ρ
theorem s_for {pr : Bool} {iter : Expr} {body : List Stmt} {it : Env → Option (List D)} {ts : List Nat} {bb : D → Env → Option Env} {F : DenS} (hp : X.xe = fun _ _ => False) (hc : X.calm = true) (hi : PI X tg iter (tI pr X.K .fz it)) (hg : PG X tg (tGo pr X.K ts bb)) (hb : PSs X body (tS X.K F)) (hs : ∀ x, foldedSetIterable iter X.env x = pure x) :
    PS X (.For tg iter body [] pos) (tS X.K (dFor it bb F)) :=
  psW (ps_for (by rw [hp]; exact PassesOwn.never) hc hi hg hb hs) fun Dn σ H ⟨H0, G0, G, ρ, out, ok, hf, q⟩ => by
    unfold dFor at hf
    cases e1 : it ρ with
    | none => rw [e1] at hf; cases hf
    | some items =>
      rw [e1] at hf
      simp only [Option.bind_some] at hf
      refine ⟨H0, G0, G, ρ, items, ok, e1, fun J H1 G1 s1 hJ => ?_⟩
      refine ⟨fun i mm σc Hc => ∃ Gc ρc, i + mm = items.length ∧ Same G1 Gc ∧ EnvOk X.K H0 G0 Hc Gc σc ρc ∧ forL bb F (items.drop i) ρc = some out, ⟨items.length, G1, ρ, by omega, Same.refl _, ok.step s1, by rw [List.drop_zero]; exact hf⟩, fun i mm σc Hc hW => ?_⟩
      obtain ⟨Gc, ρc, hi, gg, okc, hr⟩ := hW
      by_cases hlt : i < items.length
      · have hgi : items[i]? = some items[i] := List.getElem?_eq_getElem hlt
        obtain ⟨go, yl⟩ := hJ.go Hc Gc i _ True.intro gg okc.gh hgi
        rw [List.drop_eq_getElem_cons hlt] at hr
        have hr' : (bb items[i] ρc).bind (fun ρ1 => match F ρ1 with
          | some (.next ρ2) => forL bb F (items.drop (i + 1)) ρ2
          | some (.cont ρ2) => forL bb F (items.drop (i + 1)) ρ2
          | some (.brk ρ2) => some (.next ρ2)
          | some (.ret d) => some (.ret d)
          | some (.reto d) => some (.reto d)
          | none => none) = some out := hr
        cases e2 : bb items[i] ρc with
        | none => rw [e2] at hr'; cases hr'
        | some ρ1 =>
          rw [e2] at hr'
          simp only [Option.bind_some] at hr'
          refine .inr ⟨go, fun σn Hn => ∃ Gn ρn, Same G1 Gn ∧ EnvOk X.K H0 G0 Hn Gn σn ρn ∧ forL bb F (items.drop (i + 1)) ρn = some out, fun σn Hn ⟨Gn, ρn, g1, g2, g3⟩ => ⟨mm - 1, by omega, Gn, ρn, by omega, g1, g2, g3⟩, fun v Hy hy => ?_⟩
          obtain ⟨Gy, sy, ry⟩ := yl v Hy hy
          refine ⟨H0, G0, Gy, ρc, _, ρ1, okc.step sy, ry, e2, fun σ2 ok2 _ => ?_⟩
          cases e3 : F ρ1 with
          | none => rw [e3] at hr'; cases hr'
          | some o =>
            rw [e3] at hr'
            refine ⟨H0, G0, Gy, ρ1, o, ok2, e3, ?_⟩
            have gy : Same G1 Gy := gg.trans sy.gg
            cases o with
            | next ρ2 => exact fun σ' H' G' g ok' => ⟨G', ρ2, gy.trans g, ok', hr'⟩
            | cont ρ2 => exact fun σ' H' G' g ok' => ⟨G', ρ2, gy.trans g, ok', hr'⟩
            | brk ρ2 =>
              cases hr'
              exact fun σ' H' G' g ok' => q σ' H' G' ((s1.gg.trans gy).trans g) ok'
            | ret d =>
              cases hr'
              exact q
            | reto d =>
              cases hr'
              exact q
      · have hge : items.length ≤ i := by omega
        rw [List.drop_of_length_le hge] at hr
        cases hr
        exact .inl ⟨hJ.stop Hc Gc i True.intro gg okc.gh (by omega), q σc Hc Gc (s1.gg.trans gg) okc⟩
end
end PF
namespace PF
open PySem PySem.Spec PyProof.Rows L2 RZ
section
variable {X : Cx} {tg a b c e : Expr} {es : List Expr} {fa fb fc f : Den} {fs : List Den} {pos p p' apos : Pos} {m : Md} {i : Nat} {x : Str}
theorem sole_no {t e : Expr} {l : Nat} {env : PySem.Env} (h : isComp e = false) : swapsWithSole [t] e l env = pure false := by
  have q : swapsWith e (some t) l env = pure false := swaps_no h
  exact q
/-! ### while, by fuel -/
def whileL (c : Den) (F : DenS) : Nat → Env → Option Out
  | 0, _ => none
  | n + 1, ρ => match c ρ with
    | some (.bool true) => match F ρ with
      | some (.next ρ2) => whileL c F n ρ2
      | some (.cont ρ2) => whileL c F n ρ2
      | some (.brk ρ2) => some (.next ρ2)
      | some (.ret d) => some (.ret d)
      | some (.reto d) => some (.reto d)
      | none => none
    | some (.bool false) => some (.next ρ)
    | _ => none
theorem s_while {body : List Stmt} {F : DenS} (n : Nat) (hp : X.xe = fun _ _ => False) (hc : PT X c (tT X.K (dT fc))) (hb : PSs X body (tS X.K F)) : PS X (.While c body [] pos) (tS X.K (whileL fc F n)) :=
  psW (ps_while (by rw [hp]; exact PassesOwn.never) hc hb) fun Dn σ H ⟨H0, G0, G, ρ, out, ok, hf, q⟩ => by
    refine ⟨fun mm σc Hc => ∃ Gc ρc, Same G Gc ∧ EnvOk X.K H0 G0 Hc Gc σc ρc ∧ whileL fc F mm ρc = some out, ⟨n, G, ρ, Same.refl _, ok, hf⟩, fun mm σc Hc hW => ?_⟩
    obtain ⟨Gc, ρc, gg, okc, hr⟩ := hW
    cases mm with
    | zero => cases hr
    | succ k =>
      have hr' : (match fc ρc with
        | some (.bool true) => match F ρc with
          | some (.next ρ2) => whileL fc F k ρ2
          | some (.cont ρ2) => whileL fc F k ρ2
          | some (.brk ρ2) => some (.next ρ2)
          | some (.ret d) => some (.ret d)
          | some (.reto d) => some (.reto d)
          | none => none
        | some (.bool false) => some (.next ρc)
        | _ => none) = some out := hr
      split at hr'
      · rename_i e1
        refine ⟨H0, G0, Gc, ρc, true, okc, by unfold dT; rw [e1], fun H1 G1 s1 => ?_⟩
        refine iteT ?_
        refine ⟨fun σn Hn => ∃ Gn ρn, Same G Gn ∧ EnvOk X.K H0 G0 Hn Gn σn ρn ∧ whileL fc F k ρn = some out, fun σn Hn h => ⟨k, Nat.lt_succ_self k, h⟩, ?_⟩
        have g1 : Same G G1 := gg.trans s1.gg
        cases e2 : F ρc with
        | none => rw [e2] at hr'; cases hr'
        | some o =>
          rw [e2] at hr'
          refine ⟨H0, G0, G1, ρc, o, okc.step s1, e2, ?_⟩
          cases o with
          | next ρ2 => exact fun σ' H' G' g ok' => ⟨G', ρ2, g1.trans g, ok', hr'⟩
          | cont ρ2 => exact fun σ' H' G' g ok' => ⟨G', ρ2, g1.trans g, ok', hr'⟩
          | brk ρ2 =>
            cases hr'
            exact fun σ' H' G' g ok' => q σ' H' G' (g1.trans g) ok'
          | ret d =>
            cases hr'
            exact q
          | reto d =>
            cases hr'
            exact q
      · rename_i e1
        cases hr'
        refine ⟨H0, G0, Gc, ρc, false, okc, by unfold dT; rw [e1], fun H1 G1 s1 => ?_⟩
        refine iteF ?_
        exact q _ _ _ (gg.trans s1.gg) (okc.step s1)
      · cases hr'
/-! ### lists of the frame's own, changed -/
theorem EnvOk.mut {K : PySem.W.Frag} {H0 G0 H G : Hp} {σ : St} {ρ : Env} {xs ys : List D} {a : Addr} {vs us : List V} (e : EnvOk K H0 G0 H G σ ρ) (hi : ρ[i]? = some (some (.own xs))) (hs : σ[i]? = some (some (.ref a))) (ha : H a = some (.lst vs)) (hg : G a = none) (h0 : H0 a = none) (r : RpAll K G us ys) :
    EnvOk K H0 G0 (upd H a (.lst us)) G σ (ρ.set i (some (.own ys))) := by
  have hil : i < ρ.length := (List.getElem?_eq_some_iff.mp hi).1
  refine ⟨by rw [List.length_set]; exact e.len, ⟨fun b o hb => ?_, e.st.gg, fun b o hb => ?_, e.st.old⟩, fun j sv h => ?_, fun j k ws zs hjk q1 q2 => ?_, fun j k ws zs hjk q1 q2 => ?_⟩
  · rw [upd_ne (ne_of_none hb h0)]
    exact e.st.same b o hb
  · rw [upd_ne (ne_of_none hb hg)]
    exact e.gh b o hb
  · rw [List.getElem?_set] at h
    by_cases hj : i = j
    · subst hj
      simp only [hil, if_true] at h
      cases h
      exact ⟨_, hs, a, us, rfl, upd_same, r, hg, h0⟩
    · simp only [hj, if_false] at h
      obtain ⟨v, k1, k2⟩ := e.sl j sv h
      refine ⟨v, k1, ?_⟩
      cases sv with
      | val d => exact k2
      | own ws =>
        obtain ⟨b, us', rfl, k3, k4, k5, k6⟩ := k2
        refine ⟨b, us', rfl, ?_, k4, k5, k6⟩
        rw [upd_ne (own_ne e (fun z => hj z.symm) h hi k1 hs)]
        exact k3
      | dic ws =>
        obtain ⟨b, ep, us', rfl, k3, k4, k5, k6⟩ := k2
        refine ⟨b, ep, us', rfl, ?_, k4, k5, k6⟩
        rw [upd_ne (lst_dk ha k3).symm]
        exact k3
  · rw [List.getElem?_set] at q1 q2
    have get : ∀ {l : Nat} {ts : List D}, (if i = l then if i < ρ.length then some (some (SV.own ys)) else none else ρ[l]?) = some (some (.own ts)) → ∃ ts', ρ[l]? = some (some (.own ts')) := fun {l ts} q => by
      by_cases hl : i = l
      · subst hl; exact ⟨xs, hi⟩
      · simp only [hl, if_false] at q; exact ⟨ts, q⟩
    obtain ⟨ws', w1⟩ := get q1
    obtain ⟨zs', w2⟩ := get q2
    exact e.sep j k ws' zs' hjk w1 w2
  · rw [List.getElem?_set] at q1 q2
    by_cases hj : i = j
    · subst hj
      simp [hil] at q1
    · by_cases hk : i = k
      · subst hk
        simp [hil] at q2
      · simp only [hj, hk, if_false] at q1 q2
        exact e.sepD j k ws zs hjk q1 q2
theorem own_get {K : PySem.W.Frag} {H0 G0 H G : Hp} {σ : St} {ρ : Env} {xs : List D} (e : EnvOk K H0 G0 H G σ ρ) (hi : ρ[i]? = some (some (.own xs))) : ∃ a vs, σ[i]? = some (some (.ref a)) ∧ H a = some (.lst vs) ∧ RpAll K G vs xs ∧ G a = none ∧ H0 a = none := by
  obtain ⟨v, h1, a, vs, rfl, h2, h3, h4, h5⟩ := e.sl i _ hi
  exact ⟨a, vs, h1, h2, h3, h4, h5⟩
theorem few1 (hs : isStar e = false) : ((backTo pos (starEach [e] X.env)).all (fun x => !x.1) && (backToKw pos (keywordEach [] X.env)).all (fun x => x.1.isSome)
      && decide ([e].length + ([] : List Keyword).length + (if ([] : List Keyword).isEmpty then 0 else 1) < 30)) = true := by
  rw [star_ok hs]
  rfl
def dAppend (i : Nat) (f : Den) : DenS := fun ρ => match ρ[i]? with
  | some (some (.own xs)) => (f ρ).bind fun d => if xs.length < sizeLine then some (.next (ρ.set i (some (.own (xs ++ [d]))))) else none
  | _ => none
theorem s_append (hN : X.N[i]? = some x) (hv : Vis X.env.scope x) (hd : (x == ("__debug__" : Str)) = false) (hcd : (x == ("__classdict__" : Str)) = false) (hl : (apos.endLine == pos.line) = true) (hs : isStar e = false) (he : PE X e (tE X.K .fz f)) :
    PS X (.Expr (.Call (.Attribute (.Name x p) "append" apos) [e] [] pos) p') (tS X.K (dAppend i f)) :=
  psW (ps_expr (pe_bm PySem.F.plainAttrs_list PySem.F.slot_list_append PySem.F.type_list_append mt_append (pe_var hN hv hd hcd) (pa_cons he pa_nil (st1 hs)) rfl (few1 hs) hl (st1 hs) rfl) rfl) fun Dn σ H ⟨H0, G0, G, ρ, out, ok, hf, q⟩ => by
    unfold dAppend at hf
    split at hf
    · rename_i xs e1
      obtain ⟨a, vs, h1, h2, h3, h4, h5⟩ := own_get ok e1
      cases e2 : f ρ with
      | none => rw [e2] at hf; cases hf
      | some d =>
        rw [e2] at hf
        simp only [Option.bind_some] at hf
        split at hf
        · rename_i hlt
          cases hf
          refine ⟨_, h1, .inl ⟨rfl, _, .inl (.inl h2)⟩, H0, G0, G, ρ, d, ok, e2, fun v H1 G1 s r => ?_⟩
          have k2 := s.same _ _ h2
          have k4 : G1 a = none := by rw [s.old a (some_ne h2)]; exact h4
          refine ⟨a, vs, v, rfl, rfl, k2, by rw [h3.length]; exact hlt, ?_⟩
          exact q _ _ _ s.gg ((ok.step s).mut e1 h1 k2 k4 h5 ((h3.mono s.gg).append (.cons r .nil)))
        · cases hf
    · cases hf
def dExtend (i : Nat) (f : Den) : DenS := fun ρ => match ρ[i]? with
  | some (some (.own xs)) => match f ρ with
    | some (.list ys) => if xs.length + ys.length ≤ sizeLine then some (.next (ρ.set i (some (.own (xs ++ ys))))) else none
    | _ => none
  | _ => none
theorem s_extend (hN : X.N[i]? = some x) (hv : Vis X.env.scope x) (hd : (x == ("__debug__" : Str)) = false) (hcd : (x == ("__classdict__" : Str)) = false) (hl : (apos.endLine == pos.line) = true) (hs : isStar e = false) (he : PE X e (tE X.K .ow f)) :
    PS X (.Expr (.Call (.Attribute (.Name x p) "extend" apos) [e] [] pos) p') (tS X.K (dExtend i f)) :=
  psW (ps_expr (pe_bm PySem.F.plainAttrs_list PySem.F.slot_list_extend PySem.F.type_list_extend mt_extend (pe_var hN hv hd hcd) (pa_cons he pa_nil (st1 hs)) rfl (few1 hs) hl (st1 hs) rfl) rfl) fun Dn σ H ⟨H0, G0, G, ρ, out, ok, hf, q⟩ => by
    unfold dExtend at hf
    split at hf
    · rename_i xs e1
      obtain ⟨a, vs, h1, h2, h3, h4, h5⟩ := own_get ok e1
      split at hf
      · rename_i ys e2
        split at hf
        · rename_i hlt
          cases hf
          refine ⟨_, h1, .inl ⟨rfl, _, .inl (.inl h2)⟩, H0, G0, G, ρ, _, ok, e2, fun v H1 G1 s r => ?_⟩
          obtain ⟨b, us, rfl, n, hb, gb, rr⟩ := r
          have k2 := s.same _ _ h2
          have k4 : G1 a = none := by rw [s.old a (some_ne h2)]; exact h4
          have k3 := h3.mono s.gg
          refine ⟨a, b, vs, us, rfl, rfl, k2, hb, by rw [k3.length, rr.length]; exact hlt, ?_⟩
          exact q _ _ _ s.gg ((ok.step s).mut e1 h1 k2 k4 h5 (k3.append rr))
        · cases hf
      · cases hf
    · cases hf
/-- y = x.pop() -/
def dPop (i : Nat) (b : D → Env → Option Env) : DenS := fun ρ => match ρ[i]? with
  | some (some (.own xs)) => match xs[xs.length - 1]? with
    | some d => (b d (ρ.set i (some (.own xs.dropLast)))).map .next
    | none => none
  | _ => none
theorem s_pop {pr : Bool} {ts : List Nat} {bb : D → Env → Option Env} (hN : X.N[i]? = some x) (hv : Vis X.env.scope x) (hd : (x == ("__debug__" : Str)) = false) (hcd : (x == ("__classdict__" : Str)) = false) (hl : (apos.endLine == pos.line) = true) (h1 : isStar tg = false) (hg : PG X tg (tGo pr X.K ts bb)) (hw : swappedStores [tg] (.Call (.Attribute (.Name x p) "pop" apos) [] [] pos) X.env = pure none) :
    PS X (.Assign [tg] (.Call (.Attribute (.Name x p) "pop" apos) [] [] pos) p') (tS X.K (dPop i bb)) :=
  psW (ps_asg (pe_bm0 PySem.F.plainAttrs_list PySem.F.slot_list_pop PySem.F.type_list_pop mt_pop (pe_var hN hv hd hcd) rfl hl) hg (sole_no rfl) hw (by rw [assign_star h1]; rfl)) fun Dn σ H ⟨H0, G0, G, ρ, out, ok, hf, q⟩ => by
    unfold dPop at hf
    split at hf
    · rename_i xs e1
      obtain ⟨a, vs, h1, h2, h3, h4, h5⟩ := own_get ok e1
      split at hf
      · rename_i d e2
        cases e3 : bb d (ρ.set i (some (.own xs.dropLast))) with
        | none => rw [e3] at hf; cases hf
        | some ρ' =>
          rw [e3] at hf
          cases hf
          obtain ⟨v, k1, k2⟩ := h3.get _ e2
          refine ⟨_, h1, .inl ⟨rfl, _, .inl (.inl h2)⟩, a, vs, v, rfl, rfl, h2, by rw [h3.length]; exact k1, ?_⟩
          refine ⟨H0, G0, G, _, d, ρ', ok.mut e1 h1 h2 h4 h5 h3.dropLast, .inl k2, e3, fun σ' ok' _ => q _ _ _ (Same.refl _) ok'⟩
      · cases hf
    · cases hf
/-- x[j] = e -/
def dSetIx (i : Nat) (g f : Den) : DenS := fun ρ => match ρ[i]? with
  | some (some (.own xs)) => (f ρ).bind fun d => match g ρ with
    | some (.int k) => (ixN xs.length k).bind fun j => some (.next (ρ.set i (some (.own (xs.set j d)))))
    | _ => none
  | _ => none
theorem s_setIx {ix : Expr} {g : Den} {px : Pos} (hN : X.N[i]? = some x) (hv : Vis X.env.scope x) (hd : (x == ("__debug__" : Str)) = false) (hcd : (x == ("__classdict__" : Str)) = false) (hsl : isSlice ix = false) (hc : isComp e = false) (hg : PE X ix (tE X.K .bw g)) (he : PE X e (tE X.K .fz f)) :
    PS X (.Assign [.Subscript (.Name x p) ix apos] e pos) (tS X.K (dSetIx i g f)) := by
  have hgs : PG X (.Subscript (.Name x p) ix apos) (gSub (tVar i) (tE X.K .bw g) rSetL) := pg_sub (pe_var hN hv hd hcd) hg set_list (fun v => by
    cases ix <;> first | rfl | (exact absurd hsl (by simp [isSlice])))
  refine psW (ps_asg he hgs (sole_no hc) (by rfl) (by rfl)) fun Dn σ H ⟨H0, G0, G, ρ, out, ok, hf, q⟩ => ?_
  unfold dSetIx at hf
  split at hf
  · rename_i xs e1
    obtain ⟨a, vs, h1, h2, h3, h4, h5⟩ := own_get ok e1
    cases e2 : f ρ with
    | none => rw [e2] at hf; cases hf
    | some d =>
      rw [e2] at hf
      simp only [Option.bind_some] at hf
      split at hf
      · rename_i k e3
        cases e4 : ixN xs.length k with
        | none => rw [e4] at hf; cases hf
        | some j =>
          rw [e4] at hf
          cases hf
          refine ⟨H0, G0, G, ρ, d, ok, e2, fun v H1 G1 s r => ⟨_, h1, H0, G0, G1, ρ, _, ok.step s, e3, fun u H2 G2 s2 r2 => ?_⟩⟩
          cases Rb.int r2
          have st := s.trans s2
          have k2 := st.same _ _ h2
          have k4 : G2 a = none := by rw [st.old a (some_ne h2)]; exact h4
          have k3 := h3.mono st.gg
          refine ⟨a, vs, k, j, rfl, rfl, k2, by rw [k3.length]; exact e4, ?_⟩
          exact q _ _ _ st.gg ((ok.step st).mut e1 h1 k2 k4 h5 (k3.set (Rp.mono s2.gg r) j))
      · cases hf
  · cases hf
/-! ### a def -/
def toEnv (n : Nat) (ds : List D) : Env := ds.map (fun d => some (.val d)) ++ List.replicate (n - ds.length) none
def runF (n : Nat) (F : DenS) (ds : List D) : Option D := match F (toEnv n ds) with
  | some (.ret d) => some d
  | some (.next _) => some .none
  | _ => none
theorem env_start {K : PySem.W.Frag} {H G : Hp} {N : List Str} {vs : List V} {ds : List D} (gh : Same G H) (r : RpAll K G vs ds) : EnvOk K H G H G (L2.start N vs) (toEnv N.length ds) where
  len := by unfold L2.start toEnv; simp [r.length]
  st := Step.refl gh
  sl := fun i sv h => by
    unfold toEnv at h
    unfold L2.start
    by_cases hi : i < ds.length
    · rw [List.getElem?_append_left (by simpa using hi), List.getElem?_map, List.getElem?_eq_getElem hi] at h
      cases h
      obtain ⟨v, h1, h2⟩ := r.get i (List.getElem?_eq_getElem hi)
      have hv : i < vs.length := by rw [r.length]; exact hi
      refine ⟨v, ?_, h2⟩
      rw [List.getElem?_append_left (by simpa using hv), List.getElem?_map, h1]
      rfl
    · rw [List.getElem?_append_right (by simpa using hi), List.getElem?_replicate] at h
      split at h <;> cases h
  sep := fun i j xs ys _ h _ => by
    unfold toEnv at h
    by_cases hi : i < ds.length
    · rw [List.getElem?_append_left (by simpa using hi), List.getElem?_map, List.getElem?_eq_getElem hi] at h
      cases h
    · rw [List.getElem?_append_right (by simpa using hi), List.getElem?_replicate] at h
      split at h <;> cases h
  sepD := fun i j xs ys _ h _ => by
    unfold toEnv at h
    by_cases hi : i < ds.length
    · rw [List.getElem?_append_left (by simpa using hi), List.getElem?_map, List.getElem?_eq_getElem hi] at h
      cases h
    · rw [List.getElem?_append_right (by simpa using hi), List.getElem?_replicate] at h
      split at h <;> cases h
theorem def_ok {P : Program} {w : World} {K : PySem.W.Frag} {mg : Str → Option Value} {base : Heap} {nm qual : Str} {st : Stmt} {fa : Addr} {fd : FuncData} {N ps : List Str} {k : Nat} {F : DenS} {g : List D → Option D} (Fn : Fun K nm qual st fa fd) (S : FnScope N ps (defScope st))
    (hb : ∀ (cdv : Value) (A : Around) (outer : List PySem.Env) (s : Shared) (H : Hp) (E : XK), Room k (A.deeper (envOfC qual (defScope st) s.heap.objs.size fa cdv)) → PSs (cxOf CX0 P w K mg base N qual (defScope st) fa cdv A outer s H E).nox (defBody st) (tS K F))
    (hg : ∀ ds d, ds.length = ps.length → g ds = some d → runF N.length F ds = some d) : FnOk P w K mg base CX0 (k + 1) fa fd ps (spF K ps.length g) := by
  refine Fn.ok S (fun vs H Q E h => ?_) (fun cdv A outer s H vs Q E hr h => ⟨_, hb cdv A outer s H E hr, ?_⟩)
  · obtain ⟨G, ds, d, gh, r, hl, _⟩ := h
    rw [r.length]
    exact hl
  · obtain ⟨G, ds, d, gh, r, hl, hgd, q⟩ := h
    have hrun := hg ds d hl hgd
    unfold runF at hrun
    split at hrun
    · rename_i d' e1
      cases hrun
      exact ⟨H, G, G, _, _, env_start gh r, e1, q⟩
    · rename_i ρ' e1
      cases hrun
      exact ⟨H, G, G, _, _, env_start gh r, e1, fun σ' H' G' _ ok' => q _ _ _ ok'.st .non⟩
    · cases hrun
end
end PF
namespace PF
open PySem PySem.Spec PyProof.Rows L2 RZ
/-! ### x, *y = e -/
section
variable {prog : Program} {w : World} {A : Around} {E : Value → Shared → Prop} {s : Shared}
/-- the same walk, begun at the i-th item -/
theorem walks_from {I : Addr} {fp wr : List Addr} {n : Nat} {P : Nat → Value → Prop} {St : Nat → Heap → Prop} (W : Walks prog w A I fp wr n P St) (i : Nat) (hi : i ≤ n) : Walks prog w A I fp wr (n - i) (fun j v => P (i + j) v) (fun j h => St (i + j) h) where
  sub := W.sub
  frame := fun j h h' st k => W.frame (i + j) h h' st k
  item := fun j s Q E hj st hQ => W.item (i + j) s Q E (by omega) st hQ
  done := fun s Q E st hQ => W.done s Q E (by rw [show i + (n - i) = n by omega] at st; exact st) hQ
  self := fun j s Q E st hQ => W.self (i + j) s Q E st hQ
theorem items_drop {items acc : Array Value} {i : Nat} (hi : i ≤ items.size) (h : ItemsOf (fun j v => items[i + j]? = some v) acc (items.size - i)) : acc.toList = items.toList.drop i := by
  refine List.ext_getElem? fun j => ?_
  rw [List.getElem?_drop]
  by_cases hj : j < acc.size
  · have e := h.2 j acc[j] (by simp [hj])
    simp only [Array.getElem?_toList]
    rw [e]
    simp [hj]
  · have hs := h.1
    rw [List.getElem?_eq_none (by simpa using hj), List.getElem?_eq_none (by simp; omega)]
theorem unpack_starT {t : Addr} {items : Array Value} {i : Nat} {Q : List Value → Shared → Prop} (hh : A.handled = none) (ht : s.heap.IsTuple t items) (hi : i ≤ items.size) (hz : items.size ≤ sizeLine)
    (hQ : ∀ (h' : Heap) (tk : Nat), (∀ b o, s.heap.get? b = some o → h'.get? b = some o) → Q (items.toList.take i ++ [.ref h'.objs.size]) { s with heap := h'.push { cls := .type "list", data := .seq (items.toList.drop i).toArray }, toks := tk }) :
    wpAny (model prog w) A (unpackItems (.ref t) (i + 1) (some i)) Q E s := by
  have htl : t < s.heap.objs.size := by obtain ⟨o, ho, _⟩ := ht; exact Heap.lt_size ho
  have hlt : t ≠ s.heap.objs.size := Nat.ne_of_lt htl
  unfold unpackItems
  refine wpAny_bind ?_
  unfold notIterableAtAll
  refine wpAny_bind (wpAny_specialOf ht.typeIs F.slot_tuple_iter.lookup ?_)
  refine wpAny_pure ?_
  simp only [Bool.false_eq_true, if_false]
  refine wpAny_bind (wpAny_holding (wpAny_pyIter_tuple ht ?_))
  refine wpAny_bind (wpAny_holding (wpAny_draw_tuple hlt i 0 _ _ ⟨_, Heap.get?_push_size _ rfl, rfl, rfl⟩ (ht.push _) (by omega) fun h₁ hit₁ hs₁ => ?_))
  rw [List.drop_zero, if_neg (by simp; omega)]
  have ht₁ : h₁.IsTuple t items := (ht.push _).extBut hs₁.extBut hlt
  rw [Nat.zero_add] at hit₁
  have sz1 : h₁.objs.size = s.heap.objs.size + 1 := by rw [hs₁.1, Heap.size_push]
  have old1 : ∀ b o, s.heap.get? b = some o → h₁.get? b = some o := fun b o e => hs₁.extBut b o (Nat.ne_of_lt (Heap.lt_size e)) (Heap.get?_push_of_some _ e)
  have W := (walks_from (Walks.tuple (prog := prog) (w := w) (A := A.in1) hh s.heap.objs.size t hlt items) i hi).toS
  refine wpAny_bind (wpAny_holding (wpAny_collect_iter (T := "tuple_iterator") (.inr (.inr (.inr rfl))) W (fun j s' st => st.1.typeIs) ⟨by rw [Nat.add_zero]; exact hit₁, ht₁⟩ (fun b hb => ?_) (by simp) (fun s' acc hm hacc => ?_) (by omega)))
  · have e' : b = s.heap.objs.size ∨ b = t := by simpa using hb
    show b < h₁.objs.size
    rcases e' with z | z
    · rw [z, sz1]; exact Nat.lt_succ_self _
    · rw [z, sz1]; exact Nat.lt_succ_of_lt htl
  · rw [items_drop hi hacc]
    rw [if_neg (by simp)]
    simp only [Nat.add_sub_cancel, Nat.sub_self, Nat.sub_zero, List.take_length, List.drop_length, List.append_nil]
    obtain ⟨hp', g', d', tk', os'⟩ := s'
    obtain ⟨m1, m2, m3, m4, m5⟩ := hm
    have m2' : g' = s.gens := m2
    have m3' : d' = s.drawn := m3
    have m4' : os' = s.os := m4
    subst m2' m3' m4'
    have old2 : ∀ b o, s.heap.get? b = some o → hp'.get? b = some o := fun b o e => m1 b o (by simp; exact Nat.ne_of_lt (Heap.lt_size e)) (old1 b o e)
    refine wpAny_bind (wpAny_newObj_type ?_ (by simp [sizeOk]; omega))
    exact wpAny_pure (hQ _ tk' old2)
theorem draw_lst {it t : Addr} {items : Array Value} (hne : t ≠ it) : ∀ (n i : Nat) (s : Shared) (Q : List Value → Shared → Prop), s.heap.IsListIter it t i → s.heap.IsList t items → i + n ≤ items.size →
    (∀ h', h'.IsListIter it t (i + n) → Heap.SameBut it s.heap h' → Q ((items.toList.drop i).take n) { s with heap := h' }) → wpAny (model prog w) A (draw (.ref it) n) Q E s
  | 0, i, s, Q, hit, _, _, hQ => by
    show wpAny _ _ (pure []) Q E s
    exact wpAny_pure (by simpa using hQ s.heap hit (Heap.SameBut.refl ..))
  | n + 1, i, s, Q, hit, ht, hle, hQ => by
    have hlt : i < items.size := by omega
    show wpAny _ _ (pyNext (.ref it) >>= _) Q E s
    refine wpAny_bind (wpAny_pyNext_list_item hit ht (x := items[i]) (by simp [hlt]) fun h₁ hit₁ hs₁ => ?_)
    refine wpAny_bind (wpAny_holding (draw_lst hne n (i + 1) _ _ hit₁ (ht.extBut hs₁.extBut hne) (by omega) fun h₂ hit₂ hs₂ => wpAny_pure ?_))
    have hd : items.toList.drop i = items[i] :: items.toList.drop (i + 1) := by simp [List.drop_eq_getElem_cons, hlt]
    have := hQ h₂ (by rw [show i + (n + 1) = i + 1 + n by omega]; exact hit₂) (hs₁.trans hs₂)
    rw [hd, List.take_succ_cons] at this
    exact this
theorem unpack_starL {t : Addr} {items : Array Value} {i : Nat} {Q : List Value → Shared → Prop} (hh : A.handled = none) (ht : s.heap.IsList t items) (hi : i ≤ items.size) (hz : items.size ≤ sizeLine)
    (hQ : ∀ (h' : Heap) (tk : Nat), (∀ b o, s.heap.get? b = some o → h'.get? b = some o) → Q (items.toList.take i ++ [.ref h'.objs.size]) { s with heap := h'.push { cls := .type "list", data := .seq (items.toList.drop i).toArray }, toks := tk }) :
    wpAny (model prog w) A (unpackItems (.ref t) (i + 1) (some i)) Q E s := by
  have htl : t < s.heap.objs.size := by obtain ⟨o, ho, _⟩ := ht; exact Heap.lt_size ho
  have hlt : t ≠ s.heap.objs.size := Nat.ne_of_lt htl
  unfold unpackItems
  refine wpAny_bind ?_
  unfold notIterableAtAll
  refine wpAny_bind (wpAny_specialOf ht.typeIs F.slot_list_iter.lookup ?_)
  refine wpAny_pure ?_
  simp only [Bool.false_eq_true, if_false]
  refine wpAny_bind (wpAny_holding (wpAny_pyIter_list ht ?_))
  refine wpAny_bind (wpAny_holding (draw_lst hlt i 0 _ _ ⟨_, Heap.get?_push_size _ rfl, rfl, rfl⟩ (ht.push _) (by omega) fun h₁ hit₁ hs₁ => ?_))
  rw [List.drop_zero, if_neg (by simp; omega)]
  have ht₁ : h₁.IsList t items := (ht.push _).extBut hs₁.extBut hlt
  rw [Nat.zero_add] at hit₁
  have sz1 : h₁.objs.size = s.heap.objs.size + 1 := by rw [hs₁.1, Heap.size_push]
  have old1 : ∀ b o, s.heap.get? b = some o → h₁.get? b = some o := fun b o e => hs₁.extBut b o (Nat.ne_of_lt (Heap.lt_size e)) (Heap.get?_push_of_some _ e)
  have W := (walks_from (Walks.list (prog := prog) (w := w) (A := A.in1) hh s.heap.objs.size t hlt items) i hi).toS
  refine wpAny_bind (wpAny_holding (wpAny_collect_iter (T := "list_iterator") (.inr (.inr (.inl rfl))) W (fun j s' st => st.1.typeIs) ⟨by rw [Nat.add_zero]; exact hit₁, ht₁⟩ (fun b hb => ?_) (by simp) (fun s' acc hm hacc => ?_) (by omega)))
  · have e' : b = s.heap.objs.size ∨ b = t := by simpa using hb
    show b < h₁.objs.size
    rcases e' with z | z
    · rw [z, sz1]; exact Nat.lt_succ_self _
    · rw [z, sz1]; exact Nat.lt_succ_of_lt htl
  · rw [items_drop hi hacc]
    rw [if_neg (by simp)]
    simp only [Nat.add_sub_cancel, Nat.sub_self, Nat.sub_zero, List.take_length, List.drop_length, List.append_nil]
    obtain ⟨hp', g', d', tk', os'⟩ := s'
    obtain ⟨m1, m2, m3, m4, m5⟩ := hm
    have m2' : g' = s.gens := m2
    have m3' : d' = s.drawn := m3
    have m4' : os' = s.os := m4
    subst m2' m3' m4'
    have old2 : ∀ b o, s.heap.get? b = some o → hp'.get? b = some o := fun b o e => m1 b o (by simp; exact Nat.ne_of_lt (Heap.lt_size e)) (old1 b o e)
    refine wpAny_bind (wpAny_newObj_type ?_ (by simp [sizeOk]; omega))
    exact wpAny_pure (hQ _ tk' old2)
end
section
variable {X : Cx} {tg a b c e : Expr} {es : List Expr} {fa fb fc f : Den} {pos p p' apos : Pos} {i n : Nat} {x : Str}
/-- the targets without the star -/
def unstar : List Expr → List Expr
  | [] => []
  | .Starred t _ :: r => t :: unstar r
  | e :: r => e :: unstar r
theorem unstar_assign (env : PySem.Env) : ∀ es : List Expr, (unstar es).all (fun e => !isStar e) = true → (assignEach es env).map (·.2) = (assignEach (unstar es) env).map (·.2)
  | [], _ => rfl
  | e :: r, h => by
    cases e with
    | Starred t p =>
      simp only [unstar, List.all_cons, Bool.and_eq_true] at h
      show assign t env :: (assignEach r env).map (·.2) = (assignEach (t :: unstar r) env).map (·.2)
      rw [assign_star (by simpa using h.1), unstar_assign env r h.2]
      rfl
    | _ =>
      simp only [unstar, List.all_cons, Bool.and_eq_true] at h
      show _ = (assignEach (_ :: unstar r) env).map (·.2)
      rw [assign_star (by simpa using h.1), assign_star (by simpa using h.1), List.map_cons, List.map_cons, unstar_assign env r h.2]
/-- the star stands last -/
def starLast : List Expr → Bool
  | [.Starred _ _] => true
  | e :: r => !isStar e && starLast r
  | [] => false
theorem star_find (env : PySem.Env) : ∀ es : List Expr, starLast es = true → (assignEach es env).findIdx? (·.1) = some (es.length - 1)
  | [], h => by cases h
  | [.Starred t p], _ => rfl
  | e :: r, h => by
    by_cases hs : isStar e = true
    · cases e with
      | Starred t p =>
        cases r with
        | nil => rfl
        | cons e2 r2 => simp [starLast, isStar] at h
      | _ => simp [isStar] at hs
    · have hs' : isStar e = false := by simpa using hs
      have hr : starLast r = true := by
        cases r with
        | nil => cases e <;> simp_all [starLast, isStar]
        | cons e2 r2 => cases e <;> simp_all [starLast, isStar]
      have hl : 0 < r.length := by cases r with
        | nil => cases hr
        | cons _ _ => simp
      rw [assign_star hs', List.findIdx?_cons, star_find env r hr]
      simp
      omega
def gStar (K : PySem.W.Frag) (n : Nat) (t : TGs) : TG := fun v σ H Q => ∃ a xs, v = .ref a ∧ (SqT K H a xs ∨ SqL K H a xs) ∧ n ≤ xs.length ∧ ∀ L, H L = none → t (xs.take n ++ [.ref L]) σ (upd H L (.lst (xs.drop n))) Q
theorem pg_star {k : Nat} {t : TGs} (hc : X.calm = true) (hsl : starLast es = true) (hu : (unstar es).all (fun e => !isStar e) = true) (hn : es.length = n + 1) (h : PGs X (unstar es) t) : PG X (.Tuple es k pos) (gStar X.K n t) := by
  refine ⟨fun pins s σ H v u Q I r hw => ?_⟩
  obtain ⟨a, xs, e1, hq, hl, hw⟩ := hw
  subst e1
  cases r
  rw [PyProof.Rows.assign_Tuple]
  refine wpAny_bind (wpAny_standAt ?_)
  unfold unpack
  rw [assign_len, hn, star_find _ _ hsl, hn, Nat.add_sub_cancel, unstar_assign _ _ hu]
  rcases hq with hq | hq
  · obtain ⟨its, rv, p1, hz⟩ := I.tuple hq
    have hlen := rv.length
    have hIT : s.heap.IsTuple a its.toArray := p1
    refine wpAny_bind (wpAny_holding (unpack_starT (I.ok.hd hc) hIT (by simp; omega) (by simp; omega) fun h' tk hk => ?_))
    have I1 : Inv X pins σ H { s with heap := h', toks := tk } := I.kept hk
    have I2 : Inv X pins σ (upd H h'.objs.size (.lst (xs.drop n))) { s with heap := h'.push { cls := .type "list", data := .seq (its.drop n).toArray }, toks := tk } :=
      I1.laid (t' := tk) (fun b o e => Heap.get?_push_of_some _ e) (Nat.le_refl _) (show ObjOk X.prog X.w _ _ _ (.lst (xs.drop n)) from ⟨by rw [List.length_drop]; omega, its.drop n, 0, rv.drop n, Heap.get?_push_size _ rfl⟩)
    refine h.run pins _ σ _ (xs.take n ++ [.ref h'.objs.size]) _ Q I2 ?_ (hw _ (I1.hok.fresh (Nat.le_refl _)))
    exact (rv.take n).append (.cons rfl .nil)
  · obtain ⟨its, rv, pl, hz⟩ := I.list hq
    have hlen := rv.length
    refine wpAny_bind (wpAny_holding (unpack_starL (I.ok.hd hc) pl.isList (by simp; omega) (by simp; omega) fun h' tk hk => ?_))
    have I1 : Inv X pins σ H { s with heap := h', toks := tk } := I.kept hk
    have I2 : Inv X pins σ (upd H h'.objs.size (.lst (xs.drop n))) { s with heap := h'.push { cls := .type "list", data := .seq (its.drop n).toArray }, toks := tk } :=
      I1.laid (t' := tk) (fun b o e => Heap.get?_push_of_some _ e) (Nat.le_refl _) (show ObjOk X.prog X.w _ _ _ (.lst (xs.drop n)) from ⟨by rw [List.length_drop]; omega, its.drop n, 0, rv.drop n, Heap.get?_push_size _ rfl⟩)
    refine h.run pins _ σ _ (xs.take n ++ [.ref h'.objs.size]) _ Q I2 ?_ (hw _ (I1.hok.fresh (Nat.le_refl _)))
    exact (rv.take n).append (.cons rfl .nil)
/-- x, .., *y = e -/
def dStar (n : Nat) (bs : List D → Env → Option Env) (f : Den) : DenS := fun ρ => match f ρ with
  | some (.tuple ds) => if n ≤ ds.length then (bs (ds.take n ++ [.list (ds.drop n)]) ρ).map .next else none
  | some (.list ds) => if n ≤ ds.length then (bs (ds.take n ++ [.list (ds.drop n)]) ρ).map .next else none
  | _ => none
theorem star_env {K : PySem.W.Frag} {H0 G0 H G : Hp} {σ : St} {ρ : Env} {vs : List V} {ds : List D} {L : Addr} (ok : EnvOk K H0 G0 H G σ ρ) (hL : H L = none) (r : RpAll K G vs ds) :
    EnvOk K H0 G0 (upd H L (.lst (vs.drop n))) (upd G L (.lst (vs.drop n))) σ ρ ∧ Same G (upd G L (.lst (vs.drop n))) ∧ RpAll K (upd G L (.lst (vs.drop n))) (vs.take n ++ [.ref L]) (ds.take n ++ [.list (ds.drop n)]) := by
  have s : Step H G (upd H L (.lst (vs.drop n))) (upd G L (.lst (vs.drop n))) := Step.new ok.gh hL
  exact ⟨ok.step s, s.gg, ((r.take n).mono s.gg).append (.cons (.lst (.inl upd_same) ((r.drop n).mono s.gg)) .nil)⟩
theorem s_star {k : Nat} {ts : List Nat} {bs : List D → Env → Option Env} (hc : X.calm = true) (hsl : starLast es = true) (hu : (unstar es).all (fun e => !isStar e) = true) (hn : es.length = n + 1) (hs : isComp e = false) (hw : swappedStores [.Tuple es k p] e X.env = pure none) (hg : PGs X (unstar es) (tGos X.K ts bs)) (he : PE X e (tE X.K .fz f)) :
    PS X (.Assign [.Tuple es k p] e pos) (tS X.K (dStar n bs f)) :=
  psW (ps_asg he (pg_star hc hsl hu hn hg) (sole_no hs) hw (by rfl)) fun Dn σ H ⟨H0, G0, G, ρ, out, ok, hf, q⟩ => by
    unfold dStar at hf
    split at hf
    · rename_i ds e1
      split at hf
      · rename_i hlt
        cases e2 : bs (ds.take n ++ [.list (ds.drop n)]) ρ with
        | none => rw [e2] at hf; cases hf
        | some ρ' =>
          rw [e2] at hf
          cases hf
          refine ⟨H0, G0, G, ρ, _, ok, e1, fun v H1 G1 s r => ?_⟩
          cases r with
          | tup h rr =>
            refine ⟨_, _, rfl, .inl (.inl (rdM s.gh h.rd)), by rw [rr.length]; exact hlt, fun L hL => ?_⟩
            obtain ⟨k1, k2, k3⟩ := star_env (n := n) (ok.step s) hL rr
            exact ⟨H0, G0, _, ρ, _, ρ', k1, k3, e2, fun σ' ok' _ => q _ _ _ (s.gg.trans k2) ok'⟩
      · cases hf
    · rename_i ds e1
      split at hf
      · rename_i hlt
        cases e2 : bs (ds.take n ++ [.list (ds.drop n)]) ρ with
        | none => rw [e2] at hf; cases hf
        | some ρ' =>
          rw [e2] at hf
          cases hf
          refine ⟨H0, G0, G, ρ, _, ok, e1, fun v H1 G1 s r => ?_⟩
          cases r with
          | lst h rr =>
            refine ⟨_, _, rfl, .inr (.inl (rdM s.gh h)), by rw [rr.length]; exact hlt, fun L hL => ?_⟩
            obtain ⟨k1, k2, k3⟩ := star_env (n := n) (ok.step s) hL rr
            exact ⟨H0, G0, _, ρ, _, ρ', k1, k3, e2, fun σ' ok' _ => q _ _ _ (s.gg.trans k2) ok'⟩
      · cases hf
    · cases hf
end
end PF
namespace PF
open PySem PySem.Spec PyProof.Rows L2 RZ
/-! ### y = [x.pop(j) for k in ..], x a list of the frame's own -/
section
variable {K : PySem.W.Frag} {H0 G0 H G H' G' : Hp} {σ : St} {ρ : Env} {d0 : Addr}
def OwnS (o : Option (Option SV)) : Prop := (∃ ys, o = some (some (.own ys))) ∨ ∃ ys, o = some (some (.dic ys))
def Apart (σ : St) (ρ : Env) (d0 : Addr) : Prop := ∀ (j : Nat) b, OwnS ρ[j]? → σ[j]? = some (some (.ref b)) → b ≠ d0
theorem EnvOk.apart (e : EnvOk K H0 G0 H G σ ρ) (h : H d0 = none) : Apart σ ρ d0 := fun j b h1 h2 z => by
  rcases h1 with ⟨ys, h1⟩ | ⟨ys, h1⟩
  · obtain ⟨a, vs, k1, k2, _⟩ := own_get e h1
    rw [h2] at k1
    cases k1
    rw [z, h] at k2
    cases k2
  · obtain ⟨v, k1, a, ep, vs, rfl, k2, _⟩ := e.sl j _ h1
    rw [h2] at k1
    cases k1
    rw [z, h] at k2
    cases k2
theorem EnvOk.updD {o : HO} (e : EnvOk K H0 G0 H G σ ρ) (h0 : H0 d0 = none) (hg : G d0 = none) (ap : Apart σ ρ d0) : EnvOk K H0 G0 (upd H d0 o) G σ ρ where
  len := e.len
  st := ⟨fun b x hb => by rw [upd_ne (ne_of_none hb h0)]; exact e.st.same b x hb, e.st.gg, fun b x hb => by rw [upd_ne (ne_of_none hb hg)]; exact e.gh b x hb, e.st.old⟩
  sl := fun i sv h => by
    obtain ⟨v, h1, h2⟩ := e.sl i sv h
    refine ⟨v, h1, ?_⟩
    cases sv with
    | val d => exact h2
    | own xs =>
      obtain ⟨a, vs, rfl, k1, k2, k3, k4⟩ := h2
      exact ⟨a, vs, rfl, by rw [upd_ne (ap i a (.inl ⟨xs, h⟩) h1)]; exact k1, k2, k3, k4⟩
    | dic xs =>
      obtain ⟨a, ep, vs, rfl, k1, k2, k3, k4⟩ := h2
      exact ⟨a, ep, vs, rfl, by rw [upd_ne (ap i a (.inr ⟨xs, h⟩) h1)]; exact k1, k2, k3, k4⟩
  sep := e.sep
  sepD := e.sepD
theorem EnvOk.shutD {vs : List V} (e : EnvOk K H0 G0 H G σ ρ) (h0 : H0 d0 = none) (hg : G d0 = none) (hd : H d0 = some (.lst vs)) (ap : Apart σ ρ d0) : EnvOk K H0 G0 H (upd G d0 (.lst vs)) σ ρ where
  len := e.len
  st := ⟨e.st.same, e.st.gg.trans (same_new hg), fun b x hb => by
    by_cases hb' : b = d0
    · subst hb'; rw [upd_same] at hb; cases hb; exact hd
    · rw [upd_ne hb'] at hb; exact e.gh b x hb, fun b hb => by
    rw [upd_ne fun z => hb (by rw [z]; exact h0)]
    exact e.st.old b hb⟩
  sl := fun i sv h => by
    obtain ⟨v, h1, h2⟩ := e.sl i sv h
    refine ⟨v, h1, ?_⟩
    cases sv with
    | val d => exact Rp.mono (same_new hg) h2
    | own xs =>
      obtain ⟨a, vs, rfl, k1, k2, k3, k4⟩ := h2
      exact ⟨a, vs, rfl, k1, k2.mono (same_new hg), by rw [upd_ne (ap i a (.inl ⟨xs, h⟩) h1)]; exact k3, k4⟩
    | dic xs =>
      obtain ⟨a, ep, vs, rfl, k1, k2, k3, k4⟩ := h2
      exact ⟨a, ep, vs, rfl, k1, k2.mono (same_new hg), by rw [upd_ne (ap i a (.inr ⟨xs, h⟩) h1)]; exact k3, k4⟩
  sep := e.sep
  sepD := e.sepD
end
def popL (iL : Nat) (vs : List Nat) (bb : D → Env → Option Env) (g : Den) (ρ : Env) : List D → List D → Option (List D × List D)
  | [], xs => some ([], xs)
  | x :: r, xs => (bb x (wipeE (ρ.set iL (some (.own xs))) vs)).bind fun ρ1 => match ρ1[iL]?, g ρ1 with
    | some (some (.own ys)), some (.int k) => if -(2 ^ 63) ≤ k ∧ k < 2 ^ 63 then (ixN ys.length k).bind fun j => (ys[j]?).bind fun y => (popL iL vs bb g ρ r (ys.eraseIdx j)).map fun p => (y :: p.1, p.2) else none
    | _, _ => none
def dPopC (i iL : Nat) (vs : List Nat) (it : Env → Option (List D)) (bb : D → Env → Option Env) (g : Den) : DenS := fun ρ => match ρ[iL]? with
  | some (some (.own xs)) => (it ρ).bind fun items => (popL iL vs bb g ρ items xs).map fun p => .next ((ρ.set iL (some (.own p.2))).set i (some (.val (.list p.1))))
  | _ => none
theorem set_own_self {ρ : Env} {i : Nat} {xs : List D} (h : ρ[i]? = some (some (.own xs))) : ρ.set i (some (.own xs)) = ρ := by
  refine List.ext_getElem? fun j => ?_
  rw [List.getElem?_set]
  by_cases hj : i = j
  · subst hj
    have hl : i < ρ.length := (List.getElem?_eq_some_iff.mp h).1
    simp only [hl, if_true]
    exact h.symm
  · simp [hj]
theorem popc_read {pr : Bool} {K : PySem.W.Frag} {i iL : Nat} {it : Env → Option (List D)} {vs ts : List Nat} {bb : D → Env → Option Env} {g : Den} (hL : iL ∉ vs) (hts : ∀ t ∈ ts, t ∈ vs) {Dn : Ends} {σ : St} {H : Hp} (h : tS K (dPopC i iL vs it bb g) Dn σ H) :
    tAsg (tLc (tI pr K .fz it) (tGo pr K ts bb) tYes (tBM K "list" rPopAt (tVar iL) (tCons (tE K .bw g) tNil)) vs) (gName i) Dn σ H := by
  obtain ⟨H0, G0, G, ρ, out, ok, hf, q⟩ := h
  unfold dPopC at hf
  split at hf
  · rename_i xs0 eL
    cases e1 : it ρ with
    | none => rw [e1] at hf; cases hf
    | some items =>
      rw [e1] at hf
      simp only [Option.bind_some] at hf
      cases e2 : popL iL vs bb g ρ items xs0 with
      | none => rw [e2] at hf; cases hf
      | some res =>
        rw [e2] at hf
        cases hf
        obtain ⟨res1, res2⟩ := res
        refine ⟨H0, G0, G, ρ, items, ok, e1, fun J H1 G1 s1 hJ D0 hD0 => ?_⟩
        have ok1 := ok.step s1
        have ap : Apart σ ρ D0 := ok1.apart hD0
        have h00 : H0 D0 = none := ok1.st.same.free hD0
        have apS : ∀ xs : List D, Apart σ (ρ.set iL (some (.own xs))) D0 := fun xs j b k1 k2 => by
          rw [List.getElem?_set] at k1
          by_cases hj : iL = j
          · subst hj; exact ap iL b (.inl ⟨xs0, eL⟩) k2
          · simp only [hj, if_false] at k1; exact ap j b k1 k2
        have hiL : iL < ρ.length := (List.getElem?_eq_some_iff.mp eL).1
        refine ⟨fun n mm Hc => ∃ Gc accV accD xs ys, n + mm = items.length ∧ EnvOk K H0 G0 Hc Gc σ (ρ.set iL (some (.own xs))) ∧ Same G1 Gc ∧ Hc D0 = some (.lst accV) ∧ Gc D0 = none ∧ RpAll K Gc accV accD ∧ accD.length ≤ n ∧ popL iL vs bb g ρ (items.drop n) xs = some (ys, res2) ∧ accD ++ ys = res1,
          ⟨items.length, G1, [], [], xs0, res1, by omega, ?_, Same.refl _, upd_same, s1.gh.free hD0, .nil, Nat.le_refl _, by rw [List.drop_zero]; exact e2, rfl⟩, fun n mm Hc hW => ?_⟩
        · rw [set_own_self eL]
          exact ok1.updD h00 (s1.gh.free hD0) ap
        · obtain ⟨Gc, accV, accD, xs, ys, hn, okc, gg, hD, hG, ra, hal, hr, hap⟩ := hW
          by_cases hlt : n < items.length
          · have hgi : items[n]? = some items[n] := List.getElem?_eq_getElem hlt
            obtain ⟨go, yl⟩ := hJ.go Hc Gc n _ True.intro gg okc.gh hgi
            rw [List.drop_eq_getElem_cons hlt] at hr
            have hr' : (bb items[n] (wipeE (ρ.set iL (some (.own xs))) vs)).bind (fun ρ1 => match ρ1[iL]?, g ρ1 with
              | some (some (.own ys)), some (.int k) => if -(2 ^ 63) ≤ k ∧ k < 2 ^ 63 then (ixN ys.length k).bind fun j => (ys[j]?).bind fun y => (popL iL vs bb g ρ (items.drop (n + 1)) (ys.eraseIdx j)).map fun p => (y :: p.1, p.2) else none
              | _, _ => none) = some (ys, res2) := hr
            cases eb : bb items[n] (wipeE (ρ.set iL (some (.own xs))) vs) with
            | none => rw [eb] at hr'; cases hr'
            | some ρ1 =>
              rw [eb] at hr'
              simp only [Option.bind_some] at hr'
              split at hr'
              · rename_i zs k ez eg
                split at hr'
                · rename_i hk
                  cases ej : ixN zs.length k with
                  | none => rw [ej] at hr'; cases hr'
                  | some j =>
                    rw [ej] at hr'
                    simp only [Option.bind_some] at hr'
                    cases ey : zs[j]? with
                    | none => rw [ey] at hr'; cases hr'
                    | some y =>
                      rw [ey] at hr'
                      simp only [Option.bind_some] at hr'
                      cases ep : popL iL vs bb g ρ (items.drop (n + 1)) (zs.eraseIdx j) with
                      | none => rw [ep] at hr'; cases hr'
                      | some pr =>
                        rw [ep] at hr'
                        obtain ⟨p1, p2⟩ := pr
                        simp only [Option.map_some, Option.some.injEq, Prod.mk.injEq] at hr'
                        obtain ⟨rfl, rfl⟩ := hr'
                        refine .inr ⟨go, fun Hn => ∃ Gn accV accD xs ys, EnvOk K H0 G0 Hn Gn σ (ρ.set iL (some (.own xs))) ∧ Same G1 Gn ∧ Hn D0 = some (.lst accV) ∧ Gn D0 = none ∧ RpAll K Gn accV accD ∧ accD.length ≤ n + 1 ∧ popL iL vs bb g ρ (items.drop (n + 1)) xs = some (ys, p2) ∧ accD ++ ys = res1,
                          fun Hn ⟨Gn, a1, a2, a3, a4, a5, a6, a7, a8, a9, a10, a11, a12⟩ => ⟨mm - 1, by omega, Gn, a1, a2, a3, a4, by omega, a5, a6, a7, a8, a9, a10, a11, a12⟩, fun x Hy hy => ?_⟩
                        obtain ⟨Gy, sy, ry⟩ := yl x Hy hy
                        have oky := okc.step sy
                        refine ⟨H0, G0, Gy, _, _, ρ1, oky.wipe vs, ry, eb, fun σ2 ok2 on2 => ⟨?_, ?_⟩⟩
                        · rw [on2 vs hts, wipe_wipe]
                        · unfold tYes
                          simp only [if_true]
                          obtain ⟨a, us, k1, k2, k3, k4, k5⟩ := own_get ok2 ez
                          have sig : σ[iL]? = some (some (.ref a)) := by
                            have w := congrArg (fun l : List (Option V) => l[iL]?) ((on2 vs hts).trans (wipe_wipe σ vs))
                            simp only [wipe_get, hL, if_false] at w
                            rw [← w]
                            exact k1
                          refine ⟨_, k1, .inl ⟨rfl, _, .inl (.inl k2)⟩, H0, G0, Gy, ρ1, _, ok2, eg, fun v2 H4 G4 s4 r4 => ?_⟩
                          cases Rb.int r4
                          have hk4 := s4.same _ _ k2
                          have hg4 : G4 a = none := by rw [s4.old a (some_ne k2)]; exact k4
                          have k34 := k3.mono s4.gg
                          obtain ⟨vy, v1, v2⟩ := k34.get j ey
                          obtain ⟨q1, q2, q3, q4⟩ := ixN_seq ej
                          refine ⟨a, us, k, j, vy, rfl, rfl, hk4, hk.1, hk.2, by rw [k34.length]; exact q1, v1, ?_⟩
                          have hDy : Hy D0 = some (.lst accV) := sy.same _ _ hD
                          have hD4 : H4 D0 = some (.lst accV) := s4.same _ _ hDy
                          have hGy : Gy D0 = none := by rw [sy.old D0 (some_ne hD)]; exact hG
                          have hG4 : G4 D0 = none := by rw [s4.old D0 (some_ne hDy)]; exact hGy
                          have naD : a ≠ D0 := ap iL a (.inl ⟨xs0, eL⟩) sig
                          have ok4 := oky.step s4
                          have getL : (ρ.set iL (some (.own xs)))[iL]? = some (some (.own xs)) := by rw [List.getElem?_set]; simp [hiL]
                          have okm : EnvOk K H0 G0 (upd H4 a (.lst (us.eraseIdx j))) G4 σ ((ρ.set iL (some (.own xs))).set iL (some (.own (zs.eraseIdx j)))) := ok4.mut getL sig hk4 hg4 k5 (k34.eraseIdx j)
                          rw [List.set_set] at okm
                          have hlen := hJ.len
                          have ra4 := ra.mono (sy.gg.trans s4.gg)
                          refine ⟨accV, by rw [upd_ne naD.symm]; exact hD4, by rw [ra4.length]; omega, G4, accV ++ [vy], accD ++ [y], zs.eraseIdx j, p1, okm.updD h00 hG4 (apS _), (gg.trans sy.gg).trans s4.gg, upd_same, hG4, ra4.append (.cons v2 .nil), by rw [List.length_append]; simp; omega, ep, ?_⟩
                          rw [List.append_assoc]
                          exact hap
                · cases hr'
              · cases hr'
          · have hge : items.length ≤ n := by omega
            rw [List.drop_of_length_le hge] at hr
            have hr' : some (([] : List D), xs) = some (ys, res2) := hr
            cases hr'
            rw [List.append_nil] at hap
            subst hap
            refine .inl ⟨hJ.stop Hc Gc n True.intro gg okc.gh (by omega), ?_⟩
            have okf := okc.shutD h00 hG hD (apS _)
            have g2 : Same Gc (upd Gc D0 (.lst accV)) := same_new hG
            exact q _ _ _ ((s1.gg.trans gg).trans g2) (okf.set_val (Rp.lst (.inl upd_same) (ra.mono g2)))
  · cases hf
section
variable {X : Cx} {tg iter ix : Expr} {pos p p' apos cpos sp : Pos} {i iL : Nat} {x y : Str} {scope : Scope} {own : List (Str × Nat)} {it : Env → Option (List D)} {ts : List Nat} {bb : D → Env → Option Env} {g : Den}
theorem s_popc {pr : Bool} (hc : X.calm = true) (hN : X.N.Nodup) (hy : X.N[i]? = some y) (hyl : X.env.scope.names.lookup y = some .local) (hsw : swapsWith (.ListComp (.Call (.Attribute (.Name x p) "pop" apos) [ix] [] cpos) [⟨tg, iter, [], 0⟩] scope pos) (some (.Name y p')) sp.line X.env = pure true)
    (hi : PI X tg iter (tI pr X.K .fz it)) (ok : BlkOk X.N X.env.scope scope own) (hts : ∀ t ∈ ts, t ∈ own.map (·.2)) (hL : iL ∉ own.map (·.2))
    (hg : ∀ (s : Shared) (H : Hp) (C : Addr) (cl : List (Str × Addr)) (fp : List Addr), PG (X.blk s H scope (compEnvC scope cl C X.env) fp) tg (tGo pr X.K ts bb))
    (hv : ∀ (s : Shared) (H : Hp) (C : Addr) (cl : List (Str × Addr)) (fp : List Addr), PE (X.blk s H scope (compEnvC scope cl C X.env) fp) (.Name x p) (tVar iL))
    (hx : ∀ (s : Shared) (H : Hp) (C : Addr) (cl : List (Str × Addr)) (fp : List Addr), PE (X.blk s H scope (compEnvC scope cl C X.env) fp) ix (tE X.K .bw g)) (hl : (apos.endLine == cpos.line) = true) (hst : isStar ix = false) (hs : ∀ x, foldedSetIterable iter X.env x = pure x) :
    PS X (.Assign [.Name y p'] (.ListComp (.Call (.Attribute (.Name x p) "pop" apos) [ix] [] cpos) [⟨tg, iter, [], 0⟩] scope pos) sp) (tS X.K (dPopC i iL (own.map (·.2)) it bb g)) :=
  psW (ps_setLc hc hN hy hyl hsw hi ok hg (fun _ _ _ _ _ => pts_nil) (fun s H C cl fp => pe_bm PySem.F.plainAttrs_list PySem.F.slot_list_pop PySem.F.type_list_pop mt_popAt (hv s H C cl fp) (pa_cons (hx s H C cl fp) pa_nil (st1 hst)) rfl (few1 hst) hl (st1 hst) rfl) hs) fun Dn σ H h => popc_read hL hts h
end
end PF
namespace PF
open PySem PySem.Spec PyProof.Rows L2 RZ
/-! ### [.. for .. in .. if .. for .. in .. if ..] -/
def unOwn : Option SV → Option SV
  | some (.own _) => none
  | some (.dic _) => none
  | s => s
def noOwn (ρ : Env) : Env := ρ.map unOwn
theorem noOwn_get {ρ : Env} {i : Nat} {sv : SV} (h : (noOwn ρ)[i]? = some (some sv)) : ρ[i]? = some (some sv) ∧ ∃ d, sv = .val d := by
  unfold noOwn at h
  rw [List.getElem?_map] at h
  cases e : ρ[i]? with
  | none => rw [e] at h; cases h
  | some o =>
    rw [e] at h
    cases o with
    | none => cases h
    | some s =>
      cases s with
      | own xs => cases h
      | dic xs => cases h
      | val d => cases h; exact ⟨rfl, d, rfl⟩
theorem EnvOk.noOwn {K : PySem.W.Frag} {H0 G0 H G : Hp} {σ : St} {ρ : Env} (e : EnvOk K H0 G0 H G σ ρ) : EnvOk K H0 G0 H G σ (PF.noOwn ρ) where
  len := by unfold PF.noOwn; rw [List.length_map]; exact e.len
  st := e.st
  sl := fun i sv h => e.sl i sv (noOwn_get h).1
  sep := fun i j xs ys hij h1 h2 => e.sep i j xs ys hij (noOwn_get h1).1 (noOwn_get h2).1
  sepD := fun i j xs ys hij h1 h2 => e.sepD i j xs ys hij (noOwn_get h1).1 (noOwn_get h2).1
/-- an environment without lists of its own stands in any later heap -/
theorem EnvOk.later {K : PySem.W.Frag} {H0 G0 H G H' G' : Hp} {σ : St} {ρ : Env} (e : EnvOk K H0 G0 H G σ (PF.noOwn ρ)) (st : Step H0 G0 H' G') (gg : Same G G') : EnvOk K H0 G0 H' G' σ (PF.noOwn ρ) where
  len := e.len
  st := st
  sl := fun i sv h => by
    obtain ⟨v, h1, h2⟩ := e.sl i sv h
    obtain ⟨_, d, rfl⟩ := noOwn_get h
    exact ⟨v, h1, Rp.mono gg h2⟩
  sep := fun i j xs ys hij h1 h2 => e.sep i j xs ys hij h1 h2
  sepD := fun i j xs ys hij h1 h2 => e.sepD i j xs ys hij h1 h2
def comp2L (b : D → Env → Option Env) (c : Env → Option Bool) (it1 : Env → Option (List D)) (vs1 : List Nat) (b1 : D → Env → Option Env) (c1 : Env → Option Bool) (e : Den) (ρ0 : Env) : List D → Option (List D)
  | [] => some []
  | x :: xs => (b x ρ0).bind fun ρ1 => (c ρ1).bind fun ok => if ok = true then (it1 (noOwn ρ1)).bind fun items => (compL b1 c1 e (wipeE (noOwn ρ1) vs1) items).bind fun ys => (comp2L b c it1 vs1 b1 c1 e ρ0 xs).map fun zs => ys ++ zs else comp2L b c it1 vs1 b1 c1 e ρ0 xs
def dComp2 (it : Env → Option (List D)) (vs : List Nat) (b : D → Env → Option Env) (c : Env → Option Bool) (it1 : Env → Option (List D)) (vs1 : List Nat) (b1 : D → Env → Option Env) (c1 : Env → Option Bool) (e : Den) : Den := fun ρ =>
  (it ρ).bind fun items => (comp2L b c it1 vs1 b1 c1 e (wipeE ρ vs) items).bind fun ys => if ys.length ≤ sizeLine then some (.list ys) else none
theorem Step.updD {H1 G1 H G : Hp} {d0 : Addr} {o : HO} (s : Step H1 G1 H G) (h : H1 d0 = none) (g : G d0 = none) : Step H1 G1 (upd H d0 o) G :=
  ⟨fun b x hb => by rw [upd_ne (ne_of_none hb h)]; exact s.same b x hb, s.gg, fun b x hb => by rw [upd_ne (ne_of_none hb g)]; exact s.gh b x hb, s.old⟩
theorem comp2_read {pr : Bool} {pr1 : Bool} {K : PySem.W.Frag} {it it1 : Env → Option (List D)} {vs ts vs1 ts1 : List Nat} {bb bb1 : D → Env → Option Env} {cc cc1 : Env → Option Bool} {ee : Den} (hts : ∀ t ∈ ts, t ∈ vs) (hts1 : ∀ t ∈ ts1, t ∈ vs1) {σ : St} {H : Hp} {Q : VK} (h : tE K .ow (dComp2 it vs bb cc it1 vs1 bb1 cc1 ee) σ H Q) :
    tLc2 (tI pr K .bw it) (tGo pr K ts bb) (tT K cc) (tI pr1 K .fz it1) (tGo pr1 K ts1 bb1) (tT K cc1) (tE K .fz ee) vs vs1 σ H Q := by
  obtain ⟨H0, G0, G, ρ, d, ok, hf, q⟩ := h
  unfold dComp2 at hf
  cases e1 : it ρ with
  | none => rw [e1] at hf; cases hf
  | some items =>
    rw [e1] at hf
    simp only [Option.bind_some] at hf
    cases e2 : comp2L bb cc it1 vs1 bb1 cc1 ee (wipeE ρ vs) items with
    | none => rw [e2] at hf; cases hf
    | some res =>
      rw [e2] at hf
      simp only [Option.bind_some] at hf
      by_cases hsz : res.length ≤ sizeLine
      · rw [if_pos hsz] at hf
        cases hf
        refine ⟨H0, G0, G, ρ, items, ok, e1, fun J H1 G1 s1 hJ D0 hD0 => ?_⟩
        have ok1 := ok.step s1
        have h00 : H0 D0 = none := ok1.st.same.free hD0
        refine ⟨fun i mm Hc => ∃ Gc accV accD, i + mm = items.length ∧ Step H1 G1 Hc Gc ∧ Hc D0 = some (.lst accV) ∧ Gc D0 = none ∧ RpAll K Gc accV accD ∧ (comp2L bb cc it1 vs1 bb1 cc1 ee (wipeE ρ vs) (items.drop i)).map (accD ++ ·) = some res,
          ⟨items.length, G1, [], [], by omega, Step.new' s1.gh hD0, upd_same, s1.gh.free hD0, .nil, by rw [List.drop_zero, e2]; rfl⟩, fun i mm Hc hW => ?_⟩
        obtain ⟨Gc, accV, accD, hi, st, hD, hG, ra, hr⟩ := hW
        by_cases hlt : i < items.length
        · have hg : items[i]? = some items[i] := List.getElem?_eq_getElem hlt
          obtain ⟨go, yl⟩ := hJ.go Hc Gc i _ st.same st.gg st.gh hg
          have hdrop : items.drop i = items[i] :: items.drop (i + 1) := List.drop_eq_getElem_cons hlt
          rw [hdrop] at hr
          refine .inr ⟨go, fun Hn => ∃ Gn accV accD, Step H1 G1 Hn Gn ∧ Hn D0 = some (.lst accV) ∧ Gn D0 = none ∧ RpAll K Gn accV accD ∧ (comp2L bb cc it1 vs1 bb1 cc1 ee (wipeE ρ vs) (items.drop (i + 1))).map (accD ++ ·) = some res, fun Hn ⟨Gn, av, ad, h1, h2, h3, h4, h6⟩ => ⟨mm - 1, by omega, Gn, av, ad, by omega, h1, h2, h3, h4, h6⟩, fun x Hy hy => ?_⟩
          obtain ⟨Gy, sy, ry⟩ := yl x Hy hy
          have sty := st.trans sy
          have oky : EnvOk K H0 G0 Hy Gy (wipe σ vs) (wipeE ρ vs) := (ok1.step sty).wipe vs
          have hr' : ((bb items[i] (wipeE ρ vs)).bind fun ρ1 => (cc ρ1).bind fun okb => if okb = true then (it1 (noOwn ρ1)).bind fun its => (compL bb1 cc1 ee (wipeE (noOwn ρ1) vs1) its).bind fun ys => (comp2L bb cc it1 vs1 bb1 cc1 ee (wipeE ρ vs) (items.drop (i + 1))).map fun zs => ys ++ zs else comp2L bb cc it1 vs1 bb1 cc1 ee (wipeE ρ vs) (items.drop (i + 1))).map (accD ++ ·) = some res := hr
          cases eb : bb items[i] (wipeE ρ vs) with
          | none => rw [eb] at hr'; cases hr'
          | some ρ1 =>
            rw [eb] at hr'
            simp only [Option.bind_some] at hr'
            refine ⟨H0, G0, Gy, _, _, ρ1, oky, ry, eb, fun σ2 ok2 on2 => ⟨?_, ?_⟩⟩
            · rw [on2 vs hts, wipe_wipe]
            · cases ec : cc ρ1 with
              | none => rw [ec] at hr'; cases hr'
              | some bt =>
                rw [ec] at hr'
                simp only [Option.bind_some] at hr'
                refine ⟨H0, G0, Gy, ρ1, bt, ok2, ec, fun H3 G3 s3 => ?_⟩
                have hDy : Hy D0 = some (.lst accV) := sy.same _ _ hD
                have hGy : Gy D0 = none := by rw [sy.old D0 (some_ne hD)]; exact hG
                have hD3 : H3 D0 = some (.lst accV) := s3.same _ _ hDy
                have hG3 : G3 D0 = none := by rw [s3.old D0 (some_ne hDy)]; exact hGy
                have st3 := sty.trans s3
                have ra3 := ra.mono (sy.gg.trans s3.gg)
                cases bt with
                | false =>
                  refine iteF ?_
                  simp only [Bool.false_eq_true, if_false] at hr'
                  exact ⟨G3, accV, accD, st3, hD3, hG3, ra3, hr'⟩
                | true =>
                  refine iteT ?_
                  simp only [if_true] at hr'
                  have ok3 := (ok2.step s3).noOwn
                  cases ei : it1 (noOwn ρ1) with
                  | none => rw [ei] at hr'; cases hr'
                  | some items1 =>
                    rw [ei] at hr'
                    simp only [Option.bind_some] at hr'
                    cases eo : compL bb1 cc1 ee (wipeE (noOwn ρ1) vs1) items1 with
                    | none => rw [eo] at hr'; cases hr'
                    | some ys =>
                      rw [eo] at hr'
                      simp only [Option.bind_some] at hr'
                      cases er : comp2L bb cc it1 vs1 bb1 cc1 ee (wipeE ρ vs) (items.drop (i + 1)) with
                      | none => rw [er] at hr'; cases hr'
                      | some zs =>
                        rw [er] at hr'
                        simp only [Option.map_some, Option.some.injEq] at hr'
                        refine ⟨H0, G0, G3, noOwn ρ1, items1, ok3, ei, fun J1 H4 G4 s4 hJ1 => ?_⟩
                        have hD4 : H4 D0 = some (.lst accV) := s4.same _ _ hD3
                        have hG4 : G4 D0 = none := by rw [s4.old D0 (some_ne hD3)]; exact hG3
                        refine ⟨fun j kk Hc => ∃ Gc accV accD ws, j + kk = items1.length ∧ Step H1 G1 Hc Gc ∧ Same G4 Gc ∧ Hc D0 = some (.lst accV) ∧ Gc D0 = none ∧ RpAll K Gc accV accD ∧ compL bb1 cc1 ee (wipeE (noOwn ρ1) vs1) (items1.drop j) = some ws ∧ accD ++ (ws ++ zs) = res,
                          ⟨items1.length, G4, accV, accD, ys, by omega, st3.trans s4, Same.refl _, hD4, hG4, ra3.mono s4.gg, by rw [List.drop_zero]; exact eo, hr'⟩, fun j kk Hj hW1 => ?_⟩
                        obtain ⟨Gj, avj, adj, ws, hj, stj, ggj, hDj, hGj, raj, hrj, hres⟩ := hW1
                        have okj : EnvOk K H0 G0 Hj Gj σ2 (noOwn ρ1) := ok3.later (ok1.st.trans stj) (s4.gg.trans ggj)
                        by_cases hlt1 : j < items1.length
                        · have hg1 : items1[j]? = some items1[j] := List.getElem?_eq_getElem hlt1
                          obtain ⟨go1, yl1⟩ := hJ1.go Hj Gj j _ True.intro ggj stj.gh hg1
                          rw [List.drop_eq_getElem_cons hlt1] at hrj
                          refine .inr ⟨go1, fun Hn => ∃ Gn accV accD ws, Step H1 G1 Hn Gn ∧ Same G4 Gn ∧ Hn D0 = some (.lst accV) ∧ Gn D0 = none ∧ RpAll K Gn accV accD ∧ compL bb1 cc1 ee (wipeE (noOwn ρ1) vs1) (items1.drop (j + 1)) = some ws ∧ accD ++ (ws ++ zs) = res, fun Hn ⟨Gn, av, ad, w, h1, h2, h3, h4, h5, h6, h7⟩ => ⟨kk - 1, by omega, Gn, av, ad, w, by omega, h1, h2, h3, h4, h5, h6, h7⟩, fun x1 Hz hz => ?_⟩
                          obtain ⟨Gz, sz, rz⟩ := yl1 x1 Hz hz
                          have okz : EnvOk K H0 G0 Hz Gz (wipe σ2 vs1) (wipeE (noOwn ρ1) vs1) := (okj.step sz).wipe vs1
                          have hrj' : ((bb1 items1[j] (wipeE (noOwn ρ1) vs1)).bind fun ρ3 => (cc1 ρ3).bind fun okb => if okb = true then (ee ρ3).bind fun y => (compL bb1 cc1 ee (wipeE (noOwn ρ1) vs1) (items1.drop (j + 1))).bind fun ys => some (y :: ys) else compL bb1 cc1 ee (wipeE (noOwn ρ1) vs1) (items1.drop (j + 1))) = some ws := hrj
                          cases eb1 : bb1 items1[j] (wipeE (noOwn ρ1) vs1) with
                          | none => rw [eb1] at hrj'; cases hrj'
                          | some ρ3 =>
                            rw [eb1] at hrj'
                            simp only [Option.bind_some] at hrj'
                            refine ⟨H0, G0, Gz, _, _, ρ3, okz, rz, eb1, fun σ3 ok5 on3 => ⟨?_, ?_⟩⟩
                            · rw [on3 vs1 hts1, wipe_wipe]
                            · cases ec1 : cc1 ρ3 with
                              | none => rw [ec1] at hrj'; cases hrj'
                              | some bt1 =>
                                rw [ec1] at hrj'
                                simp only [Option.bind_some] at hrj'
                                refine ⟨H0, G0, Gz, ρ3, bt1, ok5, ec1, fun H6 G6 s6 => ?_⟩
                                have hDz : Hz D0 = some (.lst avj) := sz.same _ _ hDj
                                have hGz : Gz D0 = none := by rw [sz.old D0 (some_ne hDj)]; exact hGj
                                have hD6 : H6 D0 = some (.lst avj) := s6.same _ _ hDz
                                have hG6 : G6 D0 = none := by rw [s6.old D0 (some_ne hDz)]; exact hGz
                                have st6 := (stj.trans sz).trans s6
                                have gg6 := (ggj.trans sz.gg).trans s6.gg
                                have ra6 := raj.mono (sz.gg.trans s6.gg)
                                cases bt1 with
                                | false =>
                                  refine iteF ?_
                                  simp only [Bool.false_eq_true, if_false] at hrj'
                                  exact ⟨G6, avj, adj, ws, st6, gg6, hD6, hG6, ra6, hrj', hres⟩
                                | true =>
                                  refine iteT ?_
                                  simp only [if_true] at hrj'
                                  cases ee1 : ee ρ3 with
                                  | none => rw [ee1] at hrj'; cases hrj'
                                  | some y =>
                                    rw [ee1] at hrj'
                                    simp only [Option.bind_some] at hrj'
                                    cases ew : compL bb1 cc1 ee (wipeE (noOwn ρ1) vs1) (items1.drop (j + 1)) with
                                    | none => rw [ew] at hrj'; cases hrj'
                                    | some w2 =>
                                      rw [ew] at hrj'
                                      simp only [Option.bind_some, Option.some.injEq] at hrj'
                                      subst hrj'
                                      refine ⟨H0, G0, G6, ρ3, y, ok5.step s6, ee1, fun v H7 G7 s7 r7 => ?_⟩
                                      have hD7 : H7 D0 = some (.lst avj) := s7.same _ _ hD6
                                      have hG7 : G7 D0 = none := by rw [s7.old D0 (some_ne hD6)]; exact hG6
                                      have ra7 := ra6.mono s7.gg
                                      have r7' : Rp K G7 v y := r7
                                      have hlen : adj.length < sizeLine := by
                                        have := congrArg List.length hres
                                        simp only [List.length_append, List.length_cons] at this
                                        omega
                                      refine ⟨avj, hD7, by rw [ra7.length]; exact hlen, G7, avj ++ [v], adj ++ [y], w2, (st6.trans s7).updD hD0 hG7, gg6.trans s7.gg, upd_same, hG7, ra7.append (.cons r7' .nil), rfl, ?_⟩
                                      rw [← hres]
                                      simp
                        · have hge : items1.length ≤ j := by omega
                          rw [List.drop_of_length_le hge] at hrj
                          have hrj' : some ([] : List D) = some ws := hrj
                          cases hrj'
                          refine .inl ⟨hJ1.stop Hj Gj j True.intro ggj stj.gh (by omega), Gj, avj, adj, stj, hDj, hGj, raj, ?_⟩
                          first
                            | (rw [er]; simp only [Option.map_some, Option.some.injEq]; rw [← hres]; rfl)
                            | (simp only [Option.map_some, Option.some.injEq]; rw [← hres]; rfl)
        · have hge : items.length ≤ i := by omega
          rw [List.drop_of_length_le hge] at hr
          have hr' : some (accD ++ []) = some res := hr
          rw [List.append_nil] at hr'
          cases hr'
          refine .inl ⟨hJ.stop Hc Gc i st.same st.gg st.gh (by omega), ?_⟩
          refine q _ _ _ (s1.trans st) ?_
          exact ⟨D0, accV, rfl, s1.same.free hD0, hD, hG, ra⟩
      · rw [if_neg hsz] at hf; cases hf
end PF
namespace PF
open PySem PySem.Spec PyProof.Rows L2 RZ
/-! ### min, max, sorted of data that are alike -/
def alikeB (ds : List D) : Bool := ds.all fun x => ds.all fun y => PySem.W.alike x y
theorem alikeB_eq {ds : List D} (h : alikeB ds = true) : ∀ x ∈ ds, ∀ y ∈ ds, PySem.W.alike x y = true := fun x hx y hy => by
  unfold alikeB at h
  exact List.all_eq_true.mp (List.all_eq_true.mp h x hx) y hy
def noN (ds : List D) : Bool := ds.all fun x => !isN x
theorem noN_eq {ds : List D} (h : noN ds = true) : ∀ x ∈ ds, x ≠ .none := fun x hx z => by
  have := List.all_eq_true.mp h x hx
  rw [z] at this
  exact absurd this (by simp [isN])
def notL : D → Bool
  | .list _ => false
  | _ => true
def bestOk (x : D) (xs : List D) (m : D) : Bool := SeqAt.shaped (.list (x :: xs)) && alikeB (x :: xs) && noN (x :: xs) && notL m
def bMin : List D → Option D
  | [.int i, .int j] => some (.int (if j < i then j else i))
  | [.list (x :: xs)] => if bestOk x xs (PySem.W.minD x xs) = true then some (PySem.W.minD x xs) else none
  | [.tuple (x :: xs)] => if bestOk x xs (PySem.W.minD x xs) = true then some (PySem.W.minD x xs) else none
  | _ => none
def bMax : List D → Option D
  | [.int i, .int j] => some (.int (if j > i then j else i))
  | [.list (x :: xs)] => if bestOk x xs (PySem.W.maxD x xs) = true then some (PySem.W.maxD x xs) else none
  | [.tuple (x :: xs)] => if bestOk x xs (PySem.W.maxD x xs) = true then some (PySem.W.maxD x xs) else none
  | _ => none
def rBest (K : PySem.W.Frag) (m : D → List D → D) : List V → Hp → VK → Prop := fun vs H Q => ∃ (p : Addr) (ys : List V) (d : D) (ds : List D), vs = [.ref p] ∧ (SqL K H p ys ∨ SqT K H p ys) ∧ DpAll K H ys (d :: ds) ∧ PySem.W.AlikeAll (d :: ds) ∧ PyData.depthAll (d :: ds) ≤ 64 ∧
  ∀ (i : Nat) v, ys[i]? = some v → (d :: ds)[i]? = some (m d ds) → Q v H
theorem reads_at {h : Heap} : ∀ {vs : List Value} {ds : List D} {as : List Addr}, ReadsAll h vs ds as → ∀ (i : Nat) (v : Value), vs[i]? = some v → ∃ d bs, ds[i]? = some d ∧ Reads h v d bs
  | _, _, _, .nil, i, v, e => by simp at e
  | _, _, _, .cons r rs, 0, v, e => by simp at e; subst e; exact ⟨_, _, rfl, r⟩
  | _, _, _, .cons r rs, i + 1, v, e => by
    rw [List.getElem?_cons_succ] at e
    obtain ⟨d, bs, h1, h2⟩ := reads_at rs i v e
    exact ⟨d, bs, by rw [List.getElem?_cons_succ]; exact h1, h2⟩
theorem vals_back : ∀ {xs : List V} {us : List Value}, Vals xs us → ∀ (i : Nat) (u : Value), us[i]? = some u → ∃ x, xs[i]? = some x ∧ RelV x u
  | _, _, .nil, i, u, e => by simp at e
  | _, _, .cons r rs, 0, u, e => by simp at e; subst e; exact ⟨_, rfl, r⟩
  | _, _, .cons r rs, i + 1, u, e => by
    rw [List.getElem?_cons_succ] at e
    obtain ⟨x, h1, h2⟩ := vals_back rs i u e
    exact ⟨x, by rw [List.getElem?_cons_succ]; exact h1, h2⟩
section
variable {X : Cx}
theorem foldl_mem {f : D → D → Bool} : ∀ (xs : List D) (x : D), xs.foldl (fun a y => if f a y then y else a) x ∈ x :: xs
  | [], x => List.mem_cons_self ..
  | y :: xs, x => by
    rw [List.foldl_cons]
    have := foldl_mem (f := f) xs (if f x y then y else x)
    rcases List.mem_cons.mp this with e | e
    · rw [e]
      split
      · exact List.mem_cons_of_mem _ (List.mem_cons_self ..)
      · exact List.mem_cons_self ..
    · exact List.mem_cons_of_mem _ (List.mem_cons_of_mem _ e)
theorem min_mem (x : D) (xs : List D) : PySem.W.minD x xs ∈ x :: xs := foldl_mem (f := fun a y => PySem.W.dataLt y a) xs x
theorem max_mem (x : D) (xs : List D) : PySem.W.maxD x xs ∈ x :: xs := foldl_mem (f := fun a y => PySem.W.dataLt a y) xs x
theorem cr_minD (hc : X.calm = true) (hu : X.A.units + 66 < cLine) : CallR X (.builtin "min") (rBest X.K PySem.W.minD) := by
  intro pins s σ H vs us Q I r h
  obtain ⟨p, ys, d, ds, rfl, hs, hp, ha, hd, q⟩ := h
  rw [Vals.ref1 r]
  rcases hs with hs | hs
  · obtain ⟨its, rv, hl, _⟩ := I.list hs
    obtain ⟨as, rr⟩ := Dp.readsAll I _ _ _ hp rv
    refine PySem.W.min_list_data (I.ok.hd hc) hl.isList (by simpa using rr) ha (by omega) fun i v h' tk bs hv hr hk => ?_
    have hv' : its[i]? = some v := by simpa using hv
    obtain ⟨x, e1, e2⟩ := vals_back rv i v hv'
    obtain ⟨d', bs', e3, e4⟩ := reads_at rr i v hv'
    have e5 : d' = PySem.W.minD d ds := PySem.W.alike_unique _ _ _ _ _ (ha.1 _ (List.mem_of_getElem? e3) _ (min_mem d ds)) (PyProof.Rows.Reads.keeps hk e4) hr
    exact ⟨x, H, I.kept hk, e2, q i x e1 (e5 ▸ e3)⟩
  · obtain ⟨its, rv, hl, _⟩ := I.tuple hs
    obtain ⟨as, rr⟩ := Dp.readsAll I _ _ _ hp rv
    refine PySem.W.min_tuple_data (I.ok.hd hc) (show s.heap.IsTuple p its.toArray from hl) (by simpa using rr) ha (by omega) fun i v h' tk bs hv hr hk => ?_
    have hv' : its[i]? = some v := by simpa using hv
    obtain ⟨x, e1, e2⟩ := vals_back rv i v hv'
    obtain ⟨d', bs', e3, e4⟩ := reads_at rr i v hv'
    have e5 : d' = PySem.W.minD d ds := PySem.W.alike_unique _ _ _ _ _ (ha.1 _ (List.mem_of_getElem? e3) _ (min_mem d ds)) (PyProof.Rows.Reads.keeps hk e4) hr
    exact ⟨x, H, I.kept hk, e2, q i x e1 (e5 ▸ e3)⟩
theorem cr_maxD (hc : X.calm = true) (hu : X.A.units + 66 < cLine) : CallR X (.builtin "max") (rBest X.K PySem.W.maxD) := by
  intro pins s σ H vs us Q I r h
  obtain ⟨p, ys, d, ds, rfl, hs, hp, ha, hd, q⟩ := h
  rw [Vals.ref1 r]
  rcases hs with hs | hs
  · obtain ⟨its, rv, hl, _⟩ := I.list hs
    obtain ⟨as, rr⟩ := Dp.readsAll I _ _ _ hp rv
    refine PySem.W.max_list_data (I.ok.hd hc) hl.isList (by simpa using rr) ha (by omega) fun i v h' tk bs hv hr hk => ?_
    have hv' : its[i]? = some v := by simpa using hv
    obtain ⟨x, e1, e2⟩ := vals_back rv i v hv'
    obtain ⟨d', bs', e3, e4⟩ := reads_at rr i v hv'
    have e5 : d' = PySem.W.maxD d ds := PySem.W.alike_unique _ _ _ _ _ (ha.1 _ (List.mem_of_getElem? e3) _ (max_mem d ds)) (PyProof.Rows.Reads.keeps hk e4) hr
    exact ⟨x, H, I.kept hk, e2, q i x e1 (e5 ▸ e3)⟩
  · obtain ⟨its, rv, hl, _⟩ := I.tuple hs
    obtain ⟨as, rr⟩ := Dp.readsAll I _ _ _ hp rv
    refine PySem.W.max_tuple_data (I.ok.hd hc) (show s.heap.IsTuple p its.toArray from hl) (by simpa using rr) ha (by omega) fun i v h' tk bs hv hr hk => ?_
    have hv' : its[i]? = some v := by simpa using hv
    obtain ⟨x, e1, e2⟩ := vals_back rv i v hv'
    obtain ⟨d', bs', e3, e4⟩ := reads_at rr i v hv'
    have e5 : d' = PySem.W.maxD d ds := PySem.W.alike_unique _ _ _ _ _ (ha.1 _ (List.mem_of_getElem? e3) _ (max_mem d ds)) (PyProof.Rows.Reads.keeps hk e4) hr
    exact ⟨x, H, I.kept hk, e2, q i x e1 (e5 ▸ e3)⟩
theorem depthAll_of {ds : List D} (h : SeqAt.shaped (.list ds) = true) : PyData.depthAll ds ≤ 64 ∧ PyData.canLayAll0 ds = true := by
  have h1 := SeqAt.depth_of_shaped h
  have h2 := SeqAt.canLay_of_shaped h
  rw [PyData.depth] at h1
  rw [PyData.canLay0] at h2
  exact ⟨by omega, h2⟩
theorem best_ok {K : PySem.W.Frag} {H G : Hp} {p : Addr} {us : List V} {x : D} {xs : List D} {m : D → List D → D} {Q : VK} (hm : m x xs ∈ x :: xs) (gh : Same G H) (hs : SqL K H p us ∨ SqT K H p us) (r : RpAll K G us (x :: xs)) (h : bestOk x xs (m x xs) = true) (q : ∀ v H' G', Step H G H' G' → Res K H H' G' v (m x xs) .ow → Q v H') : rBest K m [.ref p] H Q := by
  unfold bestOk at h
  simp only [Bool.and_eq_true] at h
  obtain ⟨⟨⟨h1, h2⟩, h3⟩, h4⟩ := h
  obtain ⟨k1, k2⟩ := depthAll_of h1
  refine ⟨p, us, x, xs, rfl, hs, (RpAll.mono gh r).dp k2, ⟨alikeB_eq h2, noN_eq h3⟩, k1, fun i v hv hd => ?_⟩
  obtain ⟨v', e1, e2⟩ := r.get i hd
  rw [hv] at e1
  cases e1
  refine q v H G (Step.refl gh) ?_
  revert e2 h4
  cases m x xs with
  | list ys => intro h4; cases h4
  | _ => intro _ e2; exact e2
theorem cal_min {K : PySem.W.Frag} : Cal K (fun xs H Q => (∃ i j, xs = [.int i, .int j] ∧ Q (.int (if j < i then j else i)) H) ∨ rBest K PySem.W.minD xs H Q) bMin .ow := fun H G vs ds d Q gh r e q => by
  unfold bMin at e
  split at e
  · cases e
    obtain ⟨v, u, rfl, h1, h2⟩ := paired2 r
    cases h1.int
    cases h2.int
    exact .inl ⟨_, _, rfl, q _ _ _ (Step.refl gh) (ow_int _)⟩
  · split at e
    · rename_i h
      cases e
      obtain ⟨v, rfl, rv⟩ := paired1 r
      obtain ⟨a, us, rfl, h1, r1⟩ := rv.lst gh
      exact .inr (best_ok (min_mem _ _) gh (.inl (.inl h1)) r1 h q)
    · cases e
  · split at e
    · rename_i h
      cases e
      obtain ⟨v, rfl, rv⟩ := paired1 r
      obtain ⟨a, us, rfl, h1, r1⟩ := rv.tup
      exact .inr (best_ok (min_mem _ _) gh (.inr (.inl (rdM gh h1.rd))) r1 h q)
    · cases e
  · cases e
theorem cal_max {K : PySem.W.Frag} : Cal K (fun xs H Q => (∃ i j, xs = [.int i, .int j] ∧ Q (.int (if j > i then j else i)) H) ∨ rBest K PySem.W.maxD xs H Q) bMax .ow := fun H G vs ds d Q gh r e q => by
  unfold bMax at e
  split at e
  · cases e
    obtain ⟨v, u, rfl, h1, h2⟩ := paired2 r
    cases h1.int
    cases h2.int
    exact .inl ⟨_, _, rfl, q _ _ _ (Step.refl gh) (ow_int _)⟩
  · split at e
    · rename_i h
      cases e
      obtain ⟨v, rfl, rv⟩ := paired1 r
      obtain ⟨a, us, rfl, h1, r1⟩ := rv.lst gh
      exact .inr (best_ok (max_mem _ _) gh (.inl (.inl h1)) r1 h q)
    · cases e
  · split at e
    · rename_i h
      cases e
      obtain ⟨v, rfl, rv⟩ := paired1 r
      obtain ⟨a, us, rfl, h1, r1⟩ := rv.tup
      exact .inr (best_ok (max_mem _ _) gh (.inr (.inl (rdM gh h1.rd))) r1 h q)
    · cases e
  · cases e
/-! sorted of a tuple -/
theorem gather_tup {prog : Program} {w : World} {A : Around} {E : Value → Shared → Prop} {s : Shared} {l : Addr} {vs : List Value} {Q : List Value → Shared → Prop} (hl : IsTup s.heap l vs.toArray)
    (h : Q vs { s with heap := (s.heap.push (seqObj "list" #[] 0)).update s.heap.objs.size (Obj.mapSeq fun z => z ++ vs.toArray) }) (hsz : vs.length ≤ sizeLine) : wpAny (model prog w) A (collect (.ref l)) Q E s := by
  obtain ⟨o, ho, hc, n, hd⟩ := id hl; unfold collect; refine wpAny_bind (wpAny_runValue (codeAny_builtin entry_proto_collect' ?_))
  show wpAny _ _ (do again (.builtin "list.__iadd__" ⟨[← newList [], Value.ref l], []⟩)) _ _ s; refine wpAny_bind (wpAny_newList (wpAny_pure ⟨Code.quiet_builtin _ (by decide +kernel), codeAny_builtin entry_list_iadd' ?_⟩))
  show wpAny _ _ (Builtin.List.listExtendWith (.ref s.heap.objs.size) (Value.ref l) (.ref s.heap.objs.size)) _ _ { s with heap := s.heap.push (seqObj "list" #[] 0) }; unfold Builtin.List.listExtendWith
  have hp : (s.heap.push (seqObj "list" #[] 0)).get? l = some o := Heap.get?_push_of_some _ ho
  refine wpAny_bind (wpAny_typeOf (T := "tuple") ⟨o, hp, hc⟩ ?_); have ht : (Value.type "tuple" == Value.type "tuple") = true := rfl
  rw [if_pos (by rw [ht]; simp)]; refine wpAny_bind (listItems_at hp hd ?_); refine wpAny_bind (listItems_at (xs := #[]) (n := 0) (Heap.get?_push_size _ rfl) rfl ?_); rw [if_neg (by simp)]
  refine wpAny_bind (listUpdate_at (xs := #[]) (n := 0) (Heap.get?_push_size _ rfl) rfl ?_ (Nat.zero_le _) (by show (#[] ++ vs.toArray).size ≤ sizeLine + 1; simp only [Array.size_append, List.size_toArray, List.length_nil]; omega)); refine wpAny_pure ?_
  show wpAny (model prog w) A (do let o ← load s.heap.objs.size; match o.data with | .seq xs _ => pure xs.toList | _ => unsupported "internal:collect") Q E { s with heap := (s.heap.push (seqObj "list" #[] 0)).update s.heap.objs.size (Obj.mapSeq fun z => z ++ vs.toArray) }
  refine wpAny_bind (wpAny_load (get?_update_seq (Heap.get?_push_size _ rfl) _) ?_); show wpAny _ _ (pure ((#[] : Array Value) ++ vs.toArray).toList) Q E _; rw [show ((#[] : Array Value) ++ vs.toArray).toList = vs by simp]; exact wpAny_pure h
theorem sorted_tup {prog : Program} {w : World} {A : Around} {E : Value → Shared → Prop} {s : Shared} {β : Type} {vs : List Value} {bs : List β} {enc : β → PyData} {R : Value → β → Prop} {l : Addr} {Q : Value → Shared → Prop} (hl : IsTup s.heap l vs.toArray) (e : PySem.W.EachIs R vs bs)
    (er : PySem.W.EachIs (fun v b => ∃ as, Reads s.heap v (enc b) as) vs bs) (hal : PySem.W.AllAlike (bs.map enc)) (hk : PySem.W.Sortable (bs.map enc)) (hL : bs.length ≤ sizeLine) (hu : ∀ b, b ∈ bs → A.units + 2 + (enc b).depth < cLine)
    (h : ∀ out, out.length = bs.length → PySem.W.EachIs R out (bs.mergeSort (PySem.W.dataLe false enc)) → Q (.ref (s.heap.objs.size + 1)) { s with heap := sortedAll s.heap vs (List.toArray out) }) : wpAny (model prog w) A (call (.builtin "sorted") [.ref l]) Q E s := by
  have er' : PySem.W.EachIs (fun v b => ∃ as, Reads (PySem.W.sortingHeap (PySem.W.copyHeap s.heap vs) (s.heap.objs.size + 1) vs) v (enc b) as) vs bs := er.mono fun _ _ ⟨as, r⟩ => ⟨as, PyProof.Rows.Reads.keeps (fun _ _ => PySem.W.sorting_copy_old) r⟩
  have S := PySem.W.SortsAt.data (prog := prog) (w := w) (A := A.in1.in1) (s := { s with heap := PySem.W.sortingHeap (PySem.W.copyHeap s.heap vs) (s.heap.objs.size + 1) vs }) (PySem.W.each_map (R := fun v d => ∃ as, Reads (PySem.W.sortingHeap (PySem.W.copyHeap s.heap vs) (s.heap.objs.size + 1) vs) v d as) enc er') hal hk (PySem.W.bound_map hu)
  have hq := h _ (by rw [PySem.W.sortVals_length false rfl]; exact e.length) (PySem.W.sortVals_data false e er' hal)
  have hv : vs.length ≤ sizeLine := by rw [e.length]; exact hL
  refine PyProof.Rows.call_function_entry_kw kind_sorted plain_sorted entry_sorted (args_sorted1 _) ?_; unfold Builtin.«sorted»; refine wpAny_bind (m := checkCount "sorted" 1 1 _) (wpAny_pure ?_); refine wpAny_bind (gather_tup hl ?_ hv); refine wpAny_bind (wpAny_newList ?_ hv)
  have hz : ((s.heap.push (seqObj "list" #[] 0)).update s.heap.objs.size (Obj.mapSeq fun z => z ++ vs.toArray)).objs.size = s.heap.objs.size + 1 := by rw [Heap.size_update, size_push']
  show wpAny _ _ _ _ _ { s with heap := PySem.W.copyHeap s.heap vs }; rw [hz]
  refine wpAny_bind (wpAny_holding (PyProof.Rows.wpAny_call_entry_kw slot_list_sort ⟨_, PySem.W.copyHeap_at s.heap vs, rfl⟩ entry_list_sort ?bd (args_list_sort _)))
  case bd =>
    show wpAny (model prog w) A.in1.in1 (Builtin.«list.sort» ⟨[Value.ref (s.heap.objs.size + 1)], []⟩) _ _ _
    exact PySem.W.list_sort_vals (s := { s with heap := PySem.W.copyHeap s.heap vs }) (PySem.W.copyHeap_at s.heap vs) S hv ⟨_, rfl, wpAny_pure ⟨_, rfl, hq⟩⟩
/-! sorted -/
def firstT : D → Bool
  | .tuple (_ :: _) => true
  | _ => false
def flatK : D → Bool
  | .none => false
  | .tuple _ => false
  | _ => true
def sortOk (ds : List D) : Bool := SeqAt.shaped (.list ds) && alikeB ds && (ds.all firstT || ds.all flatK) && decide (ds.length ≤ sizeLine)
def sortD (ds : List D) : List D := ds.mergeSort (PySem.W.dataLe false id)
def bSorted : List D → Option D
  | [.list ds] => if sortOk ds = true then some (.list (sortD ds)) else none
  | [.tuple ds] => if sortOk ds = true then some (.list (sortD ds)) else none
  | _ => none
def rSortD (K : PySem.W.Frag) : List V → Hp → VK → Prop := fun vs H Q => ∃ (p : Addr) (ys : List V) (ds : List D), vs = [.ref p] ∧ (SqL K H p ys ∨ SqT K H p ys) ∧ DpAll K H ys ds ∧ PySem.W.AllAlike ds ∧ PySem.W.Sortable ds ∧ PyData.depthAll ds ≤ 64 ∧ ds.length ≤ sizeLine ∧
  ∀ l, H l = none → Q (.ref l) (upd H l (.lst (((ys.zip ds).mergeSort (PySem.W.dataLe false fun b => b.2)).map (·.1))))
theorem dp_len {K : PySem.W.Frag} {H : Hp} : ∀ {ys : List V} {ds : List D}, DpAll K H ys ds → ys.length = ds.length
  | _, _, .nil => rfl
  | _, _, .cons _ t => by rw [List.length_cons, List.length_cons, dp_len t]
theorem each_vals : ∀ {ys : List V} {its : List Value} {ds : List D}, Vals ys its → ys.length = ds.length → PySem.W.EachIs (fun (v : Value) (b : V × D) => RelV b.1 v) its (ys.zip ds)
  | [], _, _, .nil, _ => .nil
  | y :: ys, _, [], .cons _ _, h => by simp at h
  | y :: ys, _, d :: ds, .cons r rs, h => .cons r (each_vals rs (by simpa using h))
theorem each_reads {h : Heap} : ∀ {ys : List V} {its : List Value} {ds : List D} {as : List Addr}, ys.length = ds.length → ReadsAll h its ds as → PySem.W.EachIs (fun (v : Value) (b : V × D) => ∃ as, Reads h v b.2 as) its (ys.zip ds)
  | [], _, [], _, _, .nil => .nil
  | [], _, _ :: _, _, h, _ => by simp at h
  | _ :: _, _, [], _, h, _ => by simp at h
  | y :: ys, _, d :: ds, _, h, .cons r rs => .cons ⟨_, r⟩ (each_reads (by simpa using h) rs)
theorem vals_each : ∀ {out : List Value} {bs : List (V × D)}, PySem.W.EachIs (fun (v : Value) (b : V × D) => RelV b.1 v) out bs → Vals (bs.map (·.1)) out
  | _, _, .nil => .nil
  | _, _, .cons r rs => .cons r (vals_each rs)
theorem zip_snd : ∀ {ys : List V} {ds : List D}, ys.length = ds.length → (ys.zip ds).map (fun b => b.2) = ds
  | [], [], _ => rfl
  | [], _ :: _, h => by simp at h
  | _ :: _, [], h => by simp at h
  | y :: ys, d :: ds, h => by rw [List.zip_cons_cons, List.map_cons, zip_snd (by simpa using h)]
theorem depth_mem : ∀ {ds : List D} {d : D}, d ∈ ds → d.depth ≤ PyData.depthAll ds
  | x :: xs, d, h => by
    rw [PyData.depthAll]
    rcases List.mem_cons.mp h with e | e
    · rw [e]; omega
    · have := depth_mem e; omega
theorem cr_sortD (hu : X.A.units + 68 < cLine) : CallR X (.builtin "sorted") (rSortD X.K) := by
  intro pins s σ H vs us Q I r h
  obtain ⟨p, ys, ds, rfl, hs, hp, ha, hk, hd, hz, q⟩ := h
  rw [Vals.ref1 r]
  have el := dp_len hp
  have es := zip_snd el
  have hbl : (ys.zip ds).length = ds.length := by rw [List.length_zip, el]; omega
  have hb : ∀ b, b ∈ ys.zip ds → X.A.units + 2 + b.2.depth < cLine := fun b hb => by
    have : b.2 ∈ ds := by
      have := List.mem_map_of_mem (f := fun b : V × D => b.2) hb
      rw [es] at this
      exact this
    have := depth_mem this
    omega
  have fin : ∀ its : List Value, ∀ out : List Value, PySem.W.EachIs (fun (v : Value) (b : V × D) => RelV b.1 v) out ((ys.zip ds).mergeSort (PySem.W.dataLe false fun b => b.2)) → EP X pins σ Q (.ref (s.heap.objs.size + 1)) { s with heap := sortedAll s.heap its (List.toArray out) } := fun its out h2 => by
    obtain ⟨ep, he'⟩ := PyProof.Rows.sortedAll_at s.heap its out.toArray
    refine ⟨.ref _, upd H (s.heap.objs.size + 1) (.lst (((ys.zip ds).mergeSort (PySem.W.dataLe false fun b => b.2)).map (·.1))), I.laid (t' := s.toks) (fun _ _ => PyProof.Rows.sortedAll_old) (Nat.le_succ _) ⟨?_, out, ep, vals_each h2, he'⟩, rfl, q _ (I.hok.fresh (Nat.le_succ _))⟩
    rw [List.length_map, List.length_mergeSort, hbl]
    exact hz
  rcases hs with hs | hs
  · obtain ⟨its, rv, hl, _⟩ := I.list hs
    obtain ⟨as, rr⟩ := Dp.readsAll I _ _ _ hp rv
    exact PySem.W.sorted_data (enc := fun b : V × D => b.2) hl.isList (each_vals rv el) (each_reads el rr) (by rw [es]; exact ha) (by rw [es]; exact hk) (by rw [hbl]; exact hz) hb fun out _ h2 => fin its out h2
  · obtain ⟨its, rv, hl, _⟩ := I.tuple hs
    obtain ⟨as, rr⟩ := Dp.readsAll I _ _ _ hp rv
    exact sorted_tup (enc := fun b : V × D => b.2) hl (each_vals rv el) (each_reads el rr) (by rw [es]; exact ha) (by rw [es]; exact hk) (by rw [hbl]; exact hz) hb fun out _ h2 => fin its out h2
theorem rp_zip {K : PySem.W.Frag} {G : Hp} : ∀ {ys : List V} {ds : List D}, RpAll K G ys ds → ∀ b ∈ ys.zip ds, Rp K G b.1 b.2
  | _, _, .nil, b, h => by simp at h
  | _, _, .cons r rs, b, h => by
    rw [List.zip_cons_cons] at h
    rcases List.mem_cons.mp h with e | e
    · rw [e]; exact r
    · exact rp_zip rs b e
theorem rp_unzip {K : PySem.W.Frag} {G : Hp} : ∀ {bs : List (V × D)}, (∀ b ∈ bs, Rp K G b.1 b.2) → RpAll K G (bs.map (·.1)) (bs.map (·.2))
  | [], _ => .nil
  | b :: bs, h => .cons (h b (List.mem_cons_self ..)) (rp_unzip fun c hc => h c (List.mem_cons_of_mem _ hc))
theorem sort_ok {K : PySem.W.Frag} {H G : Hp} {a : Addr} {us : List V} {xs : List D} {Q : VK} (gh : Same G H) (hs : SqL K H a us ∨ SqT K H a us) (r1 : RpAll K G us xs) (h : sortOk xs = true) (q : ∀ v H' G', Step H G H' G' → Res K H H' G' v (.list (sortD xs)) .ow → Q v H') : rSortD K [.ref a] H Q := by
  unfold sortOk at h
  simp only [Bool.and_eq_true, Bool.or_eq_true, decide_eq_true_eq] at h
  obtain ⟨⟨⟨h2, h3⟩, h4⟩, h5⟩ := h
  obtain ⟨k1, k2⟩ := depthAll_of h2
  have hk : PySem.W.Sortable xs := by
    rcases h4 with h4 | h4
    · refine .inl fun d hd => ?_
      have := List.all_eq_true.mp h4 d hd
      unfold firstT at this
      split at this
      · exact ⟨_, _, rfl⟩
      · cases this
    · refine .inr fun d hd => ?_
      have := List.all_eq_true.mp h4 d hd
      exact ⟨fun z => (by rw [z] at this; cases this), fun ys z => (by rw [z] at this; cases this)⟩
  have el : us.length = xs.length := r1.length
  refine ⟨a, us, xs, rfl, hs, (RpAll.mono gh r1).dp k2, fun d hd d' hd' => alikeB_eq h3 d hd d' hd', hk, k1, h5, fun l hl => ?_⟩
  refine q _ _ _ (Step.new' gh hl) ⟨l, _, rfl, hl, upd_same, gh.free hl, ?_⟩
  have e1 : sortD xs = ((us.zip xs).mergeSort (PySem.W.dataLe false fun b => b.2)).map (·.2) := by
    unfold sortD
    have := List.map_mergeSort (l := us.zip xs) (r := PySem.W.dataLe false fun b : V × D => b.2) (s := PySem.W.dataLe false id) (f := fun b : V × D => b.2) fun a _ b _ => rfl
    rw [zip_snd el] at this
    exact this.symm
  rw [e1]
  exact rp_unzip fun b hb => rp_zip r1 b ((List.mergeSort_perm _ _).subset hb)
theorem cal_sort {K : PySem.W.Frag} : Cal K (rSortD K) bSorted .ow := fun H G vs ds d Q gh r e q => by
  unfold bSorted at e
  split at e
  · split at e
    · rename_i h
      cases e
      obtain ⟨v, rfl, rv⟩ := paired1 r
      obtain ⟨a, us, rfl, h1, r1⟩ := rv.lst gh
      exact sort_ok gh (.inl (.inl h1)) r1 h q
    · cases e
  · split at e
    · rename_i h
      cases e
      obtain ⟨v, rfl, rv⟩ := paired1 r
      obtain ⟨a, us, rfl, h1, r1⟩ := rv.tup
      exact sort_ok gh (.inr (.inl (rdM gh h1.rd))) r1 h q
    · cases e
  · cases e
end
end PF
namespace PF
open PySem PySem.Spec PyProof.Rows L2 RZ
/-! ### f(e, .., k = v, ..) -/
def kwOf : List Keyword → Option (List Str × List Expr)
  | [] => some ([], [])
  | ⟨some n, v, _⟩ :: r => (kwOf r).map fun p => (n :: p.1, v :: p.2)
  | ⟨none, _, _⟩ :: _ => none
theorem kwOf_cons {n : Option Str} {v : Expr} {p : Pos} {r : List Keyword} {ks : List Str} {vs : List Expr} (h : kwOf (⟨n, v, p⟩ :: r) = some (ks, vs)) : ∃ m ks' vs', n = some m ∧ kwOf r = some (ks', vs') ∧ ks = m :: ks' ∧ vs = v :: vs' := by
  cases n with
  | none => cases h
  | some m =>
    unfold kwOf at h
    cases e : kwOf r with
    | none => rw [e] at h; cases h
    | some q =>
      rw [e] at h
      cases h
      exact ⟨m, q.1, q.2, rfl, rfl, rfl, rfl⟩
theorem kw_ok (pos : Pos) (env : PySem.Env) : ∀ {kws : List Keyword} {ks : List Str} {vs : List Expr}, kwOf kws = some (ks, vs) → (backToKw pos (keywordEach kws env)).all (·.1.isSome) = true ∧ (backToKw pos (keywordEach kws env)).filterMap (·.1) = ks ∧ (backToKw pos (keywordEach kws env)).any (·.1.isNone) = false
  | [], _, _, h => by cases h; exact ⟨rfl, rfl, rfl⟩
  | ⟨n, v, p⟩ :: r, _, _, h => by
    obtain ⟨m, ks', vs', rfl, h2, rfl, rfl⟩ := kwOf_cons h
    obtain ⟨a1, a2, a3⟩ := kw_ok pos env h2
    refine ⟨?_, ?_, ?_⟩
    · show (true && (backToKw pos (keywordEach r env)).all (·.1.isSome)) = true
      rw [a1]; rfl
    · show m :: (backToKw pos (keywordEach r env)).filterMap (·.1) = m :: ks'
      rw [a2]
    · show (false || (backToKw pos (keywordEach r env)).any (·.1.isNone)) = false
      rw [a3]; rfl
theorem r_if {X : Cx} {a b c : Expr} {fa fb fc : Den} {pos : Pos} (hc : PT X c (tT X.K (dT fc))) (ha : PE X a (tR X.K fa)) (hb : PE X b (tR X.K fb)) : PE X (.IfExp c a b pos) (tR X.K (dIf fc fa fb)) :=
  peW (pe_ifExp hc ha hb) fun σ H Q ⟨H0, G0, G, ρ, d, ok, hf, q⟩ => by
    unfold dIf at hf
    split at hf
    · rename_i e
      refine ⟨H0, G0, G, ρ, true, ok, by unfold dT; rw [e], fun H' G' s => ?_⟩
      refine iteT ?_
      exact ⟨H0, G0, G', ρ, d, ok.step s, hf, q⟩
    · rename_i e
      refine ⟨H0, G0, G, ρ, false, ok, by unfold dT; rw [e], fun H' G' s => ?_⟩
      refine iteF ?_
      exact ⟨H0, G0, G', ρ, d, ok.step s, hf, q⟩
    · cases hf
section
variable {X : Cx} {e : Expr} {es : List Expr} {f : Den} {fs zs : List Den} {pos p : Pos}
theorem k_nil : PK X [] (tA X.K (dArgs [])) := ⟨fun pos pins s σ H Q I ⟨H0, G0, G, ρ, ds, ok, hf, q⟩ => by
  cases hf
  exact pk_nil.run pos pins s σ H Q I (q [] H G (Step.refl ok.gh) .nil)⟩
theorem k_cons {n : Option Str} {kp : Pos} {kws : List Keyword} (ha : PE X e (tE X.K .fz f)) (hr : PK X kws (tA X.K (dArgs fs))) : PK X (⟨n, e, kp⟩ :: kws) (tA X.K (dArgs (f :: fs))) := ⟨fun pos pins s σ H Q I ⟨H0, G0, G, ρ, ds, ok, hf, q⟩ => by
  obtain ⟨x, xs, h1, h2, rfl⟩ := dArgs_cons hf
  refine (pk_cons ha hr).run pos pins s σ H Q I ⟨H0, G0, G, ρ, x, ok, h1, fun v H1 G1 s1 r1 => ⟨H0, G0, G1, ρ, xs, ok.step s1, h2, fun vs H2 G2 s2 r2 => ?_⟩⟩
  exact q (v :: vs) H2 G2 (s1.trans s2) (.cons (Rp.mono s2.gg r1) r2)⟩
def runO (n : Nat) (F : DenS) (ds : List D) : Option D := match F (toEnv n ds) with
  | some (.reto d) => some d
  | some (.next _) => some .none
  | _ => none
def dCallK (F : List D → List D → Option D) (fs zs : List Den) : Den := fun ρ => (dArgs fs ρ).bind fun ds => (dArgs zs ρ).bind fun es => F ds es
/-- a def's promise; o: what it gives is the caller's own -/
def mdO (o : Bool) : Md := if o then .ow else .fz
def spG (K : PySem.W.Frag) (n : Nat) (g : List D → Option D) (o : Bool) : Sp := fun vs H Q _ => ∃ G ds d, Same G H ∧ RpAll K G vs ds ∧ ds.length = n ∧ g ds = some d ∧ ∀ v H' G', Step H G H' G' → Res K H H' G' v d (mdO o) → Q v H'
/-- the name x, called with n values and the keywords ks, keeps to the plain function F -/
def AvK (P : Program) (w : World) (K : PySem.W.Frag) (mg : Str → Option Value) (base : Heap) (k : Nat) (x : Str) (ks : List Str) (n : Nat) (o : Bool) (F : List D → List D → Option D) : Prop :=
  ∃ fa fd ps gg gV np g, mg x = some (.ref fa) ∧ PySem.W.keepIn K (.ref fa) = true ∧ KBn K fd ps n ks gg gV ∧ FnOk P w K mg base CX0 k fa fd ps (spG K np g o) ∧
    ∀ (G : Hp) vs ds zs es d, RpAll K G vs ds → RpAll K G zs es → ds.length = n → es.length = ks.length → F ds es = some d → ∃ ds', RpAll K G (gV vs zs) ds' ∧ ds'.length = np ∧ g ds' = some d
theorem res_st {K : PySem.W.Frag} {H0 G0 H G H' G' : Hp} {v : V} {d : D} {o : Bool} (s : Step H0 G0 H G) (r : Res K H H' G' v d (mdO o)) : Res K H0 H' G' v d (mdO o) := by
  cases o with
  | false => exact r
  | true => exact res_up s r
theorem rpAll_len {K : PySem.W.Frag} {G : Hp} {vs : List V} {ds : List D} (h : RpAll K G vs ds) : vs.length = ds.length := h.length
theorem e_callK {x : Str} {k n : Nat} {o : Bool} {ks : List Str} {kvs : List Expr} {kws : List Keyword} {F : List D → List D → Option D} (av : AvK X.prog X.w X.K X.mg X.base k x ks n o F) (hr : Room k X.A) (gl : Gl X x) (hdb : (x == ("__debug__" : Str)) = false) (hkw : kwOf kws = some (ks, kvs)) (hl : fs.length = n) (hz : zs.length = ks.length)
    (hs : (e :: es).all (fun e => !isStar e) = true) (ha : PA X (e :: es) (tA X.K (dArgs fs))) (hk : PK X kws (tA X.K (dArgs zs))) : PE X (.Call (.Name x p) (e :: es) kws pos) (tE X.K (mdO o) (dCallK F fs zs)) := by
  simp only [List.all_cons, Bool.and_eq_true] at hs
  obtain ⟨fa, fd, ps, gg, gV, np, g, h1, h2, h3, h4, h5⟩ := av
  obtain ⟨a1, a2, a3⟩ := kw_ok pos X.env hkw
  refine peW (pe_callN h4 hr gl h1 h2 h3 pass0 ha hk a1 a2 hdb (star_ok (by simpa using hs.1) _) (by rw [back_ok _ _ _ (by rw [List.all_cons, hs.1, hs.2]; rfl), a3]; rfl)) fun σ H Q ⟨H0, G0, G, ρ, d, ok, hf, q⟩ => ?_
  unfold dCallK at hf
  cases e1 : dArgs fs ρ with
  | none => rw [e1] at hf; cases hf
  | some ds =>
    rw [e1] at hf
    cases e2 : dArgs zs ρ with
    | none => rw [Option.bind_some, e2] at hf; cases hf
    | some es' =>
      rw [Option.bind_some, e2, Option.bind_some] at hf
      refine ⟨H0, G0, G, ρ, ds, ok, e1, fun vs H1 G1 s1 r1 => ⟨H0, G0, G1, ρ, es', ok.step s1, e2, fun zv H2 G2 s2 r2 => ?_⟩⟩
      have r1' := RpAll.mono s2.gg r1
      have l1 : ds.length = n := by rw [dArgs_len e1, hl]
      have l2 : es'.length = ks.length := by rw [dArgs_len e2, hz]
      obtain ⟨ds', k1, k2, k3⟩ := h5 G2 vs ds zv es' d r1' r2 l1 l2 hf
      exact ⟨by rw [r1.length, l1], by rw [r2.length, l2], G2, ds', d, s2.gh, k1, k2, k3, fun v H' G' s' r' => q v H' G' ((s1.trans s2).trans s') (res_st (s1.trans s2) r')⟩
end
end PF
namespace PF
open PySem PySem.Spec PyProof.Rows L2 RZ
/-! ### a, b = x, y -/
def dPut (o : Bool) (i : Nat) (d : D) (ρ : Env) : Option Env := if o then (match d with
  | .list xs => some (ρ.set i (some (.own xs)))
  | _ => none) else some (ρ.set i (some (.val d)))
def dPar (i j : Nat) (oi oj : Bool) (fa fb : Den) : DenS := fun ρ => (fa ρ).bind fun da => (fb ρ).bind fun db => (dPut oi i da ρ).bind fun ρ1 => (dPut oj j db ρ1).map .next
theorem put_ok {K : PySem.W.Frag} {H0 G0 H G H' G' : Hp} {σ : St} {ρ ρ' : Env} {o : Bool} {i : Nat} {v : V} {d : D} (ok : EnvOk K H0 G0 H G σ ρ) (s : Step H G H' G') (r : Res K H H' G' v d (mdO o)) (h : dPut o i d ρ = some ρ') : EnvOk K H0 G0 H' G' (σ.set i (some v)) ρ' := by
  unfold dPut at h
  cases o with
  | true =>
    simp only [if_true] at h
    split at h
    · cases h
      obtain ⟨a, vs, rfl, n, h1, h2, h3⟩ := r
      exact ok.set_own s n h1 h2 h3
    · cases h
  | false =>
    simp only [Bool.false_eq_true, if_false] at h
    cases h
    exact (ok.step s).set_val r
section
variable {X : Cx} {a b : Expr} {fa fb : Den} {i j : Nat} {x y : Str} {oi oj : Bool} {px py pt pos : Pos} {kt k2 : Nat} {pt2 : Pos}
theorem s_par (hc : X.calm = true) (hN : X.N.Nodup) (hi : X.N[i]? = some x) (hj : X.N[j]? = some y) (hij : i ≠ j) (hx : X.env.scope.names.lookup x = some .local) (hy : X.env.scope.names.lookup y = some .local) (na : isStar a = false) (nb : isStar b = false)
    (ha : PE X a (tE X.K (mdO oi) fa)) (hb : PE X b (tE X.K (mdO oj) fb)) (hw : swappedStores [.Tuple [.Name x px, .Name y py] kt pt] (.Tuple [a, b] k2 pt2) X.env = pure (some [x, y])) :
    PS X (.Assign [.Tuple [.Name x px, .Name y py] kt pt] (.Tuple [a, b] k2 pt2) pos) (tS X.K (dPar i j oi oj fa fb)) :=
  psW (ps_par hc hN hi hj hij hx hy (pa_cons ha (pa_cons hb pa_nil (st1 nb)) (st1 na)) hw) fun Dn σ H ⟨H0, G0, G, ρ, out, ok, hf, q⟩ => by
    unfold dPar at hf
    cases e1 : fa ρ with
    | none => rw [e1] at hf; cases hf
    | some da =>
      rw [e1, Option.bind_some] at hf
      cases e2 : fb ρ with
      | none => rw [e2] at hf; cases hf
      | some db =>
        rw [e2, Option.bind_some] at hf
        cases e3 : dPut oi i da ρ with
        | none => rw [e3] at hf; cases hf
        | some ρ1 =>
          rw [e3, Option.bind_some] at hf
          cases e4 : dPut oj j db ρ1 with
          | none => rw [e4] at hf; cases hf
          | some ρ2 =>
            rw [e4] at hf
            cases hf
            refine ⟨H0, G0, G, ρ, da, ok, e1, fun v H1 G1 s1 r1 => ⟨H0, G0, G1, ρ, db, ok.step s1, e2, fun w H2 G2 s2 r2 => ⟨v, w, rfl, ?_⟩⟩⟩
            exact q _ _ _ (s1.trans s2).gg (put_ok (put_ok ok s1 r1 e3) s2 r2 e4)
end
/-- a tuple of constants is unpacked as any value -/
def foldB : Expr → Bool
  | .Tuple vs _ _ => vs.all (foldedForSure 8)
  | _ => true
theorem stores_fold {tg e : Expr} (h : foldB e = true) (env : PySem.Env) : swappedStores [tg] e env = pure none := by
  cases e with
  | Tuple vs k p =>
    cases tg with
    | Tuple ts k2 p2 =>
      have h' : vs.all (foldedForSure 8) = true := h
      unfold swappedStores
      simp only [h']
      repeat' split
      all_goals first | rfl | (simp; done) | (simp_all; done)
    | List ts p2 =>
      have h' : vs.all (foldedForSure 8) = true := h
      unfold swappedStores
      simp only [h']
      repeat' split
      all_goals first | rfl | (simp; done) | (simp_all; done)
    | _ => rfl
  | _ => cases tg <;> rfl
/-- two names of the frame, two values: stored from the right -/
def parB (sc : Scope) (x y : Str) (px py : Pos) (a b : Expr) : Bool := (match sc.kind with | .function => true | _ => false) && sc.names.lookup x == some .local && sc.names.lookup y == some .local && py.line == px.line && x != y && !isStar a && !isStar b && !(foldedForSure 8 a && foldedForSure 8 b) && !(constantsAlone 8 a && constantsAlone 8 b)
theorem stores_par {x y : Str} {px py pt pt2 : Pos} {kt k2 : Nat} {a b : Expr} {env : PySem.Env} (h : parB env.scope x y px py a b = true) : swappedStores [.Tuple [.Name x px, .Name y py] kt pt] (.Tuple [a, b] k2 pt2) env = pure (some [x, y]) := by
  unfold parB at h
  simp only [Bool.and_eq_true, beq_iff_eq, bne_iff_ne, ne_eq, Bool.not_eq_true'] at h
  obtain ⟨⟨⟨⟨⟨⟨⟨⟨h1, h2⟩, h3⟩, h4⟩, h5⟩, h6⟩, h7⟩, h8⟩, h9⟩ := h
  have hk : env.scope.kind = .function := by
    split at h1
    · assumption
    · cases h1
  have kx : (env.kindOf x == some .local) = true := beq_iff_eq.mpr h2
  have ky : (env.kindOf y == some .local) = true := beq_iff_eq.mpr h3
  have kb : (env.blockKind != ScopeKind.function) = false := by
    unfold PySem.Env.blockKind
    rw [hk]; rfl
  have hst : (fun e : Expr => match e with | .Starred .. => true | _ => false) = isStar := funext fun e => by cases e <;> rfl
  have hd : ([x, y].eraseDups.length != [x, y].length) = false := by
    have h5' : ¬y = x := fun e => h5 e.symm
    have : [x, y].eraseDups = [x, y] := by
      rw [List.eraseDups_cons, List.filter_cons_of_pos (by simpa using h5'), List.filter_nil, List.eraseDups_cons, List.filter_nil, List.eraseDups_nil]
    rw [this]; rfl
  have h8' : [a, b].all (foldedForSure 8) = false := by simp only [List.all_cons, List.all_nil, Bool.and_true]; exact h8
  have h9' : [a, b].all (constantsAlone 8) = false := by simp only [List.all_cons, List.all_nil, Bool.and_true]; exact h9
  have hany : ([a, b].any fun e : Expr => match e with | .Starred .. => true | _ => false) = false := by
    rw [hst]; simp only [List.any_cons, List.any_nil, Bool.or_false, h6, h7]
  have hn : ([Expr.Name x px, Expr.Name y py].filterMap fun e => match e with
      | .Name id pos => if (env.kindOf id == some .local && pos.line == (Option.map (fun x : Expr => x.pos.line) [Expr.Name x px, Expr.Name y py].head?).getD 0) = true then some id else none
      | _ => none) = [x, y] := by
    have e1 : (env.kindOf x == some .local && px.line == (Option.map (fun x : Expr => x.pos.line) [Expr.Name x px, Expr.Name y py].head?).getD 0) = true := by
      rw [kx, Bool.true_and]; show (px.line == px.line) = true; exact beq_self_eq_true _
    have e2 : (env.kindOf y == some .local && py.line == (Option.map (fun x : Expr => x.pos.line) [Expr.Name x px, Expr.Name y py].head?).getD 0) = true := by
      rw [ky, Bool.true_and]; show (py.line == px.line) = true; rw [h4]; exact beq_self_eq_true _
    rw [List.filterMap_cons_some (b := x) (by simp only [e1, if_true]), List.filterMap_cons_some (b := y) (by simp only [e2, if_true]), List.filterMap_nil]
  have step : swappedStores [.Tuple [.Name x px, .Name y py] kt pt] (.Tuple [a, b] k2 pt2) env = (do
      if (!([Expr.Name x px, Expr.Name y py].length == 2 || [Expr.Name x px, Expr.Name y py].length == 3) || [a, b].length != [Expr.Name x px, Expr.Name y py].length || env.blockKind != .function) = true then return none
      if ([a, b].any fun e : Expr => match e with | .Starred .. => true | _ => false) = true then return none
      let names := [Expr.Name x px, Expr.Name y py].filterMap fun e => match e with
        | .Name id pos => if (env.kindOf id == some .local && pos.line == (Option.map (fun x : Expr => x.pos.line) [Expr.Name x px, Expr.Name y py].head?).getD 0) = true then some id else none
        | _ => none
      if (names.length != [Expr.Name x px, Expr.Name y py].length || names.eraseDups.length != names.length) = true then return none
      if [a, b].all (foldedForSure 8) = true then return none
      if [a, b].all (constantsAlone 8) = true then unsupported "assign.tuple-of-constant-expressions:order-of-the-stores"
      return some names) := rfl
  rw [step, hn]
  show (if (!([Expr.Name x px, Expr.Name y py].length == 2 || [Expr.Name x px, Expr.Name y py].length == 3) || [a, b].length != [Expr.Name x px, Expr.Name y py].length || env.blockKind != .function) = true then pure none
    else if ([a, b].any fun e : Expr => match e with | .Starred .. => true | _ => false) = true then pure none
    else if (([x, y] : List Str).length != [Expr.Name x px, Expr.Name y py].length || [x, y].eraseDups.length != [x, y].length) = true then pure none
    else if [a, b].all (foldedForSure 8) = true then pure none
    else if [a, b].all (constantsAlone 8) = true then (unsupported "assign.tuple-of-constant-expressions:order-of-the-stores" >>= fun _ => pure (some [x, y])) else pure (some [x, y])) = _
  rw [hd, h8', h9', hany, kb]
  rfl
end PF
namespace HT
open PySem PySem.Spec PyProof.Rows L2
section
variable {prog : Program} {w : World} {A : Around} {E : Value → Shared → Prop} {s : Shared}
theorem fm_congr {α β : Type} {f g : α → Option β} : ∀ l : List α, (∀ x ∈ l, f x = g x) → l.filterMap f = l.filterMap g
  | [], _ => rfl
  | x :: l, h => by
    rw [List.filterMap_cons, List.filterMap_cons, h x (List.mem_cons_self ..), fm_congr l fun y hy => h y (List.mem_cons_of_mem _ hy)]
theorem adjust_rev (n : Nat) : Builtin.Slice.sliceAdjust none none (-1) (n : Int) = ((n : Int) - 1, -1) := rfl
theorem places_rev (n : Nat) : Builtin.Slice.slicePlaces ((n : Int) - 1) (-1) (-1) = n := by
  unfold Builtin.Slice.slicePlaces
  have h1 : ¬ ((-1 : Int) > 0) := by decide
  simp only [h1, if_false]
  by_cases h : (n : Int) - 1 > -1
  · have e : ((n : Int) - 1 - -1 - 1) / (- -1) = (n : Int) - 1 := by
      rw [show (- -1 : Int) = 1 by decide, Int.ediv_one]; omega
    rw [if_pos h, e]; omega
  · rw [if_neg h]; simp; omega
theorem pick_rev (xs : Array Value) : ((List.range xs.size).filterMap fun (k : Nat) => xs[((xs.size : Int) - 1 + (k : Int) * -1).toNat]?).toArray = xs.toList.reverse.toArray := by
  have e : (List.range xs.size).filterMap (fun (k : Nat) => xs[((xs.size : Int) - 1 + (k : Int) * -1).toNat]?) = ((List.range xs.size).map fun k => xs.size - 1 - k).filterMap (xs[·]?) := by
    rw [List.filterMap_map]
    refine fm_congr _ fun k hk => ?_
    have := List.mem_range.mp hk
    have e : ((xs.size : Int) - 1 + (k : Int) * -1).toNat = xs.size - 1 - k := by omega
    simp only [Function.comp, e]
  rw [e, PySem.W.krv_range, List.filterMap_reverse, PySem.W.krv_all]
theorem sliceApplied_rev {sl : Addr} {n : Nat} {vs : Value} {Q : Int × Int × Nat → Shared → Prop} (hs : s.heap.IsSliceOf sl .none .none vs) (ps : IsPart vs (some (-1)))
    (h : Q ((n : Int) - 1, -1, n) s) : wpAny (model prog w) A (Builtin.Slice.sliceApplied (.ref sl) (pure (n : Int))) Q E s := by
  obtain ⟨os, hos, hcs, hds⟩ := id hs
  unfold Builtin.Slice.sliceApplied Builtin.Slice.sliceFields
  refine wpAny_bind (wpAny_bind (wpAny_field hos hds (x := .none) rfl (wpAny_bind (wpAny_field hos hds (x := .none) rfl (wpAny_bind (wpAny_field hos hds (x := vs) rfl (wpAny_pure ?_)))))))
  refine wpAny_bind (slicePart_ ps ?_)
  show wpAny _ _ (if ((-1 : Int) == 0) = true then _ else _) _ _ s
  rw [if_neg (by decide)]
  refine wpAny_bind (slicePart_none (wpAny_bind (slicePart_none (wpAny_bind (wpAny_pure ?_)))))
  show wpAny _ _ (match Builtin.Slice.sliceAdjust none none (-1) (n : Int) with | (lo, hi) => pure (lo, (-1 : Int), Builtin.Slice.slicePlaces lo hi (-1))) _ _ s
  rw [adjust_rev n]
  show wpAny _ _ (pure ((n : Int) - 1, (-1 : Int), Builtin.Slice.slicePlaces ((n : Int) - 1) (-1) (-1))) _ _ s
  rw [places_rev]
  exact wpAny_pure h
theorem getItem_tuple_rev {t sl : Addr} {items : Array Value} {vs : Value} {Q : Value → Shared → Prop} (ht : IsTup s.heap t items) (hs : s.heap.IsSliceOf sl .none .none vs) (ps : IsPart vs (some (-1)))
    (h : Q (.ref s.heap.objs.size) { s with heap := s.heap.push { cls := .type "tuple", data := .seq items.toList.reverse.toArray } })
    (hsz : items.size ≤ sizeLine) : wpAny (model prog w) A (getItem (.ref t) (.ref sl)) Q E s := by
  have htake : sizeOk (.seq items.toList.reverse.toArray) := by
    show items.toList.reverse.toArray.size ≤ sizeLine
    rw [List.size_toArray, List.length_reverse, Array.length_toList]
    exact hsz
  obtain ⟨os, hos, hcs, hds⟩ := id hs
  have hTs : s.TypeIs (.ref sl) "slice" := ⟨os, hos, hcs⟩
  unfold getItem
  try with_reducible refine wpAny_holding ?_
  first | refine wpAny_bind (wpAny_pure ?_) | skip
  refine wpAny_bind (wpAny_sequenceKey ht.typeIs (by decide) ?_)
  refine wpAny_bind (wpAny_callSpecial?_slot (name := Str.ofString "__getitem__") ht.typeIs PyProof.Rows.slot_tuple_getitem
    (wpAny_call_entry PyProof.Rows.slot_tuple_getitem ht.typeIs entry_tuple_getitem ?_ (args_tuple_getitem _ _)))
  show wpAny _ _ (Builtin.Tuple.tupleItemsOf (.ref t) >>= _) _ _ s
  refine wpAny_bind (tupleItemsOf_ ht ?_)
  refine wpAny_bind (wpAny_typeOf hTs ?_)
  rw [if_pos (by decide)]
  refine wpAny_bind (sliceApplied_rev hs ps ?_)
  have hno : ¬ (((items.size : Int) - 1 == 0 && (-1 : Int) == 1 && items.size == items.size) = true) := by
    intro q
    rw [Bool.and_eq_true, Bool.and_eq_true] at q
    exact absurd q.1.2 (by decide)
  show wpAny _ _ (if ((items.size : Int) - 1 == 0 && (-1 : Int) == 1 && items.size == items.size) = true then _ else _) _ _ s
  rw [if_neg hno, pick_rev]
  first
    | exact wpAny_bind (m := Builtin.Tuple.tupleExact _) (wpAny_newObj_type (wpAny_pure ⟨_, rfl, wpAny_pure h⟩) htake)
    | exact wpAny_bind (m := Builtin.Tuple.tupleExact _) (wpAny_newObj_type (wpAny_bind (wpAny_pure (wpAny_pure ⟨_, rfl, wpAny_pure h⟩))) htake)
    | exact wpAny_bind (wpAny_bind (m := Builtin.Tuple.tupleExact _) (wpAny_newObj_type (wpAny_pure (wpAny_pure ⟨_, rfl, wpAny_pure h⟩)) htake))
    | exact wpAny_bind (wpAny_bind (m := Builtin.Tuple.tupleExact _) (wpAny_newObj_type (wpAny_pure ⟨_, rfl, wpAny_pure h⟩) htake))
end
end HT
namespace PF
open PySem PySem.Spec PyProof.Rows L2 RZ
section
variable {X : Cx} {e : Expr} {f : Den} {k : Nat} {p1 p2 p3 pos : Pos}
def tRevA (K : PySem.W.Frag) (te : TE) : TE := fun σ H Q => te σ H fun x H1 => ∃ a xs, x = .ref a ∧ ((SqL K H1 a xs ∧ ∀ p, H1 p = none → Q (.ref p) (upd H1 p (.lst xs.reverse))) ∨ (SqT K H1 a xs ∧ TN.NewT Q H1 xs.reverse))
theorem pe_revA {te : TE} (he : PE X e te) : PE X (.Subscript e (.Slice none none (some (.UnaryOp .USub (.Constant (.int 1) k p1) p2)) p3) pos) (tRevA X.K te) := by
  refine ⟨fun pins s σ H Q I h => ?_⟩
  refine Subscript_ (thn (he.run pins s σ H _ I h) fun v s1 ⟨x, H1, I1, r1, q1⟩ => ?_)
  obtain ⟨a, xs, ex, hx⟩ := q1
  subst ex
  cases r1
  have hst : PO X (some (.UnaryOp .USub (.Constant (.int 1) k p1) p2)) (tPart (tUn (rU fun i => .int (-i)) (tC (.int 1)))) := po_some (pe_un un_neg pe_int)
  refine wpAny_Slice (thn (po_none.run pins s1 σ H1 (fun o H2 => o = none ∧ H2 = H1) I1 ⟨rfl, rfl⟩) fun vl s2 ⟨l, H2, I2, pl, el, e2⟩ => ?_)
  subst el e2
  refine thn (po_none.run pins s2 σ H2 (fun o H3 => o = none ∧ H3 = H2) I2 ⟨rfl, rfl⟩) fun vu s3 ⟨u, H3, I3, pu, eu, e3⟩ => ?_
  subst eu e3
  refine thn (hst.run pins s3 σ H3 (fun o H4 => o = some (-1) ∧ H4 = H3) I3 ⟨1, rfl, -1, rfl, rfl, rfl⟩) fun vs s4 ⟨o, H4, I4, ps, eo, e4⟩ => ?_
  subst eo e4
  have I5 : Inv X pins σ H4 { s4 with heap := s4.heap.push { cls := .type "slice", data := .fields #[vl, vu, vs] } } := I4.kept (t' := s4.toks) fun b ob q => Heap.get?_push_of_some _ q
  have sl := Heap.IsSliceOf.new s4.heap vl vu vs
  show wpAny (model X.prog X.w) X.A (subscriptTail e (.Slice none none (some (.UnaryOp .USub (.Constant (.int 1) k p1) p2)) p3) (.ref a) (.ref s4.heap.objs.size)) (EP X pins σ Q) X.xe { s4 with heap := s4.heap.push { cls := .type "slice", data := .fields #[vl, vu, vs] } }
  rcases hx with ⟨hx, q⟩ | ⟨hx, q⟩
  · obtain ⟨its, r, ht, hz⟩ := I5.list hx
    have hlen := r.length
    refine tail_any (ops := [.ref a, .ref s4.heap.objs.size]) ht.isList.typeIs (PySem.slot_list_getitem.lookup) ?_ (by with_unfolding_all rfl)
    refine wpAny_getItem_list_slice ht.isList sl pl pu ps (by decide) ?_ (by rw [List.size_toArray]; omega)
    rw [PySem.W.krv_pick]
    refine ⟨.ref _, _, I5.laid (t' := s4.toks) (o := .lst xs.reverse) (fun b ob q => Heap.get?_push_of_some _ q) (Nat.le_refl _) ?_, rfl, q _ (I5.hok.fresh (Nat.le_refl _))⟩
    exact ⟨by rw [List.length_reverse]; exact hz, _, 0, r.reverse, Heap.get?_push_size _ rfl⟩
  · obtain ⟨its, r, ht, hz⟩ := I5.tuple hx
    have hlen := r.length
    refine tail_any (ops := [.ref a, .ref s4.heap.objs.size]) ht.typeIs (PyProof.Rows.slot_tuple_getitem.lookup) ?_ (by with_unfolding_all rfl)
    cases pl
    cases pu
    refine HT.getItem_tuple_rev ht sl ps ?_ (by rw [List.size_toArray]; omega)
    exact TN.ep_new (t' := s4.toks) I5 r.reverse (by rw [List.length_reverse]; exact hz) q
def aRev : D → Option D
  | .list xs => some (.list xs.reverse)
  | .tuple xs => some (.tuple xs.reverse)
  | _ => none
theorem e_rev (he : PE X e (tE X.K .bw f)) : PE X (.Subscript e (.Slice none none (some (.UnaryOp .USub (.Constant (.int 1) k p1) p2)) p3) pos) (tE X.K .ow (d1 aRev f)) :=
  peW (pe_revA he) fun σ H Q ⟨H0, G0, G, ρ, d, ok, hf, q⟩ => by
    unfold d1 at hf
    cases e1 : f ρ with
    | none => rw [e1] at hf; cases hf
    | some x =>
      rw [e1, Option.bind_some] at hf
      refine ⟨H0, G0, G, ρ, x, ok, e1, fun v H1 G1 s r => ?_⟩
      cases x with
      | list xs =>
        cases hf
        have key : ∀ (a : Addr) (vs : List V), Rd H1 a (.lst vs) → RpAll X.K G1 vs xs → v = .ref a → ∃ a xs, v = .ref a ∧ ((SqL X.K H1 a xs ∧ ∀ p, H1 p = none → Q (.ref p) (upd H1 p (.lst xs.reverse))) ∨ (SqT X.K H1 a xs ∧ TN.NewT Q H1 xs.reverse)) := fun a vs h rr ev =>
          ⟨a, vs, ev, .inl ⟨.inl h, fun p np => q _ _ G1 (s.trans (Step.new' s.gh np)) ⟨p, vs.reverse, rfl, s.same.free np, upd_same, s.gh.free np, rr.reverse⟩⟩⟩
        rcases r with r | ⟨ys, e2, a, vs, rfl, h1, rr⟩
        · cases r with
          | lst h rr => exact key _ _ (rdM s.gh h) rr rfl
        · cases e2
          exact key a vs (.inl h1) rr rfl
      | tuple xs =>
        cases hf
        rcases r with r | ⟨ys, e2, _⟩
        · cases r with
          | tup h rr => exact ⟨_, _, rfl, .inr ⟨.inl (rdM s.gh h.rd), fun p o np no => q _ _ _ (s.trans (Step.new s.gh np)) (Rp.tup ⟨o, upd_same, no⟩ (rr.reverse.mono (same_new (s.gh.free np))))⟩⟩
        · cases e2
      | _ => cases hf
end
end PF
namespace PF
open PySem PySem.Spec PyProof.Rows L2 RZ
/-! ### {k: v for ..} -/
def dcL (b : D → Env → Option Env) (c : Env → Option Bool) (kk vv : Den) (ρ0 : Env) : List D → List (D × D) → Option (List (D × D))
  | [], acc => some acc
  | x :: xs, acc => (b x ρ0).bind fun ρ1 => (c ρ1).bind fun ok => if ok = true then (kk ρ1).bind fun kd => (vv ρ1).bind fun vd => (keyT kd).bind fun key => dcL b c kk vv ρ0 xs (putKV acc key kd vd) else dcL b c kk vv ρ0 xs acc
def dDComp (it : Env → Option (List D)) (vs : List Nat) (b : D → Env → Option Env) (c : Env → Option Bool) (kk vv : Den) : Den := fun ρ => (it ρ).bind fun items => (dcL b c kk vv (wipeE ρ vs) items []).map dicD
theorem putKV_len (kvs : List (D × D)) (k : NestedKey) (d v : D) : (putKV kvs k d v).length ≤ kvs.length + 1 := by
  unfold putKV
  split <;> simp
theorem Step.updN {H G H' G' : Hp} {D0 : Addr} {o : HO} (s : Step H G H' G') (h : H D0 = none) (g : G' D0 = none) : Step H G (upd H' D0 o) G' :=
  ⟨fun b x hb => by rw [upd_ne (ne_of_none hb h)]; exact s.same b x hb, s.gg, fun b x hb => by rw [upd_ne (ne_of_none hb g)]; exact s.gh b x hb, s.old⟩
theorem dcomp_read {pr : Bool} {K : PySem.W.Frag} {it : Env → Option (List D)} {vs ts : List Nat} {bb : D → Env → Option Env} {cc : Env → Option Bool} {kk vv : Den} (hts : ∀ t ∈ ts, t ∈ vs) {σ : St} {H : Hp} {Q : VK} {H0 G0 G : Hp} {ρ : Env} {items : List D} {kvs : List (D × D)}
    (ok : EnvOk K H0 G0 H G σ ρ) (e1 : it ρ = some items) (e2 : dcL bb cc kk vv (wipeE ρ vs) items [] = some kvs)
    (q : ∀ D0 ep xs H' G', Step H G H' G' → H D0 = none → H' D0 = some (DN.DK D0 ep xs) → G' D0 = none → RpKV K G' xs kvs → Q (.ref D0) H') :
    DN.tDn (tI pr K .bw it) (tGo pr K ts bb) (tT K cc) (tE K .fz kk) (tE K .fz vv) vs σ H Q := by
  refine ⟨H0, G0, G, ρ, items, ok, e1, fun J H1 G1 s1 hJ D0 hD0 => ?_⟩
  have ok1 := ok.step s1
  have hlen := hJ.len
  refine ⟨fun i mm Hc => ∃ Gc ep xs acc, i + mm = items.length ∧ Step H1 G1 Hc Gc ∧ Hc D0 = some (DN.DK D0 ep xs) ∧ Gc D0 = none ∧ RpKV K Gc xs acc ∧ acc.length ≤ i ∧ dcL bb cc kk vv (wipeE ρ vs) (items.drop i) acc = some kvs,
    ⟨items.length, G1, 0, [], [], by omega, Step.new' s1.gh hD0, upd_same, s1.gh.free hD0, .nil, Nat.le_refl _, by rw [List.drop_zero, e2]⟩, fun i mm Hc hW => ?_⟩
  obtain ⟨Gc, ep, xs, acc, hi, st, hD, hG, ra, hal, hr⟩ := hW
  by_cases hlt : i < items.length
  · have hg : items[i]? = some items[i] := List.getElem?_eq_getElem hlt
    obtain ⟨go, yl⟩ := hJ.go Hc Gc i _ st.same st.gg st.gh hg
    rw [List.drop_eq_getElem_cons hlt] at hr
    refine .inr ⟨go, fun Hn => ∃ Gn ep xs acc, Step H1 G1 Hn Gn ∧ Hn D0 = some (DN.DK D0 ep xs) ∧ Gn D0 = none ∧ RpKV K Gn xs acc ∧ acc.length ≤ i + 1 ∧ dcL bb cc kk vv (wipeE ρ vs) (items.drop (i + 1)) acc = some kvs,
      fun Hn ⟨Gn, ep', xs', acc', h1, h2, h3, h4, h5, h6⟩ => ⟨mm - 1, by omega, Gn, ep', xs', acc', by omega, h1, h2, h3, h4, h5, h6⟩, fun x Hy hy => ?_⟩
    obtain ⟨Gy, sy, ry⟩ := yl x Hy hy
    have sty := st.trans sy
    have oky : EnvOk K H0 G0 Hy Gy (wipe σ vs) (wipeE ρ vs) := (ok1.step sty).wipe vs
    unfold dcL at hr
    obtain ⟨ρ1, eb, hr⟩ := Option.bind_eq_some_iff.mp hr
    obtain ⟨bt, ec, hr⟩ := Option.bind_eq_some_iff.mp hr
    refine ⟨H0, G0, Gy, _, _, ρ1, oky, ry, eb, fun σ2 ok2 on2 => ⟨by rw [on2 vs hts, wipe_wipe], ?_⟩⟩
    refine ⟨H0, G0, Gy, ρ1, bt, ok2, ec, fun H3 G3 s3 => ?_⟩
    have st3 := sty.trans s3
    have s13 : Step Hc Gc H3 G3 := sy.trans s3
    have hD3 : H3 D0 = some (DN.DK D0 ep xs) := s13.same _ _ hD
    have hG3 : G3 D0 = none := by rw [s13.old D0 (some_ne hD)]; exact hG
    cases bt with
    | false =>
      refine iteF ?_
      simp only [Bool.false_eq_true, if_false] at hr
      exact ⟨G3, ep, xs, acc, st3, hD3, hG3, ra.mono s13.gg, by omega, hr⟩
    | true =>
      refine iteT ?_
      simp only [if_true] at hr
      obtain ⟨kd, ek, hr⟩ := Option.bind_eq_some_iff.mp hr
      obtain ⟨vd, ev, hr⟩ := Option.bind_eq_some_iff.mp hr
      obtain ⟨key, eky, hr⟩ := Option.bind_eq_some_iff.mp hr
      refine ⟨H0, G0, G3, ρ1, kd, ok2.step s3, ek, fun y H4 G4 s4 r4 => ⟨H0, G0, G4, ρ1, vd, (ok2.step s3).step s4, ev, fun z H5 G5 s5 r5 => ?_⟩⟩
      have s15 : Step Hc Gc H5 G5 := (s13.trans s4).trans s5
      have st5 := (st3.trans s4).trans s5
      have hD5 : H5 D0 = some (DN.DK D0 ep xs) := s15.same _ _ hD
      have hG5 : G5 D0 = none := by rw [s15.old D0 (some_ne hD)]; exact hG
      have r4' : Rp K G5 y kd := Rp.mono s5.gg r4
      have ra5 := ra.mono s15.gg
      obtain ⟨⟨ds, ed⟩, _, _⟩ := keyT_tup eky
      obtain ⟨b, rfl⟩ : ∃ b, y = .ref b := by
        rw [ed] at r4'
        cases r4' with
        | tup e r => exact ⟨_, rfl⟩
      refine ⟨ep, xs, key, b, rfl, hD5, kv_keys ra5 s5.gh, key_ok r4' eky s5.gh, by rw [kv_len ra5]; omega, fun ep' => ⟨G5, ep', DN.storedN xs key b z, putKV acc key kd vd, st5.updN hD0 hG5, upd_same, hG5, kv_stored ra5 eky r4' r5, ?_, hr⟩⟩
      have := putKV_len acc key kd vd
      omega
  · have hge : items.length ≤ i := by omega
    refine .inl ⟨hJ.stop Hc Gc i st.same st.gg st.gh (by omega), ?_⟩
    rw [List.drop_of_length_le hge] at hr
    cases hr
    exact q D0 ep xs _ Gc (s1.trans st) (s1.same.free hD0) hD hG ra
section
variable {X : Cx} {pr : Bool} {kx vx tg iter : Expr} {ifs : List Expr} {scope : Scope} {own : List (Str × Nat)} {pos p' sp : Pos} {it : Env → Option (List D)} {ts : List Nat} {bb : D → Env → Option Env} {cc : Env → Option Bool} {kk vv : Den} {i : Nat} {y : Str}
abbrev PtsD (pr : Bool) (X : Cx) (kx vx tg iter : Expr) (ifs : List Expr) (scope : Scope) (own : List (Str × Nat)) (it : Env → Option (List D)) (ts : List Nat) (bb : D → Env → Option Env) (cc : Env → Option Bool) (kk vv : Den) : Prop :=
  DN.Pts X kx vx tg iter ifs scope own (tI pr X.K .bw it) (tGo pr X.K ts bb) (tT X.K cc) (tE X.K .fz kk) (tE X.K .fz vv)
theorem dComp_eq {vs : List Nat} {ρ : Env} {d : D} (h : dDComp it vs bb cc kk vv ρ = some d) : ∃ items kvs, it ρ = some items ∧ dcL bb cc kk vv (wipeE ρ vs) items [] = some kvs ∧ d = dicD kvs := by
  unfold dDComp at h
  obtain ⟨items, h1, h⟩ := Option.bind_eq_some_iff.mp h
  obtain ⟨kvs, h2, h3⟩ := Option.map_eq_some_iff.mp h
  exact ⟨items, kvs, h1, h2, h3.symm⟩
theorem dc_fz {pr : Bool} (hts : ∀ t ∈ ts, t ∈ own.map (·.2)) {K : PySem.W.Frag} {σ : St} {H : Hp} {Q : VK} (h : tE K .fz (dDComp it (own.map (·.2)) bb cc kk vv) σ H Q) : DN.tDn (tI pr K .bw it) (tGo pr K ts bb) (tT K cc) (tE K .fz kk) (tE K .fz vv) (own.map (·.2)) σ H Q := by
  obtain ⟨H0, G0, G, ρ, d, ok, hf, q⟩ := h
  obtain ⟨items, kvs, e1, e2, rfl⟩ := dComp_eq hf
  exact dcomp_read hts ok e1 e2 fun D0 ep xs H' G' s n hD hG r => q _ _ _ (s.shut n hG hD) (Rp.dic upd_same (r.mono (same_new hG)))
theorem e_dcomp (p : PtsD pr X kx vx tg iter ifs scope own it ts bb cc kk vv) (hts : ∀ t ∈ ts, t ∈ own.map (·.2)) : PE X (.DictComp kx vx [⟨tg, iter, ifs, 0⟩] scope pos) (tE X.K .fz (dDComp it (own.map (·.2)) bb cc kk vv)) :=
  peW (DN.pe_dn p) fun σ H Q h => dc_fz hts h
theorem ow_dic {f : Den} {e : Expr} (hd : ∀ ρ d, f ρ = some d → ∃ kvs, d = dicD kvs) (h : PE X e (tE X.K .fz f)) : PE X e (tE X.K .ow f) := peW h fun σ H Q ⟨H0, G0, G, ρ, d, ok, hf, q⟩ => by
  refine ⟨H0, G0, G, ρ, d, ok, hf, fun v H' G' s r => q v H' G' s ?_⟩
  obtain ⟨kvs, rfl⟩ := hd ρ d hf
  exact r
theorem s_dcomp (p : PtsD pr X kx vx tg iter ifs scope own it ts bb cc kk vv) (hts : ∀ t ∈ ts, t ∈ own.map (·.2)) (hy : X.N[i]? = some y) (hyl : X.env.scope.names.lookup y = some .local) (hsw : swapsWith (.DictComp kx vx [⟨tg, iter, ifs, 0⟩] scope pos) (some (.Name y p')) sp.line X.env = pure true) :
    PS X (.Assign [.Name y p'] (.DictComp kx vx [⟨tg, iter, ifs, 0⟩] scope pos) sp) (tS X.K (dSet i (dDComp it (own.map (·.2)) bb cc kk vv))) :=
  psW (DN.ps_dn p hy hyl hsw) fun Dn σ H h => dc_fz hts (set_read h)
/-- a dict of the frame's own -/
def dOwnC (i : Nat) (it : Env → Option (List D)) (vs : List Nat) (b : D → Env → Option Env) (c : Env → Option Bool) (kk vv : Den) : DenS := fun ρ => (it ρ).bind fun items => (dcL b c kk vv (wipeE ρ vs) items []).map fun kvs => .next (ρ.set i (some (.dic kvs)))
theorem s_dcompO (p : PtsD pr X kx vx tg iter ifs scope own it ts bb cc kk vv) (hts : ∀ t ∈ ts, t ∈ own.map (·.2)) (hy : X.N[i]? = some y) (hyl : X.env.scope.names.lookup y = some .local) (hsw : swapsWith (.DictComp kx vx [⟨tg, iter, ifs, 0⟩] scope pos) (some (.Name y p')) sp.line X.env = pure true) :
    PS X (.Assign [.Name y p'] (.DictComp kx vx [⟨tg, iter, ifs, 0⟩] scope pos) sp) (tS X.K (dOwnC i it (own.map (·.2)) bb cc kk vv)) :=
  psW (DN.ps_dn p hy hyl hsw) fun Dn σ H ⟨H0, G0, G, ρ, out, ok, hf, q⟩ => by
    unfold dOwnC at hf
    obtain ⟨items, e1, hf⟩ := Option.bind_eq_some_iff.mp hf
    obtain ⟨kvs, e2, e3⟩ := Option.map_eq_some_iff.mp hf
    subst e3
    exact dcomp_read hts ok e1 e2 fun D0 ep xs H' G' s n hD hG r => q _ _ _ s.gg (ok.set_dic s n hD hG r)
/-- the name is a cell: the dict is stored behind -/
theorem s_dcompOC (p : PtsD pr X kx vx tg iter ifs scope own it ts bb cc kk vv) (hts : ∀ t ∈ ts, t ∈ own.map (·.2)) (hN : X.N.Nodup) (hy : X.N[i]? = some y) (hx : Loc X.env.scope y) (hf : X.fn y = true ∨ X.env.scope.names.lookup y = some .local) (hsw : swapsWith (.DictComp kx vx [⟨tg, iter, ifs, 0⟩] scope pos) (some (.Name y p')) sp.line X.env = pure false) :
    PS X (.Assign [.Name y p'] (.DictComp kx vx [⟨tg, iter, ifs, 0⟩] scope pos) sp) (tS X.K (dOwnC i it (own.map (·.2)) bb cc kk vv)) :=
  psW (ps_set hN hy hx (DN.pe_dn p) hsw hf) fun Dn σ H ⟨H0, G0, G, ρ, out, ok, hf, q⟩ => by
    unfold dOwnC at hf
    obtain ⟨items, e1, hf⟩ := Option.bind_eq_some_iff.mp hf
    obtain ⟨kvs, e2, e3⟩ := Option.map_eq_some_iff.mp hf
    subst e3
    exact dcomp_read hts ok e1 e2 fun D0 ep xs H' G' s n hD hG r => q _ _ _ s.gg (ok.set_dic s n hD hG r)
end
end PF
namespace PF
open PySem PySem.Spec PyProof.Rows L2 RZ
/-! ### a dict of the frame's own -/
section
variable {K : PySem.W.Frag} {H0 G0 H G H' G' : Hp} {σ : St} {ρ : Env} {i : Nat}
theorem dic_get {kvs : List (D × D)} (e : EnvOk K H0 G0 H G σ ρ) (hi : ρ[i]? = some (some (.dic kvs))) : ∃ a ep xs, σ[i]? = some (some (.ref a)) ∧ H a = some (DN.DK a ep xs) ∧ RpKV K G xs kvs ∧ G a = none ∧ H0 a = none := by
  obtain ⟨v, h1, a, ep, xs, rfl, h2, h3, h4, h5⟩ := e.sl i _ hi
  exact ⟨a, ep, xs, h1, h2, h3, h4, h5⟩
theorem EnvOk.mutD {kvs kvs' : List (D × D)} {a : Addr} {ep ep' : Nat} {vs us : List DN.Ent} (e : EnvOk K H0 G0 H G σ ρ) (hi : ρ[i]? = some (some (.dic kvs))) (hs : σ[i]? = some (some (.ref a))) (ha : H a = some (DN.DK a ep vs)) (hg : G a = none) (h0 : H0 a = none) (r : RpKV K G us kvs') :
    EnvOk K H0 G0 (upd H a (DN.DK a ep' us)) G σ (ρ.set i (some (.dic kvs'))) := by
  have hil : i < ρ.length := (List.getElem?_eq_some_iff.mp hi).1
  refine ⟨by rw [List.length_set]; exact e.len, ⟨fun b o hb => ?_, e.st.gg, fun b o hb => ?_, e.st.old⟩, fun j sv h => ?_, fun j k ws zs hjk q1 q2 => ?_, fun j k ws zs hjk q1 q2 => ?_⟩
  · rw [upd_ne (ne_of_none hb h0)]
    exact e.st.same b o hb
  · rw [upd_ne (ne_of_none hb hg)]
    exact e.gh b o hb
  · rw [List.getElem?_set] at h
    by_cases hj : i = j
    · subst hj
      simp only [hil, if_true] at h
      cases h
      exact ⟨_, hs, a, ep', us, rfl, upd_same, r, hg, h0⟩
    · simp only [hj, if_false] at h
      obtain ⟨v, k1, k2⟩ := e.sl j sv h
      refine ⟨v, k1, ?_⟩
      cases sv with
      | val d => exact k2
      | own ws =>
        obtain ⟨b, us', rfl, k3, k4, k5, k6⟩ := k2
        exact ⟨b, us', rfl, by rw [upd_ne (lst_dk k3 ha)]; exact k3, k4, k5, k6⟩
      | dic ws =>
        obtain ⟨b, ep2, us', rfl, k3, k4, k5, k6⟩ := k2
        exact ⟨b, ep2, us', rfl, by rw [upd_ne (dic_ne e (fun z => hj z.symm) h hi k1 hs)]; exact k3, k4, k5, k6⟩
  · rw [List.getElem?_set] at q1 q2
    by_cases hj : i = j
    · subst hj; simp [hil] at q1
    · by_cases hk : i = k
      · subst hk; simp [hil] at q2
      · simp only [hj, hk, if_false] at q1 q2
        exact e.sep j k ws zs hjk q1 q2
  · rw [List.getElem?_set] at q1 q2
    have get : ∀ {l : Nat} {ts : List (D × D)}, (if i = l then if i < ρ.length then some (some (SV.dic kvs')) else none else ρ[l]?) = some (some (.dic ts)) → ∃ ts', ρ[l]? = some (some (.dic ts')) := fun {l ts} q => by
      by_cases hl : i = l
      · subst hl; exact ⟨kvs, hi⟩
      · simp only [hl, if_false] at q; exact ⟨ts, q⟩
    obtain ⟨ws', w1⟩ := get q1
    obtain ⟨zs', w2⟩ := get q2
    exact e.sepD j k ws' zs' hjk w1 w2
end
section
variable {X : Cx} {a b c e : Expr} {fa fb f g : Den} {pos p p' apos px sp : Pos} {i : Nat} {x : Str}
/-- two rules for one expression, chosen by what the reading knows -/
theorem peC {t t1 t2 : TE} (h1 : PE X e t1) (h2 : PE X e t2) (w : ∀ σ H Q, t σ H Q → t1 σ H Q ∨ t2 σ H Q) : PE X e t := ⟨fun pins s σ H Q I q => (w σ H Q q).elim (h1.run pins s σ H Q I) (h2.run pins s σ H Q I)⟩
theorem ptC {t t1 t2 : TT} (h1 : PT X e t1) (h2 : PT X e t2) (w : ∀ σ H Q, t σ H Q → t1 σ H Q ∨ t2 σ H Q) : PT X e t := ⟨fun pins s σ H Q I q => (w σ H Q q).elim (h1.run pins s σ H Q I) (h2.run pins s σ H Q I)⟩
/-- the slot as a place: the name is there -/
structure NmOk (X : Cx) (i : Nat) (x : Str) : Prop where
  n : X.N[i]? = some x
  v : Vis X.env.scope x
  d : (x == ("__debug__" : Str)) = false
  cd : (x == ("__classdict__" : Str)) = false
theorem NmOk.pe (h : NmOk X i x) : PE X (.Name x p) (tVar i) := pe_var h.n h.v h.d h.cd
theorem NmOk.eB (h : NmOk X i x) : PE X (.Name x p) (tE X.K .bw (dVarB i)) := e_varB h.n h.v h.d h.cd
/-- x[k], x a dict of the frame's own, or any value -/
def dGetN (i : Nat) (g : Den) : Den := fun ρ => match ρ[i]? with
  | some (some (.dic kvs)) => (g ρ).bind fun d => (keyT d).bind (getKV kvs)
  | _ => d2 aIx (dVarB i) g ρ
theorem noSl (h : isSlice c = false) : NoSl c := fun ov iv => by cases c <;> first | rfl | (exact absurd h (by simp [isSlice]))
theorem e_getN (hu : X.A.units + 65 < cLine) (hn : NmOk X i x) (hs : isSlice c = false) (hc : PE X c (tE X.K .bw g)) : PE X (.Subscript (.Name x p) c pos) (tE X.K .fz (dGetN i g)) :=
  peC (DN.pe_nget (by omega) hn.pe hc (noSl hs)) (e_ix hu hs hn.eB hc) fun σ H Q ⟨H0, G0, G, ρ, d, ok, hf, q⟩ => by
    unfold dGetN at hf
    split at hf
    · rename_i kvs ei
      obtain ⟨dk, e1, hf1⟩ := Option.bind_eq_some_iff.mp hf
      obtain ⟨k, e2, hf2⟩ := Option.bind_eq_some_iff.mp hf1
      obtain ⟨a, ep, xs, h1, h2, h3, h4, h5⟩ := dic_get ok ei
      refine .inl ⟨_, h1, H0, G0, G, ρ, dk, ok, e1, fun v H1 G1 s r => ?_⟩
      obtain ⟨⟨ds, rfl⟩, _, _⟩ := keyT_tup e2
      have r' := r.noL fun _ z => nomatch z
      have r3 := h3.mono s.gg
      rcases kv_at (k := k) r3 with ⟨_, z⟩ | ⟨b, w, d', z1, z2, rw'⟩
      · rw [z] at hf2; cases hf2
      · rw [z2] at hf2
        cases hf2
        obtain ⟨b', rfl⟩ : ∃ b', v = .ref b' := by cases r' with | tup e r => exact ⟨_, rfl⟩
        exact ⟨a, ep, xs, k, b', rfl, rfl, s.same _ _ h2, kv_keys r3 s.gh, key_ok r' e2 s.gh, w, by rw [z1]; rfl, q _ _ _ s rw'⟩
    · exact .inr ⟨H0, G0, G, ρ, d, ok, hf, q⟩
/-- k in x, k not in x -/
def dInN (n : Bool) (f : Den) (i : Nat) : Den := fun ρ => match ρ[i]? with
  | some (some (.dic kvs)) => (f ρ).bind fun d => (keyT d).map fun k => .bool (if n = true then !(getKV kvs k).isSome else (getKV kvs k).isSome)
  | _ => d2 (aCmp (if n = true then .NotIn else .In)) f (dVarB i) ρ
def inOp (n : Bool) : CmpOp := if n = true then .NotIn else .In
theorem op_inA (hu : X.A.units + 65 < cLine) (n : Bool) : OpR X (compareOp (inOp n)) (rInN n) := by
  cases n with
  | true => exact op_notInN hu
  | false => exact op_inN hu
theorem inN_read {n : Bool} {σ : St} {H H0 G0 G : Hp} {ρ : Env} {kvs : List (D × D)} {dk : D} {k : NestedKey} {Q : VK} (ok : EnvOk X.K H0 G0 H G σ ρ) (ei : ρ[i]? = some (some (.dic kvs))) (e1 : fa ρ = some dk) (e2 : keyT dk = some k)
    (q : ∀ H' G', Step H G H' G' → Q (.bl (if n = true then !(getKV kvs k).isSome else (getKV kvs k).isSome)) H') : tOp (rInN n) (tE X.K .bw fa) (tVar i) σ H Q := by
  obtain ⟨a, ep, xs, h1, h2, h3, h4, h5⟩ := dic_get ok ei
  refine ⟨H0, G0, G, ρ, dk, ok, e1, fun v H1 G1 s r => ⟨_, h1, ?_⟩⟩
  obtain ⟨⟨ds, rfl⟩, _, _⟩ := keyT_tup e2
  have r' := r.noL fun _ z => nomatch z
  have r3 := h3.mono s.gg
  obtain ⟨b', rfl⟩ : ∃ b', v = .ref b' := by cases r' with | tup e r => exact ⟨_, rfl⟩
  refine ⟨a, ep, xs, k, b', rfl, rfl, s.same _ _ h2, kv_keys r3 s.gh, key_ok r' e2 s.gh, ?_⟩
  show Q (.bl (if n = true then !(DN.atN xs k).isSome else (DN.atN xs k).isSome)) H1
  rw [kv_some r3]
  exact q _ _ s
theorem e_inN {n : Bool} (hu : X.A.units + 65 < cLine) (hn : NmOk X i x) (hm : behindInMarks (inOp n) (.Name x p) = false) (ha : PE X a (tE X.K .bw fa)) : PE X (.Compare a [inOp n] [.Name x p] pos) (tE X.K .ow (dInN n fa i)) :=
  peC (pe_cmpR (op_inA hu n) ha hn.pe hm) (e_cmp1 (op := inOp n) hu hm ha hn.eB) fun σ H Q ⟨H0, G0, G, ρ, d, ok, hf, q⟩ => by
    unfold dInN at hf
    split at hf
    · rename_i kvs ei
      obtain ⟨dk, e1, hf⟩ := Option.bind_eq_some_iff.mp hf
      obtain ⟨k, e2, hf⟩ := Option.map_eq_some_iff.mp hf
      subst hf
      exact .inl (inN_read ok ei e1 e2 fun H' G' s => q _ _ _ s (ow_bool _))
    · exact .inr ⟨H0, G0, G, ρ, d, ok, hf, q⟩
theorem t_inN {n : Bool} (hu : X.A.units + 65 < cLine) (hn : NmOk X i x) (hm : behindInMarks (inOp n) (.Name x p) = false) (ha : PE X a (tE X.K .bw fa)) : PT X (.Compare a [inOp n] [.Name x p] pos) (tT X.K (dT (dInN n fa i))) :=
  ptC (pt_cmpR (op_inA hu n) ha hn.pe hm) (t_cmp1 (op := inOp n) hu hm ha hn.eB) fun σ H Q ⟨H0, G0, G, ρ, k0, ok, hf, q⟩ => by
    have hf' := dT_eq hf
    unfold dInN at hf'
    split at hf'
    · rename_i kvs ei
      obtain ⟨dk, e1, hf'⟩ := Option.bind_eq_some_iff.mp hf'
      obtain ⟨k, e2, hf'⟩ := Option.map_eq_some_iff.mp hf'
      refine .inl (inN_read ok ei e1 e2 fun H' G' s => ⟨_, rfl, ?_⟩)
      have hf3 := PyData.bool.inj hf'
      rw [hf3]
      exact q _ _ s
    · refine .inr ⟨H0, G0, G, ρ, k0, ok, ?_, q⟩
      unfold dT
      have h2 : d2 (aCmp (inOp n)) fa (dVarB i) ρ = some (.bool k0) := hf'
      rw [h2]
/-- for .. in x, in a comprehension -/
def dItemsN (i : Nat) : Env → Option (List D) := fun ρ => match ρ[i]? with
  | some (some (.dic kvs)) => some (kvs.map (·.1))
  | _ => dItems (dVarB i) ρ
theorem i_n {pr : Bool} {tg : Expr} (hn : NmOk X i x) : PI X tg (.Name x p) (tI pr X.K .bw (dItemsN i)) :=
  piW (PI.or (piL (DN.pi_n hn.pe)) (i_seqB hn.eB)) fun σ H R ⟨H0, G0, G, ρ, items, ok, hf, q⟩ => by
    unfold dItemsN at hf
    split at hf
    · rename_i kvs ei
      cases hf
      obtain ⟨a, ep, xs, h1, h2, h3, h4, h5⟩ := dic_get ok ei
      exact .inl ⟨_, h1, a, ep, xs, rfl, h2, kvs.length, .inr (.inr ⟨a, ep, xs, h2, by rw [kv_len h3]; exact Nat.le_refl _⟩), fun hl => q _ _ _ (Step.refl ok.gh) (it_dic (fun H' G' hC _ _ => hC _ _ h2) h3 hl)⟩
    · exact .inr ⟨H0, G0, G, ρ, items, ok, hf, q⟩
/-- x = {} -/
def dNewD (i : Nat) : DenS := fun ρ => some (.next (ρ.set i (some (.dic []))))
theorem s_newD (hN : X.N.Nodup) (hi : X.N[i]? = some x) (hx : Loc X.env.scope x) (hf : X.fn x = true ∨ X.env.scope.names.lookup x = some .local) : PS X (.Assign [.Name x p'] (.Dict [] [] pos) sp) (tS X.K (dNewD i)) :=
  psW (ps_set hN hi hx DN.pe_nnew (by rfl) hf) fun Dn σ H ⟨H0, G0, G, ρ, out, ok, hf, q⟩ => by
    cases hf
    exact fun n hn => q _ _ _ (Same.refl _) (ok.set_dic (Step.new' ok.gh hn) hn upd_same (ok.gh.free hn) .nil)
/-- x[k] = v -/
def dPutN (i : Nat) (g f : Den) : DenS := fun ρ => match ρ[i]? with
  | some (some (.dic kvs)) => (f ρ).bind fun v => (g ρ).bind fun d => (keyT d).bind fun k => if kvs.length < sizeLine then some (.next (ρ.set i (some (.dic (putKV kvs k d v))))) else none
  | _ => none
theorem s_putN (hu : X.A.units + 65 < cLine) (hn : NmOk X i x) (hg : PE X c (tE X.K .fz g)) (he : PE X e (tE X.K .fz f)) : PS X (.Assign [.Subscript (.Name x p) c apos] e sp) (tS X.K (dPutN i g f)) :=
  psW (DN.ps_nput (by omega) hn.pe hg he (by cases e <;> rfl)) fun Dn σ H ⟨H0, G0, G, ρ, out, ok, hf, q⟩ => by
    unfold dPutN at hf
    split at hf
    · rename_i kvs ei
      obtain ⟨v, e1, hf⟩ := Option.bind_eq_some_iff.mp hf
      obtain ⟨d, e2, hf⟩ := Option.bind_eq_some_iff.mp hf
      obtain ⟨k, e3, hf⟩ := Option.bind_eq_some_iff.mp hf
      split at hf
      · rename_i hl
        cases hf
        obtain ⟨a, ep, xs, h1, h2, h3, h4, h5⟩ := dic_get ok ei
        refine ⟨H0, G0, G, ρ, v, ok, e1, fun w H1 G1 s1 r1 => ⟨_, h1, H0, G0, G1, ρ, d, ok.step s1, e2, fun y H2 G2 s2 r2 => ?_⟩⟩
        have s := s1.trans s2
        have r3 := h3.mono s.gg
        obtain ⟨⟨ds, rfl⟩, _, _⟩ := keyT_tup e3
        have r2' : Rp X.K G2 y (.tuple ds) := r2
        obtain ⟨b, rfl⟩ : ∃ b, y = .ref b := by cases r2' with | tup e r => exact ⟨_, rfl⟩
        have ha := s.same _ _ h2
        have hg : G2 a = none := by rw [s.old a (some_ne h2)]; exact h4
        exact ⟨a, ep, xs, k, b, rfl, rfl, ha, kv_keys r3 s2.gh, key_ok r2' e3 s2.gh, by rw [kv_len h3]; exact hl, fun ep' => q _ _ _ s.gg ((ok.step s).mutD ei h1 ha hg h5 (kv_stored r3 e3 r2' (Rp.mono s2.gg r1)))⟩
      · cases hf
    · cases hf
/-- x.pop(k), its value dropped -/
def dPopN (i : Nat) (g : Den) : DenS := fun ρ => match ρ[i]? with
  | some (some (.dic kvs)) => (g ρ).bind fun d => (keyT d).bind fun k => (getKV kvs k).map fun _ => .next (ρ.set i (some (.dic (dropKV kvs k))))
  | _ => none
theorem s_popN (hu : X.A.units + 65 < cLine) (hn : NmOk X i x) (hl : (apos.endLine == pos.line) = true) (hs : isStar c = false) (hg : PE X c (tE X.K .fz g)) : PS X (.Expr (.Call (.Attribute (.Name x p) "pop" apos) [c] [] pos) sp) (tS X.K (dPopN i g)) :=
  psW (ps_expr (DN.pe_npop (by omega) hn.pe hg ⟨rfl, few1 hs, hl, by rw [st1 hs]; rfl⟩) rfl) fun Dn σ H ⟨H0, G0, G, ρ, out, ok, hf, q⟩ => by
    unfold dPopN at hf
    split at hf
    · rename_i kvs ei
      obtain ⟨d, e2, hf⟩ := Option.bind_eq_some_iff.mp hf
      obtain ⟨k, e3, hf⟩ := Option.bind_eq_some_iff.mp hf
      obtain ⟨v, e4, hf⟩ := Option.map_eq_some_iff.mp hf
      subst hf
      obtain ⟨a, ep, xs, h1, h2, h3, h4, h5⟩ := dic_get ok ei
      refine ⟨_, h1, a, ep, xs, rfl, h2, H0, G0, G, ρ, d, ok, e2, fun y H2 G2 s r2 => ?_⟩
      have r3 := h3.mono s.gg
      obtain ⟨⟨ds, rfl⟩, _, _⟩ := keyT_tup e3
      have r2' : Rp X.K G2 y (.tuple ds) := r2
      obtain ⟨b, rfl⟩ : ∃ b, y = .ref b := by cases r2' with | tup e r => exact ⟨_, rfl⟩
      have ha := s.same _ _ h2
      have hg : G2 a = none := by rw [s.old a (some_ne h2)]; exact h4
      rcases kv_at (k := k) r3 with ⟨_, z⟩ | ⟨b', w, d', z1, z2, rw'⟩
      · rw [z] at e4; cases e4
      · exact ⟨a, ep, xs, k, b, rfl, rfl, ha, kv_keys r3 s.gh, key_ok r2' e3 s.gh, w, by rw [z1]; rfl, fun ep' => q _ _ _ s.gg ((ok.step s).mutD ei h1 ha hg h5 (kv_drop r3))⟩
    · cases hf
end
end PF
namespace PF
open PySem PySem.Spec PyProof.Rows L2 RZ
/-! ### x.index(e), x.count(e) -/
section
variable {X : Cx}
/-- the items of a sequence, read -/
theorem reads_of {pins : List (Addr × Obj)} {σ : St} {H : Hp} {s : Shared} {xs : List V} {its : List Value} {ds : List D} (I : Inv X pins σ H s) (ha : DpAll X.K H xs ds) (rv : Vals xs its) (hc : PyData.canLayAll0 ds = true) :
    ∃ as, ReadsAll s.heap its ds as ∧ its.length = ds.length ∧ its.map (SeqAt.readOf s.heap) = ds := by
  obtain ⟨as, h4⟩ := Dp.readsAll I ds _ its ha rv
  exact ⟨as, h4, SeqAt.ReadsAll.length ds its as h4, SeqAt.readsAll_map ds its as hc h4⟩
def rIndexT (K : PySem.W.Frag) : V → List V → Hp → VK → Prop := fun x xs H Q => ∃ (a : Addr) (y : V) (d : D) (ds : List D) (j : Nat) (z : D), x = V.ref a ∧ xs = [y] ∧ Dp K H (V.ref a) (.tuple ds) ∧ Dp K H y d ∧
  SeqAt.shaped (.tuple ds) = true ∧ SeqAt.shaped d = true ∧ ds[j]? = some z ∧ PyData.eqv z d = true ∧ (∀ (m : Nat) (z' : D), m < j → ds[m]? = some z' → PyData.eqv z' d = false) ∧ Q (.int (j : Nat)) H
theorem mt_indexT (hu : X.A.units + 65 < cLine) : MtR X "tuple.index" (rIndexT X.K) := by
  intro pins s σ H x xs v us Q I rx rxs h
  obtain ⟨a, y, d, ds, j, z, rfl, rfl, hl, hy, sl, sd, hz, hzj, hno, q⟩ := h
  cases rx
  obtain ⟨uy, rfl, ry⟩ := rxs.one
  obtain ⟨bs, r1⟩ := Dp.reads I d y uy hy ry
  have hxs : PyData.canLayAll0 ds = true := SeqAt.canLay_of_shaped sl
  cases hl with
  | tup hs ha =>
    obtain ⟨its, rv, ⟨⟨cls, dd, data, sls⟩, ho, hc, n, hdt⟩, hlen⟩ := I.tuple hs
    simp only at hc hdt
    subst hc hdt
    obtain ⟨as, h4, hn, hmap⟩ := reads_of I ha rv hxs
    have hjl : j < its.length := by have := (List.getElem?_eq_some_iff.mp hz).1; omega
    have at_ : ∀ (m : Nat) (hm : m < its.toArray.size) (z' : D), ds[m]? = some z' → SeqAt.readOf s.heap its.toArray[m] = z' := fun m hm z' hz' => by
      have hml : m < its.length := by simpa using hm
      rw [← hmap, List.getElem?_map, List.getElem?_eq_getElem hml] at hz'
      simpa using hz'
    refine call_meets PySem.F.slot_tuple_index ⟨_, ho, rfl⟩ PySem.F.entry_tuple_index (PySem.F.args_tuple_index_2 _ _) (TI.tuple_indexAt a its.toArray n dd sls uy (fun u => PyData.eqv (SeqAt.readOf s.heap u) d) j (by simpa using hjl) ?_ fun m hm hmj => ?_)
      ⟨ho, SeqAt.items_eqAt (vs := its.toArray) (show ReadsAll s.heap its.toArray.toList ds as from h4) r1 hxs (SeqAt.canLay_of_shaped sd) (room_in_shaped sd hu), ⟨.int (j : Nat), H, I.tok _, ⟨_, rfl⟩, q⟩⟩
    · show PyData.eqv (SeqAt.readOf s.heap its.toArray[j]) d = true
      rw [at_ j (by simpa using hjl) z hz]
      exact hzj
    · have hz' : ds[m]? = some (ds[m]'(by simp at hm; omega)) := List.getElem?_eq_getElem _
      show PyData.eqv (SeqAt.readOf s.heap its.toArray[m]) d = false
      rw [at_ m hm _ hz']
      exact hno m _ hmj hz'
/-! counting -/
def rCount (K : PySem.W.Frag) (tp : Bool) : V → List V → Hp → VK → Prop := fun x xs H Q => ∃ (a : Addr) (y : V) (d : D) (ds : List D), x = V.ref a ∧ xs = [y] ∧ Dp K H (V.ref a) (if tp = true then .tuple ds else .list ds) ∧ Dp K H y d ∧
  PyData.canLayAll0 ds = true ∧ SeqAt.shaped d = true ∧ Q (.int ((ds.countP fun z => PyData.eqv z d : Nat) : Int)) H
theorem cnt_eq {h : Heap} {its : List Value} {ds : List D} {d : D} (e : its.map (SeqAt.readOf h) = ds) : its.countP (fun y => PyData.eqv (SeqAt.readOf h y) d) = ds.countP fun y => PyData.eqv y d := by
  rw [← e, List.countP_map]
  rfl
theorem mt_countT (hu : X.A.units + 65 < cLine) : MtR X "tuple.count" (rCount X.K true) := by
  intro pins s σ H x xs v us Q I rx rxs h
  obtain ⟨a, y, d, ds, rfl, rfl, hl, hy, hxs, sd, q⟩ := h
  cases rx
  obtain ⟨uy, rfl, ry⟩ := rxs.one
  obtain ⟨bs, r1⟩ := Dp.reads I d y uy hy ry
  rw [if_pos rfl] at hl
  cases hl with
  | tup hs ha =>
    obtain ⟨its, rv, ⟨⟨cls, dd, data, sls⟩, ho, hc, n, hdt⟩, hlen⟩ := I.tuple hs
    simp only at hc hdt
    subst hc hdt
    obtain ⟨as, h4, hn, hmap⟩ := reads_of I ha rv hxs
    refine call_meets PySem.F.slot_tuple_count ⟨_, ho, rfl⟩ PySem.F.entry_tuple_count (PySem.F.args_tuple_count_2 _ _) (SeqAt.tuple_countAt a its.toArray n dd sls uy fun u => PyData.eqv (SeqAt.readOf s.heap u) d)
      ⟨ho, SeqAt.items_eqAt (vs := its.toArray) (show ReadsAll s.heap its.toArray.toList ds as from h4) r1 hxs (SeqAt.canLay_of_shaped sd) (room_in_shaped sd hu), ⟨.int ((ds.countP fun z => PyData.eqv z d : Nat) : Int), H, I.tok _, ⟨s.toks, ?_⟩, q⟩⟩
    rw [← cnt_eq (d := d) hmap]
theorem mt_countL (hu : X.A.units + 65 < cLine) : MtR X "list.count" (rCount X.K false) := by
  intro pins s σ H x xs v us Q I rx rxs h
  obtain ⟨a, y, d, ds, rfl, rfl, hl, hy, hxs, sd, q⟩ := h
  cases rx
  obtain ⟨uy, rfl, ry⟩ := rxs.one
  obtain ⟨bs, r1⟩ := Dp.reads I d y uy hy ry
  rw [if_neg Bool.false_ne_true] at hl
  cases hl with
  | lst hs ha =>
    obtain ⟨its, rv, pl, hlen⟩ := I.list hs
    obtain ⟨⟨cls, dd, data, sls⟩, ho, hc, n, hdt⟩ := pl.isList
    simp only at hc hdt
    subst hc hdt
    obtain ⟨as, h4, hn, hmap⟩ := reads_of I ha rv hxs
    refine call_meets PySem.F.slot_list_count ⟨_, ho, rfl⟩ PySem.F.entry_list_count (PySem.F.args_list_count_2 _ _) (SeqAt.list_countAt a its.toArray n dd sls uy fun u => PyData.eqv (SeqAt.readOf s.heap u) d)
      ⟨ho, SeqAt.items_eqAt (vs := its.toArray) (show ReadsAll s.heap its.toArray.toList ds as from h4) r1 hxs (SeqAt.canLay_of_shaped sd) (room_in_shaped sd hu), ⟨.int ((ds.countP fun z => PyData.eqv z d : Nat) : Int), H, I.tok _, ⟨s.toks, ?_⟩, q⟩⟩
    rw [← cnt_eq (d := d) hmap]
def idxD (ds : List D) (d : D) : Option Nat := ds.findIdx? fun z => PyData.eqv z d
theorem idxD_eq {ds : List D} {d : D} {j : Nat} (h : idxD ds d = some j) : ∃ z, ds[j]? = some z ∧ PyData.eqv z d = true ∧ ∀ (m : Nat) (z' : D), m < j → ds[m]? = some z' → PyData.eqv z' d = false := by
  obtain ⟨h1, h2, h3⟩ := List.findIdx?_eq_some_iff_getElem.mp h
  refine ⟨ds[j], List.getElem?_eq_getElem h1, h2, fun m z' hm hz => ?_⟩
  obtain ⟨hm', e⟩ := List.getElem?_eq_some_iff.mp hz
  have := h3 m hm
  rw [e] at this
  simpa using this
def aIndex : D → D → Option D
  | .list ds, d => if SeqAt.shaped d = true ∧ SeqAt.shaped (.list ds) = true then (idxD ds d).map fun j => .int (j : Nat) else none
  | .tuple ds, d => if SeqAt.shaped d = true ∧ SeqAt.shaped (.tuple ds) = true then (idxD ds d).map fun j => .int (j : Nat) else none
  | _, _ => none
def aCount : D → D → Option D
  | .list ds, d => if SeqAt.shaped d = true ∧ SeqAt.shaped (.list ds) = true then some (.int ((ds.countP fun z => PyData.eqv z d : Nat) : Int)) else none
  | .tuple ds, d => if SeqAt.shaped d = true ∧ SeqAt.shaped (.tuple ds) = true then some (.int ((ds.countP fun z => PyData.eqv z d : Nat) : Int)) else none
  | _, _ => none
/-- o.m(e), o a list or a tuple -/
def tSqM (K : PySem.W.Frag) (rL rT : V → List V → Hp → VK → Prop) (to te : TE) : TE := fun σ H Q => to σ H fun x H1 => ∃ a xs, x = .ref a ∧
  ((SqL K H1 a xs ∧ te σ H1 fun y H2 => rL x [y] H2 Q) ∨ (TupG H1 a xs ∧ te σ H1 fun y H2 => rT x [y] H2 Q))
variable {o c : Expr} {g : Den} {i : Nat} {x name : Str} {p apos pos : Pos} {idL idT : String} {rL rT : V → List V → Hp → VK → Prop}
theorem pe_sqm {to te : TE} (sL : Slot "list" name idL) (tL : typeOf (.builtin idL) = pure (.type "method_descriptor")) (sT : Slot "tuple" name idT) (tT : typeOf (.builtin idT) = pure (.type "method_descriptor")) (mL : MtR X idL rL) (mT : MtR X idT rT)
    (ho : PE X o to) (hc : PE X c te) (hb : attributeBase o name X.env (eval o X.env) = eval o X.env) (hl : (apos.endLine == pos.line) = true) (hs : isStar c = false) : PE X (.Call (.Attribute o name apos) [c] [] pos) (tSqM X.K rL rT to te) := by
  refine ⟨fun pins s σ H Q I h => ?_⟩
  refine wpAny_Call_method_late hb (few1 hs) hl rfl (thn (ho.run pins s σ H _ I h) fun v s1 ⟨y, H1, I1, r1, a, xs, ey, q1⟩ => ?_)
  subst ey
  cases r1
  rcases q1 with ⟨hq, q⟩ | ⟨⟨ob, e1, e2⟩, q⟩
  · obtain ⟨its, _, pl, _⟩ := I1.list hq
    refine ⟨"list", idL, PySem.F.plainAttrs_list, sL, tL, pl.isList.typeIs, fun b e => ?_, ?_⟩
    · cases e
      obtain ⟨o', n, e, c', hd, _⟩ := pl
      exact ⟨o', e, hd⟩
    · rw [st1 hs]
      refine Calls.callWith_builtin rfl (Calls.evalArgs_plain ?_)
      have hA := (pa_cons hc pa_nil (st1 hs)).run pos pins s1 σ H1 (fun ys H2 => rL (.ref a) ys H2 Q) I1 q
      rw [st1 hs] at hA
      exact thn hA fun us s2 ⟨vs, H2, I2, r2, q2⟩ => mL pins s2 σ H2 (.ref a) vs (.ref a) us Q I2 rfl r2 q2
  · obtain ⟨g1, g2⟩ := I1.hok a _ e1
    obtain ⟨_, its, _, ob', g3, g4, _⟩ := g2
    refine ⟨"tuple", idT, PySem.F.plainAttrs_tuple, sT, tT, ⟨ob', g3, g4⟩, fun b e => ?_, ?_⟩
    · cases e
      exact ⟨ob, g1, e2⟩
    · rw [st1 hs]
      refine Calls.callWith_builtin rfl (Calls.evalArgs_plain ?_)
      have hA := (pa_cons hc pa_nil (st1 hs)).run pos pins s1 σ H1 (fun ys H2 => rT (.ref a) ys H2 Q) I1 q
      rw [st1 hs] at hA
      exact thn hA fun us s2 ⟨vs, H2, I2, r2, q2⟩ => mT pins s2 σ H2 (.ref a) vs (.ref a) us Q I2 rfl r2 q2
/-- the reading, for both -/
theorem sqm_read {ag : D → D → Option D} {f : Den} (hag : ∀ dx dy d, ag dx dy = some d → (∃ ds, dx = .list ds) ∨ ∃ ds, dx = .tuple ds) (hsh : ∀ dx dy d, ag dx dy = some d → SeqAt.shaped dx = true ∧ SeqAt.shaped dy = true)
    (hL : ∀ (a : Addr) (y : V) (ds : List D) (dy d : D) (H G : Hp) (Q : VK), ag (.list ds) dy = some d → Dp X.K H (.ref a) (.list ds) → Dp X.K H y dy → (∀ v, Rp X.K G v d → Q v H) → rL (.ref a) [y] H Q)
    (hT : ∀ (a : Addr) (y : V) (ds : List D) (dy d : D) (H G : Hp) (Q : VK), ag (.tuple ds) dy = some d → Dp X.K H (.ref a) (.tuple ds) → Dp X.K H y dy → (∀ v, Rp X.K G v d → Q v H) → rT (.ref a) [y] H Q)
    (hint : ∀ dx dy d, ag dx dy = some d → ∃ j, d = .int j)
    {σ : St} {H : Hp} {Q : VK} (h : tE X.K .ow (d2 ag f g) σ H Q) : tSqM X.K rL rT (tE X.K .bw f) (tE X.K .bw g) σ H Q := by
  obtain ⟨H0, G0, G, ρ, d, ok, hf, q⟩ := h
  obtain ⟨dx, dy, e1, e2, e3⟩ := d2_eq hf
  obtain ⟨s1', s2'⟩ := hsh _ _ _ e3
  obtain ⟨j, rfl⟩ := hint _ _ _ e3
  refine ⟨H0, G0, G, ρ, _, ok, e1, fun v H1 G1 s1 r1 => ?_⟩
  rcases hag _ _ _ e3 with ⟨ds, rfl⟩ | ⟨ds, rfl⟩
  · obtain ⟨a, vs, rfl, h1, rr⟩ := Rb.lst s1.gh r1
    refine ⟨a, vs, rfl, .inl ⟨.inl h1, H0, G0, G1, ρ, _, ok.step s1, e2, fun y H2 G2 s2 r2 => ?_⟩⟩
    exact hL a y ds dy _ H2 G2 Q e3 (Rb.dp s1' s2.gh (Rb.step r1 s2)) (Rb.dp s2' s2.gh r2) fun v rv => by
      cases rv
      exact q _ _ _ (s1.trans s2) (ow_int _)
  · obtain ⟨a, vs, rfl, h1, rr⟩ := Rb.tup r1
    refine ⟨a, vs, rfl, .inr ⟨tgM s1.gh h1, H0, G0, G1, ρ, _, ok.step s1, e2, fun y H2 G2 s2 r2 => ?_⟩⟩
    exact hT a y ds dy _ H2 G2 Q e3 (Rb.dp s1' s2.gh (Rb.step r1 s2)) (Rb.dp s2' s2.gh r2) fun v rv => by
      cases rv
      exact q _ _ _ (s1.trans s2) (ow_int _)
theorem aIndex_eq {dx dy d : D} (h : aIndex dx dy = some d) : SeqAt.shaped dx = true ∧ SeqAt.shaped dy = true ∧ ∃ ds j, (dx = .list ds ∨ dx = .tuple ds) ∧ idxD ds dy = some j ∧ d = .int (j : Nat) := by
  unfold aIndex at h
  split at h
  · split at h
    · obtain ⟨j, h1, h2⟩ := Option.map_eq_some_iff.mp h
      rename_i hs
      exact ⟨hs.2, hs.1, _, j, .inl rfl, h1, h2.symm⟩
    · cases h
  · split at h
    · obtain ⟨j, h1, h2⟩ := Option.map_eq_some_iff.mp h
      rename_i hs
      exact ⟨hs.2, hs.1, _, j, .inr rfl, h1, h2.symm⟩
    · cases h
  · cases h
theorem aCount_eq {dx dy d : D} (h : aCount dx dy = some d) : SeqAt.shaped dx = true ∧ SeqAt.shaped dy = true ∧ ∃ ds, (dx = .list ds ∨ dx = .tuple ds) ∧ d = .int ((ds.countP fun z => PyData.eqv z dy : Nat) : Int) := by
  unfold aCount at h
  split at h
  · split at h
    · rename_i hs
      cases h
      exact ⟨hs.2, hs.1, _, .inl rfl, rfl⟩
    · cases h
  · split at h
    · rename_i hs
      cases h
      exact ⟨hs.2, hs.1, _, .inr rfl, rfl⟩
    · cases h
  · cases h
theorem e_index (hu : X.A.units + 65 < cLine) (hn : NmOk X i x) (hl : (apos.endLine == pos.line) = true) (hs : isStar c = false) (hc : PE X c (tE X.K .bw g)) : PE X (.Call (.Attribute (.Name x p) "index" apos) [c] [] pos) (tE X.K .ow (d2 aIndex (dVarB i) g)) :=
  peW (pe_sqm PySem.F.slot_list_index PySem.F.type_list_index PySem.F.slot_tuple_index PySem.F.type_tuple_index (mt_indexD hu) (mt_indexT hu) hn.eB hc rfl hl hs) fun σ H Q h => by
    refine sqm_read (fun dx dy d e => ?_) (fun dx dy d e => ⟨(aIndex_eq e).1, (aIndex_eq e).2.1⟩) (fun a y ds dy d H G Q e r1 r2 q => ?_) (fun a y ds dy d H G Q e r1 r2 q => ?_) (fun dx dy d e => ?_) h
    · obtain ⟨_, _, ds, j, z | z, _⟩ := aIndex_eq e
      · exact .inl ⟨ds, z⟩
      · exact .inr ⟨ds, z⟩
    · obtain ⟨z1, z2, ds', j, z | z, hj, rfl⟩ := aIndex_eq e
      · cases z
        obtain ⟨w, w1, w2, w3⟩ := idxD_eq hj
        exact ⟨a, y, _, ds, j, w, rfl, rfl, r1, r2, z1, z2, w1, w2, w3, q _ (Rp.int _)⟩
      · cases z
    · obtain ⟨z1, z2, ds', j, z | z, hj, rfl⟩ := aIndex_eq e
      · cases z
      · cases z
        obtain ⟨w, w1, w2, w3⟩ := idxD_eq hj
        exact ⟨a, y, _, ds, j, w, rfl, rfl, r1, r2, z1, z2, w1, w2, w3, q _ (Rp.int _)⟩
    · obtain ⟨_, _, _, j, _, _, e⟩ := aIndex_eq e
      exact ⟨_, e⟩
theorem e_count (hu : X.A.units + 65 < cLine) (hn : NmOk X i x) (hl : (apos.endLine == pos.line) = true) (hs : isStar c = false) (hc : PE X c (tE X.K .bw g)) : PE X (.Call (.Attribute (.Name x p) "count" apos) [c] [] pos) (tE X.K .ow (d2 aCount (dVarB i) g)) :=
  peW (pe_sqm PySem.F.slot_list_count PySem.F.type_list_count PySem.F.slot_tuple_count PySem.F.type_tuple_count (mt_countL hu) (mt_countT hu) hn.eB hc rfl hl hs) fun σ H Q h => by
    refine sqm_read (fun dx dy d e => ?_) (fun dx dy d e => ⟨(aCount_eq e).1, (aCount_eq e).2.1⟩) (fun a y ds dy d H G Q e r1 r2 q => ?_) (fun a y ds dy d H G Q e r1 r2 q => ?_) (fun dx dy d e => ?_) h
    · obtain ⟨_, _, ds, z | z, _⟩ := aCount_eq e
      · exact .inl ⟨ds, z⟩
      · exact .inr ⟨ds, z⟩
    · obtain ⟨z1, z2, ds', z | z, rfl⟩ := aCount_eq e
      · cases z
        exact ⟨a, y, _, ds, rfl, rfl, r1, r2, SeqAt.canLay_of_shaped z1, z2, q _ (Rp.int _)⟩
      · cases z
    · obtain ⟨z1, z2, ds', z | z, rfl⟩ := aCount_eq e
      · cases z
      · cases z
        exact ⟨a, y, _, ds, rfl, rfl, r1, r2, SeqAt.canLay_of_shaped z1, z2, q _ (Rp.int _)⟩
    · obtain ⟨_, _, _, _, e⟩ := aCount_eq e
      exact ⟨_, e⟩
end
end PF
/-! ### {k: v}: a dict of one pair, its key a tuple -/
namespace DN
open PySem PySem.Spec PyProof.Rows L2
section
variable {X : Cx} {kx vx : Expr} {pos : Pos} {tk tv : TE}
def tNOne (tk tv : TE) : TE := fun σ H Q => ∀ D, H D = none → tk σ (upd H D (DK D 0 [])) fun y H1 => tv σ H1 fun z H2 => ∃ ep k b, y = .ref b ∧ H2 D = some (DK D ep []) ∧ KeyOk H2 k b ∧ ∀ ep', Q (.ref D) (upd H2 D (DK D ep' [(k, b, z)]))
theorem pe_none (hu : X.A.units + 10 < cLine) (hk : PE X kx tk) (hv : PE X vx tv) : PE X (.Dict [some kx] [vx] pos) (tNOne tk tv) := by
  refine ⟨fun pins s σ H Q I h => ?_⟩
  have room : (nestedKind X.prog X.w).room X.A := by show X.A.units + 8 < cLine; omega
  generalize hD : s.heap.objs.size = D at *
  have hfr : H D = none := I.hok.fresh (Nat.le_of_eq hD)
  have hdk : DKp D 0 [] (s.heap.push { cls := .type "dict", data := .dict #[] }) := by rw [← hD]; exact new_dk I.big
  have I1 : Inv X pins σ (upd H D (DK D 0 [])) { s with heap := s.heap.push { cls := .type "dict", data := .dict #[] } } := I.laid (t' := s.toks) (fun b o e => Heap.get?_push_of_some _ e) (Nat.le_of_eq hD) hdk.obj
  have q0 := h D hfr
  rw [arm_eval_Dict]
  show wpAny (model X.prog X.w) X.A (standAt pos >>= fun _ => dictDisplay (List.map (fun p : Sem Value × Sem Value => (some p.1, p.2)) [((eval kx X.env : Sem Value), ((do let x ← eval vx X.env; standAt pos; pure x) : Sem Value))])) (EP X pins σ Q) X.xe s
  rw [dictDisplay_pairs _ (by simp) (by simp)]
  refine wpAny_bind (wpAny_standAt (wpAny_bind (wpAny_subDictH (knd := nestedKind X.prog X.w) room (show 1 ≤ 15 by decide) ?_)))
  refine evalPairs_cons (thn (hk.run pins _ σ _ _ I1 q0) fun kv s1 ⟨y, H1, I2, ry, q1⟩ => ?_)
  refine wpAny_bind (thn (hv.run pins s1 σ H1 _ I2 q1) fun vv s2 ⟨z, H2, I3, rz, q2⟩ => wpAny_bind (wpAny_standAt (wpAny_pure ?_)))
  obtain ⟨ep, k, b, ey, hd2, ok, q3⟩ := q2
  subst ey
  obtain rfl : kv = Value.ref b := ry
  obtain ⟨_, hdm, ys, rel, dd, _⟩ := dn_of I3.hok hd2 (fun x hx => by cases hx)
  have ey : ys = [] := by cases rel; rfl
  subst ey
  refine evalPairs_nil ⟨[(k, b, vv)], ⟨rfl, rfl, ok.is I3.hok, trivial⟩, by rw [hD]; exact dd, fun h' tk' dd' hs => wpAny_pure ?_⟩
  rw [hD] at dd' hs ⊢
  obtain ⟨q, es, ep', hq, h2, h3, h4, _, h5⟩ := dd'
  have rel' : Paired EnvR [(k, b, z)] [(k, b, vv)] := .cons ⟨rfl, rfl, rz⟩ .nil
  have hp : DKp D ep' [(k, b, z)] h' := ⟨hdm, by show 1 ≤ sizeLine; decide, by simp, q, es, hq, h2, h3, by rw [h4]; exact vals_ent (fun x hx => by rw [List.mem_singleton] at hx; subst hx; exact ok.1.plain) rel'⟩
  exact ⟨.ref D, _, d_write I3 (mut_dk hd2) hs ⟨q, hq⟩ hp.obj, rfl, q3 ep'⟩
end
end DN
namespace PF
open PySem PySem.Spec PyProof.Rows L2 RZ
section
variable {X : Cx} {a b c e : Expr} {fa fb f g : Den} {pos p p' apos sp kp : Pos} {i : Nat} {x : Str}
/-- x = {k: v} -/
def dOneD (i : Nat) (g f : Den) : DenS := fun ρ => (g ρ).bind fun d => (f ρ).bind fun v => (keyT d).bind fun _ => some (.next (ρ.set i (some (.dic [(d, v)]))))
theorem s_oneD (hu : X.A.units + 65 < cLine) (hN : X.N.Nodup) (hi : X.N[i]? = some x) (hx : Loc X.env.scope x) (hf : X.fn x = true ∨ X.env.scope.names.lookup x = some .local) (hg : PE X c (tE X.K .fz g)) (he : PE X e (tE X.K .fz f)) : PS X (.Assign [.Name x p'] (.Dict [some c] [e] pos) sp) (tS X.K (dOneD i g f)) :=
  psW (ps_set hN hi hx (DN.pe_none (by omega) hg he) (by rfl) hf) fun Dn σ H ⟨H0, G0, G, ρ, out, ok, hf, q⟩ => by
    obtain ⟨d, e1, hf⟩ := Option.bind_eq_some_iff.mp hf
    obtain ⟨v, e2, hf⟩ := Option.bind_eq_some_iff.mp hf
    obtain ⟨k, e3, hf⟩ := Option.bind_eq_some_iff.mp hf
    cases hf
    intro D hD
    have s0 : Step H G (upd H D (DN.DK D 0 [])) G := Step.new' ok.gh hD
    refine ⟨H0, G0, G, ρ, d, ok.step s0, e1, fun y H1 G1 s1 r1 => ⟨H0, G0, G1, ρ, v, (ok.step s0).step s1, e2, fun z H2 G2 s2 r2 => ?_⟩⟩
    obtain ⟨⟨ds, rfl⟩, _, _⟩ := keyT_tup e3
    have r1' : Rp X.K G2 y (.tuple ds) := Rp.mono s2.gg r1
    have gD : G2 D = none := ((s1.trans s2).old D (some_ne upd_same)).trans (ok.gh.free hD)
    cases r1' with
    | tup h1 rr =>
      refine ⟨0, k, _, rfl, (s1.trans s2).same _ _ upd_same, key_ok (.tup h1 rr) e3 s2.gh, fun ep' => ?_⟩
      exact q _ _ _ ((s1.trans s2).gg) (ok.set_dic ((s0.trans (s1.trans s2)).updN hD gD) hD upd_same gD (.cons e3 (.tup h1 rr) r2 .nil))
/-! min(x, default=d), max(x, default=d) -/
def rBestD (K : PySem.W.Frag) (m : D → List D → D) : List V → List V → Hp → VK → Prop := fun vs zs H Q => ∃ (p : Addr) (ys : List V) (ds : List D) (z : V), vs = [.ref p] ∧ zs = [z] ∧ (SqL K H p ys ∨ SqT K H p ys) ∧ DpAll K H ys ds ∧ PySem.W.AlikeAll ds ∧ PyData.depthAll ds ≤ 64 ∧
  (ds = [] → Q z H) ∧ ∀ d r, ds = d :: r → ∀ (i : Nat) v, ys[i]? = some v → ds[i]? = some (m d r) → Q v H
theorem cr_minDf (hc : X.calm = true) (hu : X.A.units + 66 < cLine) : CallRK X (.builtin "min") [Str.ofString "default"] (rBestD X.K PySem.W.minD) := by
  intro pins s σ H vs zs us ws Q I r rz h
  obtain ⟨p, ys, ds, z, rfl, rfl, hs, hp, ha, hd, q0, q⟩ := h
  obtain ⟨w1, rfl, rz'⟩ := vals1 rz
  rw [Vals.ref1 r]
  have fin : ∀ (its : List Value) (as : List Addr), Vals ys its → ReadsAll s.heap its ds as → ∀ (y : PyData) (r : List PyData) (i : Nat) v h' tk bs, ds = y :: r → its.toArray[i]? = some v → Reads h' v (PySem.W.minD y r) bs → (∀ b o, s.heap.get? b = some o → h'.get? b = some o) → EP X pins σ Q v { s with heap := h', toks := tk } := fun its as rv rr y r i v h' tk bs ey hv hr hk => by
    have hv' : its[i]? = some v := by simpa using hv
    obtain ⟨x, e1, e2⟩ := vals_back rv i v hv'
    obtain ⟨d', bs', e3, e4⟩ := reads_at rr i v hv'
    subst ey
    have e5 : d' = PySem.W.minD y r := PySem.W.alike_unique _ _ _ _ _ (ha.1 _ (List.mem_of_getElem? e3) _ (min_mem y r)) (PyProof.Rows.Reads.keeps hk e4) hr
    exact ⟨x, H, I.kept hk, e2, q _ _ rfl i x e1 (e5 ▸ e3)⟩
  rcases hs with hs | hs
  · obtain ⟨its, rv, hl, _⟩ := I.list hs
    obtain ⟨as, rr⟩ := Dp.readsAll I _ _ _ hp rv
    exact PySem.W.min_list_default (I.ok.hd hc) hl.isList (by simpa using rr) ha (by omega) (fun e h' tk hk => ⟨z, H, I.kept hk, rz', q0 e⟩) (fin its as rv rr)
  · obtain ⟨its, rv, hl, _⟩ := I.tuple hs
    obtain ⟨as, rr⟩ := Dp.readsAll I _ _ _ hp rv
    exact PySem.W.min_tuple_default (I.ok.hd hc) (show s.heap.IsTuple p its.toArray from hl) (by simpa using rr) ha (by omega) (fun e h' tk hk => ⟨z, H, I.kept hk, rz', q0 e⟩) (fin its as rv rr)
theorem cr_maxDf (hc : X.calm = true) (hu : X.A.units + 66 < cLine) : CallRK X (.builtin "max") [Str.ofString "default"] (rBestD X.K PySem.W.maxD) := by
  intro pins s σ H vs zs us ws Q I r rz h
  obtain ⟨p, ys, ds, z, rfl, rfl, hs, hp, ha, hd, q0, q⟩ := h
  obtain ⟨w1, rfl, rz'⟩ := vals1 rz
  rw [Vals.ref1 r]
  have fin : ∀ (its : List Value) (as : List Addr), Vals ys its → ReadsAll s.heap its ds as → ∀ (y : PyData) (r : List PyData) (i : Nat) v h' tk bs, ds = y :: r → its.toArray[i]? = some v → Reads h' v (PySem.W.maxD y r) bs → (∀ b o, s.heap.get? b = some o → h'.get? b = some o) → EP X pins σ Q v { s with heap := h', toks := tk } := fun its as rv rr y r i v h' tk bs ey hv hr hk => by
    have hv' : its[i]? = some v := by simpa using hv
    obtain ⟨x, e1, e2⟩ := vals_back rv i v hv'
    obtain ⟨d', bs', e3, e4⟩ := reads_at rr i v hv'
    subst ey
    have e5 : d' = PySem.W.maxD y r := PySem.W.alike_unique _ _ _ _ _ (ha.1 _ (List.mem_of_getElem? e3) _ (max_mem y r)) (PyProof.Rows.Reads.keeps hk e4) hr
    exact ⟨x, H, I.kept hk, e2, q _ _ rfl i x e1 (e5 ▸ e3)⟩
  rcases hs with hs | hs
  · obtain ⟨its, rv, hl, _⟩ := I.list hs
    obtain ⟨as, rr⟩ := Dp.readsAll I _ _ _ hp rv
    exact PySem.W.max_list_default (I.ok.hd hc) hl.isList (by simpa using rr) ha (by omega) (fun e h' tk hk => ⟨z, H, I.kept hk, rz', q0 e⟩) (fin its as rv rr)
  · obtain ⟨its, rv, hl, _⟩ := I.tuple hs
    obtain ⟨as, rr⟩ := Dp.readsAll I _ _ _ hp rv
    exact PySem.W.max_tuple_default (I.ok.hd hc) (show s.heap.IsTuple p its.toArray from hl) (by simpa using rr) ha (by omega) (fun e h' tk hk => ⟨z, H, I.kept hk, rz', q0 e⟩) (fin its as rv rr)
/-- the least (the greatest) of numbers, or d -/
def aBestD (m : D → List D → D) : D → D → Option D
  | .list [], .int j => some (.int j)
  | .list (x :: xs), .int _ => if bestOk x xs (m x xs) = true then some (m x xs) else none
  | _, _ => none
theorem best_read {m : D → List D → D} (hm : ∀ x xs, m x xs ∈ x :: xs) {σ : St} {H : Hp} {Q : VK} (h : tE X.K .ow (d2 (aBestD m) fa fb) σ H Q) : tCKw (rBestD X.K m) (tCons (tE X.K .bw fa) tNil) (tCons (tE X.K .bw fb) tNil) σ H Q := by
  obtain ⟨H0, G0, G, ρ, d, ok, hf, q⟩ := h
  obtain ⟨dx, dy, e1, e2, e3⟩ := d2_eq hf
  refine ⟨H0, G0, G, ρ, _, ok, e1, fun v H1 G1 s1 r1 => ⟨H0, G0, G1, ρ, _, ok.step s1, e2, fun u H2 G2 s2 r2 => ?_⟩⟩
  have r1' := Rb.step r1 s2
  unfold aBestD at e3
  split at e3
  · cases e3
    obtain ⟨a, vs, rfl, h1, rr⟩ := Rb.lst s2.gh r1'
    cases rr
    cases Rb.int r2
    exact ⟨a, [], [], _, rfl, rfl, .inl (.inl h1), .nil, ⟨fun _ h => by (cases h), fun _ h => by (cases h)⟩, by decide, fun _ => q _ _ _ (s1.trans s2) (ow_int _), fun _ _ h => by cases h⟩
  · rename_i x0 xs0 _
    split at e3
    · rename_i hb
      cases e3
      obtain ⟨a, vs, rfl, h1, rr⟩ := Rb.lst s2.gh r1'
      unfold bestOk at hb
      simp only [Bool.and_eq_true] at hb
      obtain ⟨⟨⟨b1, b2⟩, b3⟩, b4⟩ := hb
      obtain ⟨k1, k2⟩ := depthAll_of b1
      refine ⟨a, vs, _, _, rfl, rfl, .inl (.inl h1), (RpAll.mono s2.gh rr).dp k2, ⟨alikeB_eq b2, noN_eq b3⟩, k1, (fun h => by cases h), fun d r er i w hv hd => ?_⟩
      cases er
      obtain ⟨v', z1, z2⟩ := rr.get i hd
      rw [hv] at z1
      cases z1
      refine q w H2 G2 (s1.trans s2) ?_
      revert z2 b4
      cases m x0 xs0 with
      | list ys => intro h4; cases h4
      | _ => intro _ z2; exact z2
    · cases e3
  · cases e3
theorem e_minD (hc : X.calm = true) (hu : X.A.units + 66 < cLine) (gl : Gl X "min") (hm : X.mg "min" = none) (na : isStar a = false) (ha : PE X a (tE X.K .bw fa)) (hb : PE X b (tE X.K .bw fb)) : PE X (.Call (.Name "min" p) [a] [⟨some "default", b, kp⟩] pos) (tE X.K .ow (d2 (aBestD PySem.W.minD) fa fb)) :=
  peW (pe_callBK (cr_minDf hc hu) gl hm (by decide +kernel) (pa_cons ha pa_nil (st1 na)) (pk_cons hb pk_nil) (by decide) (by decide) (by rw [st1 na]; rfl) (by rw [st1 na]; rfl)) fun σ H Q h => best_read min_mem h
theorem e_maxD (hc : X.calm = true) (hu : X.A.units + 66 < cLine) (gl : Gl X "max") (hm : X.mg "max" = none) (na : isStar a = false) (ha : PE X a (tE X.K .bw fa)) (hb : PE X b (tE X.K .bw fb)) : PE X (.Call (.Name "max" p) [a] [⟨some "default", b, kp⟩] pos) (tE X.K .ow (d2 (aBestD PySem.W.maxD) fa fb)) :=
  peW (pe_callBK (cr_maxDf hc hu) gl hm (by decide +kernel) (pa_cons ha pa_nil (st1 na)) (pk_cons hb pk_nil) (by decide) (by decide) (by rw [st1 na]; rfl) (by rw [st1 na]; rfl)) fun σ H Q h => best_read max_mem h
end
end PF
/-! zip of three lists -/
namespace Z3
open PySem PySem.Spec PyProof.Rows L2
def It3 (K : PySem.W.Frag) (a b c : Addr) : It :=
  ⟨fun i H => ∃ (xs ys zs : List V) (x y z : V), SqL K H a xs ∧ SqL K H b ys ∧ SqL K H c zs ∧ xs[i]? = some x ∧ ys[i]? = some y ∧ zs[i]? = some z,
    fun i H v H' => ∃ T x y z, v = .ref T ∧ H T = none ∧ H' = upd H T (.tup [x, y, z]) ∧ (∀ xs, SqL K H a xs → xs[i]? = some x) ∧ (∀ ys, SqL K H b ys → ys[i]? = some y) ∧ ∀ zs, SqL K H c zs → zs[i]? = some z,
    fun i H => ∃ xs ys zs : List V, SqL K H a xs ∧ SqL K H b ys ∧ SqL K H c zs ∧ i ≤ xs.length ∧ i ≤ ys.length ∧ i ≤ zs.length ∧ (i = xs.length ∨ i = ys.length ∨ i = zs.length)⟩
/-- six new cells, three old lists -/
structure Apt (n : Nat) (a b c : Addr) : Prop where
  a : a < n
  b : b < n
  c : c < n
abbrev Tn (n : Nat) (a b c : Addr) (i : Nat) (h : Heap) : Prop := IsZip h (n + 5) (n + 3) (n + 4) .none ∧ IsTupOf3 h (n + 3) (.ref n) (.ref (n + 1)) (.ref (n + 2)) ∧ (∃ x y z, IsTupOf3 h (n + 4) x y z) ∧ h.IsListIter n a i ∧ h.IsListIter (n + 1) b i ∧ h.IsListIter (n + 2) c i
theorem nin {n m x : Nat} (h1 : m ≠ n) (h2 : m ≠ x) : ¬m ∈ [n, x] := fun h => by
  rcases List.mem_cons.mp h with e | h
  · exact h1 e
  · exact h2 (List.mem_singleton.mp h)
theorem sep0 (n a b c : Nat) (h1 : a < n) (h2 : b < n) (h3 : c < n) : ZipSep3 (n + 5) (n + 3) (n + 4) n (n + 1) (n + 2) [n, a] [n + 1, b] [n + 2, c] where
  TIz := Nat.ne_of_lt (by omega)
  TOz := Nat.ne_of_lt (by omega)
  TITO := Nat.ne_of_lt (by omega)
  TIi1 := Nat.ne_of_gt (by omega)
  mem1 := List.mem_cons_self ..
  zf1 := nin (by omega) (by omega)
  Tf1 := nin (by omega) (by omega)
  TIi2 := Nat.ne_of_gt (by omega)
  mem2 := List.mem_cons_self ..
  zf2 := nin (by omega) (by omega)
  Tf2 := nin (by omega) (by omega)
  TIi3 := Nat.ne_of_gt (by omega)
  mem3 := List.mem_cons_self ..
  zf3 := nin (by omega) (by omega)
  Tf3 := nin (by omega) (by omega)
  sep1_2 := nin (by omega) (by omega)
  sep1_3 := nin (by omega) (by omega)
  sep2_1 := nin (by omega) (by omega)
  sep2_3 := nin (by omega) (by omega)
  sep3_1 := nin (by omega) (by omega)
  sep3_2 := nin (by omega) (by omega)
theorem sep (n : Nat) {a b c : Addr} (D : Apt n a b c) : ZipSep3 (n + 5) (n + 3) (n + 4) n (n + 1) (n + 2) [n, a] [n + 1, b] [n + 2, c] := sep0 n a b c D.a D.b D.c
theorem turn3 {P : Program} {w : World} {K : PySem.W.Frag} {elts : List Expr} {kk : Nat} {tpos : Pos} {n : Nat} {a b c : Addr} (D : Apt n a b c) :
    Turn P w K (.Tuple elts kk tpos) (It3 K a b c) [n + 5, n + 3, n + 4, n, n + 1, n + 2] (n + 5) (Tn n a b c) where
  mem := by simp
  obj := fun i h st q hq => by
    obtain ⟨hz, hT, ⟨x, y, z, hO⟩, ⟨o1, e1, _, d1⟩, ⟨o2, e2, _, d2⟩, ⟨o3, e3, _, d3⟩⟩ := st
    have e' : q = n + 5 ∨ q = n + 3 ∨ q = n + 4 ∨ q = n ∨ q = n + 1 ∨ q = n + 2 := by simpa using hq
    rcases e' with r | r | r | r | r | r <;> rw [r]
    · exact ⟨_, hz, fun v q => nomatch q⟩
    · exact ⟨_, hT, fun v q => nomatch q⟩
    · exact ⟨_, hO, fun v q => nomatch q⟩
    · exact ⟨o1, e1, fun v q => by rw [d1] at q; cases q⟩
    · exact ⟨o2, e2, fun v q => by rw [d2] at q; cases q⟩
    · exact ⟨o3, e3, fun v q => by rw [d3] at q; cases q⟩
  keep := fun i h h' st k => by
    obtain ⟨hz, hT, ⟨x, y, z, hO⟩, h1, h2, h3⟩ := st
    exact ⟨k _ (by simp) _ hz, k _ (by simp) _ hT, ⟨x, y, z, k _ (by simp) _ hO⟩, h1.at fun o q => k _ (by simp) o q, h2.at fun o q => k _ (by simp) o q, h3.at fun o q => k _ (by simp) o q⟩
  item := by
    intro X hP hw hK hc i pins s σ H E I hf st hg
    subst hP hw hK
    obtain ⟨hz, hT, ⟨x0, y0, z0, hO⟩, t1, t2, t3⟩ := st
    obtain ⟨xs, ys, zs, x, y, z, qx, qy, qz, hx, hy, hzz⟩ := hg
    obtain ⟨l1, v1, p1, _⟩ := I.list qx
    obtain ⟨l2, v2, p2, _⟩ := I.list qy
    obtain ⟨l3, v3, p3, _⟩ := I.list qz
    obtain ⟨u1, g1, r1⟩ := v1.get hx
    obtain ⟨u2, g2, r2⟩ := v2.get hy
    obtain ⟨u3, g3, r3⟩ := v3.get hzz
    have hd := I.ok.hd hc
    have D1 := Draws.list (prog := X.prog) (w := X.w) (A := X.A.in1) hd n a (Nat.ne_of_lt D.a) l1.toArray
    have D2 := Draws.list (prog := X.prog) (w := X.w) (A := X.A.in1) hd (n + 1) b (Nat.ne_of_lt (Nat.lt_succ_of_lt D.b)) l2.toArray
    have D3 := Draws.list (prog := X.prog) (w := X.w) (A := X.A.in1) hd (n + 2) c (Nat.ne_of_lt (Nat.lt_succ_of_lt (Nat.lt_succ_of_lt D.c))) l3.toArray
    have b1 : i < l1.toArray.size := by rw [List.size_toArray]; exact (List.getElem?_eq_some_iff.mp g1).1
    have b2 : i < l2.toArray.size := by rw [List.size_toArray]; exact (List.getElem?_eq_some_iff.mp g2).1
    have b3 : i < l3.toArray.size := by rw [List.size_toArray]; exact (List.getElem?_eq_some_iff.mp g3).1
    have hzl : n + 5 < s.heap.objs.size := Heap.lt_size hz
    refine wpAny_pyNext_zipD3_item (sep n D) D1 D2 D3 hz hT hO ⟨t1, p1.isList⟩ ⟨t2, p2.isList⟩ ⟨t3, p3.isList⟩ b1 b2 b3 fun y1 y2 y3 h' tk m1 m2 m3 z' O' s1 s2 s3 T' hsz hk => ?_
    have w1 : y1 = u1 := by rw [List.getElem?_toArray, g1] at m1; exact (Option.some.inj m1).symm
    have w2 : y2 = u2 := by rw [List.getElem?_toArray, g2] at m2; exact (Option.some.inj m2).symm
    have w3 : y3 = u3 := by rw [List.getElem?_toArray, g3] at m3; exact (Option.some.inj m3).symm
    subst w1 w2 w3
    refine ⟨_, rfl, wpAny_letOwnedTupleGo_zip (s := { s with heap := h', toks := tk }) z' fun h'' z'' sb => ?_⟩
    have hN : h''.get? s.heap.objs.size = some { cls := .type "tuple", data := .seq #[y1, y2, y3] } := (sb.2 _ (Nat.ne_of_gt hzl)).trans T'
    have new : ObjOk X.prog X.w (upd H s.heap.objs.size (.tup [x, y, z])) h'' s.heap.objs.size (.tup [x, y, z]) :=
      ⟨by show 3 ≤ sizeLine; decide, [y1, y2, y3], .cons r1 (.cons r2 (.cons r3 .nil)), ⟨_, hN, rfl, _, rfl⟩⟩
    have I1 : Inv X pins σ (upd H s.heap.objs.size (.tup [x, y, z])) { s with heap := h'', toks := tk } :=
      I.turnedNew (t' := tk) (ch := [n + 5, n + 3, n + 4, n, n + 1, n + 2]) (fun d o hb q => (sb.2 d (fun q' => hb (by simp [q']))).trans (hk d o (fun q' => hb (by simp [q'])) (fun q' => hb (by simp [q'])) (fun q' => hb (by simp [q'])) (fun q' => hb (by simp [q'])) (fun q' => hb (by simp [q'])) q)) hf (Nat.le_refl _) new
    have S := sep n D
    refine ⟨.ref s.heap.objs.size, _, I1, rfl, ⟨_, x, y, z, rfl, I.hok.fresh (Nat.le_refl _), rfl, fun l hl => by rw [I.list_inj hl qx]; exact hx, fun l hl => by rw [I.list_inj hl qy]; exact hy, fun l hl => by rw [I.list_inj hl qz]; exact hzz⟩, ⟨z'', ?_, ⟨y1, y2, y3, ?_⟩, ?_, ?_, ?_⟩, fun q hq => ?_⟩
    · exact (sb.2 _ S.TIz).trans (hk _ _ S.TIz S.TITO S.TIi1 S.TIi2 S.TIi3 hT)
    · exact (sb.2 _ S.TOz).trans O'
    · exact s1.1.at fun o q => (sb.2 _ (Ne.symm S.zi1)).trans q
    · exact s2.1.at fun o q => (sb.2 _ (Ne.symm S.zi2)).trans q
    · exact s3.1.at fun o q => (sb.2 _ (Ne.symm S.zi3)).trans q
    · have e' : q = n + 5 ∨ q = n + 3 ∨ q = n + 4 ∨ q = n ∨ q = n + 1 ∨ q = n + 2 := by simpa using hq
      have hlt : q < s.heap.objs.size := by
        rcases e' with r | r | r | r | r | r <;> rw [r]
        · exact hzl
        · exact Nat.lt_trans (Nat.lt_add_of_pos_right (k := 2) (by decide)) hzl
        · exact Nat.lt_trans (Nat.lt_add_of_pos_right (k := 1) (by decide)) hzl
        · exact Nat.lt_of_le_of_lt (Nat.le_add_right _ _) hzl
        · exact Nat.lt_trans (Nat.lt_add_of_pos_right (k := 4) (by decide)) hzl
        · exact Nat.lt_trans (Nat.lt_add_of_pos_right (k := 3) (by decide)) hzl
      rw [upd_ne (Nat.ne_of_lt hlt)]
      exact (hf q hq).1
  done := by
    intro X hP hw hK hc i pins s σ H E I hf st hg
    subst hP hw hK
    obtain ⟨hz, hT, ⟨x0, y0, z0, hO⟩, t1, t2, t3⟩ := st
    obtain ⟨xs, ys, zs, qx, qy, qz, k1, k2, k3, hend⟩ := hg
    obtain ⟨l1, v1, p1, _⟩ := I.list qx
    obtain ⟨l2, v2, p2, _⟩ := I.list qy
    obtain ⟨l3, v3, p3, _⟩ := I.list qz
    have hd := I.ok.hd hc
    have D1 := Draws.list (prog := X.prog) (w := X.w) (A := X.A.in1) hd n a (Nat.ne_of_lt D.a) l1.toArray
    have D2 := Draws.list (prog := X.prog) (w := X.w) (A := X.A.in1) hd (n + 1) b (Nat.ne_of_lt (Nat.lt_succ_of_lt D.b)) l2.toArray
    have D3 := Draws.list (prog := X.prog) (w := X.w) (A := X.A.in1) hd (n + 2) c (Nat.ne_of_lt (Nat.lt_succ_of_lt (Nat.lt_succ_of_lt D.c))) l3.toArray
    have e1 := v1.length
    have e2 := v2.length
    have e3 := v3.length
    exact wpAny_pyNext_zipD3_end (sep n D) D1 D2 D3 hz hT hO ⟨t1, p1.isList⟩ ⟨t2, p2.isList⟩ ⟨t3, p3.isList⟩ (by rw [List.size_toArray]; omega) (by rw [List.size_toArray]; omega) (by rw [List.size_toArray]; omega) (by rw [List.size_toArray, List.size_toArray, List.size_toArray]; omega) fun h' tk hk =>
      ⟨rfl, I.turnedL (t' := tk) (ch := [n + 5, n + 3, n + 4, n, n + 1, n + 2]) (fun d o hb q => hk d o (fun q' => hb (by simp [q'])) (fun q' => hb (by simp [q'])) (fun q' => hb (by simp [q'])) (fun q' => hb (by simp [q'])) (fun q' => hb (by simp [q'])) q) hf⟩
  self := fun A i s Q E st h => wpAny_pyIter_zip st.1 h
def iZip3 (K : PySem.W.Frag) (ta : TA) : TI := fun σ H R => ta σ H fun vs H1 => ∃ a b c xs ys zs, vs = [.ref a, .ref b, .ref c] ∧ SqL K H1 a xs ∧ SqL K H1 b ys ∧ SqL K H1 c zs ∧ R (It3 K a b c) H1
theorem pi_zip3 {X : Cx} {e e2 e3 : Expr} {ta : TA} {p pos tpos : Pos} {elts : List Expr} {kk : Nat} (hg : Gl X "zip") (hm : X.mg "zip" = none) (ha : PA X [e, e2, e3] ta)
    (hs : starEach [e, e2, e3] X.env = (false, eval e X.env) :: starEach [e2, e3] X.env) (hpl : (backTo pos (starEach [e2, e3] X.env)).any (·.1) = false) :
    PI X (.Tuple elts kk tpos) (.Call (.Name "zip" p) [e, e2, e3] [] pos) (iZip3 X.K ta) := by
  refine ⟨fun pins s σ H R I h => Call_ (ld_blt I hg hm PyProof.Rows.boot_zip (PyProof.Rows.callWith_type1 (thn (ha.run pos pins s σ H _ I h) fun us s1 ⟨vs, H1, I1, r1, q1⟩ => ?_) hs hpl))⟩
  obtain ⟨a, b, c, xs, ys, zs, ex, qx, qy, qz, q⟩ := q1
  subst ex
  cases r1 with
  | cons r rr =>
    cases rr with
    | cons r' rr =>
      cases rr with
      | cons r'' rr =>
        cases rr
        cases r
        cases r'
        cases r''
        obtain ⟨l1, v1, p1, _⟩ := I1.list qx
        obtain ⟨l2, v2, p2, _⟩ := I1.list qy
        obtain ⟨l3, v3, p3, _⟩ := I1.list qz
        refine zip_begins3 (begins_list a l1.toArray) (begins_list b l2.toArray) (begins_list c l3.toArray) p1.isList p2.isList p3.isList fun h' hz hT hO o1 o2 o3 hsz hk => wpAny_pyIter_zip hz ?_
        have I2 : Inv X pins σ H1 { s1 with heap := h' } := I1.kept (t' := s1.toks) hk
        refine ⟨s1.heap.objs.size + 5, _, _, _, H1, rfl, I2, turn3 ⟨p1.lt, p2.lt, p3.lt⟩, ⟨hz, hT, ⟨_, _, _, hO⟩, ⟨_, o1, rfl, rfl⟩, ⟨_, o2, rfl, rfl⟩, ⟨_, o3, rfl, rfl⟩⟩, fun d hd => ?_, q⟩
        have e' : d = s1.heap.objs.size + 5 ∨ d = s1.heap.objs.size + 3 ∨ d = s1.heap.objs.size + 4 ∨ d = s1.heap.objs.size ∨ d = s1.heap.objs.size + 1 ∨ d = s1.heap.objs.size + 2 := by simpa using hd
        have hle : s1.heap.objs.size ≤ d := by
          rcases e' with z | z | z | z | z | z <;> rw [z] <;> first | exact Nat.le_add_right _ _ | exact Nat.le_refl _
        exact I1.fpOk hle (I1.hok.fresh hle)
end Z3
namespace PF
open PySem PySem.Spec PyProof.Rows L2 RZ
def zip3D : List D → List D → List D → List D
  | x :: xs, y :: ys, z :: zs => .tuple [x, y, z] :: zip3D xs ys zs
  | _, _, _ => []
theorem zip3D_length : ∀ xs ys zs : List D, (zip3D xs ys zs).length = min (min xs.length ys.length) zs.length
  | [], _, _ => by simp [zip3D]
  | _ :: _, [], _ => by simp [zip3D]
  | _ :: _, _ :: _, [] => by simp [zip3D]
  | x :: xs, y :: ys, z :: zs => by simp [zip3D, zip3D_length xs ys zs]
theorem zip3D_get : ∀ (xs ys zs : List D) (i : Nat) {d : D}, (zip3D xs ys zs)[i]? = some d → ∃ x y z, xs[i]? = some x ∧ ys[i]? = some y ∧ zs[i]? = some z ∧ d = .tuple [x, y, z]
  | [], _, _, _, _, h => by simp [zip3D] at h
  | _ :: _, [], _, _, _, h => by simp [zip3D] at h
  | _ :: _, _ :: _, [], _, _, h => by simp [zip3D] at h
  | x :: xs, y :: ys, z :: zs, 0, d, h => by simp [zip3D] at h; exact ⟨x, y, z, rfl, rfl, rfl, h.symm⟩
  | x :: xs, y :: ys, z :: zs, i + 1, d, h => by
    obtain ⟨a, b, c, h1, h2, h3, h4⟩ := zip3D_get xs ys zs i (by simpa [zip3D] using h)
    exact ⟨a, b, c, by simpa using h1, by simpa using h2, by simpa using h3, h4⟩
/-- zip of three lists, all of one length or the walk's end is where the shortest ends -/
def dZip3 (f g h : Den) : Env → Option (List D) := fun ρ => match f ρ, g ρ, h ρ with
  | some (.list xs), some (.list ys), some (.list zs) => some (zip3D xs ys zs)
  | _, _, _ => none
theorem trip_new {K : PySem.W.Frag} {H G : Hp} {T : Addr} {x y z : V} {dx dy dz : D} (gh : Same G H) (hT : H T = none) (r1 : Rp K G x dx) (r2 : Rp K G y dy) (r3 : Rp K G z dz) : ∃ G', Step H G (upd H T (.tup [x, y, z])) G' ∧ RpW true K G' (.ref T) (.tuple [dx, dy, dz]) :=
  ⟨upd G T (.tup [x, y, z]), Step.new gh hT, .inr ⟨rfl, T, [x, y, z], [dx, dy, dz], rfl, rfl, .inl upd_same, RpAll.mono (same_new (gh.free hT)) (.cons r1 (.cons r2 (.cons r3 .nil)))⟩⟩
theorem it_zip3L {K : PySem.W.Frag} {G : Hp} {C : Hp → Prop} {a b c : Addr} {vs us ws : List V} {ds es fs : List D} (h : ∀ H G', C H → Same G G' → Same G' H → Rd H a (.lst vs)) (r : RpAll K G vs ds) (h' : ∀ H G', C H → Same G G' → Same G' H → Rd H b (.lst us)) (r' : RpAll K G us es)
    (h'' : ∀ H G', C H → Same G G' → Same G' H → Rd H c (.lst ws)) (r'' : RpAll K G ws fs) (hl : ds.length ≤ sizeLine) : ItOk true K G C (Z3.It3 K a b c) (zip3D ds es fs) where
  len := by rw [zip3D_length]; omega
  stop := fun H G' i hC g1 gh hi => by
    have q1 := r.length
    have q2 := r'.length
    have q3 := r''.length
    rw [zip3D_length] at hi
    exact ⟨vs, us, ws, .inl (h H G' hC g1 gh), .inl (h' H G' hC g1 gh), .inl (h'' H G' hC g1 gh), by omega, by omega, by omega, by omega⟩
  go := fun H G' i d hC g1 gh hi => by
    obtain ⟨x, y, z, h1, h2, h3, rfl⟩ := zip3D_get ds es fs i hi
    obtain ⟨v, q1, q2⟩ := r.get i h1
    obtain ⟨u, q3, q4⟩ := r'.get i h2
    obtain ⟨w, q5, q6⟩ := r''.get i h3
    refine ⟨⟨vs, us, ws, v, u, w, .inl (h H G' hC g1 gh), .inl (h' H G' hC g1 gh), .inl (h'' H G' hC g1 gh), q1, q3, q5⟩, fun z' H' ⟨T, x', y', w', e1, e2, e3, e4, e5, e6⟩ => ?_⟩
    subst e1 e3
    exact trip_new gh e2 ((r.atV h1 (e4 vs (.inl (h H G' hC g1 gh)))).mono g1) ((r'.atV h2 (e5 us (.inl (h' H G' hC g1 gh)))).mono g1) ((r''.atV h3 (e6 ws (.inl (h'' H G' hC g1 gh)))).mono g1)
theorem dZip3_eq {f g h : Den} {ρ : Env} {items : List D} (q : dZip3 f g h ρ = some items) : ∃ xs ys zs, items = zip3D xs ys zs ∧ f ρ = some (.list xs) ∧ g ρ = some (.list ys) ∧ h ρ = some (.list zs) := by
  unfold dZip3 at q
  split at q
  · cases q; exact ⟨_, _, _, rfl, by assumption, by assumption, by assumption⟩
  · cases q
section
variable {X : Cx} {a b c : Expr} {fa fb fc : Den} {pos p tpos : Pos} {elts : List Expr} {kk : Nat}
theorem i_zip3 (gl : Gl X "zip") (hm : X.mg "zip" = none) (na : isStar a = false) (nb : isStar b = false) (nc : isStar c = false) (ha : PE X a (tE X.K .fz fa)) (hb : PE X b (tE X.K .fz fb)) (hc : PE X c (tE X.K .fz fc)) :
    PI X (.Tuple elts kk tpos) (.Call (.Name "zip" p) [a, b, c] [] pos) (tI true X.K .fz (dZip3 fa fb fc)) :=
  piW (piL (Z3.pi_zip3 gl hm (pa_cons ha (pa_cons hb (pa_cons hc pa_nil (st1 nc)) (st1 nb)) (st1 na)) (st1 na) (back_ok _ _ _ (by simp [nb, nc])))) fun σ H R ⟨H0, G0, G, ρ, items, ok, hf, q⟩ => by
    obtain ⟨xs, ys, zs, rfl, e1, e2, e3⟩ := dZip3_eq hf
    refine ⟨H0, G0, G, ρ, _, ok, e1, fun v H1 G1 s r => ⟨H0, G0, G1, ρ, _, ok.step s, e2, fun u H2 G2 s2 r2 => ⟨H0, G0, G2, ρ, _, (ok.step s).step s2, e3, fun w H3 G3 s3 r3 => ?_⟩⟩⟩
    cases r with
    | lst h rr =>
      cases r2 with
      | lst h2 rr2 =>
        cases r3 with
        | lst h3 rr3 =>
          have k1 := rdM s3.gg (rdM s2.gg h)
          have k2 := rdM s3.gg h2
          have l1 := (rr.mono s2.gg).mono s3.gg
          have l2 := rr2.mono s3.gg
          exact ⟨_, _, _, _, _, _, rfl, .inl (rdM s3.gh k1), .inl (rdM s3.gh k2), .inl (rdM s3.gh h3), xs.length, .inl ⟨_, _, .inl (.inl (rdM s3.gh k1)), by rw [l1.length]; exact Nat.le_refl _⟩,
            fun hl => q _ _ _ ((s.trans s2).trans s3) (it_zip3L (fun H G' _ g1 gh => rdM (g1.trans gh) k1) l1 (fun H G' _ g1 gh => rdM (g1.trans gh) k2) l2 (fun H G' _ g1 gh => rdM (g1.trans gh) h3) rr3 hl)⟩
theorem i_zip3B (gl : Gl X "zip") (hm : X.mg "zip" = none) (na : isStar a = false) (nb : isStar b = false) (nc : isStar c = false) (ha : PE X a (tE X.K .bw fa)) (hb : PE X b (tE X.K .bw fb)) (hc : PE X c (tE X.K .bw fc)) :
    PI X (.Tuple elts kk tpos) (.Call (.Name "zip" p) [a, b, c] [] pos) (tI true X.K .bw (dZip3 fa fb fc)) :=
  piW (piL (Z3.pi_zip3 gl hm (pa_cons ha (pa_cons hb (pa_cons hc pa_nil (st1 nc)) (st1 nb)) (st1 na)) (st1 na) (back_ok _ _ _ (by simp [nb, nc])))) fun σ H R ⟨H0, G0, G, ρ, items, ok, hf, q⟩ => by
    obtain ⟨xs, ys, zs, rfl, e1, e2, e3⟩ := dZip3_eq hf
    refine ⟨H0, G0, G, ρ, _, ok, e1, fun v H1 G1 s r => ⟨H0, G0, G1, ρ, _, ok.step s, e2, fun u H2 G2 s2 r2 => ⟨H0, G0, G2, ρ, _, (ok.step s).step s2, e3, fun w H3 G3 s3 r3 => ?_⟩⟩⟩
    obtain ⟨a, vs, rfl, h, rr⟩ := Rb.lst s3.gh (Rb.step (Rb.step r s2) s3)
    obtain ⟨b, us, rfl, h', rr'⟩ := Rb.lst s3.gh (Rb.step r2 s3)
    obtain ⟨c, ws, rfl, h'', rr''⟩ := Rb.lst s3.gh r3
    exact ⟨_, _, _, _, _, _, rfl, .inl h, .inl h', .inl h'', xs.length, .inl ⟨_, _, .inl (.inl h), by rw [rr.length]; exact Nat.le_refl _⟩,
      fun hl => q _ _ _ ((s.trans s2).trans s3) (it_zip3L (fun H G' hC g1 gh => rdM hC h) rr (fun H G' hC g1 gh => rdM hC h') rr' (fun H G' hC g1 gh => rdM hC h'') rr'' hl)⟩
end
end PF
namespace PF
open PySem PySem.Spec PyProof.Rows L2 RZ
/-! bool of a whole number, or of a bool -/
def bBool : List D → Option D
  | [.int i] => some (.bool (i != 0))
  | [.bool k] => some (.bool k)
  | _ => none
theorem cal_bool {K : PySem.W.Frag} : Cal K (fun xs H Q => (∃ i, xs = [.int i] ∧ Q (.bl (i != 0)) H) ∨ ∃ k, xs = [.bl k] ∧ Q (.bl k) H) bBool .ow := fun H G vs ds d Q gh r e q => by
  unfold bBool at e
  split at e
  · cases e
    obtain ⟨v, rfl, rv⟩ := paired1 r
    cases rv.int
    exact .inl ⟨_, rfl, q _ _ _ (Step.refl gh) (ow_bool _)⟩
  · cases e
    obtain ⟨v, rfl, rv⟩ := paired1 r
    cases rv.bool
    exact .inr ⟨_, rfl, q _ _ _ (Step.refl gh) (ow_bool _)⟩
  · cases e
end PF
namespace PF
open PySem PySem.Spec PyProof.Rows L2 RZ
/-! len of a dict of the frame's own -/
def dLenN (i : Nat) : Den := fun ρ => match ρ[i]? with
  | some (some (.dic kvs)) => some (.int ((kvs.length : Nat) : Int))
  | _ => dCall bLen [dVarB i] ρ
theorem e_lenN {X : Cx} {i : Nat} {x : Str} {p p' pos : Pos} (hn : NmOk X i x) (gl : Gl X "len") (hm : X.mg "len" = none) (h1 : ("len" : Str) ≠ "__name__") (h2 : (("len" : Str) == ("__debug__" : Str)) = false) :
    PE X (.Call (.Name "len" p') [.Name x p] [] pos) (tE X.K .ow (dLenN i)) :=
  peC (pe_callB DN.call_lenN gl hm PySem.boot_len (pa_cons hn.pe pa_nil (st1 rfl)) h1 h2 (st1 rfl) (back_ok _ _ _ rfl)) (e_callB (call_len_seq.or call_len_str) cal_len gl hm PySem.boot_len h1 h2 rfl (ab_cons rfl hn.eB ab_nil)) fun σ H Q ⟨H0, G0, G, ρ, d, ok, hf, q⟩ => by
    unfold dLenN at hf
    split at hf
    · rename_i kvs ei
      cases hf
      obtain ⟨a, ep, xs, h1, h2, h3, h4, h5⟩ := dic_get ok ei
      refine .inl ⟨_, h1, a, ep, xs, rfl, h2, kv_keys h3 ok.gh, ?_⟩
      rw [kv_len h3]
      exact q _ _ _ (Step.refl ok.gh) (ow_int _)
    · exact .inr ⟨H0, G0, G, ρ, d, ok, hf, q⟩
end PF
namespace PF
open PySem PySem.Spec PyProof.Rows L2 RZ
/-! f(x), its value dropped -/
def dDrop (f : Den) : DenS := fun ρ => (f ρ).map fun _ => .next ρ
theorem s_drop {X : Cx} {e : Expr} {f : Den} {pos : Pos} (hc : isComp e = false) (he : PE X e (tE X.K .fz f)) : PS X (.Expr e pos) (tS X.K (dDrop f)) :=
  psW (ps_expr he (swaps_no0 hc)) fun Dn σ H ⟨H0, G0, G, ρ, out, ok, hf, q⟩ => by
    unfold dDrop at hf
    obtain ⟨d, e1, e2⟩ := Option.map_eq_some_iff.mp hf
    cases e2
    exact ⟨H0, G0, G, ρ, d, ok, e1, fun v H1 G1 s r => q _ _ _ s.gg (ok.step s)⟩
end PF
namespace PF
open PySem PySem.Spec PyProof.Rows L2 RZ
/-! sorted(set(x)), x a list of pairs of small whole numbers -/
abbrev Pr := Int × Int
def prK (p : Pr) : List Int := [p.1, p.2]
def prD (p : Pr) : D := .tuple [.int p.1, .int p.2]
def prC (p : Pr) : Int := p.1 * 64 + p.2
def prB (p : Pr) : Bool := decide (0 ≤ p.1) && decide (p.1 < 64) && decide (0 ≤ p.2) && decide (p.2 < 64)
def prOf : D → Option Pr
  | .tuple [.int a, .int b] => if prB (a, b) = true then some (a, b) else none
  | _ => none
def prsOf : List D → Option (List Pr)
  | [] => some []
  | d :: r => (prOf d).bind fun p => (prsOf r).map fun ps => p :: ps
def ddp : List Pr → List Pr
  | [] => []
  | p :: r => if p ∈ ddp r then ddp r else p :: ddp r
theorem ddp_mem {p : Pr} : ∀ {ps : List Pr}, p ∈ ddp ps ↔ p ∈ ps
  | [] => Iff.rfl
  | q :: r => by
    unfold ddp
    split
    · rename_i h
      rw [ddp_mem (ps := r), List.mem_cons]
      exact ⟨.inr, fun z => z.elim (fun e => e ▸ ddp_mem.mp h) id⟩
    · rw [List.mem_cons, List.mem_cons, ddp_mem (ps := r)]
theorem ddp_nd : ∀ ps : List Pr, (ddp ps).Nodup
  | [] => List.nodup_nil
  | q :: r => by
    unfold ddp
    split
    · exact ddp_nd r
    · exact List.nodup_cons.mpr ⟨by assumption, ddp_nd r⟩
def srtP (ps : List Pr) : List Pr := (ddp ps).mergeSort fun a b => decide (prC a ≤ prC b)
def aSrtSet : D → Option D
  | .list ds => if ds.length < 64 then (prsOf ds).map fun ps => .list ((srtP ps).map prD) else none
  | _ => none
theorem prOf_eq {d : D} {p : Pr} (h : prOf d = some p) : d = prD p ∧ prB p = true := by
  unfold prOf at h
  split at h
  · split at h
    · cases h; exact ⟨rfl, by assumption⟩
    · cases h
  · cases h
theorem prsOf_eq : ∀ {ds : List D} {ps : List Pr}, prsOf ds = some ps → ds = ps.map prD ∧ ∀ p ∈ ps, prB p = true
  | [], _, h => by cases h; exact ⟨rfl, fun _ z => nomatch z⟩
  | d :: r, _, h => by
    unfold prsOf at h
    obtain ⟨p, h1, h⟩ := Option.bind_eq_some_iff.mp h
    obtain ⟨ps, h2, h3⟩ := Option.map_eq_some_iff.mp h
    cases h3
    obtain ⟨e1, b1⟩ := prOf_eq h1
    obtain ⟨e2, b2⟩ := prsOf_eq h2
    exact ⟨by rw [e1, e2]; rfl, fun q hq => (List.mem_cons.mp hq).elim (fun e => e ▸ b1) (b2 q)⟩
theorem prB_eq {p : Pr} (h : prB p = true) : (0 ≤ p.1 ∧ p.1 < 64) ∧ 0 ≤ p.2 ∧ p.2 < 64 := by
  unfold prB at h
  simp only [Bool.and_eq_true, decide_eq_true_eq] at h
  exact ⟨⟨h.1.1.1, h.1.1.2⟩, h.1.2, h.2⟩
theorem prC_code (p : Pr) : TS.code 64 (prK p) = prC p := code_pair p.1 p.2
theorem prC_inj {p q : Pr} (hp : prB p = true) (hq : prB q = true) (h : prC p = prC q) : p = q := by
  have a := prB_eq hp
  have b := prB_eq hq
  unfold prC at h
  exact Prod.ext (by omega) (by omega)
theorem srtP_mem {ps : List Pr} {p : Pr} : p ∈ srtP ps ↔ p ∈ ps := by
  unfold srtP
  rw [List.mem_mergeSort, ddp_mem]
/-- the pairs' cells -/
theorem cells {K : PySem.W.Frag} {G : Hp} : ∀ {vs : List V} {ps : List Pr}, RpAll K G vs (ps.map prD) → ∃ ks : List (Addr × Pr), vs = ks.map (fun q => V.ref q.1) ∧ ks.map (·.2) = ps ∧ ∀ q ∈ ks, Rp K G (.ref q.1) (prD q.2)
  | [], [], _ => ⟨[], rfl, rfl, fun _ z => nomatch z⟩
  | v :: vs, p :: ps, r => by
    cases r with
    | cons r1 r2 =>
      obtain ⟨ks, e1, e2, h⟩ := cells r2
      obtain ⟨a, rfl⟩ : ∃ a, v = .ref a := by
        unfold prD at r1
        cases r1 with
        | tup e r => exact ⟨_, rfl⟩
      exact ⟨(a, p) :: ks, by rw [e1]; rfl, by rw [List.map_cons, e2], fun q hq => (List.mem_cons.mp hq).elim (fun e => e ▸ r1) (h q)⟩
theorem cell_sq {K : PySem.W.Frag} {H G : Hp} {a : Addr} {p : Pr} (gh : Same G H) (r : Rp K G (.ref a) (prD p)) : SqT K H a ((prK p).map V.int) := by
  unfold prD at r
  cases r with
  | tup e r =>
    cases r with
    | cons r1 r2 =>
      cases r2 with
      | cons r2 r3 =>
        cases r1
        cases r2
        cases r3
        exact .inl (rdM gh e.rd)
theorem pairs_rp {K : PySem.W.Frag} {G : Hp} : ∀ {L : List (Addr × Pr)}, (∀ q ∈ L, Rp K G (.ref q.1) (prD q.2)) → RpAll K G (L.map fun q => V.ref q.1) ((L.map (·.2)).map prD)
  | [], _ => .nil
  | q :: L, h => .cons (h q (List.mem_cons_self ..)) (pairs_rp fun r hr => h r (List.mem_cons_of_mem _ hr))
/-- a list of cells with keys, as cells with pairs -/
theorem back_pr {ks : List (Addr × Pr)} : ∀ {L : List (Addr × List Int)}, (∀ q ∈ L, q ∈ ks.map fun r => (r.1, prK r.2)) → ∃ M : List (Addr × Pr), L = M.map (fun r => (r.1, prK r.2)) ∧ ∀ r ∈ M, r ∈ ks
  | [], _ => ⟨[], rfl, fun _ z => nomatch z⟩
  | q :: L, h => by
    obtain ⟨M, e, hm⟩ := back_pr (L := L) fun r hr => h r (List.mem_cons_of_mem _ hr)
    obtain ⟨r, hr, e2⟩ := List.mem_map.mp (h q (List.mem_cons_self ..))
    exact ⟨r :: M, by rw [e, ← e2]; rfl, fun s hs => (List.mem_cons.mp hs).elim (fun e => e ▸ hr) (hm s)⟩
theorem prK_inj {p q : Pr} (h : prK p = prK q) : p = q := by
  unfold prK at h
  injection h with h1 h2
  injection h2 with h2 _
  exact Prod.ext h1 h2
/-- what is sorted is the one list that rises and has those pairs -/
theorem srtP_one {ps R : List Pr} (hb : ∀ p ∈ ps, prB p = true) (nd : R.Nodup) (hm : ∀ p, p ∈ R ↔ p ∈ ps) (hs : R.Pairwise fun a b => prC a ≤ prC b) : srtP ps = R := by
  have nd2 : (srtP ps).Nodup := by
    unfold srtP
    exact (List.mergeSort_perm _ _).nodup_iff.mpr (ddp_nd ps)
  refine List.Perm.eq_of_pairwise (le := fun a b => prC a ≤ prC b) (fun a b ha hb' h1 h2 => ?_) ?_ hs ((List.perm_ext_iff_of_nodup nd2 nd).mpr fun p => srtP_mem.trans (hm p).symm)
  · exact prC_inj (hb a (srtP_mem.mp ha)) (hb b ((hm b).mp hb')) (by omega)
  · have := List.pairwise_mergeSort (le := fun a b : Pr => decide (prC a ≤ prC b)) (fun a b c h1 h2 => by simp only [decide_eq_true_eq] at *; omega) (fun a b => by simp only [Bool.or_eq_true, decide_eq_true_eq]; omega) (ddp ps)
    exact this.imp fun h => of_decide_eq_true h
theorem e_srtSet {X : Cx} {a : Expr} {fa : Den} {p p2 q pos : Pos} (hc : X.calm = true) (hu : X.A.units + 64 < cLine) (hg : Gl X "sorted") (hm : X.mg "sorted" = none) (hg2 : Gl X "set") (hm2 : X.mg "set" = none) (na : isStar a = false) (ha : PE X a (tE X.K .bw fa)) :
    PE X (.Call (.Name "sorted" p) [.Call (.Name "set" p2) [a] [] q] [] pos) (tE X.K .ow (d1 aSrtSet fa)) :=
  peW (pe_callB (cr_sortedT hc) hg hm (by decide +kernel) (pa_cons (pe_callTy (cr_setOfT hc hu) hg2 hm2 (by decide +kernel) (pa_cons ha pa_nil (st1 na)) (by decide) (by decide) (st1 na) (back_ok _ _ _ rfl)) pa_nil (st1 rfl)) (by decide) (by decide) (st1 rfl) (back_ok _ _ _ rfl)) fun σ H Q ⟨H0, G0, G, ρ, d, ok, hf, qq⟩ => by
    obtain ⟨x, hx, hd⟩ := d1_eq hf
    unfold aSrtSet at hd
    split at hd
    · rename_i ds
      split at hd
      · rename_i hl
        obtain ⟨ps, hp, hd⟩ := Option.map_eq_some_iff.mp hd
        subst hd
        obtain ⟨e1, hb⟩ := prsOf_eq hp
        subst e1
        refine ⟨H0, G0, G, ρ, _, ok, hx, fun v H1 G1 s r => ?_⟩
        obtain ⟨l, vs, rfl, h1, rr⟩ := Rb.lst s.gh r
        obtain ⟨ks, ev, ek, hk⟩ := cells rr
        subst ev
        refine ⟨l, ks.map fun r => (r.1, prK r.2), rfl, ?_, ?_, ?_, ?_⟩
        · rw [List.map_map]; exact .inl h1
        · intro r hr
          obtain ⟨c, hc', rfl⟩ := List.mem_map.mp hr
          exact cell_sq s.gh (hk c hc')
        · rw [List.length_map, ← List.length_map (f := (·.2)), ek]
          rw [List.length_map] at hl
          exact hl
        · intro b L hb0 hL1 hL2
          obtain ⟨M, eM, hM⟩ := back_pr hL1
          subst eM
          have s2 : Step H1 G1 (upd H1 b (SetTO X.prog X.w b (M.map fun r => (r.1, prK r.2)))) G1 := Step.new' s.gh hb0
          refine ⟨b, _, 2, 64, rfl, upd_same, ?_, by omega, ?_, ?_⟩
          · intro r hr
            obtain ⟨c, hc', rfl⟩ := List.mem_map.mp hr
            exact cell_sq s2.gh (hk c (hM c hc'))
          · intro r hr
            obtain ⟨c, hc', rfl⟩ := List.mem_map.mp hr
            have hcb : prB c.2 = true := hb c.2 (by rw [← ek]; exact List.mem_map_of_mem (hM c hc'))
            have := prB_eq hcb
            refine ⟨rfl, fun m hm => ?_⟩
            unfold prK at hm
            simp only [List.mem_cons, List.not_mem_nil, or_false] at hm
            rcases hm with rfl | rfl
            · exact this.1
            · exact this.2
          · intro L' p' pm nd _ pw hp'
            obtain ⟨N, eN, hN⟩ := back_pr (ks := M) (L := L') fun r hr => pm.mem_iff.mp hr
            subst eN
            have s3 : Step (upd H1 b (SetTO X.prog X.w b (M.map fun r => (r.1, prK r.2)))) G1 (upd (upd H1 b (SetTO X.prog X.w b (M.map fun r => (r.1, prK r.2)))) p' (.lst (N.map fun r => V.ref r.1))) G1 ∧ Res X.K _ _ G1 (.ref p') (.list ((N.map (·.2)).map prD)) .ow := ow_new s2.gh hp' (pairs_rp fun r hr => hk r (hM r (hN r hr)))
            have eN2 : N.map (·.2) = srtP ps := by
              symm
              refine srtP_one hb ?_ (fun z => ?_) ?_
              · rw [List.map_map] at nd
                exact List.Pairwise.of_map (S := fun a b : List Int => a ≠ b) prK (fun a b hne e => hne (congrArg prK e)) (by rw [List.map_map]; exact nd)
              · constructor
                · intro hz
                  obtain ⟨r, hr, rfl⟩ := List.mem_map.mp hz
                  rw [← ek]
                  exact List.mem_map_of_mem (hM r (hN r hr))
                · intro hz
                  rw [← ek] at hz
                  obtain ⟨r, hr, rfl⟩ := List.mem_map.mp hz
                  have h2 := hL2 (r.1, prK r.2) (List.mem_map_of_mem hr)
                  rw [List.map_map] at h2
                  obtain ⟨m, hm', e⟩ := List.mem_map.mp h2
                  have hmN : (m.1, prK m.2) ∈ N.map fun r => (r.1, prK r.2) := pm.mem_iff.mpr (List.mem_map_of_mem hm')
                  obtain ⟨n, hn, e3⟩ := List.mem_map.mp hmN
                  injection e3 with _ e3
                  have : n.2 = r.2 := prK_inj (e3.trans e)
                  rw [← this]
                  exact List.mem_map_of_mem hn
              · rw [List.pairwise_map] at pw ⊢
                exact pw.imp fun h => by rw [prC_code, prC_code] at h; exact h
            rw [eN2] at s3
            have : (N.map fun r => (r.1, prK r.2)).map (fun q => V.ref q.1) = N.map fun r => V.ref r.1 := by rw [List.map_map]; rfl
            rw [this]
            exact qq _ _ _ ((s.trans s2).trans s3.1) (Res.back (s.trans s2) s3.2)
      · cases hd
    · cases hd
end PF
namespace PF
open PySem PySem.Spec PyProof.Rows L2 RZ
/-! ### from the text to its meaning: a function, and that it is right -/
structure Ctx where
  N : List Str
  sc : Scope
  blk : Option Scope
  fns : List (Str × Nat × (List D → Option D))
  gls : List (Str × D)
  own : List Nat
  wf : Nat
  fks : List (Str × List Str × Nat × Bool × (List D → List D → Option D)) := []
  ro : Bool := false
  dic : List Nat := []
def bltNames : List Str := ["len", "sum", "all", "any", "min", "max", "tuple", "list", "range", "enumerate", "zip", "isinstance", "int", "bool", "str", "sorted", "set", "abs"]
def fnB (Γ : Ctx) (x : Str) : Bool := match Γ.blk with
  | none => true
  | some s => s.names.lookup x == some .cell || Γ.sc.names.lookup x == some .local
structure XOk (k : Nat) (Γ : Ctx) (X : Cx) : Prop where
  N : X.N = Γ.N
  nd : X.N.Nodup
  sc : X.env.scope = Γ.sc
  calm : X.calm = true
  room : Room k X.A
  xe : X.xe = fun _ _ => False
  fn : ∀ x, fnB Γ x = true → X.fn x = true ∨ X.env.scope.names.lookup x = some .local
  fns : ∀ x n g, Γ.fns.lookup x = some (n, g) → ∃ fa fd ps, X.mg x = some (.ref fa) ∧ PySem.W.keepIn X.K (.ref fa) = true ∧ Binds X.K fd ps [] ∧ FnOk X.prog X.w X.K X.mg X.base CX0 k fa fd ps (spF X.K n g)
  fks : ∀ x ks n o F, (x, ks, n, o, F) ∈ Γ.fks → AvK X.prog X.w X.K X.mg X.base k x ks n o F
  blt : ∀ x ∈ bltNames, X.mg x = none
  gls : ∀ x d, Γ.gls.lookup x = some d → ∃ v u, X.mg x = some u ∧ RelV v u ∧ (∀ G, Rp X.K G v d) ∧ ∀ xs, d ≠ .list xs
theorem ite_some {α : Type} {c : Prop} [Decidable c] {a : Option α} {b : α} (h : (if c then a else none) = some b) : c ∧ a = some b := by
  split at h
  · exact ⟨by assumption, h⟩
  · cases h
theorem bind_some {α β : Type} {a : Option α} {f : α → Option β} {b : β} (h : a.bind f = some b) : ∃ x, a = some x ∧ f x = some b := by
  cases a with
  | none => cases h
  | some x => exact ⟨x, rfl, h⟩
theorem map_some {α β : Type} {a : Option α} {f : α → β} {b : β} (h : a.map f = some b) : ∃ x, a = some x ∧ f x = b := by
  cases a with
  | none => cases h
  | some x => exact ⟨x, rfl, Option.some.inj h⟩
def slotOf : List Str → Str → Option Nat
  | [], _ => none
  | y :: r, x => if y = x then some 0 else (slotOf r x).map (· + 1)
theorem slotOf_get : ∀ {N : List Str} {x : Str} {i : Nat}, slotOf N x = some i → N[i]? = some x
  | [], _, _, h => by cases h
  | y :: r, x, i, h => by
    unfold slotOf at h
    split at h
    · rename_i e
      cases h
      rw [e]
      rfl
    · obtain ⟨j, h1, h2⟩ := map_some h
      subst h2
      simpa using slotOf_get h1
def okNm (x : Str) : Bool := (x == ("__debug__" : Str)) == false && (x == ("__classdict__" : Str)) == false && decide (x ≠ "__name__")
theorem okNm_eq {x : Str} (h : okNm x = true) : (x == ("__debug__" : Str)) = false ∧ (x == ("__classdict__" : Str)) = false ∧ x ≠ "__name__" := by
  unfold okNm at h
  simp only [Bool.and_eq_true, beq_iff_eq, decide_eq_true_eq] at h
  exact ⟨h.1.1, h.1.2, h.2⟩
def visB (sc : Scope) (x : Str) : Bool := match sc.names.lookup x with
  | some .local => true
  | some .cell => true
  | some .free => true
  | _ => false
theorem visB_eq {sc : Scope} {x : Str} (h : visB sc x = true) : Vis sc x := by
  unfold visB at h
  split at h <;> first | exact .inl (by assumption) | exact .inr (.inl (by assumption)) | exact .inr (.inr (by assumption)) | cases h
def locB (sc : Scope) (x : Str) : Bool := match sc.names.lookup x with
  | some .local => true
  | some .cell => true
  | _ => false
theorem locB_eq {sc : Scope} {x : Str} (h : locB sc x = true) : Loc sc x := by
  unfold locB at h
  split at h <;> first | exact .inl (by assumption) | exact .inr (by assumption) | cases h
def glB (sc : Scope) (x : Str) : Bool := sc.names.lookup x == some .globalImplicit && okNm x
def cVar (Γ : Ctx) (x : Str) : Option Nat := if visB Γ.sc x = true ∧ okNm x = true then slotOf Γ.N x else none
section
variable {k : Nat} {Γ : Ctx} {X : Cx}
theorem XOk.gl (ok : XOk k Γ X) {x : Str} (h : glB Γ.sc x = true) : Gl X x ∧ x ≠ "__name__" ∧ (x == ("__debug__" : Str)) = false := by
  unfold glB at h
  simp only [Bool.and_eq_true, beq_iff_eq] at h
  refine ⟨?_, (okNm_eq h.2).2.2, (okNm_eq h.2).1⟩
  show X.env.scope.names.lookup x = some .globalImplicit
  rw [ok.sc]
  exact h.1
theorem XOk.var (ok : XOk k Γ X) {x : Str} {i : Nat} (h : cVar Γ x = some i) : X.N[i]? = some x ∧ Vis X.env.scope x ∧ (x == ("__debug__" : Str)) = false ∧ (x == ("__classdict__" : Str)) = false := by
  obtain ⟨⟨h1, h2⟩, h3⟩ := ite_some h
  exact ⟨by rw [ok.N]; exact slotOf_get h3, by rw [ok.sc]; exact visB_eq h1, (okNm_eq h2).1, (okNm_eq h2).2.1⟩
theorem XOk.bl (ok : XOk k Γ X) {x : Str} (h : decide (x ∈ bltNames) = true) : X.mg x = none := ok.blt x (of_decide_eq_true h)
theorem XOk.u65 (ok : XOk k Γ X) : X.A.units + 65 < cLine := by have := ok.room.un; omega
end
abbrev Rec := Ctx → Expr → Option (Den × Bool)
def isIf : Expr → Bool
  | .IfExp .. => true
  | _ => false
def Snd (k : Nat) (r : Rec) : Prop := ∀ Γ e f b, r Γ e = some (f, b) → ∀ X, XOk k Γ X → PE X e (tE X.K .fz f) ∧ (b = true → PE X e (tE X.K .ow f)) ∧ (isIf e = false → PT X e (tT X.K (dT f)))
section
variable {k : Nat} {r : Rec} {Γ : Ctx} {X : Cx} {e : Expr} {f : Den} {b : Bool} {pos p : Pos}
theorem snd_ow (h : PE X e (tE X.K .ow f)) (ht : isIf e = false → PT X e (tT X.K (dT f))) : PE X e (tE X.K .fz f) ∧ (b = true → PE X e (tE X.K .ow f)) ∧ (isIf e = false → PT X e (tT X.K (dT f))) := ⟨fz_ow h, fun _ => h, ht⟩
theorem snd_owV (h : PE X e (tE X.K .ow f)) (he : ∀ whole, isTrue e X.env whole = (do let v ← whole; standAt e.pos; holding [v] (truthy v))) : PE X e (tE X.K .fz f) ∧ (b = true → PE X e (tE X.K .ow f)) ∧ (isIf e = false → PT X e (tT X.K (dT f))) := snd_ow h fun _ => t_val (fz_ow h) he
theorem snd_fzV (h : PE X e (tE X.K .fz f)) (he : ∀ whole, isTrue e X.env whole = (do let v ← whole; standAt e.pos; holding [v] (truthy v))) : PE X e (tE X.K .fz f) ∧ (false = true → PE X e (tE X.K .ow f)) ∧ (isIf e = false → PT X e (tT X.K (dT f))) := ⟨h, fun z => absurd z Bool.false_ne_true, fun _ => t_val h he⟩
/-- a name that holds a dict of the frame's own -/
def dicOf (Γ : Ctx) : Expr → Option Nat
  | .Name x _ => (cVar Γ x).bind fun i => if i ∈ Γ.dic then some i else none
  | _ => none
theorem dicOf_ok {i : Nat} (h : dicOf Γ e = some i) (ok : XOk k Γ X) : ∃ x p, e = .Name x p ∧ NmOk X i x := by
  unfold dicOf at h
  split at h
  · obtain ⟨j, h1, h⟩ := bind_some h
    obtain ⟨_, h⟩ := ite_some h
    cases h
    obtain ⟨v1, v2, v3, v4⟩ := ok.var h1
    exact ⟨_, _, rfl, ⟨v1, v2, v3, v4⟩⟩
  · cases h
/-! names, constants -/
def cName (Γ : Ctx) (x : Str) : Option (Den × Bool) := match cVar Γ x with
  | some i => some (dVar i, false)
  | none => if glB Γ.sc x = true then (Γ.gls.lookup x).map fun d => (dC d, true) else none
theorem name_snd (h : cName Γ x = some (f, b)) (ok : XOk k Γ X) : PE X (.Name x pos) (tE X.K .fz f) ∧ (b = true → PE X (.Name x pos) (tE X.K .ow f)) ∧ (isIf (.Name x pos) = false → PT X (.Name x pos) (tT X.K (dT f))) := by
  unfold cName at h
  split at h
  · rename_i i e1
    cases h
    obtain ⟨h1, h2, h3, h4⟩ := ok.var e1
    exact snd_fzV (e_var h1 h2 h3 h4) (fun _ => rfl)
  · obtain ⟨h1, h2⟩ := ite_some h
    obtain ⟨d, h3, h4⟩ := map_some h2
    cases h4
    obtain ⟨g1, g2, g3⟩ := ok.gl h1
    obtain ⟨v, u, m1, m2, m3, m4⟩ := ok.gls x d h3
    exact snd_owV (e_const (pe_glob g1 m1 m2 g3) m3 m4) (fun _ => rfl)
def cB (r : Rec) (Γ : Ctx) (e : Expr) : Option Den := match e with
  | .Name x p => match cVar Γ x with
    | some i => some (dVarB i)
    | none => (r Γ (.Name x p)).map (·.1)
  | e => (r Γ e).map (·.1)
theorem cB_snd (hr : Snd k r) (h : cB r Γ e = some f) (ok : XOk k Γ X) : PE X e (tE X.K .bw f) := by
  unfold cB at h
  split at h
  · rename_i x p
    split at h
    · rename_i i e1
      cases h
      obtain ⟨h1, h2, h3, h4⟩ := ok.var e1
      exact e_varB h1 h2 h3 h4
    · obtain ⟨⟨g, b⟩, h1, h2⟩ := map_some h
      cases h2
      exact bw_fz (hr _ _ _ _ h1 X ok).1
  · obtain ⟨⟨g, b⟩, h1, h2⟩ := map_some h
    cases h2
    exact bw_fz (hr _ _ _ _ h1 X ok).1
def cF (r : Rec) (Γ : Ctx) (e : Expr) : Option Den := (r Γ e).map (·.1)
theorem cF_snd (hr : Snd k r) (h : cF r Γ e = some f) (ok : XOk k Γ X) : PE X e (tE X.K .fz f) ∧ (isIf e = false → PT X e (tT X.K (dT f))) := by
  obtain ⟨⟨g, b⟩, h1, h2⟩ := map_some h
  cases h2
  exact ⟨(hr _ _ _ _ h1 X ok).1, (hr _ _ _ _ h1 X ok).2.2⟩
def cConst : Const → Option (Den × Bool)
  | .int i => some (dC (.int i), true)
  | .bool i => some (dC (.bool i), true)
  | .str i => some (dC (.str i), true)
  | .none => some (dC .none, true)
  | _ => none
def cBin (r : Rec) (Γ : Ctx) (a : Expr) (op : Operator) (b : Expr) : Option (Den × Bool) := (cB r Γ a).bind fun fa => (cB r Γ b).bind fun fb => match op with
  | .Add => some (d2 aAdd fa fb, true)
  | .Sub => some (d2 aSub fa fb, true)
  | .Mult => some (d2 aMul fa fb, true)
  | .Mod => some (d2 aMod fa fb, true)
  | .FloorDiv => some (d2 aDiv fa fb, true)
  | .Pow => some (d2 aPow fa fb, true)
  | _ => none
theorem bin_snd {a c : Expr} {op : Operator} (hr : Snd k r) (h : cBin r Γ a op c = some (f, b)) (ok : XOk k Γ X) : PE X (.BinOp a op c pos) (tE X.K .fz f) ∧ (b = true → PE X (.BinOp a op c pos) (tE X.K .ow f)) ∧ (isIf (.BinOp a op c pos) = false → PT X (.BinOp a op c pos) (tT X.K (dT f))) := by
  obtain ⟨fa, h1, h⟩ := bind_some h
  obtain ⟨fb, h2, h⟩ := bind_some h
  have ha := cB_snd hr h1 ok
  have hb := cB_snd hr h2 ok
  cases op <;> first | (cases h; done) | skip
  · cases h; exact snd_owV (e_add ha hb) (fun _ => rfl)
  · cases h; exact snd_owV (e_sub ha hb) (fun _ => rfl)
  · cases h; exact snd_owV (e_mul ha hb) (fun _ => rfl)
  · cases h; exact snd_owV (e_mod ha hb) (fun _ => rfl)
  · cases h; exact snd_owV (e_pow ha hb) (fun _ => rfl)
  · cases h; exact snd_owV (e_div ha hb) (fun _ => rfl)
def cUn (r : Rec) (Γ : Ctx) (op : UnaryOp) (a : Expr) : Option (Den × Bool) := match op with
  | .USub => (cB r Γ a).map fun f => (d1 aNeg f, true)
  | .Not => if isIf a = false then (cF r Γ a).map fun f => (dNot f, true) else none
  | _ => none
theorem un_snd {a : Expr} {op : UnaryOp} (hr : Snd k r) (h : cUn r Γ op a = some (f, b)) (ok : XOk k Γ X) : PE X (.UnaryOp op a pos) (tE X.K .fz f) ∧ (b = true → PE X (.UnaryOp op a pos) (tE X.K .ow f)) ∧ (isIf (.UnaryOp op a pos) = false → PT X (.UnaryOp op a pos) (tT X.K (dT f))) := by
  cases op with
  | USub =>
    obtain ⟨g, h1, h2⟩ := map_some h
    cases h2
    exact snd_owV (e_neg (cB_snd hr h1 ok)) (fun _ => rfl)
  | Not =>
    obtain ⟨hi, h⟩ := ite_some h
    obtain ⟨g, h1, h2⟩ := map_some h
    cases h2
    obtain ⟨q1, q2⟩ := cF_snd hr h1 ok
    exact snd_ow (e_not q1) fun _ => t_not (q2 hi)
  | _ => cases h
/-! and, or -/
def cBools (r : Rec) (Γ : Ctx) (op : BoolOp) : List Expr → Option Den
  | [] => none
  | [a] => if isIf a = false then cF r Γ a else none
  | a :: c :: rest => if isIf a = false then (cF r Γ a).bind fun fa => (cBools r Γ op (c :: rest)).map fun fr => (match op with | .And => dAnd fa fr | .Or => dOr fa fr) else none
theorem bools_snd {op : BoolOp} (hr : Snd k r) (ok : XOk k Γ X) : ∀ {vs : List Expr} {f : Den}, cBools r Γ op vs = some f → PE X (.BoolOp op vs pos) (tE X.K .fz f) ∧ PW X (.BoolOp op vs pos) (tT X.K (dT f))
  | [], _, h => by cases h
  | [a], f, h => by
    obtain ⟨hi, h⟩ := ite_some h
    obtain ⟨q1, q2⟩ := cF_snd hr h ok
    refine ⟨pe_one q1, ?_⟩
    cases op with
    | And => exact pw_and1 (q2 hi)
    | Or => exact pw_or1 (q2 hi)
  | a :: c :: rest, f, h => by
    obtain ⟨hi, h⟩ := ite_some h
    obtain ⟨fa, h1, h⟩ := bind_some h
    obtain ⟨fr, h2, h3⟩ := map_some h
    obtain ⟨q1, q2⟩ := cF_snd hr h1 ok
    obtain ⟨r1, r2⟩ := bools_snd hr ok h2
    cases op with
    | And =>
      cases h3
      exact ⟨e_and q1 r1, w_and (q2 hi) r2⟩
    | Or =>
      cases h3
      exact ⟨e_or q1 r1, w_or (q2 hi) r2⟩
def isSet : Expr → Bool
  | .Set .. => true
  | _ => false
theorem mark_ok {op : CmpOp} {c : Expr} (h : isSet c = false) : behindInMarks op c = false := by
  cases c <;> first | rfl | (exact absurd h (by simp [isSet]))
def cCmp (r : Rec) (Γ : Ctx) (a : Expr) : List CmpOp → List Expr → Option (Den × Bool)
  | [op], [c] => match (match op with | .In => some false | .NotIn => some true | _ => none), dicOf Γ c with
    | some n, some i => (cB r Γ a).map fun fa => (dInN n fa i, true)
    | _, _ => if isSet c = false then (cB r Γ a).bind fun fa => (cB r Γ c).map fun fc => (d2 (aCmp op) fa fc, true) else none
  | [op, op'], [c, d] => if isSet d = false then (cB r Γ a).bind fun fa => (cB r Γ c).bind fun fc => (cB r Γ d).map fun fd => (dChain (aCmp op) (aCmp op') fa fc fd, true) else none
  | _, _ => none
theorem cmp_snd {a : Expr} {ops : List CmpOp} {cs : List Expr} (hr : Snd k r) (h : cCmp r Γ a ops cs = some (f, b)) (ok : XOk k Γ X) : PE X (.Compare a ops cs pos) (tE X.K .fz f) ∧ (b = true → PE X (.Compare a ops cs pos) (tE X.K .ow f)) ∧ (isIf (.Compare a ops cs pos) = false → PT X (.Compare a ops cs pos) (tT X.K (dT f))) := by
  unfold cCmp at h
  split at h
  · rename_i op c
    split at h
    · rename_i n i eo ed
      obtain ⟨fa, h1, h⟩ := map_some h
      cases h
      have ha := cB_snd hr h1 ok
      obtain ⟨x, px, rfl, hn⟩ := dicOf_ok ed ok
      have eop : op = inOp n := by cases op <;> first | (cases eo; rfl) | (cases eo)
      subst eop
      exact snd_ow (e_inN ok.u65 hn (mark_ok rfl) ha) fun _ => t_inN ok.u65 hn (mark_ok rfl) ha
    · obtain ⟨hs, h⟩ := ite_some h
      obtain ⟨fa, h1, h⟩ := bind_some h
      obtain ⟨fc, h2, h⟩ := map_some h
      cases h
      have ha := cB_snd hr h1 ok
      have hc := cB_snd hr h2 ok
      exact snd_ow (e_cmp1 ok.u65 (mark_ok hs) ha hc) fun _ => t_cmp1 ok.u65 (mark_ok hs) ha hc
  · obtain ⟨hs, h⟩ := ite_some h
    obtain ⟨fa, h1, h⟩ := bind_some h
    obtain ⟨fc, h2, h⟩ := bind_some h
    obtain ⟨fd, h3, h⟩ := map_some h
    cases h
    have ha := cB_snd hr h1 ok
    have hc := cB_snd hr h2 ok
    have hd := cB_snd hr h3 ok
    exact snd_ow (e_chain ok.u65 (mark_ok hs) ha hc hd) fun _ => t_chain ok.u65 (mark_ok hs) ha hc hd
  · cases h
/-! lists of expressions -/
def cArgs (r : Rec) (Γ : Ctx) : List Expr → Option (List Den)
  | [] => some []
  | e :: es => if isStar e = false then (cF r Γ e).bind fun f => (cArgs r Γ es).map fun fs => f :: fs else none
theorem args_snd (hr : Snd k r) (ok : XOk k Γ X) : ∀ {es : List Expr} {fs : List Den}, cArgs r Γ es = some fs → PA X es (tA X.K (dArgs fs)) ∧ es.all (fun e => !isStar e) = true
  | [], _, h => by cases h; exact ⟨a_nil, rfl⟩
  | e :: es, _, h => by
    obtain ⟨hs, h⟩ := ite_some h
    obtain ⟨f, h1, h⟩ := bind_some h
    obtain ⟨fs, h2, h⟩ := map_some h
    cases h
    obtain ⟨q1, q2⟩ := args_snd hr ok h2
    exact ⟨a_cons hs (cF_snd hr h1 ok).1 q1, by simp only [List.all_cons, hs, q2]; rfl⟩
def cArgsB (r : Rec) (Γ : Ctx) : List Expr → Option (List Den)
  | [] => some []
  | e :: es => if isStar e = false then (cB r Γ e).bind fun f => (cArgsB r Γ es).map fun fs => f :: fs else none
theorem argsB_snd (hr : Snd k r) (ok : XOk k Γ X) : ∀ {es : List Expr} {fs : List Den}, cArgsB r Γ es = some fs → PA X es (tAb X.K (dArgs fs)) ∧ es.all (fun e => !isStar e) = true
  | [], _, h => by cases h; exact ⟨ab_nil, rfl⟩
  | e :: es, _, h => by
    obtain ⟨hs, h⟩ := ite_some h
    obtain ⟨f, h1, h⟩ := bind_some h
    obtain ⟨fs, h2, h⟩ := map_some h
    cases h
    obtain ⟨q1, q2⟩ := argsB_snd hr ok h2
    exact ⟨ab_cons hs (cB_snd hr h1 ok) q1, by simp only [List.all_cons, hs, q2]; rfl⟩
/-! items, slices -/
def cOpt (r : Rec) (Γ : Ctx) : Option Expr → Option (Option Den)
  | none => some none
  | some e => (cB r Γ e).map some
theorem opt_snd (hr : Snd k r) (ok : XOk k Γ X) {o : Option Expr} {fo : Option Den} (h : cOpt r Γ o = some fo) : PO X o (tO X.K fo) := by
  cases o with
  | none => cases h; exact o_none
  | some e =>
    obtain ⟨f, h1, h2⟩ := map_some h
    cases h2
    exact o_some (cB_snd hr h1 ok)
def cSub (r : Rec) (Γ : Ctx) (a c : Expr) : Option (Den × Bool) := match c with
  | .Slice none none (some (.UnaryOp .USub (.Constant (.int i) _ _) _)) _ => if i = 1 then (cB r Γ a).map fun fa => (d1 aRev fa, true) else none
  | .Slice lo hi none _ => (cB r Γ a).bind fun fa => (cOpt r Γ lo).bind fun fl => (cOpt r Γ hi).map fun fh => (dCut fa fl fh, true)
  | c => if isSlice c = false then (match dicOf Γ a with
      | some i => (cB r Γ c).map fun fc => (dGetN i fc, false)
      | none => (cB r Γ a).bind fun fa => (cB r Γ c).map fun fc => (d2 aIx fa fc, false)) else none
theorem sub_snd {a c : Expr} (hr : Snd k r) (h : cSub r Γ a c = some (f, b)) (ok : XOk k Γ X) : PE X (.Subscript a c pos) (tE X.K .fz f) ∧ (b = true → PE X (.Subscript a c pos) (tE X.K .ow f)) ∧ (isIf (.Subscript a c pos) = false → PT X (.Subscript a c pos) (tT X.K (dT f))) := by
  unfold cSub at h
  split at h
  · obtain ⟨hi, h⟩ := ite_some h
    subst hi
    obtain ⟨fa, h1, h⟩ := map_some h
    cases h
    exact snd_owV (e_rev (cB_snd hr h1 ok)) (fun _ => rfl)
  · obtain ⟨fa, h1, h⟩ := bind_some h
    obtain ⟨fl, h2, h⟩ := bind_some h
    obtain ⟨fh, h3, h⟩ := map_some h
    cases h
    exact snd_owV (e_cut (cB_snd hr h1 ok) (opt_snd hr ok h2) (opt_snd hr ok h3)) (fun _ => rfl)
  · obtain ⟨hs, h⟩ := ite_some h
    split at h
    · rename_i i ed
      obtain ⟨fc, h2, h⟩ := map_some h
      cases h
      obtain ⟨x, px, rfl, hn⟩ := dicOf_ok ed ok
      exact snd_fzV (e_getN ok.u65 hn hs (cB_snd hr h2 ok)) (fun _ => rfl)
    obtain ⟨fa, h1, h⟩ := bind_some h
    obtain ⟨fc, h2, h⟩ := map_some h
    cases h
    exact snd_fzV (e_ix ok.u65 hs (cB_snd hr h1 ok) (cB_snd hr h2 ok)) (fun _ => rfl)
end
end PF
namespace PF
open PySem PySem.Spec PyProof.Rows L2 RZ
section
variable {k : Nat} {r : Rec} {Γ : Ctx} {X : Cx} {e : Expr} {f : Den} {b : Bool} {pos p : Pos}
/-! ### calls -/
def kdOf (x : Str) : Option Kd := if x = "int" then some .int else if x = "bool" then some .bool else if x = "str" then some .str else if x = "list" then some .list else if x = "tuple" then some .tuple else none
theorem boot_kd {x : Str} {kd : Kd} (h : kdOf x = some kd) : bootBuiltins x = some (.type kd.nm) ∧ x ∈ bltNames := by
  unfold kdOf at h
  split at h
  · rename_i e; cases h; rw [e]; exact ⟨by decide +kernel, by decide +kernel⟩
  · split at h
    · rename_i e; cases h; rw [e]; exact ⟨by decide +kernel, by decide +kernel⟩
    · split at h
      · rename_i e; cases h; rw [e]; exact ⟨by decide +kernel, by decide +kernel⟩
      · split at h
        · rename_i e; cases h; rw [e]; exact ⟨by decide +kernel, by decide +kernel⟩
        · split at h
          · rename_i e; cases h; rw [e]; exact ⟨by decide +kernel, by decide +kernel⟩
          · cases h
def cKs (Γ : Ctx) : List Expr → Option (List Kd)
  | [] => some []
  | .Name T _ :: es => if glB Γ.sc T = true then (kdOf T).bind fun kd => (cKs Γ es).map fun ks => kd :: ks else none
  | _ :: _ => none
theorem ks_snd (ok : XOk k Γ X) : ∀ {es : List Expr} {ks : List Kd}, cKs Γ es = some ks → KNames X es ks
  | [], _, h => by cases h; exact .nil
  | e :: es, ks, h => by
    cases e with
    | Name T pT =>
      obtain ⟨h1, h⟩ := ite_some h
      obtain ⟨kd, h2, h⟩ := bind_some h
      obtain ⟨ks', h3, h⟩ := map_some h
      cases h
      obtain ⟨g1, g2, g3⟩ := ok.gl h1
      obtain ⟨b1, b2⟩ := boot_kd h2
      exact .cons g1 (ok.blt _ b2) b1 g2 g3 (ks_snd ok h3)
    | _ => cases h
def cIsi (r : Rec) (Γ : Ctx) (a c : Expr) : Option (Den × Bool) := if isStar a = false then (cB r Γ a).bind fun fa => match c with
  | .Name T _ => if glB Γ.sc T = true then (kdOf T).map fun kd => (dIsi [kd] fa, true) else none
  | .Tuple es _ _ => (cKs Γ es).bind fun ks => if ks.length ≤ 1000 then some (dIsi ks fa, true) else none
  | _ => none
  else none
/-- a range's two ends -/
def cRg (r : Rec) (Γ : Ctx) : List Expr → Option (Env → Option (List D))
  | [a] => if isStar a = false then (cB r Γ a).map fun fa => dRg (dC (.int 0)) fa else none
  | [a, c] => if isStar a = false ∧ isStar c = false then (cB r Γ a).bind fun fa => (cB r Γ c).map fun fc => dRg fa fc else none
  | _ => none
def isRg (Γ : Ctx) : Expr → Bool
  | .Call (.Name x _) _ [] _ => decide (x = "range") && glB Γ.sc x
  | _ => false
def rgArgs : Expr → List Expr
  | .Call _ as _ _ => as
  | _ => []
def bltB (x : Str) : Option (List D → Option D) := if x = "len" then some bLen else if x = "sum" then some bSum else if x = "all" then some bAll else if x = "any" then some bAny else if x = "min" then some bMin else if x = "max" then some bMax else if x = "sorted" then some bSorted else none
theorem bltB_snd {x : Str} {g : List D → Option D} (hc : X.calm = true) (hu : X.A.units + 66 < cLine) (hu2 : X.A.units + 68 < cLine) (h : bltB x = some g) : x ∈ bltNames ∧ ∃ id rr, bootBuiltins x = some (.builtin id) ∧ CallR X (.builtin id) rr ∧ Cal X.K rr g .ow := by
  unfold bltB at h
  split at h
  · rename_i e; cases h; rw [e]; exact ⟨by decide +kernel, _, _, PySem.boot_len, call_len_seq.or call_len_str, cal_len⟩
  · split at h
    · rename_i e; cases h; rw [e]; exact ⟨by decide +kernel, _, _, (by decide +kernel : bootBuiltins "sum" = some (.builtin "sum")), cr_sum hc, cal_sum⟩
    · split at h
      · rename_i e; cases h; rw [e]; exact ⟨by decide +kernel, _, _, (by decide +kernel : bootBuiltins "all" = some (.builtin "all")), cr_all hc, cal_all⟩
      · split at h
        · rename_i e; cases h; rw [e]; exact ⟨by decide +kernel, _, _, (by decide +kernel : bootBuiltins "any" = some (.builtin "any")), cr_any hc, cal_any⟩
        · split at h
          · rename_i e; cases h; rw [e]; exact ⟨by decide +kernel, _, _, (by decide +kernel : bootBuiltins "min" = some (.builtin "min")), (call_min2 hc).or (cr_minD hc hu), cal_min⟩
          · split at h
            · rename_i e; cases h; rw [e]; exact ⟨by decide +kernel, _, _, (by decide +kernel : bootBuiltins "max" = some (.builtin "max")), (call_max2 hc).or (cr_maxD hc hu), cal_max⟩
            · split at h
              · rename_i e; cases h; rw [e]; exact ⟨by decide +kernel, _, _, (by decide +kernel : bootBuiltins "sorted" = some (.builtin "sorted")), cr_sortD hu2, cal_sort⟩
              · cases h
def lenOf (Γ : Ctx) (x : Str) (as : List Expr) : Option Nat := if x = "len" then (match as with | [a] => dicOf Γ a | _ => none) else none
theorem lenOf_eq {x : Str} {as : List Expr} {i : Nat} (h : lenOf Γ x as = some i) : x = "len" ∧ ∃ a, as = [a] ∧ dicOf Γ a = some i := by
  unfold lenOf at h
  obtain ⟨h1, h⟩ := ite_some h
  split at h
  · exact ⟨h1, _, rfl, h⟩
  · cases h
def srtOf (Γ : Ctx) (x : Str) (as : List Expr) : Option Expr := if x = "sorted" then (match as with | [.Call (.Name y _) [a] [] _] => if y = "set" ∧ glB Γ.sc "set" = true ∧ isStar a = false then some a else none | _ => none) else none
theorem srtOf_eq {x : Str} {as : List Expr} {a : Expr} (h : srtOf Γ x as = some a) : x = "sorted" ∧ glB Γ.sc "set" = true ∧ isStar a = false ∧ ∃ p q, as = [.Call (.Name "set" p) [a] [] q] := by
  unfold srtOf at h
  obtain ⟨h1, h⟩ := ite_some h
  split at h
  · obtain ⟨⟨h2, h3, h4⟩, h⟩ := ite_some h
    cases h
    subst h2
    exact ⟨h1, h3, h4, _, _, rfl⟩
  · cases h
def cCall (r : Rec) (Γ : Ctx) (x : Str) (as : List Expr) : Option (Den × Bool) := if glB Γ.sc x = true then
    match Γ.fns.lookup x with
    | some (n, g) => if as ≠ [] then (cArgs r Γ as).bind fun fs => if fs.length = n then some (dCall g fs, false) else none else none
    | none => if x = "isinstance" then (match as with | [a, c] => cIsi r Γ a c | _ => none)
      else if x = "tuple" then (match as with
        | [a] => if isRg Γ a = true then (cRg r Γ (rgArgs a)).map fun it => (dTupOf it, true) else (cArgsB r Γ [a]).map fun fs => (dCall bTuple fs, true)
        | _ => none)
      else if x = "list" then (match as with
        | [a] => if isRg Γ a = true then (cRg r Γ (rgArgs a)).map fun it => (dLstOf it, true) else (cArgsB r Γ [a]).map fun fs => (dCall bList fs, true)
        | _ => none)
      else if x = "bool" then (match as with
        | [a] => (cArgsB r Γ [a]).map fun fs => (dCall bBool fs, true)
        | _ => none)
      else match lenOf Γ x as with
      | some i => some (dLenN i, true)
      | none => match srtOf Γ x as with
      | some a => (cB r Γ a).map fun f => (d1 aSrtSet f, true)
      | none => (bltB x).bind fun g => if as ≠ [] then (cArgsB r Γ as).map fun fs => (dCall g fs, true) else none
  else none
theorem rg_shape {a : Expr} (h : isRg Γ a = true) : ∃ p2 l q2, a = .Call (.Name "range" p2) l [] q2 ∧ glB Γ.sc "range" = true ∧ rgArgs a = l := by
  unfold isRg at h
  split at h
  · rename_i x p2 l q2
    simp only [Bool.and_eq_true, decide_eq_true_eq] at h
    obtain ⟨h1, h2⟩ := h
    subst h1
    exact ⟨p2, l, q2, rfl, h2, rfl⟩
  · cases h
theorem call_snd {x : Str} {as : List Expr} (hr : Snd k r) (h : cCall r Γ x as = some (f, b)) (ok : XOk k Γ X) : PE X (.Call (.Name x p) as [] pos) (tE X.K .fz f) ∧ (b = true → PE X (.Call (.Name x p) as [] pos) (tE X.K .ow f)) ∧ (isIf (.Call (.Name x p) as [] pos) = false → PT X (.Call (.Name x p) as [] pos) (tT X.K (dT f))) := by
  replace h := ite_some h
  obtain ⟨hgl, h⟩ := h
  obtain ⟨g1, g2, g3⟩ := ok.gl hgl
  split at h
  · rename_i n g el
    obtain ⟨hne, h⟩ := ite_some h
    obtain ⟨fs, h1, h⟩ := bind_some h
    obtain ⟨hl, h⟩ := ite_some h
    cases h
    obtain ⟨q1, q2⟩ := args_snd hr ok h1
    obtain ⟨fa, fd, ps, m1, m2, m3, m4⟩ := ok.fns _ _ _ el
    cases as with
    | nil => exact absurd rfl hne
    | cons e es => exact snd_fzV (e_call m4 ok.room g1 m1 m2 m3 g3 hl q2 q1) (fun _ => rfl)
  · split at h
    · rename_i ex
      subst ex
      split at h
      · rename_i a c
        obtain ⟨hs, h⟩ := ite_some h
        obtain ⟨fa, h1, h⟩ := bind_some h
        have ha := cB_snd hr h1 ok
        split at h
        · obtain ⟨gT, h⟩ := ite_some h
          obtain ⟨kd, h2, h3⟩ := map_some h
          cases h3
          obtain ⟨t1, t2, t3⟩ := ok.gl gT
          obtain ⟨b1, b2⟩ := boot_kd h2
          exact snd_owV (e_isi g1 (ok.blt _ (by decide +kernel)) t1 (ok.blt _ b2) b1 t2 t3 hs ha) (fun _ => rfl)
        · obtain ⟨ks, h2, h⟩ := bind_some h
          obtain ⟨hl, h⟩ := ite_some h
          cases h
          exact snd_owV (e_isiT g1 (ok.blt _ (by decide +kernel)) (ks_snd ok h2) hl hs ha) (fun _ => rfl)
        · cases h
      · cases h
    · split at h
      · rename_i ex
        subst ex
        split at h
        · rename_i a
          split at h
          · rename_i hrg
            obtain ⟨it, h1, h2⟩ := map_some h
            cases h2
            obtain ⟨p2, l, q2, rfl, gr, el⟩ := rg_shape hrg
            rw [el] at h1
            obtain ⟨r1, _, _⟩ := ok.gl gr
            unfold cRg at h1
            split at h1
            · obtain ⟨hs, h1⟩ := ite_some h1
              obtain ⟨fa, h2, h3⟩ := map_some h1
              cases h3
              exact snd_owV (e_tupRg1 ok.calm g1 (ok.blt _ (by decide +kernel)) r1 (ok.blt _ (by decide +kernel)) hs (cB_snd hr h2 ok)) (fun _ => rfl)
            · obtain ⟨hs, h1⟩ := ite_some h1
              obtain ⟨fa, h2, h1⟩ := bind_some h1
              obtain ⟨fc, h3, h4⟩ := map_some h1
              cases h4
              exact snd_owV (e_tupRg2 ok.calm g1 (ok.blt _ (by decide +kernel)) r1 (ok.blt _ (by decide +kernel)) hs.1 hs.2 (cB_snd hr h2 ok) (cB_snd hr h3 ok)) (fun _ => rfl)
            · cases h1
          · obtain ⟨fs, h1, h2⟩ := map_some h
            cases h2
            obtain ⟨q1, q2⟩ := argsB_snd hr ok h1
            exact snd_owV (e_callTy TN.call_tupleN cal_tuple g1 (ok.blt _ (by decide +kernel)) (by decide +kernel) g2 g3 q2 q1) (fun _ => rfl)
        · cases h
      · split at h
        · rename_i ex
          subst ex
          split at h
          · rename_i a
            split at h
            · rename_i hrg
              obtain ⟨it, h1, h2⟩ := map_some h
              cases h2
              obtain ⟨p2, l, q2, rfl, gr, el⟩ := rg_shape hrg
              rw [el] at h1
              obtain ⟨r1, _, _⟩ := ok.gl gr
              unfold cRg at h1
              split at h1
              · obtain ⟨hs, h1⟩ := ite_some h1
                obtain ⟨fa, h2, h3⟩ := map_some h1
                cases h3
                exact snd_owV (e_listRg1 ok.calm g1 (ok.blt _ (by decide +kernel)) r1 (ok.blt _ (by decide +kernel)) hs (cB_snd hr h2 ok)) (fun _ => rfl)
              · obtain ⟨hs, h1⟩ := ite_some h1
                obtain ⟨fa, h2, h1⟩ := bind_some h1
                obtain ⟨fc, h3, h4⟩ := map_some h1
                cases h4
                exact snd_owV (e_listRg2 ok.calm g1 (ok.blt _ (by decide +kernel)) r1 (ok.blt _ (by decide +kernel)) hs.1 hs.2 (cB_snd hr h2 ok) (cB_snd hr h3 ok)) (fun _ => rfl)
              · cases h1
            · obtain ⟨fs, h1, h2⟩ := map_some h
              cases h2
              obtain ⟨q1, q2⟩ := argsB_snd hr ok h1
              exact snd_owV (e_callTy (call_list_of.or (DN.call_listN ok.calm)) cal_list g1 (ok.blt _ (by decide +kernel)) (by decide +kernel) g2 g3 q2 q1) (fun _ => rfl)
          · cases h
        · split at h
          · rename_i ex
            subst ex
            split at h
            · obtain ⟨fs, h1, h2⟩ := map_some h
              cases h2
              obtain ⟨q1, q2⟩ := argsB_snd hr ok h1
              exact snd_owV (e_callTy call_bool1 cal_bool g1 (ok.blt _ (by decide +kernel)) (by decide +kernel) g2 g3 q2 q1) (fun _ => rfl)
            · cases h
          · split at h
            · rename_i i el
              cases h
              obtain ⟨rfl, a, rfl, hd⟩ := lenOf_eq el
              obtain ⟨x, px, rfl, hn⟩ := dicOf_ok hd ok
              exact snd_owV (e_lenN hn g1 (ok.blt _ (by decide +kernel)) g2 g3) (fun _ => rfl)
            · split at h
              · rename_i a el
                obtain ⟨fa, h1, h2⟩ := map_some h
                cases h2
                obtain ⟨rfl, hs, hst, p2, q2, rfl⟩ := srtOf_eq el
                obtain ⟨s1, _, _⟩ := ok.gl hs
                exact snd_owV (e_srtSet ok.calm (by have := ok.room.un; omega) g1 (ok.blt _ (by decide +kernel)) s1 (ok.blt _ (by decide +kernel)) hst (cB_snd hr h1 ok)) (fun _ => rfl)
              · obtain ⟨g, hb, h⟩ := bind_some h
                obtain ⟨hne, h⟩ := ite_some h
                obtain ⟨fs, h1, h2⟩ := map_some h
                cases h2
                obtain ⟨q1, q2⟩ := argsB_snd hr ok h1
                obtain ⟨m1, id, rr, m2, m3, m4⟩ := bltB_snd (X := X) ok.calm (by have := ok.room.un; omega) (by have := ok.room.un; omega) hb
                cases as with
                | nil => exact absurd rfl hne
                | cons e es => exact snd_owV (e_callB m3 m4 g1 (ok.blt _ m1) m2 g2 g3 q2 q1) (fun _ => rfl)
def findK : List (Str × List Str × Nat × Bool × (List D → List D → Option D)) → Str → List Str → Option (Nat × Bool × (List D → List D → Option D))
  | [], _, _ => none
  | (y, ls, q) :: r, x, ks => if y = x ∧ ls = ks then some q else findK r x ks
theorem findK_mem : ∀ {l : List (Str × List Str × Nat × Bool × (List D → List D → Option D))} {x : Str} {ks : List Str} {n : Nat} {o : Bool} {F : List D → List D → Option D}, findK l x ks = some (n, o, F) → (x, ks, n, o, F) ∈ l
  | [], _, _, _, _, _, h => by cases h
  | (y, ls, q) :: r, x, ks, n, o, F, h => by
    unfold findK at h
    split at h
    · rename_i e
      cases h
      rw [e.1, e.2]
      exact List.mem_cons_self ..
    · exact List.mem_cons_of_mem _ (findK_mem h)
theorem kw_args (hr : Snd k r) (ok : XOk k Γ X) : ∀ {kws : List Keyword} {ks : List Str} {vs : List Expr} {zs : List Den}, kwOf kws = some (ks, vs) → cArgs r Γ vs = some zs → PK X kws (tA X.K (dArgs zs))
  | [], _, _, _, h, h2 => by
    cases h
    cases h2
    exact k_nil
  | ⟨n, v, p⟩ :: kws, _, _, _, h, h2 => by
    obtain ⟨m, ks', vs', rfl, h3, rfl, rfl⟩ := kwOf_cons h
    obtain ⟨hs, h2⟩ := ite_some h2
    obtain ⟨f, h4, h2⟩ := bind_some h2
    obtain ⟨fs, h5, h6⟩ := map_some h2
    cases h6
    exact k_cons (cF_snd hr h4 ok).1 (kw_args hr ok h3 h5)
def bestB (x : Str) : Option (D → List D → D) := if x = "min" then some PySem.W.minD else if x = "max" then some PySem.W.maxD else none
/-- a call of a name, with keywords or without -/
def cCallA (r : Rec) (Γ : Ctx) (x : Str) (as : List Expr) (kws : List Keyword) : Option (Den × Bool) := (kwOf kws).bind fun q => match findK Γ.fks x q.1 with
  | some (n, o, F) => if glB Γ.sc x = true ∧ as ≠ [] then (cArgs r Γ as).bind fun fs => (cArgs r Γ q.2).bind fun zs => if fs.length = n ∧ zs.length = q.1.length then some (dCallK F fs zs, o) else none else none
  | none => match kws, as with
    | [], as => cCall r Γ x as
    | [⟨some n, c, _⟩], [a] => if n = "default" ∧ isStar a = false ∧ glB Γ.sc x = true then (bestB x).bind fun m => (cB r Γ a).bind fun fa => (cB r Γ c).map fun fc => (d2 (aBestD m) fa fc, true) else none
    | _, _ => none
theorem callA_snd {x : Str} {as : List Expr} {kws : List Keyword} (hr : Snd k r) (h : cCallA r Γ x as kws = some (f, b)) (ok : XOk k Γ X) : PE X (.Call (.Name x p) as kws pos) (tE X.K .fz f) ∧ (b = true → PE X (.Call (.Name x p) as kws pos) (tE X.K .ow f)) ∧ (isIf (.Call (.Name x p) as kws pos) = false → PT X (.Call (.Name x p) as kws pos) (tT X.K (dT f))) := by
  obtain ⟨⟨ks, kvs⟩, hk, h⟩ := bind_some h
  split at h
  · rename_i n o F ef
    obtain ⟨⟨hgl, hne⟩, h⟩ := ite_some h
    obtain ⟨fs, h1, h⟩ := bind_some h
    obtain ⟨zs, h2, h⟩ := bind_some h
    obtain ⟨⟨hl, hz⟩, h⟩ := ite_some h
    cases h
    obtain ⟨g1, g2, g3⟩ := ok.gl hgl
    obtain ⟨q1, q2⟩ := args_snd hr ok h1
    cases as with
    | nil => exact absurd rfl hne
    | cons e es =>
      have q := e_callK (p := p) (pos := pos) (ok.fks _ _ _ _ _ (findK_mem ef)) ok.room g1 g3 hk hl hz q2 q1 (kw_args hr ok hk h2)
      cases b with
      | false => exact snd_fzV q (fun _ => rfl)
      | true => exact snd_owV q (fun _ => rfl)
  · split at h
    · exact call_snd hr h ok
    · obtain ⟨⟨en, na, hgl⟩, h'⟩ := ite_some h
      clear h
      subst en
      obtain ⟨m, hm, h⟩ := bind_some h'
      obtain ⟨fa, h1, h⟩ := bind_some h
      obtain ⟨fc, h2, h⟩ := map_some h
      cases h
      obtain ⟨g1, g2, g3⟩ := ok.gl hgl
      unfold bestB at hm
      split at hm
      · rename_i ex
        subst ex
        cases hm
        exact snd_owV (e_minD ok.calm (by have := ok.room.un; omega) g1 (ok.blt _ (by decide +kernel)) na (cB_snd hr h1 ok) (cB_snd hr h2 ok)) (fun _ => rfl)
      · obtain ⟨ex, hm⟩ := ite_some hm
        subst ex
        cases hm
        exact snd_owV (e_maxD ok.calm (by have := ok.room.un; omega) g1 (ok.blt _ (by decide +kernel)) na (cB_snd hr h1 ok) (cB_snd hr h2 ok)) (fun _ => rfl)
    · cases h
/-! ### what is walked; targets -/
def isTup : Expr → Bool
  | .Tuple .. => true
  | _ => false
def callOf : Expr → Option (Str × List Expr)
  | .Call (.Name x _) as [] _ => some (x, as)
  | _ => none
theorem callOf_eq {e : Expr} {x : Str} {as : List Expr} (h : callOf e = some (x, as)) : ∃ p q, e = .Call (.Name x p) as [] q := by
  unfold callOf at h
  split at h
  · cases h; exact ⟨_, _, rfl⟩
  · cases h
/-- bw: what is walked may be a list of the frame's own -/
def cIt (r : Rec) (Γ : Ctx) (bw : Bool) (tg e : Expr) : Option (Env → Option (List D)) :=
  match (if bw then dicOf Γ e else none) with
  | some i => some (dItemsN i)
  | none => match callOf e with
  | some (x, as) => if x = "range" then (if glB Γ.sc "range" = true then cRg r Γ as else none)
    else if x = "enumerate" then (match as with
      | [a] => if glB Γ.sc "enumerate" = true ∧ isTup tg = true ∧ isStar a = false then ((if bw then cB r Γ a else cF r Γ a)).map dEnum else none
      | _ => none)
    else if x = "zip" then (match as with
      | [a, c] => if glB Γ.sc "zip" = true ∧ isTup tg = true ∧ isStar a = false ∧ isStar c = false then (if bw then cB r Γ a else cF r Γ a).bind fun fa => (if bw then cB r Γ c else cF r Γ c).map fun fc => dZip fa fc else none
      | [a, c, d] => if glB Γ.sc "zip" = true ∧ isTup tg = true ∧ isStar a = false ∧ isStar c = false ∧ isStar d = false then (if bw then cB r Γ a else cF r Γ a).bind fun fa => (if bw then cB r Γ c else cF r Γ c).bind fun fc => (if bw then cB r Γ d else cF r Γ d).map fun fd => dZip3 fa fc fd else none
      | _ => none)
    else (if bw then cB r Γ e else cF r Γ e).map dItems
  | none => (if bw then cB r Γ e else cF r Γ e).map dItems
def mdOf (bw : Bool) : Md := if bw then .bw else .fz
theorem it_snd {bw : Bool} {tg e : Expr} {it : Env → Option (List D)} (hr : Snd k r) (h : cIt r Γ bw tg e = some it) (ok : XOk k Γ X) : PI X tg e (tI (isTup tg) X.K (mdOf bw) it) := by
  have gen : ∀ {e : Expr} {it : Env → Option (List D)}, ((if bw then cB r Γ e else cF r Γ e).map dItems) = some it → PI X tg e (tI (isTup tg) X.K (mdOf bw) it) := fun {e it} h => by
    obtain ⟨f, h1, h2⟩ := map_some h
    cases h2
    cases bw with
    | true => exact i_seqB (cB_snd hr h1 ok)
    | false => exact i_seq (cF_snd hr h1 ok).1
  unfold cIt at h
  split at h
  · rename_i i ed
    cases h
    cases bw with
    | true =>
      obtain ⟨x, px, rfl, hn⟩ := dicOf_ok ed ok
      exact i_n hn
    | false => cases ed
  split at h
  · rename_i x as ec
    obtain ⟨p1, p2, rfl⟩ := callOf_eq ec
    split at h
    · rename_i ex
      subst ex
      obtain ⟨gr, h⟩ := ite_some h
      obtain ⟨g1, _, _⟩ := ok.gl gr
      unfold cRg at h
      split at h
      · obtain ⟨hs, h⟩ := ite_some h
        obtain ⟨fa, h1, h2⟩ := map_some h
        cases h2
        exact i_rg1 g1 (ok.blt _ (by decide +kernel)) hs (cB_snd hr h1 ok)
      · obtain ⟨hs, h⟩ := ite_some h
        obtain ⟨fa, h1, h⟩ := bind_some h
        obtain ⟨fc, h2, h3⟩ := map_some h
        cases h3
        exact i_rg2 g1 (ok.blt _ (by decide +kernel)) hs.1 hs.2 (cB_snd hr h1 ok) (cB_snd hr h2 ok)
      · cases h
    · split at h
      · rename_i ex
        subst ex
        split at h
        · obtain ⟨⟨gr, ht, hs⟩, h⟩ := ite_some h
          obtain ⟨g1, _, _⟩ := ok.gl gr
          obtain ⟨fa, h1, h2⟩ := map_some h
          cases h2
          cases tg with
          | Tuple elts kk tpos =>
            cases bw with
            | true => exact i_enumB g1 (ok.blt _ (by decide +kernel)) hs (cB_snd hr h1 ok)
            | false => exact i_enum g1 (ok.blt _ (by decide +kernel)) hs (cF_snd hr h1 ok).1
          | _ => cases ht
        · cases h
      · split at h
        · rename_i ex
          subst ex
          split at h
          · obtain ⟨⟨gr, ht, hs, hs2⟩, h⟩ := ite_some h
            obtain ⟨g1, _, _⟩ := ok.gl gr
            obtain ⟨fa, h1, h⟩ := bind_some h
            obtain ⟨fc, h2, h3⟩ := map_some h
            cases h3
            cases tg with
            | Tuple elts kk tpos =>
              cases bw with
              | true => exact i_zipB g1 (ok.blt _ (by decide +kernel)) hs hs2 (cB_snd hr h1 ok) (cB_snd hr h2 ok)
              | false => exact i_zip g1 (ok.blt _ (by decide +kernel)) hs hs2 (cF_snd hr h1 ok).1 (cF_snd hr h2 ok).1
            | _ => cases ht
          · obtain ⟨⟨gr, ht, hs, hs2, hs3⟩, h⟩ := ite_some h
            obtain ⟨g1, _, _⟩ := ok.gl gr
            obtain ⟨fa, h1, h⟩ := bind_some h
            obtain ⟨fc, h2, h⟩ := bind_some h
            obtain ⟨fd, h3, h4⟩ := map_some h
            cases h4
            cases tg with
            | Tuple elts kk tpos =>
              cases bw with
              | true => exact i_zip3B g1 (ok.blt _ (by decide +kernel)) hs hs2 hs3 (cB_snd hr h1 ok) (cB_snd hr h2 ok) (cB_snd hr h3 ok)
              | false => exact i_zip3 g1 (ok.blt _ (by decide +kernel)) hs hs2 hs3 (cF_snd hr h1 ok).1 (cF_snd hr h2 ok).1 (cF_snd hr h3 ok).1
            | _ => cases ht
          · cases h
        · exact gen h
  · exact gen h
def cSlot (Γ : Ctx) (x : Str) : Option Nat := if locB Γ.sc x = true ∧ fnB Γ x = true then slotOf Γ.N x else none
theorem slot_snd {x : Str} {i : Nat} (h : cSlot Γ x = some i) (ok : XOk k Γ X) : X.N[i]? = some x ∧ Loc X.env.scope x ∧ (X.fn x = true ∨ X.env.scope.names.lookup x = some .local) := by
  obtain ⟨⟨h1, h2⟩, h3⟩ := ite_some h
  exact ⟨by rw [ok.N]; exact slotOf_get h3, by rw [ok.sc]; exact locB_eq h1, ok.fn x h2⟩
/-- targets: names, and tuples of them to a depth -/
def cTgs (c : Expr → Option (List Nat × (D → Env → Option Env))) : List Expr → Option (List Nat × (List D → Env → Option Env))
  | [] => some ([], bNil)
  | e :: es => if isStar e = false then (c e).bind fun p => (cTgs c es).map fun q => (p.1 ++ q.1, bCons p.2 q.2) else none
def cTg (Γ : Ctx) : Nat → Expr → Option (List Nat × (D → Env → Option Env))
  | 0, _ => none
  | n + 1, e => match e with
    | .Name x _ => (cSlot Γ x).map fun i => ([i], bName i)
    | .Tuple es _ _ => (cTgs (cTg Γ n) es).map fun p => (p.1, bTup p.2)
    | _ => none
theorem tgs_len {c : Expr → Option (List Nat × (D → Env → Option Env))} : ∀ {es : List Expr} {ts : List Nat} {bs : List D → Env → Option Env}, cTgs c es = some (ts, bs) → ∀ ds ρ ρ', bs ds ρ = some ρ' → ds.length = es.length
  | [], _, _, h => by cases h; exact bs_len_nil
  | e :: es, _, _, h => by
    obtain ⟨_, h⟩ := ite_some h
    obtain ⟨⟨t1, b1⟩, h1, h⟩ := bind_some h
    obtain ⟨⟨t2, b2⟩, h2, h⟩ := map_some h
    cases h
    exact bs_len_cons (tgs_len h2)
theorem tgs_snd (ok : XOk k Γ X) {c : Expr → Option (List Nat × (D → Env → Option Env))} (hc : ∀ e ts bb, c e = some (ts, bb) → PG X e (tGo (isTup e) X.K ts bb)) : ∀ {es : List Expr} {ts : List Nat} {bs : List D → Env → Option Env}, cTgs c es = some (ts, bs) → PGs X es (tGos X.K ts bs) ∧ es.all (fun e => !isStar e) = true
  | [], _, _, h => by cases h; exact ⟨gs_nil, rfl⟩
  | e :: es, _, _, h => by
    obtain ⟨hs, h⟩ := ite_some h
    obtain ⟨⟨t1, b1⟩, h1, h⟩ := bind_some h
    obtain ⟨⟨t2, b2⟩, h2, h⟩ := map_some h
    cases h
    obtain ⟨q1, q2⟩ := tgs_snd ok hc h2
    exact ⟨gs_cons hs (hc _ _ _ h1) q1, by simp only [List.all_cons, hs, q2]; rfl⟩
theorem tg_snd (ok : XOk k Γ X) : ∀ (n : Nat) {e : Expr} {ts : List Nat} {bb : D → Env → Option Env}, cTg Γ n e = some (ts, bb) → PG X e (tGo (isTup e) X.K ts bb)
  | 0, _, _, _, h => by cases h
  | n + 1, e, ts, bb, h => by
    cases e with
    | Name x p =>
      obtain ⟨i, h1, h2⟩ := map_some h
      cases h2
      obtain ⟨q1, q2, q3⟩ := slot_snd h1 ok
      exact g_name ok.nd q1 q2 q3
    | Tuple es kk p =>
      obtain ⟨⟨t1, b1⟩, h1, h2⟩ := map_some h
      cases h2
      obtain ⟨q1, q2⟩ := tgs_snd ok (fun e ts bb h => tg_snd ok n h) h1
      exact g_tup ok.calm q2 (tgs_len h1) q1
    | _ => cases h
end
end PF
namespace PF
open PySem PySem.Spec PyProof.Rows L2 RZ
section
variable {k : Nat} {r : Rec} {Γ : Ctx} {X : Cx} {e : Expr} {f : Den} {b : Bool} {pos p : Pos}
/-! ### comprehensions -/
def ownOf (N : List Str) (scope : Scope) : List (Str × Nat) := scope.names.filterMap fun y => match y.2 with
  | .local => (slotOf N y.1).map fun i => (y.1, i)
  | .cell => (slotOf N y.1).map fun i => (y.1, i)
  | _ => none
def Ctx.in (Γ : Ctx) (scope : Scope) : Ctx := { Γ with sc := relS scope Γ.sc, blk := some scope }
theorem XOk.inn (ok : XOk k Γ X) (scope : Scope) (s : Shared) (H : Hp) (C : Addr) (cl : List (Str × Addr)) (fp : List Addr) : XOk k (Γ.in scope) (X.blk s H scope (compEnvC scope cl C X.env) fp) where
  N := ok.N
  nd := ok.nd
  sc := by
    show relS scope X.env.scope = relS scope Γ.sc
    rw [ok.sc]
  calm := ok.calm
  room := ok.room
  xe := rfl
  fn := fun x h => by
    have h' : (scope.names.lookup x == some .cell || (relS scope Γ.sc).names.lookup x == some .local) = true := h
    rw [Bool.or_eq_true] at h'
    rcases h' with h' | h'
    · exact .inl h'
    · refine .inr ?_
      show (relS scope X.env.scope).names.lookup x = some .local
      rw [ok.sc]
      exact beq_iff_eq.mp h'
  fns := ok.fns
  fks := ok.fks
  blt := ok.blt
  gls := ok.gls
def cIfs (r : Rec) (Γ : Ctx) : List Expr → Option (Env → Option Bool)
  | [] => some fun _ => some true
  | [c] => if isIf c = false then (cF r Γ c).map dT else none
  | _ => none
theorem ifs_snd (hr : Snd k r) (ok : XOk k Γ X) {ifs : List Expr} {cc : Env → Option Bool} (h : cIfs r Γ ifs = some cc) : PTs X ifs (tT X.K cc) := by
  unfold cIfs at h
  split at h
  · cases h
    exact ⟨fun pins s σ H Q I ⟨H0, G0, G, ρ, b, ok, hf, q⟩ => by
      cases hf
      exact pts_nil.run pins s σ H Q I (q H G (Step.refl ok.gh))⟩
  · obtain ⟨hi, h⟩ := ite_some h
    obtain ⟨g, h1, h2⟩ := map_some h
    cases h2
    exact pts_one ((cF_snd hr h1 ok).2 hi)
  · cases h
theorem fold_ok {c : Expr} (h : isSet c = false) (env : PySem.Env) : ∀ x, foldedSetIterable c env x = pure x := fun x => by
  cases c <;> first | rfl | (exact absurd h (by simp [isSet]))
structure CP where
  own : List (Str × Nat)
  it : Env → Option (List D)
  ts : List Nat
  bb : D → Env → Option Env
  cc : Env → Option Bool
  ee : Den
/-- the parts of a comprehension with one clause -/
def cParts (r : Rec) (Γ : Ctx) (bw : Bool) (elt tg iter : Expr) (ifs : List Expr) (scope : Scope) : Option CP :=
  if blkC Γ.N Γ.sc scope (ownOf Γ.N scope) = true ∧ isSet iter = false then
    (cIt r Γ bw tg iter).bind fun it => (cTg (Γ.in scope) 4 tg).bind fun tb =>
      if tb.1.all (fun t => decide (t ∈ (ownOf Γ.N scope).map (·.2))) = true then
        (cIfs r (Γ.in scope) ifs).bind fun cc => (cF r (Γ.in scope) elt).map fun ee => ⟨ownOf Γ.N scope, it, tb.1, tb.2, cc, ee⟩
      else none
  else none
structure CP2 where
  own : List (Str × Nat)
  it : Env → Option (List D)
  ts : List Nat
  bb : D → Env → Option Env
  cc : Env → Option Bool
  it1 : Env → Option (List D)
  ts1 : List Nat
  bb1 : D → Env → Option Env
  cc1 : Env → Option Bool
  ee : Den
def CP2.den (P : CP2) : Den := dComp2 P.it (P.own.map (·.2)) P.bb P.cc P.it1 P.ts1 P.bb1 P.cc1 P.ee
/-- the parts of a comprehension with two clauses -/
def cParts2 (r : Rec) (Γ : Ctx) (elt tg iter : Expr) (ifs : List Expr) (tg1 iter1 : Expr) (ifs1 : List Expr) (scope : Scope) : Option CP2 :=
  if blkC Γ.N Γ.sc scope (ownOf Γ.N scope) = true ∧ isSet iter = false ∧ isSet iter1 = false then
    (cIt r Γ true tg iter).bind fun it => (cTg (Γ.in scope) 4 tg).bind fun tb => (cTg (Γ.in scope) 4 tg1).bind fun tb1 =>
      if tb.1.all (fun t => decide (t ∈ (ownOf Γ.N scope).map (·.2))) = true ∧ tb1.1.all (fun t => decide (t ∈ (ownOf Γ.N scope).map (·.2))) = true then
        (cIfs r (Γ.in scope) ifs).bind fun cc => (cIt r (Γ.in scope) false tg1 iter1).bind fun it1 => (cIfs r (Γ.in scope) ifs1).bind fun cc1 => (cF r (Γ.in scope) elt).map fun ee => ⟨ownOf Γ.N scope, it, tb.1, tb.2, cc, it1, tb1.1, tb1.2, cc1, ee⟩
      else none
  else none
def cComp (r : Rec) (Γ : Ctx) (elt : Expr) (gens : List Comprehension) (scope : Scope) : Option (Den × Bool) := match gens with
  | [⟨tg, iter, ifs, 0⟩] => (cParts r Γ true elt tg iter ifs scope).map fun P => (dComp P.it (P.own.map (·.2)) P.bb P.cc P.ee, true)
  | [⟨tg, iter, ifs, 0⟩, ⟨tg1, iter1, ifs1, 0⟩] => (cParts2 r Γ elt tg iter ifs tg1 iter1 ifs1 scope).map fun P => (P.den, true)
  | _ => none
structure PartsOk2 (X : Cx) (elt tg iter : Expr) (ifs : List Expr) (tg1 iter1 : Expr) (ifs1 : List Expr) (scope : Scope) (P : CP2) : Prop where
  blk : BlkOk X.N X.env.scope scope P.own
  it : PI X tg iter (tI (isTup tg) X.K .bw P.it)
  ts : ∀ t ∈ P.ts, t ∈ P.own.map (·.2)
  ts1 : ∀ t ∈ P.ts1, t ∈ P.own.map (·.2)
  tg : ∀ (s : Shared) (H : Hp) (C : Addr) (cl : List (Str × Addr)) (fp : List Addr), PG (X.blk s H scope (compEnvC scope cl C X.env) fp) tg (tGo (isTup tg) X.K P.ts P.bb)
  ifs : ∀ (s : Shared) (H : Hp) (C : Addr) (cl : List (Str × Addr)) (fp : List Addr), PTs (X.blk s H scope (compEnvC scope cl C X.env) fp) ifs (tT X.K P.cc)
  it1 : ∀ (s : Shared) (H : Hp) (C : Addr) (cl : List (Str × Addr)) (fp : List Addr), PI (X.blk s H scope (compEnvC scope cl C X.env) fp) tg1 iter1 (tI (isTup tg1) X.K .fz P.it1)
  tg1 : ∀ (s : Shared) (H : Hp) (C : Addr) (cl : List (Str × Addr)) (fp : List Addr), PG (X.blk s H scope (compEnvC scope cl C X.env) fp) tg1 (tGo (isTup tg1) X.K P.ts1 P.bb1)
  ifs1 : ∀ (s : Shared) (H : Hp) (C : Addr) (cl : List (Str × Addr)) (fp : List Addr), PTs (X.blk s H scope (compEnvC scope cl C X.env) fp) ifs1 (tT X.K P.cc1)
  elt : ∀ (s : Shared) (H : Hp) (C : Addr) (cl : List (Str × Addr)) (fp : List Addr), PE (X.blk s H scope (compEnvC scope cl C X.env) fp) elt (tE X.K .fz P.ee)
  set : ∀ x, foldedSetIterable iter X.env x = pure x
  set1 : ∀ env x, foldedSetIterable iter1 env x = pure x
structure PartsOk (X : Cx) (m : Md) (elt tg iter : Expr) (ifs : List Expr) (scope : Scope) (P : CP) : Prop where
  blk : BlkOk X.N X.env.scope scope P.own
  it : PI X tg iter (tI (isTup tg) X.K m P.it)
  ts : ∀ t ∈ P.ts, t ∈ P.own.map (·.2)
  tg : ∀ (s : Shared) (H : Hp) (C : Addr) (cl : List (Str × Addr)) (fp : List Addr), PG (X.blk s H scope (compEnvC scope cl C X.env) fp) tg (tGo (isTup tg) X.K P.ts P.bb)
  ifs : ∀ (s : Shared) (H : Hp) (C : Addr) (cl : List (Str × Addr)) (fp : List Addr), PTs (X.blk s H scope (compEnvC scope cl C X.env) fp) ifs (tT X.K P.cc)
  elt : ∀ (s : Shared) (H : Hp) (C : Addr) (cl : List (Str × Addr)) (fp : List Addr), PE (X.blk s H scope (compEnvC scope cl C X.env) fp) elt (tE X.K .fz P.ee)
  set : ∀ x, foldedSetIterable iter X.env x = pure x
theorem parts_snd {bw : Bool} {elt tg iter : Expr} {ifs : List Expr} {scope : Scope} {P : CP} (hr : Snd k r) (h : cParts r Γ bw elt tg iter ifs scope = some P) (ok : XOk k Γ X) : PartsOk X (mdOf bw) elt tg iter ifs scope P := by
  obtain ⟨⟨hb, hs⟩, h⟩ := ite_some h
  obtain ⟨it, h1, h⟩ := bind_some h
  obtain ⟨⟨ts, bb⟩, h2, h⟩ := bind_some h
  obtain ⟨ht, h⟩ := ite_some h
  obtain ⟨cc, h3, h⟩ := bind_some h
  obtain ⟨ee, h4, h⟩ := map_some h
  cases h
  exact { blk := blkOk_by (by rw [ok.N, ok.sc]; exact hb), it := it_snd hr h1 ok, ts := fun t hm => of_decide_eq_true (List.all_eq_true.mp ht t hm),
          tg := fun s H C cl fp => tg_snd (ok.inn scope s H C cl fp) 4 h2, ifs := fun s H C cl fp => ifs_snd hr (ok.inn scope s H C cl fp) h3,
          elt := fun s H C cl fp => (cF_snd hr h4 (ok.inn scope s H C cl fp)).1, set := fold_ok hs _ }
theorem parts2_snd {elt tg iter tg1 iter1 : Expr} {ifs ifs1 : List Expr} {scope : Scope} {P : CP2} (hr : Snd k r) (h : cParts2 r Γ elt tg iter ifs tg1 iter1 ifs1 scope = some P) (ok : XOk k Γ X) : PartsOk2 X elt tg iter ifs tg1 iter1 ifs1 scope P := by
  obtain ⟨⟨hb, hs, hs1⟩, h⟩ := ite_some h
  obtain ⟨it, h1, h⟩ := bind_some h
  obtain ⟨⟨ts, bb⟩, h2, h⟩ := bind_some h
  obtain ⟨⟨ts1, bb1⟩, h2', h⟩ := bind_some h
  obtain ⟨⟨ht, ht1⟩, h⟩ := ite_some h
  obtain ⟨cc, h3, h⟩ := bind_some h
  obtain ⟨it1, h5, h⟩ := bind_some h
  obtain ⟨cc1, h6, h⟩ := bind_some h
  obtain ⟨ee, h4, h⟩ := map_some h
  cases h
  exact { blk := blkOk_by (by rw [ok.N, ok.sc]; exact hb), it := it_snd (bw := true) hr h1 ok, ts := fun t hm => of_decide_eq_true (List.all_eq_true.mp ht t hm), ts1 := fun t hm => of_decide_eq_true (List.all_eq_true.mp ht1 t hm),
          tg := fun s H C cl fp => tg_snd (ok.inn scope s H C cl fp) 4 h2, ifs := fun s H C cl fp => ifs_snd hr (ok.inn scope s H C cl fp) h3,
          it1 := fun s H C cl fp => it_snd (bw := false) hr h5 (ok.inn scope s H C cl fp), tg1 := fun s H C cl fp => tg_snd (ok.inn scope s H C cl fp) 4 h2', ifs1 := fun s H C cl fp => ifs_snd hr (ok.inn scope s H C cl fp) h6,
          elt := fun s H C cl fp => (cF_snd hr h4 (ok.inn scope s H C cl fp)).1, set := fold_ok hs _, set1 := fun env => fold_ok hs1 env }
theorem comp_snd {elt : Expr} {gens : List Comprehension} {scope : Scope} (hr : Snd k r) (h : cComp r Γ elt gens scope = some (f, b)) (ok : XOk k Γ X) : PE X (.ListComp elt gens scope pos) (tE X.K .fz f) ∧ (b = true → PE X (.ListComp elt gens scope pos) (tE X.K .ow f)) ∧ (isIf (.ListComp elt gens scope pos) = false → PT X (.ListComp elt gens scope pos) (tT X.K (dT f))) := by
  unfold cComp at h
  split at h
  · obtain ⟨P, h1, h2⟩ := map_some h
    cases h2
    have q := parts_snd hr h1 ok
    exact snd_owV (e_comp ok.calm ok.nd q.it q.blk q.ts q.tg q.ifs q.elt q.set) (fun _ => rfl)
  · obtain ⟨P, h1, h2⟩ := map_some h
    cases h2
    have q := parts2_snd hr h1 ok
    exact snd_owV (peW (pe_lc2 ok.calm ok.nd q.it q.blk q.ts1 q.tg q.ifs q.it1 q.tg1 q.ifs1 q.elt q.set q.set1) fun σ H Q h => comp2_read q.ts (fun _ h => h) h) (fun _ => rfl)
  · cases h
/-! ### {k: v for ..} -/
structure CPD where
  own : List (Str × Nat)
  it : Env → Option (List D)
  ts : List Nat
  bb : D → Env → Option Env
  cc : Env → Option Bool
  kk : Den
  vv : Den
def CPD.den (P : CPD) : Den := dDComp P.it (P.own.map (·.2)) P.bb P.cc P.kk P.vv
def cPartsD (r : Rec) (Γ : Ctx) (kx vx tg iter : Expr) (ifs : List Expr) (scope : Scope) : Option CPD :=
  if blkC Γ.N Γ.sc scope (ownOf Γ.N scope) = true ∧ isSet iter = false then
    (cIt r Γ true tg iter).bind fun it => (cTg (Γ.in scope) 4 tg).bind fun tb =>
      if tb.1.all (fun t => decide (t ∈ (ownOf Γ.N scope).map (·.2))) = true then
        (cIfs r (Γ.in scope) ifs).bind fun cc => (cF r (Γ.in scope) kx).bind fun kk => (cF r (Γ.in scope) vx).map fun vv => ⟨ownOf Γ.N scope, it, tb.1, tb.2, cc, kk, vv⟩
      else none
  else none
theorem partsD_snd {kx vx tg iter : Expr} {ifs : List Expr} {scope : Scope} {P : CPD} (hr : Snd k r) (h : cPartsD r Γ kx vx tg iter ifs scope = some P) (ok : XOk k Γ X) : PtsD (isTup tg) X kx vx tg iter ifs scope P.own P.it P.ts P.bb P.cc P.kk P.vv ∧ ∀ t ∈ P.ts, t ∈ P.own.map (·.2) := by
  obtain ⟨⟨hb, hs⟩, h⟩ := ite_some h
  obtain ⟨it, h1, h⟩ := bind_some h
  obtain ⟨⟨ts, bb⟩, h2, h⟩ := bind_some h
  obtain ⟨ht, h⟩ := ite_some h
  obtain ⟨cc, h3, h⟩ := bind_some h
  obtain ⟨kk, h4, h⟩ := bind_some h
  obtain ⟨vv, h5, h⟩ := map_some h
  cases h
  refine ⟨?_, fun t hm => of_decide_eq_true (List.all_eq_true.mp ht t hm)⟩
  exact { calm := ok.calm, nd := ok.nd, it := it_snd (bw := true) hr h1 ok, ok := blkOk_by (by rw [ok.N, ok.sc]; exact hb), tg := fun s H C cl fp => tg_snd (ok.inn scope s H C cl fp) 4 h2, ts := fun s H C cl fp => ifs_snd hr (ok.inn scope s H C cl fp) h3,
          ky := fun s H C cl fp => (cF_snd hr h4 (ok.inn scope s H C cl fp)).1, vl := fun s H C cl fp => (cF_snd hr h5 (ok.inn scope s H C cl fp)).1, st := fold_ok hs _, hu := by have := ok.u65; omega }
theorem den_dic {P : CPD} {ρ : Env} {d : D} (h : P.den ρ = some d) : ∃ kvs, d = dicD kvs := by
  obtain ⟨_, kvs, _, _, e⟩ := dComp_eq h
  exact ⟨kvs, e⟩
/-! ### all expressions -/
/-- x.index(e), x.count(e) -/
def metB (m : Str) : Option (D → D → Option D) := if m = "index" then some aIndex else if m = "count" then some aCount else none
def cMet (r : Rec) (Γ : Ctx) (x m : Str) (c : Expr) (apos pos : Pos) : Option (Den × Bool) := if (apos.endLine == pos.line) = true ∧ isStar c = false then (metB m).bind fun g => (cVar Γ x).bind fun i => (cB r Γ c).map fun f => (d2 g (dVarB i) f, true) else none
theorem met_snd {x m : Str} {c : Expr} {apos : Pos} (hr : Snd k r) (h : cMet r Γ x m c apos pos = some (f, b)) (ok : XOk k Γ X) : PE X (.Call (.Attribute (.Name x p) m apos) [c] [] pos) (tE X.K .fz f) ∧ (b = true → PE X (.Call (.Attribute (.Name x p) m apos) [c] [] pos) (tE X.K .ow f)) ∧ (isIf (.Call (.Attribute (.Name x p) m apos) [c] [] pos) = false → PT X (.Call (.Attribute (.Name x p) m apos) [c] [] pos) (tT X.K (dT f))) := by
  obtain ⟨⟨hl, hs⟩, h⟩ := ite_some h
  obtain ⟨g, hm, h⟩ := bind_some h
  obtain ⟨i, h1, h⟩ := bind_some h
  obtain ⟨fc, h2, h⟩ := map_some h
  cases h
  obtain ⟨v1, v2, v3, v4⟩ := ok.var h1
  unfold metB at hm
  split at hm
  · rename_i em
    subst em
    cases hm
    exact snd_owV (e_index ok.u65 ⟨v1, v2, v3, v4⟩ hl hs (cB_snd hr h2 ok)) (fun _ => rfl)
  · obtain ⟨em, hm⟩ := ite_some hm
    subst em
    cases hm
    exact snd_owV (e_count ok.u65 ⟨v1, v2, v3, v4⟩ hl hs (cB_snd hr h2 ok)) (fun _ => rfl)
def stepE (r : Rec) : Rec := fun Γ e => match e with
  | .Name x _ => cName Γ x
  | .Constant c _ _ => cConst c
  | .BinOp a op c _ => cBin r Γ a op c
  | .UnaryOp op a _ => cUn r Γ op a
  | .BoolOp op vs _ => (cBools r Γ op vs).map fun f => (f, false)
  | .Compare a ops cs _ => cCmp r Γ a ops cs
  | .IfExp c a d _ => if isIf c = false then (cF r Γ c).bind fun fc => (cF r Γ a).bind fun fa => (cF r Γ d).map fun fd => (dIf fc fa fd, false) else none
  | .Tuple es _ _ => (cArgs r Γ es).bind fun fs => if fs.length ≤ 1000 then some (dTup fs, true) else none
  | .List es _ => (cArgs r Γ es).bind fun fs => if fs.length ≤ 1000 then some (dLst fs, true) else none
  | .Subscript a c _ => cSub r Γ a c
  | .Call (.Name x _) as kws _ => cCallA r Γ x as kws
  | .Call (.Attribute (.Name x _) m apos) [c] [] pos => cMet r Γ x m c apos pos
  | .ListComp elt gens scope _ => cComp r Γ elt gens scope
  | .DictComp kx vx [⟨tg, iter, ifs, 0⟩] scope _ => (cPartsD r Γ kx vx tg iter ifs scope).map fun P => (P.den, true)
  | _ => none
theorem step_snd (hr : Snd k r) : Snd k (stepE r) := by
  intro Γ e f b h X ok
  unfold stepE at h
  split at h
  · exact name_snd h ok
  · rename_i c _ _
    cases c with
    | int i => cases h; exact snd_owV e_int (fun _ => rfl)
    | bool i => cases h; exact snd_owV e_bool (fun _ => rfl)
    | str i => cases h; exact snd_owV e_str (fun _ => rfl)
    | none => cases h; exact snd_owV e_none (fun _ => rfl)
    | _ => cases h
  · exact bin_snd hr h ok
  · exact un_snd hr h ok
  · obtain ⟨g, h1, h2⟩ := map_some h
    cases h2
    obtain ⟨q1, q2⟩ := bools_snd hr ok h1
    exact ⟨q1, fun z => absurd z Bool.false_ne_true, fun _ => q2.pt⟩
  · exact cmp_snd hr h ok
  · obtain ⟨hi, h⟩ := ite_some h
    obtain ⟨fc, h1, h⟩ := bind_some h
    obtain ⟨fa, h2, h⟩ := bind_some h
    obtain ⟨fd, h3, h⟩ := map_some h
    cases h
    exact ⟨e_if ((cF_snd hr h1 ok).2 hi) (cF_snd hr h2 ok).1 (cF_snd hr h3 ok).1, fun z => absurd z Bool.false_ne_true, fun z => absurd z (by simp [isIf])⟩
  · obtain ⟨fs, h1, h⟩ := bind_some h
    obtain ⟨hl, h⟩ := ite_some h
    cases h
    exact snd_owV (e_tup hl (args_snd hr ok h1).1) (fun _ => rfl)
  · obtain ⟨fs, h1, h⟩ := bind_some h
    obtain ⟨hl, h⟩ := ite_some h
    cases h
    exact snd_owV (e_lst hl (args_snd hr ok h1).1) (fun _ => rfl)
  · exact sub_snd hr h ok
  · exact callA_snd hr h ok
  · exact met_snd hr h ok
  · exact comp_snd hr h ok
  · obtain ⟨P, h1, h2⟩ := map_some h
    cases h2
    obtain ⟨q1, q2⟩ := partsD_snd hr h1 ok
    exact snd_owV (ow_dic (fun ρ d h => den_dic h) (e_dcomp q1 q2)) (fun _ => rfl)
  · cases h
def cE : Nat → Rec
  | 0 => fun _ _ => none
  | n + 1 => stepE (cE n)
theorem cE_snd (k : Nat) : ∀ n, Snd k (cE n)
  | 0 => fun Γ e f b h => by cases h
  | n + 1 => step_snd (cE_snd k n)
/-! ### which names are handed on: they are shut away ahead of the statement -/
def isNm : Expr → Bool
  | .Name .. => true
  | _ => false
def dicNm (Γ : Ctx) : Expr → List Nat
  | .Name x _ => match slotOf Γ.N x with | some i => if i ∈ Γ.dic then [i] else [] | none => []
  | _ => []
def escE (Γ : Ctx) : Nat → Expr → List Nat
  | 0, _ => []
  | n + 1, e => let B := fun c => if isNm c then dicNm Γ c else escE Γ n c
    let Bs := fun c => if isNm c then [] else escE Γ n c
    match e with
    | .Name x _ => match slotOf Γ.N x with | some i => if i ∈ Γ.own ∨ i ∈ Γ.dic then [i] else [] | none => []
    | .BinOp a _ c _ => B a ++ B c
    | .UnaryOp _ a _ => B a
    | .BoolOp _ vs _ => vs.flatMap (escE Γ n)
    | .Compare a _ cs _ => B a ++ cs.flatMap Bs
    | .IfExp c a d _ => escE Γ n c ++ escE Γ n a ++ escE Γ n d
    | .Tuple es _ _ => es.flatMap (escE Γ n)
    | .List es _ => es.flatMap (escE Γ n)
    | .Subscript a c _ => Bs a ++ B c
    | .Slice a c d _ => (a.map B).getD [] ++ (c.map B).getD [] ++ (d.map B).getD []
    | .Call (.Name x _) as _ _ => if x = "len" then as.flatMap Bs else if x ∈ bltNames then as.flatMap B else as.flatMap (escE Γ n)
    | .Call (.Attribute (.Name _ _) _ _) [c] _ _ => B c
    | .Dict ks vs _ => ks.flatMap (fun o => match o with | some c => escE Γ n c | none => []) ++ vs.flatMap (escE Γ n)
    | .ListComp elt gens _ _ => escE Γ n elt ++ gens.flatMap fun g => Bs g.iter ++ g.ifs.flatMap (escE Γ n)
    | .DictComp kx vx gens _ _ => escE Γ n kx ++ escE Γ n vx ++ gens.flatMap fun g => Bs g.iter ++ g.ifs.flatMap (escE Γ n)
    | _ => []
end
/-! ### statements -/
def escI (Γ : Ctx) (e : Expr) : List Nat := match callOf e with
  | some (x, as) => if x = "enumerate" ∨ x = "zip" then as.flatMap (escE Γ 12) else escE Γ 12 e
  | none => escE Γ 12 e
abbrev RecS := Ctx → Stmt → Option DenS
def SndS (k : Nat) (rs : RecS) : Prop := ∀ Γ st F, rs Γ st = some F → ∀ X, XOk k Γ X → PS X st (tS X.K F)
def cSs (rs : RecS) (Γ : Ctx) : List Stmt → Option DenS
  | [] => some fun ρ => some (.next ρ)
  | [s] => rs Γ s
  | s :: t :: r => (rs Γ s).bind fun F => (cSs rs Γ (t :: r)).map fun F' => dSeq F F'
section
variable {k : Nat} {r : Rec} {rs : RecS} {Γ : Ctx} {X : Cx} {pos p p' : Pos}
theorem ss_snd (hr : SndS k rs) (ok : XOk k Γ X) : ∀ {sts : List Stmt} {F : DenS}, cSs rs Γ sts = some F → PSs X sts (tS X.K F)
  | [], _, h => by cases h; exact ss_nil
  | [s], F, h => ss_one (hr _ _ _ h X ok)
  | s :: t :: rest, _, h => by
    obtain ⟨F1, h1, h⟩ := bind_some h
    obtain ⟨F2, h2, h⟩ := map_some h
    cases h
    exact ss_cons (hr _ _ _ h1 X ok) (ss_snd hr ok h2)
/-- x.append(e), x.extend(e) -/
def cMeth (r : Rec) (Γ : Ctx) (x m : Str) (e : Expr) (apos pos : Pos) : Option DenS := if (apos.endLine == pos.line) = true ∧ isStar e = false then
    (cVar Γ x).bind fun i => if m = "pop" then (if i ∈ Γ.dic then (cF r Γ e).map fun f => (fun ρ => dPopN i f (fzE ρ (escE Γ 12 e))) else none)
      else if m = "append" then (cF r Γ e).map fun f => (fun ρ => dAppend i f (fzE ρ (escE Γ 12 e)))
      else if m = "extend" then (r Γ e).bind fun fb => if fb.2 = true then some (fun ρ => dExtend i fb.1 (fzE ρ (escE Γ 12 e))) else none
      else none
  else none
theorem meth_snd {x m : Str} {e : Expr} {apos : Pos} {F : DenS} (hr : Snd k r) (h : cMeth r Γ x m e apos pos = some F) (ok : XOk k Γ X) : PS X (.Expr (.Call (.Attribute (.Name x p) m apos) [e] [] pos) p') (tS X.K F) := by
  replace h := ite_some h
  obtain ⟨⟨hl, hs⟩, h⟩ := h
  replace h := bind_some h
  obtain ⟨i, h1, h⟩ := h
  obtain ⟨v1, v2, v3, v4⟩ := ok.var h1
  split at h
  · rename_i em
    subst em
    obtain ⟨_, h⟩ := ite_some h
    obtain ⟨f, h2, h3⟩ := map_some h
    cases h3
    exact s_fz _ (s_popN ok.u65 ⟨v1, v2, v3, v4⟩ hl hs (cF_snd hr h2 ok).1)
  split at h
  · rename_i em
    subst em
    obtain ⟨f, h2, h3⟩ := map_some h
    cases h3
    exact s_fz _ (s_append v1 v2 v3 v4 hl hs (cF_snd hr h2 ok).1)
  · obtain ⟨em, h⟩ := ite_some h
    subst em
    obtain ⟨⟨f, b⟩, h2, h⟩ := bind_some h
    obtain ⟨hb, h⟩ := ite_some h
    cases h
    exact s_fz _ (s_extend v1 v2 v3 v4 hl hs ((hr _ _ _ _ h2 X ok).2.1 hb))
def tupB : Expr → Bool
  | .Tuple .. => true
  | _ => false
theorem stores_none {tg e : Expr} (h : tupB e = false) (env : PySem.Env) : swappedStores [tg] e env = pure none := by
  cases e <;> first | (cases tg <;> rfl) | (exact absurd h (by simp [tupB]))
theorem stores_name {x : Str} {p : Pos} {e : Expr} (env : PySem.Env) : swappedStores [.Name x p] e env = pure none := by
  cases e <;> rfl
/-- x.pop() -/
def popOf : Expr → Option (Str × Pos × Pos × Pos)
  | .Call (.Attribute (.Name x p) m apos) [] [] pos => if m = "pop" then some (x, p, apos, pos) else none
  | _ => none
theorem popOf_eq {e : Expr} {x : Str} {p apos pos : Pos} (h : popOf e = some (x, p, apos, pos)) : e = .Call (.Attribute (.Name x p) "pop" apos) [] [] pos := by
  unfold popOf at h
  split at h
  · obtain ⟨em, h⟩ := ite_some h
    subst em
    cases h
    rfl
  · cases h
def cPop (Γ : Ctx) (tg e : Expr) : Option DenS := (popOf e).bind fun q => if (q.2.2.1.endLine == q.2.2.2.line) = true ∧ isStar tg = false then (cVar Γ q.1).bind fun i => (cTg Γ 4 tg).map fun tb => dPop i tb.2 else none
theorem pop_snd {tg e : Expr} {F : DenS} (h : cPop Γ tg e = some F) (ok : XOk k Γ X) : PS X (.Assign [tg] e p') (tS X.K F) := by
  obtain ⟨⟨x, p, apos, pos⟩, h1, h⟩ := bind_some h
  obtain ⟨⟨hl, hs⟩, h⟩ := ite_some h
  obtain ⟨i, h2, h⟩ := bind_some h
  obtain ⟨⟨ts, bb⟩, h3, h⟩ := map_some h
  cases h
  have e1 := popOf_eq h1
  subst e1
  obtain ⟨v1, v2, v3, v4⟩ := ok.var h2
  exact s_pop v1 v2 v3 v4 hl hs (tg_snd ok 4 h3) (stores_none rfl _)
/-- [x.pop(j) for ..] -/
def popC : Expr → Option (Str × Pos × Pos × Expr × Pos × Expr × Expr × Scope × Pos)
  | .ListComp (.Call (.Attribute (.Name x p) m apos) [ix] [] cpos) [⟨tg, iter, [], 0⟩] scope pos => if m = "pop" then some (x, p, apos, ix, cpos, tg, iter, scope, pos) else none
  | _ => none
theorem popC_eq {e : Expr} {x : Str} {p apos cpos pos : Pos} {ix tg iter : Expr} {scope : Scope} (h : popC e = some (x, p, apos, ix, cpos, tg, iter, scope, pos)) : e = .ListComp (.Call (.Attribute (.Name x p) "pop" apos) [ix] [] cpos) [⟨tg, iter, [], 0⟩] scope pos := by
  unfold popC at h
  split at h
  · obtain ⟨em, h⟩ := ite_some h
    subst em
    cases h
    rfl
  · cases h
/-- the comprehension's list is stored within -/
def swB (Γ : Ctx) (scope : Scope) (y : Str) (p' pos : Pos) : Bool := (match Γ.sc.kind with | .function => true | _ => false) && (Γ.sc.names.lookup y == some .local) && (p'.line == pos.line) && !(scope.names.any fun y' => y'.1 == y && (y'.2 == .local || y'.2 == .cell))
theorem swB_eq {elt : Expr} {gs : List Comprehension} {scope : Scope} {y : Str} {l : Nat} (ok : XOk k Γ X) (h : swB Γ scope y p' pos = true) : swapsWith (.ListComp elt gs scope pos) (some (.Name y p')) l X.env = pure true ∧ X.env.scope.names.lookup y = some .local := by
  unfold swB at h
  simp only [Bool.and_eq_true, beq_iff_eq, Bool.not_eq_true'] at h
  obtain ⟨⟨⟨h1, h2⟩, h3⟩, h4⟩ := h
  have hk : X.env.scope.kind = .function := by
    rw [ok.sc]
    split at h1
    · assumption
    · cases h1
  have hy : X.env.scope.names.lookup y = some .local := by rw [ok.sc]; exact h2
  exact ⟨sw_true hk hy (by rw [h3]; exact beq_self_eq_true _) h4, hy⟩
theorem swD_eq {kx vx : Expr} {gs : List Comprehension} {scope : Scope} {y : Str} {l : Nat} (ok : XOk k Γ X) (h : swB Γ scope y p' pos = true) : swapsWith (.DictComp kx vx gs scope pos) (some (.Name y p')) l X.env = pure true ∧ X.env.scope.names.lookup y = some .local := by
  obtain ⟨w1, w2⟩ := swB_eq (elt := kx) (gs := gs) (l := l) ok h
  exact ⟨w1, w2⟩
theorem swB_no {elt : Expr} {gs : List Comprehension} {scope : Scope} {y : Str} {l : Nat} (ok : XOk k Γ X) (hl : Γ.sc.names.lookup y ≠ some .local) : swapsWith (.ListComp elt gs scope pos) (some (.Name y p')) l X.env = pure false := by
  have ky : (X.env.kindOf y == some .local) = false := by
    rw [beq_eq_false_iff_ne]
    show X.env.scope.names.lookup y ≠ some .local
    rw [ok.sc]
    exact hl
  unfold swapsWith
  simp only [ky, Bool.and_false, Bool.false_and]
theorem swD_no {kx vx : Expr} {gs : List Comprehension} {scope : Scope} {y : Str} {l : Nat} (ok : XOk k Γ X) (hl : Γ.sc.names.lookup y ≠ some .local) : swapsWith (.DictComp kx vx gs scope pos) (some (.Name y p')) l X.env = pure false := by
  have w := swB_no (elt := kx) (gs := gs) (scope := scope) (pos := pos) (p' := p') (l := l) ok hl
  exact w
def cPopC (r : Rec) (Γ : Ctx) (y : Str) (p' : Pos) (e : Expr) : Option DenS := (popC e).bind fun q => match q with
  | (x, p, apos, ix, cpos, tg, iter, scope, pos) => if blkC Γ.N Γ.sc scope (ownOf Γ.N scope) = true ∧ isSet iter = false ∧ swB Γ scope y p' pos = true ∧ (apos.endLine == cpos.line) = true ∧ isStar ix = false then
      (slotOf Γ.N y).bind fun i => (cVar (Γ.in scope) x).bind fun iL => (cIt r Γ false tg iter).bind fun it => (cTg (Γ.in scope) 4 tg).bind fun tb => (cB r (Γ.in scope) ix).bind fun g =>
        if tb.1.all (fun t => decide (t ∈ (ownOf Γ.N scope).map (·.2))) = true ∧ iL ∉ (ownOf Γ.N scope).map (·.2) then some (dPopC i iL ((ownOf Γ.N scope).map (·.2)) it tb.2 g) else none
    else none
theorem popc_snd {y : Str} {e : Expr} {F : DenS} {sp : Pos} (hr : Snd k r) (h : cPopC r Γ y p' e = some F) (ok : XOk k Γ X) : PS X (.Assign [.Name y p'] e sp) (tS X.K F) := by
  obtain ⟨⟨x, p, apos, ix, cpos, tg, iter, scope, pos⟩, h1, h⟩ := bind_some h
  have e1 := popC_eq h1
  subst e1
  replace h := ite_some h
  obtain ⟨⟨hb, hs, hsw, hl, hst⟩, h⟩ := h
  obtain ⟨i, h2, h⟩ := bind_some h
  obtain ⟨iL, h3, h⟩ := bind_some h
  obtain ⟨it, h4, h⟩ := bind_some h
  obtain ⟨⟨ts, bb⟩, h5, h⟩ := bind_some h
  obtain ⟨g, h6, h⟩ := bind_some h
  obtain ⟨⟨ht, hn⟩, h⟩ := ite_some h
  cases h
  obtain ⟨w1, w2⟩ := swB_eq (k := k) ok hsw
  refine s_popc ok.calm ok.nd (by rw [ok.N]; exact slotOf_get h2) w2 w1 (it_snd hr h4 ok) (blkOk_by (by rw [ok.N, ok.sc]; exact hb)) (fun t hm => of_decide_eq_true (List.all_eq_true.mp ht t hm)) hn
    (fun s H C cl fp => tg_snd (ok.inn scope s H C cl fp) 4 h5) (fun s H C cl fp => ?_) (fun s H C cl fp => cB_snd hr h6 (ok.inn scope s H C cl fp)) hl hst (fold_ok hs _)
  obtain ⟨v1, v2, v3, v4⟩ := (ok.inn scope s H C cl fp).var h3
  exact pe_var v1 v2 v3 v4
/-- x = e -/
def isLC : Expr → Bool
  | .ListComp .. => true
  | _ => false
def isNewD : Expr → Bool
  | .Dict [] [] _ => true
  | _ => false
theorem isNewD_eq {e : Expr} (h : isNewD e = true) : ∃ pos, e = .Dict [] [] pos := by
  unfold isNewD at h
  split at h
  · exact ⟨_, rfl⟩
  · cases h
def oneD : Expr → Option (Expr × Expr)
  | .Dict [some c] [v] _ => some (c, v)
  | _ => none
theorem oneD_eq {e c v : Expr} (h : oneD e = some (c, v)) : ∃ pos, e = .Dict [some c] [v] pos := by
  unfold oneD at h
  split at h
  · cases h; exact ⟨_, rfl⟩
  · cases h
def cSet (r : Rec) (Γ : Ctx) (y : Str) (p' : Pos) (e : Expr) : Option DenS := (cSlot Γ y).bind fun i =>
  if isNewD e = true ∧ i ∈ Γ.dic then some (dNewD i)
  else match (if i ∈ Γ.dic then oneD e else none) with
  | some (c, v) => (cF r Γ c).bind fun g => (cF r Γ v).map fun f => (fun ρ => dOneD i g f (fzE ρ (escE Γ 12 e)))
  | none => if isComp e = false ∨ Γ.sc.names.lookup y ≠ some .local ∧ isLC e = true then
    (r Γ e).map fun fb => if fb.2 = true ∧ i ∈ Γ.own then (fun ρ => dOwn i fb.1 (fzE ρ (escE Γ 12 e))) else (fun ρ => dSet i fb.1 (fzE ρ (escE Γ 12 e)))
  else match e with
    | .ListComp elt [⟨tg, iter, ifs, 0⟩] scope pos => if swB Γ scope y p' pos = true then (cParts r Γ true elt tg iter ifs scope).map fun P =>
        if i ∈ Γ.own then (fun ρ => dOwn i (dComp P.it (P.own.map (·.2)) P.bb P.cc P.ee) (fzE ρ (escE Γ 12 e))) else (fun ρ => dSet i (dComp P.it (P.own.map (·.2)) P.bb P.cc P.ee) (fzE ρ (escE Γ 12 e))) else none
    | .DictComp kx vx [⟨tg, iter, ifs, 0⟩] scope pos => if swB Γ scope y p' pos = true ∨ Γ.sc.names.lookup y ≠ some .local then (cPartsD r Γ kx vx tg iter ifs scope).map fun P =>
        if i ∈ Γ.dic then (fun ρ => dOwnC i P.it (P.own.map (·.2)) P.bb P.cc P.kk P.vv (fzE ρ (escE Γ 12 e))) else (fun ρ => dSet i P.den (fzE ρ (escE Γ 12 e))) else none
    | .ListComp elt [⟨tg, iter, ifs, 0⟩, ⟨tg1, iter1, ifs1, 0⟩] scope pos => if swB Γ scope y p' pos = true then (cParts2 r Γ elt tg iter ifs tg1 iter1 ifs1 scope).map fun P =>
        if i ∈ Γ.own then (fun ρ => dOwn i P.den (fzE ρ (escE Γ 12 e))) else (fun ρ => dSet i P.den (fzE ρ (escE Γ 12 e))) else none
    | _ => none
theorem set_snd {y : Str} {e : Expr} {F : DenS} {sp : Pos} (hr : Snd k r) (h : cSet r Γ y p' e = some F) (ok : XOk k Γ X) : PS X (.Assign [.Name y p'] e sp) (tS X.K F) := by
  replace h := bind_some h
  obtain ⟨i, h1, h⟩ := h
  obtain ⟨q1, q2, q3⟩ := slot_snd h1 ok
  split at h
  · rename_i hd
    cases h
    obtain ⟨pos, rfl⟩ := isNewD_eq hd.1
    exact s_newD ok.nd q1 q2 q3
  split at h
  · rename_i c v ho
    obtain ⟨_, ho⟩ := ite_some ho
    obtain ⟨pos, rfl⟩ := oneD_eq ho
    obtain ⟨g, h2, h⟩ := bind_some h
    obtain ⟨f, h3, h⟩ := map_some h
    cases h
    exact s_fz _ (s_oneD ok.u65 ok.nd q1 q2 q3 (cF_snd hr h2 ok).1 (cF_snd hr h3 ok).1)
  split at h
  · rename_i hc
    obtain ⟨⟨f, b⟩, h2, h3⟩ := map_some h
    have hsw : swapsWith e (some (.Name y p')) sp.line X.env = pure false := by
      rcases hc with hc | ⟨hc, hm⟩
      · exact swaps_no hc
      · cases e with
        | ListComp elt gs scope pos => exact swB_no ok hc
        | _ => cases hm
    split at h3
    · rename_i hb
      cases h3
      exact s_fz _ (s_own ok.nd q1 q2 q3 hsw ((hr _ _ _ _ h2 X ok).2.1 hb.1))
    · cases h3
      exact s_fz _ (s_set ok.nd q1 q2 q3 hsw (hr _ _ _ _ h2 X ok).1)
  · split at h
    · obtain ⟨hsw, h⟩ := ite_some h
      obtain ⟨P, h2, h3⟩ := map_some h
      have q := parts_snd hr h2 ok
      obtain ⟨w1, w2⟩ := swB_eq (k := k) ok hsw
      split at h3
      · cases h3
        exact s_fz _ (s_lc ok.calm ok.nd q1 w2 w1 q.it q.blk q.ts q.tg q.ifs q.elt q.set fun Dn σ H h => own_read h)
      · cases h3
        exact s_fz _ (s_lc ok.calm ok.nd q1 w2 w1 q.it q.blk q.ts q.tg q.ifs q.elt q.set fun Dn σ H h => fz_asg (set_read h))
    · obtain ⟨hsw, h⟩ := ite_some h
      obtain ⟨P, h2, h3⟩ := map_some h
      obtain ⟨d1, d2⟩ := partsD_snd hr h2 ok
      rcases hsw with hsw | hsw
      · obtain ⟨w1, w2⟩ := swD_eq (k := k) ok hsw
        split at h3
        · cases h3
          exact s_fz _ (s_dcompO d1 d2 q1 w2 w1)
        · cases h3
          exact s_fz _ (s_dcomp d1 d2 q1 w2 w1)
      · split at h3
        · cases h3
          exact s_fz _ (s_dcompOC d1 d2 ok.nd q1 q2 q3 (swD_no ok hsw))
        · cases h3
          exact s_fz _ (s_set ok.nd q1 q2 q3 (swD_no ok hsw) (e_dcomp d1 d2))
    · obtain ⟨hsw, h⟩ := ite_some h
      obtain ⟨P, h2, h3⟩ := map_some h
      have q := parts2_snd hr h2 ok
      obtain ⟨w1, w2⟩ := swB_eq (k := k) ok hsw
      split at h3
      · cases h3
        exact s_fz _ (psW (ps_setLc2 ok.calm ok.nd q1 w2 w1 q.it q.blk q.ts1 q.tg q.ifs q.it1 q.tg1 q.ifs1 q.elt q.set q.set1) fun Dn σ H h => comp2_read q.ts (fun _ h => h) (own_read h))
      · cases h3
        exact s_fz _ (psW (ps_setLc2 ok.calm ok.nd q1 w2 w1 q.it q.blk q.ts1 q.tg q.ifs q.it1 q.tg1 q.ifs1 q.elt q.set q.set1) fun Dn σ H h => comp2_read q.ts (fun _ h => h) (fz_asg (set_read h)))
    · cases h
/-- a, b = x, y: two names, two values -/
def parOf : List Expr → Expr → Option (Str × Pos × Str × Pos × Expr × Expr × Nat × Pos)
  | [.Name x px, .Name y py], .Tuple [a, b] k2 p2 => some (x, px, y, py, a, b, k2, p2)
  | _, _ => none
theorem parOf_eq {es : List Expr} {e : Expr} {x y : Str} {px py p2 : Pos} {a b : Expr} {k2 : Nat} (h : parOf es e = some (x, px, y, py, a, b, k2, p2)) : es = [.Name x px, .Name y py] ∧ e = .Tuple [a, b] k2 p2 := by
  unfold parOf at h
  split at h
  · cases h; exact ⟨rfl, rfl⟩
  · cases h
def cOne (r : Rec) (Γ : Ctx) (i : Nat) (e : Expr) : Option (Bool × Den) := (r Γ e).map fun fb => (fb.2 && decide (i ∈ Γ.own), fb.1)
theorem one_snd {i : Nat} {e : Expr} {o : Bool} {f : Den} (hr : Snd k r) (h : cOne r Γ i e = some (o, f)) (ok : XOk k Γ X) : PE X e (tE X.K (mdO o) f) := by
  obtain ⟨⟨g, b⟩, h1, h2⟩ := map_some h
  cases h2
  cases e1 : (b && decide (i ∈ Γ.own)) with
  | true =>
    rw [Bool.and_eq_true] at e1
    exact (hr _ _ _ _ h1 X ok).2.1 e1.1
  | false => exact (hr _ _ _ _ h1 X ok).1
def cPar (r : Rec) (Γ : Ctx) (x : Str) (px : Pos) (y : Str) (py : Pos) (a b e : Expr) : Option DenS := if parB Γ.sc x y px py a b = true then
    (slotOf Γ.N x).bind fun i => (slotOf Γ.N y).bind fun j => if i ≠ j then (cOne r Γ i a).bind fun fa => (cOne r Γ j b).map fun fb => (fun ρ => dPar i j fa.1 fb.1 fa.2 fb.2 (fzE ρ (escE Γ 12 e))) else none
  else none
theorem par_snd {x y : Str} {px py p2 : Pos} {a b : Expr} {k2 kk : Nat} {F : DenS} (hr : Snd k r) (h : cPar r Γ x px y py a b (.Tuple [a, b] k2 p2) = some F) (ok : XOk k Γ X) : PS X (.Assign [.Tuple [.Name x px, .Name y py] kk p] (.Tuple [a, b] k2 p2) p') (tS X.K F) := by
  obtain ⟨hp, h⟩ := ite_some h
  obtain ⟨i, h1, h⟩ := bind_some h
  obtain ⟨j, h2, h⟩ := bind_some h
  obtain ⟨hij, h⟩ := ite_some h
  obtain ⟨⟨oi, fa⟩, h3, h⟩ := bind_some h
  obtain ⟨⟨oj, fb⟩, h4, h⟩ := map_some h
  cases h
  have hp' : parB X.env.scope x y px py a b = true := by rw [ok.sc]; exact hp
  have hq := hp'
  unfold parB at hq
  simp only [Bool.and_eq_true, beq_iff_eq, Bool.not_eq_true'] at hq
  exact s_fz _ (s_par ok.calm ok.nd (by rw [ok.N]; exact slotOf_get h1) (by rw [ok.N]; exact slotOf_get h2) hij hq.1.1.1.1.1.1.1.2 hq.1.1.1.1.1.1.2 hq.1.1.1.2 hq.1.1.2 (one_snd hr h3 ok) (one_snd hr h4 ok) (stores_par hp'))
/-- a, b = e; a, *b = e -/
def cUnp (r : Rec) (Γ : Ctx) (es : List Expr) (e : Expr) : Option DenS := if isComp e = false ∧ foldB e = true then
    (if starLast es = true then
      (if (unstar es).all (fun e => !isStar e) = true ∧ 1 ≤ es.length then (cTgs (cTg Γ 4) (unstar es)).bind fun tb => (cF r Γ e).map fun f => (fun ρ => dStar (es.length - 1) tb.2 f (fzE ρ (escE Γ 12 e))) else none)
    else (cTgs (cTg Γ 4) es).bind fun tb => (cF r Γ e).map fun f => (fun ρ => dUnp (bTup tb.2) f (fzE ρ (escE Γ 12 e))))
  else none
theorem unp_snd {es : List Expr} {e : Expr} {F : DenS} {kk : Nat} (hr : Snd k r) (h : cUnp r Γ es e = some F) (ok : XOk k Γ X) : PS X (.Assign [.Tuple es kk p] e p') (tS X.K F) := by
  obtain ⟨⟨hc, ht⟩, h⟩ := ite_some h
  split at h
  · rename_i hsl
    obtain ⟨⟨hu, hl⟩, h⟩ := ite_some h
    obtain ⟨⟨ts, bs⟩, h1, h⟩ := bind_some h
    obtain ⟨f, h2, h⟩ := map_some h
    cases h
    exact s_fz _ (s_star ok.calm hsl hu (by omega) hc (stores_fold ht _) (tgs_snd ok (fun e ts bb h => tg_snd ok 4 h) h1).1 (cF_snd hr h2 ok).1)
  · obtain ⟨⟨ts, bs⟩, h1, h⟩ := bind_some h
    obtain ⟨f, h2, h⟩ := map_some h
    cases h
    obtain ⟨q1, q2⟩ := tgs_snd ok (fun e ts bb h => tg_snd ok 4 h) h1
    exact s_fz _ (s_unp rfl (sole_no hc) (stores_fold ht _) (g_tup (pr := false) ok.calm q2 (tgs_len h1) q1) (cF_snd hr h2 ok).1)
def cSetIx (r : Rec) (Γ : Ctx) (x : Str) (ix e : Expr) : Option DenS := if isSlice ix = false then (cVar Γ x).bind fun i => if i ∈ Γ.dic then (cF r Γ ix).bind fun g => (cF r Γ e).map fun f => (fun ρ => dPutN i g f (fzE ρ (escE Γ 12 ix ++ escE Γ 12 e))) else if isComp e = false then (cB r Γ ix).bind fun g => (cF r Γ e).map fun f => (fun ρ => dSetIx i g f (fzE ρ (escE Γ 12 e))) else none else none
theorem setIx_snd {x : Str} {ix e : Expr} {F : DenS} {apos : Pos} (hr : Snd k r) (h : cSetIx r Γ x ix e = some F) (ok : XOk k Γ X) : PS X (.Assign [.Subscript (.Name x p) ix apos] e p') (tS X.K F) := by
  obtain ⟨hs, h⟩ := ite_some h
  obtain ⟨i, h1, h⟩ := bind_some h
  obtain ⟨v1, v2, v3, v4⟩ := ok.var h1
  split at h
  · obtain ⟨g, h2, h⟩ := bind_some h
    obtain ⟨f, h3, h⟩ := map_some h
    cases h
    exact s_fz _ (s_putN ok.u65 ⟨v1, v2, v3, v4⟩ (cF_snd hr h2 ok).1 (cF_snd hr h3 ok).1)
  obtain ⟨hc, h⟩ := ite_some h
  obtain ⟨g, h2, h⟩ := bind_some h
  obtain ⟨f, h3, h⟩ := map_some h
  cases h
  exact s_fz _ (s_setIx (px := p) v1 v2 v3 v4 hs hc (cB_snd hr h2 ok) (cF_snd hr h3 ok).1)
/-- what is returned, as the caller's own -/
def cRO (r : Rec) (Γ : Ctx) : Nat → Expr → Option Den
  | 0, _ => none
  | n + 1, e => match e with
    | .Name x _ => (cVar Γ x).map dRO
    | .IfExp c a d _ => if isIf c = false then (cF r Γ c).bind fun fc => (cRO r Γ n a).bind fun fa => (cRO r Γ n d).map fun fd => dIf fc fa fd else none
    | e => (r Γ e).bind fun fb => if fb.2 = true then some (fun ρ => fb.1 (fzE ρ (escE Γ 12 e))) else none
theorem ro_snd (hr : Snd k r) (ok : XOk k Γ X) : ∀ (n : Nat) {e : Expr} {f : Den}, cRO r Γ n e = some f → PE X e (tR X.K f)
  | 0, _, _, h => by cases h
  | n + 1, e, f, h => by
    have gen : ((r Γ e).bind fun fb => if fb.2 = true then some (fun ρ => fb.1 (fzE ρ (escE Γ 12 e))) else none) = some f → PE X e (tR X.K f) := fun h => by
      obtain ⟨⟨g, b⟩, h1, h⟩ := bind_some h
      obtain ⟨hb, h⟩ := ite_some h
      cases h
      exact r_fz _ (r_ow ((hr _ _ _ _ h1 X ok).2.1 hb))
    cases e with
    | Name x p =>
      obtain ⟨i, h1, h2⟩ := map_some h
      cases h2
      obtain ⟨v1, v2, v3, v4⟩ := ok.var h1
      exact r_name v1 v2 v3 v4
    | IfExp c a d p =>
      obtain ⟨hi, h⟩ := ite_some h
      obtain ⟨fc, h1, h⟩ := bind_some h
      obtain ⟨fa, h2, h⟩ := bind_some h
      obtain ⟨fd, h3, h⟩ := map_some h
      cases h
      exact r_if ((cF_snd hr h1 ok).2 hi) (ro_snd hr ok n h2) (ro_snd hr ok n h3)
    | _ => exact gen h
def stepS (r : Rec) (rs : RecS) : RecS := fun Γ st => match st with
  | .Expr (.Call (.Attribute (.Name x _) m apos) [e] [] pos) _ => cMeth r Γ x m e apos pos
  | .Expr (.Call (.Name x px) as [] pos) _ => (cF r Γ (.Call (.Name x px) as [] pos)).map fun f => (fun ρ => dDrop f (fzE ρ (escE Γ 12 (.Call (.Name x px) as [] pos))))
  | .Assign [.Name y p'] e _ => match popOf e with
    | some _ => cPop Γ (.Name y p') e
    | none => match popC e with
      | some _ => cPopC r Γ y p' e
      | none => cSet r Γ y p' e
  | .Assign [.Tuple es kk p] e _ => match popOf e with
    | some _ => cPop Γ (.Tuple es kk p) e
    | none => match (if foldB e = true then none else parOf es e) with
      | some (x, px, y, py, a, b, _, _) => cPar r Γ x px y py a b e
      | none => cUnp r Γ es e
  | .Assign [.Subscript (.Name x _) ix _] e _ => cSetIx r Γ x ix e
  | .Return (some e) _ => if Γ.ro = true then (cRO r Γ 4 e).map dRetO else (cF r Γ e).map fun f => (fun ρ => dRet f (fzE ρ (escE Γ 12 e)))
  | .If c A B _ => if isIf c = false then (cF r Γ c).bind fun fc => (cSs rs Γ A).bind fun F => (cSs rs Γ B).map fun F' => (fun ρ => dIfS fc F F' (fzE ρ (escE Γ 12 c))) else none
  | .For tg iter body [] _ => if isSet iter = false then (cIt r Γ false tg iter).bind fun it => (cTg Γ 4 tg).bind fun tb => (cSs rs Γ body).map fun F => (fun ρ => dFor it tb.2 F (fzE ρ (escI Γ iter))) else none
  | .While c body [] _ => if isIf c = false then (cF r Γ c).bind fun fc => (cSs rs Γ body).map fun F => whileL fc F Γ.wf else none
  | .Pass _ => some fun ρ => some (.next ρ)
  | .Break _ => some fun ρ => some (.brk ρ)
  | .Continue _ => some fun ρ => some (.cont ρ)
  | .Raise _ _ _ => some fun _ => none
  | _ => none
theorem stepS_snd (hr : Snd k r) (hrs : SndS k rs) : SndS k (stepS r rs) := by
  intro Γ st F h X ok
  unfold stepS at h
  split at h
  · exact meth_snd hr h ok
  · obtain ⟨f, h1, h2⟩ := map_some h
    cases h2
    exact s_fz _ (s_drop rfl (cF_snd hr h1 ok).1)
  · split at h
    · exact pop_snd h ok
    · split at h
      · exact popc_snd hr h ok
      · exact set_snd hr h ok
  · split at h
    · exact pop_snd h ok
    · split at h
      · rename_i x px y py a b k2 p2 eq
        split at eq
        · cases eq
        · obtain ⟨rfl, rfl⟩ := parOf_eq eq
          exact par_snd hr h ok
      · exact unp_snd hr h ok
  · exact setIx_snd hr h ok
  · split at h
    · obtain ⟨f, h1, h2⟩ := map_some h
      cases h2
      exact s_retO (ro_snd hr ok 4 h1)
    · obtain ⟨f, h1, h2⟩ := map_some h
      cases h2
      exact s_fz _ (s_ret (cF_snd hr h1 ok).1)
  · obtain ⟨hi, h⟩ := ite_some h
    obtain ⟨fc, h1, h⟩ := bind_some h
    obtain ⟨F1, h2, h⟩ := bind_some h
    obtain ⟨F2, h3, h⟩ := map_some h
    cases h
    exact s_fz _ (s_if ((cF_snd hr h1 ok).2 hi) (ss_snd hrs ok h2) (ss_snd hrs ok h3))
  · obtain ⟨hs, h⟩ := ite_some h
    obtain ⟨it, h1, h⟩ := bind_some h
    obtain ⟨⟨ts, bb⟩, h2, h⟩ := bind_some h
    obtain ⟨F1, h3, h⟩ := map_some h
    cases h
    exact s_fz _ (s_for ok.xe ok.calm (it_snd hr h1 ok) (tg_snd ok 4 h2) (ss_snd hrs ok h3) (fold_ok hs _))
  · obtain ⟨hi, h⟩ := ite_some h
    obtain ⟨fc, h1, h⟩ := bind_some h
    obtain ⟨F1, h2, h⟩ := map_some h
    cases h
    exact s_while _ ok.xe ((cF_snd hr h1 ok).2 hi) (ss_snd hrs ok h2)
  · cases h; exact s_pass
  · cases h; exact s_break
  · cases h; exact s_continue
  · cases h; exact ⟨fun pins s σ H Dn I q => by obtain ⟨_, _, _, _, _, _, hf, _⟩ := q; cases hf⟩
  · cases h
def cS (n : Nat) : Nat → RecS
  | 0 => fun _ _ => none
  | m + 1 => stepS (cE n) (cS n m)
theorem cS_snd (k n : Nat) : ∀ m, SndS k (cS n m)
  | 0 => fun Γ e f h => by cases h
  | m + 1 => stepS_snd (cE_snd k n) (cS_snd k n m)
/-- a def's body -/
def cBody (Γ : Ctx) (sts : List Stmt) : Option DenS := cSs (cS 14 8) Γ sts
end
end PF
namespace PF
open PySem PySem.Spec PyProof.Rows L2
/-! ### the program's defs, one after another -/
/-- the name x is a def that keeps to the plain function g, of n arguments -/
def Av (P : Program) (w : World) (K : PySem.W.Frag) (mg : Str → Option Value) (base : Heap) (k : Nat) (x : Str) (n : Nat) (g : List D → Option D) : Prop :=
  ∃ fa fd ps, mg x = some (.ref fa) ∧ PySem.W.keepIn K (.ref fa) = true ∧ Binds K fd ps [] ∧ FnOk P w K mg base CX0 k fa fd ps (spF K n g)
section
variable {P : Program} {w : World} {K : PySem.W.Frag} {mg : Str → Option Value} {base : Heap}
theorem Av.mono {j k n : Nat} {x : Str} {g : List D → Option D} (h : Av P w K mg base j x n g) (hj : j ≤ k) : Av P w K mg base k x n g := by
  obtain ⟨fa, fd, ps, h1, h2, h3, h4⟩ := h
  exact ⟨fa, fd, ps, h1, h2, h3, h4.mono hj⟩
structure Glob (mg : Str → Option Value) (gls : List (Str × D)) (K : PySem.W.Frag) : Prop where
  blt : ∀ x ∈ bltNames, mg x = none
  gls : ∀ x d, gls.lookup x = some d → ∃ v u, mg x = some u ∧ RelV v u ∧ (∀ G, Rp K G v d) ∧ ∀ xs, d ≠ .list xs
theorem fn_def {x : Str} {params : Arguments} {body : List Stmt} {scope : Scope} {fa : Addr} {fd : FuncData} {N ps : List Str} {k : Nat} {Γ : Ctx} {F : DenS}
    {kwv : List (Str × V)} (Fn : FunD K x x params body scope [] kwv fa fd) (S : FnScope N ps scope) (hN : Γ.N = N) (hsc : Γ.sc = scope) (hb : Γ.blk = none) (chk : cBody Γ body = some F)
    (hf : ∀ y n g, Γ.fns.lookup y = some (n, g) → Av P w K mg base k y n g) (hk : ∀ y ks n o g, (y, ks, n, o, g) ∈ Γ.fks → AvK P w K mg base k y ks n o g) (gl : Glob mg Γ.gls K) :
    FnOk P w K mg base CX0 (k + 1) fa fd ps (spF K ps.length (runF N.length F)) := by
  refine Fn.ok S (fun vs H Q E h => ?_) (fun cdv A outer s H vs Q E hr h => ⟨tS K F, PSs.nox ?_, ?_⟩)
  · obtain ⟨G, ds, d, gh, r, hl, _⟩ := h
    rw [r.length]
    exact hl
  · have ok : XOk k Γ (cxOf CX0 P w K mg base N x scope fa cdv A outer s H E).nox :=
      { N := hN.symm, nd := S.nd, sc := hsc.symm, calm := rfl, room := hr, xe := rfl, fn := fun _ _ => .inl rfl, fns := hf, fks := hk, blt := gl.blt, gls := gl.gls }
    exact ss_snd (cS_snd k 14 8) ok chk
  · obtain ⟨G, ds, d, gh, r, hl, hrun, q⟩ := h
    unfold runF at hrun
    split at hrun
    · rename_i d' e1
      cases hrun
      exact ⟨H, G, G, _, _, env_start gh r, e1, q⟩
    · rename_i ρ' e1
      cases hrun
      exact ⟨H, G, G, _, _, env_start gh r, e1, fun σ' H' G' _ ok' => q _ _ _ ok'.st .non⟩
    · cases hrun
theorem fn_defG {x : Str} {params : Arguments} {body : List Stmt} {scope : Scope} {fa : Addr} {fd : FuncData} {N ps : List Str} {k : Nat} {Γ : Ctx} {F : DenS}
    {kwv : List (Str × V)} (Fn : FunD K x x params body scope [] kwv fa fd) (S : FnScope N ps scope) (hN : Γ.N = N) (hsc : Γ.sc = scope) (hb : Γ.blk = none) (chk : cBody Γ body = some F)
    (hf : ∀ y n g, Γ.fns.lookup y = some (n, g) → Av P w K mg base k y n g) (hk : ∀ y ks n o g, (y, ks, n, o, g) ∈ Γ.fks → AvK P w K mg base k y ks n o g) (gl : Glob mg Γ.gls K) :
    FnOk P w K mg base CX0 (k + 1) fa fd ps (spG K ps.length (runF N.length F) false) := fn_def Fn S hN hsc hb chk hf hk gl
theorem fn_defO {x : Str} {params : Arguments} {body : List Stmt} {scope : Scope} {fa : Addr} {fd : FuncData} {N ps : List Str} {k : Nat} {Γ : Ctx} {F : DenS}
    {kwv : List (Str × V)} (Fn : FunD K x x params body scope [] kwv fa fd) (S : FnScope N ps scope) (hN : Γ.N = N) (hsc : Γ.sc = scope) (hb : Γ.blk = none) (chk : cBody Γ body = some F)
    (hf : ∀ y n g, Γ.fns.lookup y = some (n, g) → Av P w K mg base k y n g) (hk : ∀ y ks n o g, (y, ks, n, o, g) ∈ Γ.fks → AvK P w K mg base k y ks n o g) (gl : Glob mg Γ.gls K) :
    FnOk P w K mg base CX0 (k + 1) fa fd ps (spG K ps.length (runO N.length F) true) := by
  refine Fn.ok S (fun vs H Q E h => ?_) (fun cdv A outer s H vs Q E hr h => ⟨tS K F, PSs.nox ?_, ?_⟩)
  · obtain ⟨G, ds, d, gh, r, hl, _⟩ := h
    rw [r.length]
    exact hl
  · have ok : XOk k Γ (cxOf CX0 P w K mg base N x scope fa cdv A outer s H E).nox :=
      { N := hN.symm, nd := S.nd, sc := hsc.symm, calm := rfl, room := hr, xe := rfl, fn := fun _ _ => .inl rfl, fns := hf, fks := hk, blt := gl.blt, gls := gl.gls }
    exact ss_snd (cS_snd k 14 8) ok chk
  · obtain ⟨G, ds, d, gh, r, hl, hrun, q⟩ := h
    unfold runO at hrun
    split at hrun
    · rename_i d' e1
      cases hrun
      exact ⟨H, G, G, _, _, env_start gh r, e1, q⟩
    · rename_i ρ' e1
      cases hrun
      exact ⟨H, G, G, _, _, env_start gh r, e1, fun σ' H' G' _ ok' => q _ _ _ ok'.st (show Rp K G' .non .none from .non)⟩
    · cases hrun
/-- no keyword-only parameter -/
theorem avK_all {x : Str} {ps : List Str} {k np : Nat} {o : Bool} {fa : Addr} {fd : FuncData} {g : List D → Option D} (hm : mg x = some (.ref fa)) (kp : PySem.W.keepIn K (.ref fa) = true) (hb : Binds K fd ps []) (hn : np = ps.length) (F : FnOk P w K mg base CX0 k fa fd ps (spG K np g o)) :
    AvK P w K mg base k x [] np o (fun ds _ => g ds) :=
  ⟨fa, fd, ps, fun us _ => us, fun vs _ => vs, np, g, hm, kp, ⟨fun s us ws hi l1 l2 => by
      cases ws with
      | nil => have := hb s us hi (by rw [List.append_nil, l1, hn]); rw [List.append_nil] at this; exact this
      | cons a b => simp at l2, fun r _ => r⟩, F, fun G vs ds zs es d r1 r2 l1 l2 h => ⟨ds, r1, l1, h⟩⟩
theorem av_def {x : Str} {params : Arguments} {body : List Stmt} {scope : Scope} {fa : Addr} {fd : FuncData} {N ps : List Str} {k : Nat} {Γ : Ctx} {F : DenS}
    (Fn : FunD K x x params body scope [] [] fa fd) (S : FnScope N ps scope) (hN : Γ.N = N) (hsc : Γ.sc = scope) (hb : Γ.blk = none) (chk : cBody Γ body = some F)
    (hf : ∀ y n g, Γ.fns.lookup y = some (n, g) → Av P w K mg base k y n g) (hk : ∀ y ks n o g, (y, ks, n, o, g) ∈ Γ.fks → AvK P w K mg base k y ks n o g) (gl : Glob mg Γ.gls K) (hm : mg x = some (.ref fa)) (hbi : Binds K fd ps []) :
    Av P w K mg base (k + 1) x ps.length (runF N.length F) := by
  exact ⟨fa, fd, ps, hm, Fn.kp, hbi, fn_def Fn S hN hsc hb chk hf hk gl⟩
theorem AvK.mono {j k n : Nat} {o : Bool} {x : Str} {ks : List Str} {g : List D → List D → Option D} (h : AvK P w K mg base j x ks n o g) (hj : j ≤ k) : AvK P w K mg base k x ks n o g := by
  obtain ⟨fa, fd, ps, gg, gV, np, f, h1, h2, h3, h4, h5⟩ := h
  exact ⟨fa, fd, ps, gg, gV, np, f, h1, h2, h3, h4.mono hj, h5⟩
/-- a def that calls itself: what it keeps to, as deep as it may go -/
def recF (n : Nat) (F : (List D → Option D) → DenS) : Nat → List D → Option D
  | 0 => fun _ => none
  | m + 1 => runF n (F (recF n F m))
theorem av_none {x : Str} {params : Arguments} {body : List Stmt} {scope : Scope} {fa : Addr} {fd : FuncData} {N ps : List Str} {k n : Nat}
    (Fn : FunD K x x params body scope [] [] fa fd) (S : FnScope N ps scope) (hm : mg x = some (.ref fa)) (hbi : Binds K fd ps []) : Av P w K mg base (k + 1) x n (fun _ => none) := by
  refine ⟨fa, fd, ps, hm, Fn.kp, hbi, Fn.ok S (fun vs H Q E h => ?_) (fun cdv A outer s H vs Q E hr h => ?_)⟩
  · obtain ⟨G, ds, d, gh, r, hl, h, _⟩ := h
    cases h
  · exfalso
    obtain ⟨G, ds, d, gh, r, hl, h, _⟩ := h
    cases h
theorem av_rec {x : Str} {params : Arguments} {body : List Stmt} {scope : Scope} {fa : Addr} {fd : FuncData} {N ps : List Str} {k : Nat} {Γ : (List D → Option D) → Ctx} {F : (List D → Option D) → DenS}
    (Fn : FunD K x x params body scope [] [] fa fd) (S : FnScope N ps scope) (hN : ∀ f, (Γ f).N = N) (hsc : ∀ f, (Γ f).sc = scope) (hb : ∀ f, (Γ f).blk = none) (chk : ∀ f, cBody (Γ f) body = some (F f))
    (hf : ∀ m, Av P w K mg base (k + 1 + m) x ps.length (recF N.length F m) → ∀ y n g, (Γ (recF N.length F m)).fns.lookup y = some (n, g) → Av P w K mg base (k + 1 + m) y n g)
    (hk : ∀ f y ks n o g, (y, ks, n, o, g) ∈ (Γ f).fks → AvK P w K mg base k y ks n o g) (gl : ∀ f, Glob mg (Γ f).gls K) (hm : mg x = some (.ref fa)) (hbi : Binds K fd ps []) :
    ∀ m, Av P w K mg base (k + 1 + m) x ps.length (recF N.length F m)
  | 0 => av_none Fn S hm hbi
  | m + 1 => av_def Fn S (hN _) (hsc _) (hb _) (chk _) (hf m (av_rec Fn S hN hsc hb chk hf hk gl hm hbi m)) (fun y ks n o g h => (hk _ y ks n o g h).mono (by show k ≤ k + 1 + m; omega)) (gl _) hm hbi
theorem vals_app : ∀ {xs ys : List V} {us ws : List Value}, Vals xs us → Vals ys ws → Vals (xs ++ ys) (us ++ ws)
  | _, _, _, _, .nil, h => h
  | _, _, _, _, .cons r t, h => .cons r (vals_app t h)
/-- one keyword-only parameter, given -/
theorem avK_given {x kw : Str} {ps : List Str} {n k np : Nat} {o : Bool} {fa : Addr} {fd : FuncData} {g : List D → Option D} {gg : List Value → List Value → List Value} {gV : List V → List V → List V} (hm : mg x = some (.ref fa)) (kp : PySem.W.keepIn K (.ref fa) = true) (hb : KBn K fd ps n [kw] gg gV) (hg : ∀ vs zs, gV vs zs = vs ++ zs) (hn : np = n + 1) (F : FnOk P w K mg base CX0 k fa fd ps (spG K np g o)) :
    AvK P w K mg base k x [kw] n o (fun ds es => g (ds ++ es)) :=
  ⟨fa, fd, ps, gg, gV, np, g, hm, kp, hb, F, fun G vs ds zs es d r1 r2 l1 l2 h => ⟨ds ++ es, by rw [hg]; exact r1.append r2, by rw [List.length_append, l1, l2, hn]; rfl, h⟩⟩
/-- one keyword-only parameter, left out -/
theorem avK_left {x : Str} {ps : List Str} {n k np : Nat} {o : Bool} {fa : Addr} {fd : FuncData} {g : List D → Option D} {gg : List Value → List Value → List Value} {gV : List V → List V → List V} {v0 : V} {d0 : D} (hm : mg x = some (.ref fa)) (kp : PySem.W.keepIn K (.ref fa) = true) (hb : KBn K fd ps n [] gg gV) (hg : ∀ vs zs, gV vs zs = vs ++ [v0]) (h0 : ∀ G, Rp K G v0 d0) (hn : np = n + 1) (F : FnOk P w K mg base CX0 k fa fd ps (spG K np g o)) :
    AvK P w K mg base k x [] n o (fun ds _ => g (ds ++ [d0])) :=
  ⟨fa, fd, ps, gg, gV, np, g, hm, kp, hb, F, fun G vs ds zs es d r1 r2 l1 l2 h => ⟨ds ++ [d0], by rw [hg]; exact r1.append (.cons (h0 G) .nil), by rw [List.length_append, l1, hn]; rfl, h⟩⟩
theorem lookK {y x : Str} {ks ls : List Str} {n m : Nat} {o o' : Bool} {g g' : List D → List D → Option D} {r : List (Str × List Str × Nat × Bool × (List D → List D → Option D))} {Q : Prop} (h : (y, ls, m, o', g') ∈ (x, ks, n, o, g) :: r) (h1 : y = x → ls = ks → m = n → o' = o → g' = g → Q) (h2 : (y, ls, m, o', g') ∈ r → Q) : Q := by
  rcases List.mem_cons.mp h with e | e
  · cases e; exact h1 rfl rfl rfl rfl rfl
  · exact h2 e
theorem glook {x y : Str} {d d' : D} {r : List (Str × D)} {Q : Prop} (h : ((x, d) :: r).lookup y = some d') (h1 : y = x → d = d' → Q) (h2 : r.lookup y = some d' → Q) : Q := by
  rw [List.lookup_cons] at h
  split at h
  · rename_i e
    cases h
    exact h1 (beq_iff_eq.mp e) rfl
  · exact h2 h
theorem lookup1 {x y : Str} {n m : Nat} {g g' : List D → Option D} {r : List (Str × Nat × (List D → Option D))} {Q : Prop} (h : ((x, n, g) :: r).lookup y = some (m, g')) (h1 : y = x → n = m → g = g' → Q) (h2 : r.lookup y = some (m, g') → Q) : Q := by
  rw [List.lookup_cons] at h
  split at h
  · rename_i e
    cases h
    exact h1 (beq_iff_eq.mp e) rfl rfl
  · exact h2 h
/-- the law's script as a datum -/
def scrD (ns : List Int) : D := .dict ((.list [], .none) :: ns.map fun n => (PyData.int n, PyData.none))
theorem law_sp {H : Hp} {a : Addr} {ns : List Int} {f : List D → Option D} (h : SqL K H a (ns.map V.int)) (hf : f [scrD ns] = some (.bool true)) : spF K 1 f [.ref a] H (fun v _ => v = .bl true) fun _ _ _ => False :=
  ⟨H, [scrD ns], .bool true, Same.refl _, .cons (.scr h) .nil, rfl, hf, fun v H' G' _ r => by cases r; rfl⟩
end
end PF
namespace PF
open PySem PySem.Spec PyProof.Rows L2
/-! ### a calculus for denotations -/
def W {α : Type} (o : Option α) (Q : α → Prop) : Prop := ∃ a, o = some a ∧ Q a
theorem W.mono {α : Type} {o : Option α} {P Q : α → Prop} (h : W o P) (k : ∀ a, P a → Q a) : W o Q := h.imp fun a h => ⟨h.1, k a h.2⟩
theorem W.of {α : Type} {o : Option α} {Q : α → Prop} {a : α} (e : o = some a) (h : Q a) : W o Q := ⟨a, e, h⟩
theorem W_some {α : Type} (a : α) (Q : α → Prop) : W (some a) Q = Q a := propext ⟨fun ⟨_, e, h⟩ => by cases e; exact h, fun h => ⟨a, rfl, h⟩⟩
theorem W_none {α : Type} (Q : α → Prop) : W (none : Option α) Q = False := propext ⟨fun ⟨_, e, _⟩ => (by cases e), fun h => False.elim h⟩
theorem W_bind {α β : Type} (o : Option α) (f : α → Option β) (Q : β → Prop) : W (o.bind f) Q = W o fun a => W (f a) Q := by
  cases o with
  | none => rw [Option.bind_none, W_none, W_none]
  | some a => rw [Option.bind_some, W_some]
theorem W_map {α β : Type} (o : Option α) (f : α → β) (Q : β → Prop) : W (o.map f) Q = W o fun a => Q (f a) := by
  cases o with
  | none => rw [Option.map_none, W_none, W_none]
  | some a => rw [Option.map_some, W_some, W_some]
theorem W_if {α : Type} (c : Prop) [Decidable c] (a : α) (Q : α → Prop) : W (if c then some a else none) Q = (c ∧ Q a) := by
  by_cases h : c
  · rw [if_pos h, W_some]; simp [h]
  · rw [if_neg h, W_none]; simp [h]
def Kn (F : DenS) (Q : Out → Prop) : Out → Prop
  | .next ρ => W (F ρ) Q
  | o => Q o
def Pt (ρ : Env) (i : Nat) (s : SV) (K : Env → Prop) : Prop := K (ρ.set i (some s))
def Lo (ρ : Env) (i : Nat) (K : List D → Prop) : Prop := ∃ xs, ρ[i]? = some (some (.own xs)) ∧ K xs
def Bz (d : D) (A B : Prop) : Prop := ∃ b, d = .bool b ∧ (b = true → A) ∧ (b = false → B)
def Bv (d : D) (Q : Bool → Prop) : Prop := ∃ b, d = .bool b ∧ Q b
def Iv (d : D) (Q : Int → Prop) : Prop := ∃ i, d = .int i ∧ Q i
def itm : D → Option (List D)
  | .list ds => some ds
  | .tuple ds => some ds
  | _ => none
def itmK : D → Option (List D)
  | .dict ((.bool true, .none) :: kvs) => some (kvs.map (·.1))
  | d => itm d
def Rt (P : D → Prop) : Out → Prop
  | .ret d => P d
  | .next _ => P .none
  | _ => False
theorem W_run {n : Nat} {F : DenS} {ds : List D} {P : D → Prop} (h : W (F (toEnv n ds)) (Rt P)) : W (runF n F ds) P := by
  obtain ⟨o, e, h⟩ := h
  unfold runF
  rw [e]
  cases o with
  | ret d => exact ⟨d, rfl, h⟩
  | next ρ => exact ⟨_, rfl, h⟩
  | brk ρ => exact h.elim
  | cont ρ => exact h.elim
  | reto d => exact h.elim
def Ro (P : D → Prop) : Out → Prop
  | .reto d => P d
  | .next _ => P .none
  | _ => False
theorem W_runO {n : Nat} {F : DenS} {ds : List D} {P : D → Prop} (h : W (F (toEnv n ds)) (Ro P)) : W (runO n F ds) P := by
  obtain ⟨o, e, h⟩ := h
  unfold runO
  rw [e]
  cases o with
  | reto d => exact ⟨d, rfl, h⟩
  | next ρ => exact ⟨_, rfl, h⟩
  | brk ρ => exact h.elim
  | cont ρ => exact h.elim
  | ret d => exact h.elim
theorem Ro_r (P : D → Prop) (d : D) : Ro P (.reto d) = P d := rfl
theorem Ro_n (P : D → Prop) (ρ : Env) : Ro P (.next ρ) = P .none := rfl
theorem Bz_t (A B : Prop) : Bz (.bool true) A B = A := propext ⟨fun ⟨b, e, h, _⟩ => by cases e; exact h rfl, fun h => ⟨true, rfl, fun _ => h, fun z => by cases z⟩⟩
theorem Bz_f (A B : Prop) : Bz (.bool false) A B = B := propext ⟨fun ⟨b, e, _, h⟩ => by cases e; exact h rfl, fun h => ⟨false, rfl, fun z => (by cases z), fun _ => h⟩⟩
theorem Bz_d (p : Prop) [Decidable p] (A B : Prop) : Bz (.bool (decide p)) A B = ((p → A) ∧ (¬p → B)) := by
  by_cases h : p
  · rw [decide_eq_true h, Bz_t]; simp [h]
  · rw [decide_eq_false h, Bz_f]; simp [h]
theorem Bz_b (b : Bool) (A B : Prop) : Bz (.bool b) A B = ((b = true → A) ∧ (b = false → B)) := by cases b <;> simp [Bz_t, Bz_f]
theorem Bv_b (b : Bool) (Q : Bool → Prop) : Bv (.bool b) Q = Q b := propext ⟨fun ⟨_, e, h⟩ => by cases e; exact h, fun h => ⟨b, rfl, h⟩⟩
theorem Iv_i (i : Int) (Q : Int → Prop) : Iv (.int i) Q = Q i := propext ⟨fun ⟨_, e, h⟩ => by cases e; exact h, fun h => ⟨i, rfl, h⟩⟩
section
variable (f g h f1 f2 f3 : Den) (F F' : DenS) (ρ : Env) (Q : D → Prop) (R : Out → Prop) (i : Nat) (fs : List Den) (x : Option SV)
theorem W_d2 (a : D → D → Option D) : W (d2 a f g ρ) Q = W (f ρ) fun x => W (g ρ) fun y => W (a x y) Q := by unfold d2; rw [W_bind]; simp only [W_bind]
theorem W_d1 (a : D → Option D) : W (d1 a f ρ) Q = W (f ρ) fun x => W (a x) Q := by unfold d1; rw [W_bind]
theorem W_dC (d : D) : W (dC d ρ) Q = Q d := W_some d Q
theorem W_v0 (d : D) : W (dVar 0 (some (.val d) :: ρ)) Q = Q d := W_some d Q
theorem W_vs : W (dVar (i + 1) (x :: ρ)) Q = W (dVar i ρ) Q := rfl
theorem W_b0 (d : D) : W (dVarB 0 (some (.val d) :: ρ)) Q = Q d := W_some d Q
theorem W_bo (ds : List D) : W (dVarB 0 (some (.own ds) :: ρ)) Q = Q (.list ds) := W_some _ Q
theorem W_bs : W (dVarB (i + 1) (x :: ρ)) Q = W (dVarB i ρ) Q := rfl
theorem W_seq : W (dSeq F F' ρ) R = W (F ρ) (Kn F' R) := by
  unfold dSeq
  cases e : F ρ with
  | none => simp only [W_none]
  | some o => cases o <;> simp only [W_some] <;> rfl
theorem Kn_n : Kn F R (.next ρ) = W (F ρ) R := rfl
theorem Kn_r (d : D) : Kn F R (.ret d) = R (.ret d) := rfl
theorem Kn_o (d : D) : Kn F R (.reto d) = R (.reto d) := rfl
theorem Kn_b : Kn F R (.brk ρ) = R (.brk ρ) := rfl
theorem Kn_c : Kn F R (.cont ρ) = R (.cont ρ) := rfl
theorem Pt_0 (s : SV) (K : Env → Prop) : Pt (x :: ρ) 0 s K = K (some s :: ρ) := rfl
theorem Pt_s (s : SV) (K : Env → Prop) : Pt (x :: ρ) (i + 1) s K = Pt ρ i s fun ρ' => K (x :: ρ') := rfl
theorem Lo_0 (ds : List D) (K : List D → Prop) : Lo (some (.own ds) :: ρ) 0 K = K ds := propext ⟨fun ⟨_, e, h⟩ => by cases e; exact h, fun h => ⟨ds, rfl, h⟩⟩
theorem Lo_s (K : List D → Prop) : Lo (x :: ρ) (i + 1) K = Lo ρ i K := rfl
theorem W_set : W (dSet i f ρ) R = W (f ρ) fun d => Pt ρ i (.val d) fun ρ' => R (.next ρ') := by unfold dSet; rw [W_map]; rfl
def Lv (d : D) (K : List D → Prop) : Prop := ∃ xs, d = .list xs ∧ K xs
theorem Lv_l (xs : List D) (K : List D → Prop) : Lv (.list xs) K = K xs := propext ⟨fun ⟨_, e, h⟩ => by cases e; exact h, fun h => ⟨xs, rfl, h⟩⟩
theorem W_own : W (dOwn i f ρ) R = W (f ρ) fun d => Lv d fun xs => Pt ρ i (.own xs) fun ρ' => R (.next ρ') := by
  unfold dOwn
  cases e : f ρ with
  | none => simp only [W_none]
  | some d =>
    cases d with
    | list xs => simp only [W_some, Lv_l]; rfl
    | _ => simp only [W_none, W_some]; exact propext ⟨fun z => False.elim z, fun ⟨_, e, _⟩ => by cases e⟩
theorem W_ret : W (dRet f ρ) R = W (f ρ) fun d => R (.ret d) := by unfold dRet; rw [W_map]
theorem W_retO : W (dRetO f ρ) R = W (f ρ) fun d => R (.reto d) := by unfold dRetO; rw [W_map]
theorem W_ro0 (ds : List D) : W (dRO 0 (some (.own ds) :: ρ)) Q = Q (.list ds) := W_some _ _
theorem W_rov (d : D) : W (dRO 0 (some (.val d) :: ρ)) Q = (noL d = true ∧ Q d) := W_if _ _ _
theorem W_ros : W (dRO (i + 1) (x :: ρ)) Q = W (dRO i ρ) Q := rfl
theorem W_callK (G : List D → List D → Option D) (zs : List Den) : W (dCallK G fs zs ρ) Q = W (dArgs fs ρ) fun ds => W (dArgs zs ρ) fun es => W (G ds es) Q := by unfold dCallK; simp only [W_bind]
theorem W_ifS : W (dIfS f F F' ρ) R = W (f ρ) fun d => Bz d (W (F ρ) R) (W (F' ρ) R) := by
  unfold dIfS
  cases e : f ρ with
  | none => simp only [W_none]
  | some d =>
    cases d with
    | bool b => cases b <;> simp only [W_some, Bz_t, Bz_f]
    | _ => simp only [W_none, W_some]; exact propext ⟨fun z => False.elim z, fun ⟨_, e, _⟩ => by cases e⟩
theorem W_dT (Q : Bool → Prop) : W (dT f ρ) Q = W (f ρ) fun d => Bv d Q := by
  unfold dT
  cases e : f ρ with
  | none => simp only [W_none]
  | some d =>
    cases d with
    | bool b => simp only [W_some, Bv_b]
    | _ => simp only [W_none, W_some]; exact propext ⟨fun z => False.elim z, fun ⟨_, e, _⟩ => by cases e⟩
theorem W_and : W (dAnd f g ρ) Q = W (f ρ) fun d => Bz d (W (g ρ) Q) (Q (.bool false)) := by
  unfold dAnd
  cases e : f ρ with
  | none => simp only [W_none]
  | some d =>
    cases d with
    | bool b => cases b <;> simp only [W_some, Bz_t, Bz_f]
    | _ => simp only [W_none, W_some]; exact propext ⟨fun z => False.elim z, fun ⟨_, e, _⟩ => by cases e⟩
theorem W_or : W (dOr f g ρ) Q = W (f ρ) fun d => Bz d (Q (.bool true)) (W (g ρ) Q) := by
  unfold dOr
  cases e : f ρ with
  | none => simp only [W_none]
  | some d =>
    cases d with
    | bool b => cases b <;> simp only [W_some, Bz_t, Bz_f]
    | _ => simp only [W_none, W_some]; exact propext ⟨fun z => False.elim z, fun ⟨_, e, _⟩ => by cases e⟩
theorem W_if3 : W (dIf f g h ρ) Q = W (f ρ) fun d => Bz d (W (g ρ) Q) (W (h ρ) Q) := by
  unfold dIf
  cases e : f ρ with
  | none => simp only [W_none]
  | some d =>
    cases d with
    | bool b => cases b <;> simp only [W_some, Bz_t, Bz_f]
    | _ => simp only [W_none, W_some]; exact propext ⟨fun z => False.elim z, fun ⟨_, e, _⟩ => by cases e⟩
theorem W_not : W (dNot f ρ) Q = W (f ρ) fun d => Bv d fun b => Q (.bool (!b)) := by
  unfold dNot
  cases e : f ρ with
  | none => simp only [W_none]
  | some d =>
    cases d with
    | bool b => simp only [W_some, Bv_b]
    | _ => simp only [W_none, W_some]; exact propext ⟨fun z => False.elim z, fun ⟨_, e, _⟩ => by cases e⟩
theorem W_chain (a a' : D → D → Option D) : W (dChain a a' f1 f2 f3 ρ) Q = W (f1 ρ) fun x => W (f2 ρ) fun y => W (a x y) fun d => Bz d (W (f3 ρ) fun z => W (a' y z) Q) (Q (.bool false)) := by
  unfold dChain
  rw [W_bind]
  refine congrArg _ (funext fun x => ?_)
  rw [W_bind]
  refine congrArg _ (funext fun y => ?_)
  cases e : a x y with
  | none => simp only [W_none]
  | some d =>
    cases d with
    | bool b => cases b <;> simp only [W_some, Bz_t, Bz_f, W_bind]
    | _ => simp only [W_none, W_some]; exact propext ⟨fun z => False.elim z, fun ⟨_, e, _⟩ => by cases e⟩
theorem W_a0 (Q : List D → Prop) : W (dArgs [] ρ) Q = Q [] := W_some _ _
theorem W_as (Q : List D → Prop) : W (dArgs (f :: fs) ρ) Q = W (f ρ) fun x => W (dArgs fs ρ) fun xs => Q (x :: xs) := by
  show W ((f ρ).bind fun x => (dArgs fs ρ).bind fun xs => some (x :: xs)) Q = _
  simp only [W_bind, W_some]
theorem W_tup : W (dTup fs ρ) Q = W (dArgs fs ρ) fun xs => Q (.tuple xs) := by unfold dTup; rw [W_map]
theorem W_lst : W (dLst fs ρ) Q = W (dArgs fs ρ) fun xs => Q (.list xs) := by unfold dLst; rw [W_map]
theorem W_call (a : List D → Option D) : W (dCall a fs ρ) Q = W (dArgs fs ρ) fun xs => W (a xs) Q := by unfold dCall; rw [W_bind]
theorem W_addI (i j : Int) : W (aAdd (.int i) (.int j)) Q = Q (.int (i + j)) := W_some _ _
theorem W_addL (xs ys : List D) : W (aAdd (.list xs) (.list ys)) Q = (xs.length + ys.length ≤ sizeLine ∧ Q (.list (xs ++ ys))) := W_if _ _ _
theorem W_addT (xs ys : List D) : W (aAdd (.tuple xs) (.tuple ys)) Q = (xs.length + ys.length ≤ sizeLine ∧ Q (.tuple (xs ++ ys))) := W_if _ _ _
theorem W_subI (i j : Int) : W (aSub (.int i) (.int j)) Q = Q (.int (i - j)) := W_some _ _
theorem W_modI (i j : Int) : W (aMod (.int i) (.int j)) Q = (0 < j ∧ Q (.int (i % j))) := by unfold aMod aInt2; rw [W_if]; simp only [decide_eq_true_eq]
theorem W_divI (i j : Int) : W (aDiv (.int i) (.int j)) Q = ((0 < j ∧ j < 1073741824) ∧ Q (.int (i / j))) := by unfold aDiv aInt2 cDiv; rw [W_if]; simp only [decide_eq_true_eq, Bool.and_eq_true]
theorem W_powI (i j : Int) : W (aPow (.int i) (.int j)) Q = (cPow i j = true ∧ Q (.int (i ^ j.toNat))) := by unfold aPow aInt2; rw [W_if]
theorem W_mulI (i j : Int) : W (aMul (.int i) (.int j)) Q = (((-18446744073709551616 < i ∧ i < 18446744073709551616) ∨ (-18446744073709551616 < j ∧ j < 18446744073709551616)) ∧ Q (.int (i * j))) := by
  unfold aMul cMul big64
  rw [W_if]
  simp only [decide_eq_true_eq, Bool.and_eq_true, Bool.or_eq_true]
  rfl
theorem W_mulT (xs : List D) (k : Int) : W (aMul (.tuple xs) (.int k)) Q = ((xs ≠ [] ∧ 1 ≤ k ∧ k ≤ 1000 ∧ xs.length ≤ 1000) ∧ Q (.tuple (List.replicate k.toNat xs).flatten)) := W_if _ _ _
theorem W_mulL (xs : List D) (k : Int) : W (aMul (.list xs) (.int k)) Q = ((k < 2 ^ 63 ∧ -(2 ^ 63) ≤ k ∧ xs.length * k.toNat ≤ sizeLine) ∧ Q (.list (List.replicate k.toNat xs).flatten)) := W_if _ _ _
theorem W_negI (i : Int) : W (aNeg (.int i)) Q = Q (.int (-i)) := W_some _ _
theorem eqv_int (i j : Int) : PyData.eqv (.int i) (.int j) = decide (i = j) := by simp only [PyData.eqv]; rw [Bool.eq_iff_iff, beq_iff_eq, decide_eq_true_eq]
theorem W_eqI (i j : Int) : W (aCmp .Eq (.int i) (.int j)) Q = Q (.bool (decide (i = j))) := by
  show W (aEq _ _) Q = _
  unfold aEq
  rw [if_pos ⟨by simp [SeqAt.shaped, PyData.canLay0, PyData.depth], by simp [SeqAt.shaped, PyData.canLay0, PyData.depth]⟩, W_some, eqv_int]
theorem W_neI (i j : Int) : W (aCmp .NotEq (.int i) (.int j)) Q = Q (.bool (decide (¬i = j))) := by
  show W (aNe _ _) Q = _
  unfold aNe
  rw [if_pos ⟨by simp [SeqAt.shaped, PyData.canLay0, PyData.depth], by simp [SeqAt.shaped, PyData.canLay0, PyData.depth]⟩, W_some, eqv_int, decide_not]
theorem W_ltI (i j : Int) : W (aCmp .Lt (.int i) (.int j)) Q = Q (.bool (decide (i < j))) := W_some _ _
theorem W_leI (i j : Int) : W (aCmp .LtE (.int i) (.int j)) Q = Q (.bool (decide (i ≤ j))) := W_some _ _
theorem W_gtI (i j : Int) : W (aCmp .Gt (.int i) (.int j)) Q = Q (.bool (decide (j < i))) := W_some _ _
theorem W_geI (i j : Int) : W (aCmp .GtE (.int i) (.int j)) Q = Q (.bool (decide (j ≤ i))) := W_some _ _
theorem W_isN : W (aCmp .Is .none .none) Q = Q (.bool true) := W_some _ _
theorem W_isT (ds : List D) : W (aCmp .Is (.tuple ds) .none) Q = Q (.bool false) := W_some _ _
theorem W_isL (ds : List D) : W (aCmp .Is (.list ds) .none) Q = Q (.bool false) := W_some _ _
theorem W_isI (j : Int) : W (aCmp .Is (.int j) .none) Q = Q (.bool false) := W_some _ _
theorem W_inN : W (aCmp .IsNot .none .none) Q = Q (.bool false) := W_some _ _
theorem W_inT (ds : List D) : W (aCmp .IsNot (.tuple ds) .none) Q = Q (.bool true) := W_some _ _
theorem W_inL (ds : List D) : W (aCmp .IsNot (.list ds) .none) Q = Q (.bool true) := W_some _ _
theorem W_inI (j : Int) : W (aCmp .IsNot (.int j) .none) Q = Q (.bool true) := W_some _ _
theorem W_ixL (ds : List D) (j : Int) : W (aIx (.list ds) (.int j)) Q = W (atI ds j) Q := rfl
theorem W_ixT (ds : List D) (j : Int) : W (aIx (.tuple ds) (.int j)) Q = W (atI ds j) Q := rfl
theorem W_ixS (ns : List Int) (j : Int) : W (aIx (scrD ns) (.int j)) Q = W (atI (ns.map PyData.int) j) Q := by
  show W (atI ((ns.map fun n => (PyData.int n, PyData.none)).map (·.1)) j) Q = _
  rw [List.map_map]
  rfl
theorem W_at0 (d : D) (r : List D) : W (atI (d :: r) 0) Q = Q d := by rw [show (0 : Int) = ((0 : Nat) : Int) from rfl, atI_nat (v := d) rfl, W_some]
theorem W_at1 (c d : D) (r : List D) : W (atI (c :: d :: r) 1) Q = Q d := by rw [show (1 : Int) = ((1 : Nat) : Int) from rfl, atI_nat (v := d) rfl, W_some]
theorem W_at2 (b c d : D) (r : List D) : W (atI (b :: c :: d :: r) 2) Q = Q d := by rw [show (2 : Int) = ((2 : Nat) : Int) from rfl, atI_nat (v := d) rfl, W_some]
theorem W_cut (lo hi : Option Den) : W (dCut f lo hi ρ) Q = W (f ρ) fun x => W (dOpt lo ρ) fun l => W (dOpt hi ρ) fun h => W (aCut x l h) Q := by unfold dCut; simp only [W_bind]
theorem W_cutL (ds : List D) (l h : Option Int) : W (aCut (.list ds) l h) Q = Q (.list (cutD ds l h)) := W_some _ _
theorem W_cutT (ds : List D) (l h : Option Int) : W (aCut (.tuple ds) l h) Q = Q (.tuple (cutD ds l h)) := W_some _ _
theorem W_o0 (Q : Option Int → Prop) : W (dOpt none ρ) Q = Q none := W_some _ _
theorem W_os (Q : Option Int → Prop) : W (dOpt (some f) ρ) Q = W (f ρ) fun d => Iv d fun i => Q (some i) := by
  unfold dOpt
  cases e : f ρ with
  | none => simp only [W_none, e]
  | some d =>
    cases d with
    | int b => simp only [W_some, Iv_i, e]
    | _ => simp only [W_none, W_some, e]; exact propext ⟨fun z => False.elim z, fun ⟨_, e, _⟩ => by cases e⟩
theorem W_lenL (ds : List D) : W (bLen [.list ds]) Q = Q (.int ds.length) := W_some _ _
theorem W_lenT (ds : List D) : W (bLen [.tuple ds]) Q = Q (.int ds.length) := W_some _ _
theorem W_lenS (ns : List Int) : W (bLen [scrD ns]) Q = Q (.int ns.length) := by
  show W (some (PyData.int (ns.map fun n => (PyData.int n, PyData.none)).length)) Q = _
  rw [W_some, List.length_map]
theorem W_min (i j : Int) : W (bMin [.int i, .int j]) Q = Q (.int (min i j)) := by
  show W (some (PyData.int (if j < i then j else i))) Q = _
  rw [W_some]
  congr 2
  omega
theorem W_max (i j : Int) : W (bMax [.int i, .int j]) Q = Q (.int (max i j)) := by
  show W (some (PyData.int (if j > i then j else i))) Q = _
  rw [W_some]
  congr 2
  omega
theorem W_tupL (ds : List D) : W (bTuple [.list ds]) Q = Q (.tuple ds) := W_some _ _
theorem W_tupT (ds : List D) : W (bTuple [.tuple ds]) Q = Q (.tuple ds) := W_some _ _
theorem W_lstL (ds : List D) : W (bList [.list ds]) Q = Q (.list ds) := W_some _ _
theorem W_lstT (ds : List D) : W (bList [.tuple ds]) Q = Q (.list ds) := W_some _ _
theorem W_rg (Q : List D → Prop) : W (dRg f g ρ) Q = W (f ρ) fun x => W (g ρ) fun y => W (aRg x y) Q := by unfold dRg; simp only [W_bind]
theorem W_rgI (a b : Int) (Q : List D → Prop) : W (aRg (.int a) (.int b)) Q = (rgOk a b = true ∧ Q (rgD a b)) := W_if _ _ _
theorem W_lstOf (it : Env → Option (List D)) : W (dLstOf it ρ) Q = W (it ρ) fun xs => Q (.list xs) := by unfold dLstOf; rw [W_map]
theorem W_tupOf (it : Env → Option (List D)) : W (dTupOf it ρ) Q = W (it ρ) fun xs => Q (.tuple xs) := by unfold dTupOf; rw [W_map]
theorem W_items (Q : List D → Prop) : W (dItems f ρ) Q = W (f ρ) fun d => W (itmK d) Q := by
  unfold dItems
  cases e : f ρ with
  | none => simp only [W_none]
  | some d =>
    simp only [W_some]
    unfold itmK itm
    split <;> first | rfl | (rename_i h; cases h; rfl) | skip
    all_goals (cases d <;> first | rfl | (rename_i h1 h2 h3 h4; cases h4) | skip)
    all_goals simp_all
theorem W_itmL (ds : List D) (Q : List D → Prop) : W (itm (.list ds)) Q = Q ds := W_some _ _
theorem W_itmT (ds : List D) (Q : List D → Prop) : W (itm (.tuple ds)) Q = Q ds := W_some _ _
theorem W_enum (Q : List D → Prop) : W (dEnum f ρ) Q = W (f ρ) fun d => W (itm d) fun xs => Q (enumD 0 xs) := by
  unfold dEnum dItems0
  rw [W_map]
  cases e : f ρ with
  | none => simp only [W_none]
  | some d => cases d <;> simp only [W_some, itm, W_none]
theorem W_itKL (ds : List D) (Q : List D → Prop) : W (itmK (.list ds)) Q = Q ds := W_some _ _
theorem W_itKT (ds : List D) (Q : List D → Prop) : W (itmK (.tuple ds)) Q = Q ds := W_some _ _
theorem W_itKD (kvs : List (D × D)) (Q : List D → Prop) : W (itmK (dicD kvs)) Q = Q (kvs.map (·.1)) := W_some _ _
theorem W_for (it : Env → Option (List D)) (b : D → Env → Option Env) : W (dFor it b F ρ) R = W (it ρ) fun items => W (forL b F items ρ) R := by unfold dFor; rw [W_bind]
theorem W_comp (it : Env → Option (List D)) (vs : List Nat) (b : D → Env → Option Env) (c : Env → Option Bool) : W (dComp it vs b c f ρ) Q = W (it ρ) fun items => W (compL b c f (wipeE ρ vs) items) fun ys => Q (.list ys) := by unfold dComp; simp only [W_bind, W_map]
theorem W_name (d : D) (K : Env → Prop) : W (bName i d ρ) K = Pt ρ i (.val d) K := W_some _ _
theorem W_bTup (bs : List D → Env → Option Env) (ds : List D) (K : Env → Prop) : W (bTup bs (.tuple ds) ρ) K = W (bs ds ρ) K := rfl
theorem W_bCons (b : D → Env → Option Env) (bs : List D → Env → Option Env) (d : D) (ds : List D) (K : Env → Prop) : W (bCons b bs (d :: ds) ρ) K = W (b d ρ) fun ρ' => W (bs ds ρ') K := by unfold bCons; rw [W_bind]
theorem W_bNil (K : Env → Prop) : W (bNil [] ρ) K = K ρ := W_some _ _
theorem Lo_of {ρ : Env} {i : Nat} {xs : List D} (e : ρ[i]? = some (some (.own xs))) (K : List D → Prop) : Lo ρ i K = K xs := propext ⟨fun ⟨ys, e', h⟩ => by rw [e] at e'; cases e'; exact h, fun h => ⟨xs, e, h⟩⟩
theorem W_app : W (dAppend i f ρ) R = Lo ρ i fun xs => W (f ρ) fun d => xs.length < sizeLine ∧ Pt ρ i (.own (xs ++ [d])) fun ρ' => R (.next ρ') := by
  unfold dAppend
  split
  · rename_i xs e
    rw [Lo_of e, W_bind]
    simp only [W_if]
    rfl
  · rename_i hn
    rw [W_none]
    exact propext ⟨fun z => False.elim z, fun ⟨xs, e, _⟩ => hn xs e⟩
theorem W_setIx : W (dSetIx i g f ρ) R = Lo ρ i fun xs => W (f ρ) fun d => W (g ρ) fun k => Iv k fun k => W (ixN xs.length k) fun j => Pt ρ i (.own (xs.set j d)) fun ρ' => R (.next ρ') := by
  unfold dSetIx
  split
  · rename_i xs e
    rw [Lo_of e, W_bind]
    refine congrArg _ (funext fun d => ?_)
    cases e2 : g ρ with
    | none => simp only [W_none]
    | some k =>
      cases k with
      | int k => simp only [W_some, Iv_i, W_bind]; rfl
      | _ => simp only [W_none, W_some]; exact propext ⟨fun z => False.elim z, fun ⟨_, e, _⟩ => by cases e⟩
  · rename_i hn
    rw [W_none]
    exact propext ⟨fun z => False.elim z, fun ⟨xs, e, _⟩ => hn xs e⟩
theorem W_unp (b : D → Env → Option Env) : W (dUnp b f ρ) R = W (f ρ) fun d => W (b d ρ) fun ρ' => R (.next ρ') := by unfold dUnp; rw [W_bind]; simp only [W_map]
theorem W_star (n : Nat) (bs : List D → Env → Option Env) : W (dStar n bs f ρ) R = W (f ρ) fun d => W (itm d) fun ds => n ≤ ds.length ∧ W (bs (ds.take n ++ [.list (ds.drop n)]) ρ) fun ρ' => R (.next ρ') := by
  unfold dStar
  cases e : f ρ with
  | none => simp only [W_none]
  | some d =>
    cases d with
    | tuple ds =>
      simp only [W_some, itm]
      by_cases h : n ≤ ds.length
      · rw [if_pos h, W_map]; simp [h]
      · rw [if_neg h, W_none]; simp [h]
    | list ds =>
      simp only [W_some, itm]
      by_cases h : n ≤ ds.length
      · rw [if_pos h, W_map]; simp [h]
      · rw [if_neg h, W_none]; simp [h]
    | _ => simp only [W_none, W_some, itm]
end
theorem toE_c (n : Nat) (d : D) (ds : List D) : toEnv (n + 1) (d :: ds) = some (.val d) :: toEnv n ds := by unfold toEnv; simp
theorem toE_n (n : Nat) : toEnv (n + 1) [] = none :: toEnv n [] := by unfold toEnv; simp [List.replicate_succ]
theorem toE_0 : toEnv 0 [] = [] := rfl
theorem fz_nil (ρ : Env) : fzE ρ [] = ρ := rfl
theorem fz_cons (ρ : Env) (i : Nat) (is : List Nat) : fzE ρ (i :: is) = fzE (fz1 ρ i) is := rfl
theorem fz_0o (ρ : Env) (xs : List D) : fz1 (some (.own xs) :: ρ) 0 = some (.val (.list xs)) :: ρ := rfl
theorem fz_0v (ρ : Env) (d : D) : fz1 (some (.val d) :: ρ) 0 = some (.val d) :: ρ := rfl
theorem fz_0n (ρ : Env) : fz1 (none :: ρ) 0 = none :: ρ := rfl
theorem fz_0d (ρ : Env) (kvs : List (D × D)) : fz1 (some (.dic kvs) :: ρ) 0 = some (.val (dicD kvs)) :: ρ := rfl
theorem fz_s (ρ : Env) (x : Option SV) (i : Nat) : fz1 (x :: ρ) (i + 1) = x :: fz1 ρ i := by
  unfold fz1
  rw [List.getElem?_cons_succ]
  cases e : ρ[i]? with
  | none => rfl
  | some o => cases o with
    | none => rfl
    | some s => cases s <;> simp only [List.set_cons_succ]
theorem Rt_r (P : D → Prop) (d : D) : Rt P (.ret d) = P d := rfl
theorem Rt_n (P : D → Prop) (ρ : Env) : Rt P (.next ρ) = P .none := rfl
def ev_all := And.intro @W_some <| And.intro @W_itKL <| And.intro @W_itKT <| And.intro @W_itKD <| And.intro @W_d2 <| And.intro @W_d1 <| And.intro @W_dC <| And.intro @W_v0 <| And.intro @W_vs <| And.intro @W_b0 <| And.intro @W_bo <| And.intro @W_bs <| And.intro @W_seq <| And.intro @Kn_n <| And.intro @Kn_r <| And.intro @Kn_o <| And.intro @W_retO <| And.intro @W_ro0 <| And.intro @W_rov <| And.intro @W_ros <| And.intro @W_callK <| And.intro @Ro_r <| And.intro @Ro_n <| And.intro @Kn_b <| And.intro @Kn_c <| And.intro @Pt_0 <| And.intro @Pt_s <| And.intro @Lo_0 <| And.intro @Lo_s <| And.intro @W_set <| And.intro @Lv_l <| And.intro @W_own <| And.intro @W_ret <| And.intro @W_ifS <| And.intro @W_dT <| And.intro @W_and <| And.intro @W_or <| And.intro @W_if3 <| And.intro @W_not <| And.intro @W_chain <| And.intro @W_a0 <| And.intro @W_as <| And.intro @W_tup <| And.intro @W_lst <| And.intro @W_call <| And.intro @W_addI <| And.intro @W_addL <| And.intro @W_addT <| And.intro @W_subI <| And.intro @W_modI <| And.intro @W_divI <| And.intro @W_powI <| And.intro @W_mulI <| And.intro @W_mulT <| And.intro @W_mulL <| And.intro @W_negI <| And.intro @W_eqI <| And.intro @W_neI <| And.intro @W_ltI <| And.intro @W_leI <| And.intro @W_gtI <| And.intro @W_geI <| And.intro @W_isN <| And.intro @W_isT <| And.intro @W_isL <| And.intro @W_isI <| And.intro @W_inN <| And.intro @W_inT <| And.intro @W_inL <| And.intro @W_inI <| And.intro @W_ixL <| And.intro @W_ixT <| And.intro @W_ixS <| And.intro @W_at0 <| And.intro @W_at1 <| And.intro @W_at2 <| And.intro @W_cut <| And.intro @W_cutL <| And.intro @W_cutT <| And.intro @W_o0 <| And.intro @W_os <| And.intro @W_lenL <| And.intro @W_lenT <| And.intro @W_lenS <| And.intro @W_min <| And.intro @W_max <| And.intro @W_tupL <| And.intro @W_tupT <| And.intro @W_lstL <| And.intro @W_lstT <| And.intro @W_rg <| And.intro @W_rgI <| And.intro @W_lstOf <| And.intro @W_tupOf <| And.intro @W_items <| And.intro @W_itmL <| And.intro @W_itmT <| And.intro @W_enum <| And.intro @W_for <| And.intro @W_comp <| And.intro @W_name <| And.intro @W_bTup <| And.intro @W_bCons <| And.intro @W_bNil <| And.intro @W_app <| And.intro @W_setIx <| And.intro @W_unp <| And.intro @W_star <| And.intro @Bz_t <| And.intro @Bz_f <| And.intro @Bz_d <| And.intro @Bv_b <| And.intro @Iv_i <| And.intro @Rt_r <| @Rt_n
def ex_all := And.intro @toE_c <| And.intro @toE_n <| And.intro @toE_0 <| And.intro @fz_nil <| And.intro @fz_cons <| And.intro @fz_0o <| And.intro @fz_0v <| And.intro @fz_0n <| And.intro @fz_0d <| @fz_s
end PF
namespace PF
open PySem PySem.Spec PyProof.Rows L2
/-! ### loops -/
def Lp (I : Env → Prop) (P : Out → Prop) : Out → Prop
  | .next ρ => I ρ
  | .cont ρ => I ρ
  | .brk ρ => P (.next ρ)
  | .ret d => P (.ret d)
  | .reto d => P (.reto d)
theorem Lp_n (I : Env → Prop) (P : Out → Prop) (ρ : Env) : Lp I P (.next ρ) = I ρ := rfl
theorem Lp_c (I : Env → Prop) (P : Out → Prop) (ρ : Env) : Lp I P (.cont ρ) = I ρ := rfl
theorem Lp_b (I : Env → Prop) (P : Out → Prop) (ρ : Env) : Lp I P (.brk ρ) = P (.next ρ) := rfl
theorem Lp_r (I : Env → Prop) (P : Out → Prop) (d : D) : Lp I P (.ret d) = P (.ret d) := rfl
theorem Lp_o (I : Env → Prop) (P : Out → Prop) (d : D) : Lp I P (.reto d) = P (.reto d) := rfl
theorem W_forL {b : D → Env → Option Env} {F : DenS} {P : Out → Prop} (I : List D → Env → Prop) (he : ∀ ρ, I [] ρ → P (.next ρ)) (hs : ∀ x r ρ, I (x :: r) ρ → W (b x ρ) fun ρ1 => W (F ρ1) (Lp (I r) P)) : ∀ xs ρ, I xs ρ → W (forL b F xs ρ) P
  | [], ρ, h => ⟨_, rfl, he ρ h⟩
  | x :: xs, ρ, h => by
    obtain ⟨ρ1, e1, o, e2, h2⟩ := hs x xs ρ h
    unfold forL
    rw [e1, Option.bind_some, e2]
    cases o with
    | next ρ2 => exact W_forL I he hs xs ρ2 h2
    | cont ρ2 => exact W_forL I he hs xs ρ2 h2
    | brk ρ2 => exact ⟨_, rfl, h2⟩
    | ret d => exact ⟨_, rfl, h2⟩
    | reto d => exact ⟨_, rfl, h2⟩
/-- by the number of rounds done -/
theorem W_forN {b : D → Env → Option Env} {F : DenS} {P : Out → Prop} {xs : List D} {ρ : Env} (I : Nat → Env → Prop) (h0 : I 0 ρ) (he : ∀ ρ, I xs.length ρ → P (.next ρ)) (hs : ∀ i x ρ, xs[i]? = some x → I i ρ → W (b x ρ) fun ρ1 => W (F ρ1) (Lp (I (i + 1)) P)) : W (forL b F xs ρ) P := by
  refine W_forL (fun r ρ => ∃ i, r = xs.drop i ∧ i ≤ xs.length ∧ I i ρ) ?a ?b xs ρ ⟨0, rfl, Nat.zero_le _, h0⟩
  case a =>
    intro ρ ⟨i, h1, h3, h2⟩
    have : i = xs.length := by
      have := congrArg List.length h1
      simp at this
      omega
    subst this
    exact he ρ h2
  case b =>
    intro x r ρ ⟨i, h1, h3, h2⟩
    have hx : xs[i]? = some x := by
      have := congrArg (fun l : List D => l[0]?) h1
      simpa using this.symm
    have hi : i < xs.length := (List.getElem?_eq_some_iff.mp hx).1
    have hr : r = xs.drop (i + 1) := by
      have := congrArg List.tail h1
      simpa using this
    refine (hs i x ρ hx h2).mono fun ρ1 h => h.mono fun o h => ?_
    cases o with
    | next ρ2 => exact ⟨i + 1, hr, hi, h⟩
    | cont ρ2 => exact ⟨i + 1, hr, hi, h⟩
    | brk ρ2 => exact h
    | ret d => exact h
    | reto d => exact h
theorem rg_len (a b : Int) : (rgD a b).length = (b - a).toNat := by unfold rgD rgI; simp
theorem rg_get {a b : Int} {i : Nat} {x : D} (h : (rgD a b)[i]? = some x) : x = .int (a + i) ∧ (i : Int) < b - a := by
  have hi := (List.getElem?_eq_some_iff.mp h).1
  rw [rg_len] at hi
  unfold rgD rgI at h
  rw [List.map_map, List.getElem?_map, List.getElem?_range (by omega)] at h
  cases h
  exact ⟨rfl, by omega⟩
theorem rg_mem {a b : Int} {x : D} (h : x ∈ rgD a b) : ∃ n : Nat, x = .int (a + n) ∧ a + n < b := by
  obtain ⟨i, hi⟩ := List.getElem?_of_mem h
  obtain ⟨h1, h2⟩ := rg_get hi
  exact ⟨i, h1, by omega⟩
/-- for n in range(a, b) -/
theorem W_forR {b : D → Env → Option Env} {F : DenS} {P : Out → Prop} {lo hi : Int} {ρ : Env} (I : Nat → Env → Prop) (h0 : I 0 ρ) (he : ∀ ρ, I (hi - lo).toNat ρ → P (.next ρ)) (hs : ∀ (i : Nat) ρ, (i : Int) < hi - lo → I i ρ → W (b (.int (lo + i)) ρ) fun ρ1 => W (F ρ1) (Lp (I (i + 1)) P)) : W (forL b F (rgD lo hi) ρ) P :=
  W_forN I h0 (by rw [rg_len]; exact he) fun i x ρ hx h => by
    obtain ⟨rfl, h2⟩ := rg_get hx
    exact hs i ρ h2 h
/-! ### comprehensions -/
theorem comp_eq {b : D → Env → Option Env} {c : Env → Option Bool} {e : Den} {ρ0 : Env} (p : D → Bool) (g : D → D) : ∀ xs, (∀ x ∈ xs, W (b x ρ0) fun ρ1 => W (c ρ1) fun k => k = p x ∧ (p x = true → e ρ1 = some (g x))) → compL b c e ρ0 xs = some ((xs.filter p).map g)
  | [], _ => rfl
  | x :: xs, h => by
    obtain ⟨ρ1, e1, k, e2, hk, h3⟩ := h x (List.mem_cons_self ..)
    have ih := comp_eq p g xs fun y hy => h y (List.mem_cons_of_mem _ hy)
    unfold compL
    rw [e1, Option.bind_some, e2, Option.bind_some, ih]
    subst hk
    by_cases hp : p x = true
    · rw [if_pos hp, h3 hp, List.filter_cons_of_pos hp]; rfl
    · rw [if_neg hp, List.filter_cons_of_neg hp]
theorem comp_map {b : D → Env → Option Env} {e : Den} {ρ0 : Env} (g : D → D) (xs : List D) (h : ∀ x ∈ xs, W (b x ρ0) fun ρ1 => e ρ1 = some (g x)) : compL b (fun _ => some true) e ρ0 xs = some (xs.map g) := by
  have := comp_eq (b := b) (c := fun _ => some true) (e := e) (ρ0 := ρ0) (fun _ => true) g xs fun x hx => (h x hx).mono fun ρ1 h1 => ⟨true, rfl, rfl, fun _ => h1⟩
  rw [this, List.filter_eq_self.mpr fun _ _ => rfl]
/-- one by one: each item gives what stands in relation to it -/
theorem W_comp_all {b : D → Env → Option Env} {e : Den} {ρ0 : Env} {α : Type} {R : D → α → Prop} {to : α → D} {P : List D → Prop} (xs : List D) (h : ∀ x ∈ xs, W (b x ρ0) fun ρ1 => W (e ρ1) fun d => ∃ a, d = to a ∧ R x a) (k : ∀ as : List α, as.length = xs.length → (∀ (i : Nat) x a, xs[i]? = some x → as[i]? = some a → R x a) → P (as.map to)) : W (compL b (fun _ => some true) e ρ0 xs) P := by
  have : ∃ as : List α, compL b (fun _ => some true) e ρ0 xs = some (as.map to) ∧ as.length = xs.length ∧ ∀ (i : Nat) x a, xs[i]? = some x → as[i]? = some a → R x a := by
    clear k
    induction xs with
    | nil => exact ⟨[], rfl, rfl, fun i x a h => by cases h⟩
    | cons x xs ih =>
      obtain ⟨as, h1, h2, h3⟩ := ih fun y hy => h y (List.mem_cons_of_mem _ hy)
      obtain ⟨ρ1, e1, d, e2, a, rfl, ha⟩ := h x (List.mem_cons_self ..)
      refine ⟨a :: as, ?_, by simp [h2], fun i => ?_⟩
      · unfold compL
        rw [e1, Option.bind_some, Option.bind_some, if_pos rfl, e2, h1]
        rfl
      · cases i with
        | zero => intro y b h4 h5; cases h4; cases h5; exact ha
        | succ i => exact h3 i
  obtain ⟨as, h1, h2, h3⟩ := this
  exact ⟨_, h1, k as h2 h3⟩
/-! ### plain data: ints, None, and lists and tuples of such -/
mutual
def pl : D → Nat → Bool
  | .none, _ => true
  | .int _, _ => true
  | .list xs, n + 1 => plAll xs n
  | .tuple xs, n + 1 => plAll xs n
  | _, _ => false
def plAll : List D → Nat → Bool
  | [], _ => true
  | x :: xs, n => pl x n && plAll xs n
end
theorem plAll_iff (n : Nat) : ∀ xs, plAll xs n = true ↔ ∀ x ∈ xs, pl x n = true
  | [] => by simp [plAll]
  | x :: xs => by rw [plAll, Bool.and_eq_true, plAll_iff n xs]; simp
theorem pl_tup {xs : List D} {n : Nat} (h : ∀ x ∈ xs, pl x n = true) : pl (.tuple xs) (n + 1) = true := by rw [pl]; exact (plAll_iff n xs).mpr h
theorem pl_lst {xs : List D} {n : Nat} (h : ∀ x ∈ xs, pl x n = true) : pl (.list xs) (n + 1) = true := by rw [pl]; exact (plAll_iff n xs).mpr h
theorem pl_int (i : Int) (n : Nat) : pl (.int i) n = true := by cases n <;> rfl
theorem pl_non (n : Nat) : pl .none n = true := by cases n <;> rfl
mutual
theorem pl_mono : ∀ (d : D) (n m : Nat), n ≤ m → pl d n = true → pl d m = true
  | .none, _, m, _, _ => pl_non m
  | .int i, _, m, _, _ => pl_int i m
  | .list xs, n + 1, m + 1, h, q => by rw [pl] at q ⊢; exact plAll_mono xs n m (by omega) q
  | .tuple xs, n + 1, m + 1, h, q => by rw [pl] at q ⊢; exact plAll_mono xs n m (by omega) q
  | .list xs, 0, _, h, q => by simp [pl] at q
  | .tuple xs, 0, _, h, q => by simp [pl] at q
  | .list xs, n + 1, 0, h, q => by omega
  | .tuple xs, n + 1, 0, h, q => by omega
  | .bool _, n, _, _, q => by cases n <;> simp [pl] at q
  | .str _, n, _, _, q => by cases n <;> simp [pl] at q
  | .dict _, n, _, _, q => by cases n <;> simp [pl] at q
theorem plAll_mono : ∀ (xs : List D) (n m : Nat), n ≤ m → plAll xs n = true → plAll xs m = true
  | [], _, _, _, _ => by rw [plAll]
  | x :: xs, n, m, h, q => by
    rw [plAll, Bool.and_eq_true] at q ⊢
    exact ⟨pl_mono x n m h q.1, plAll_mono xs n m h q.2⟩
end
mutual
theorem pl_lay : ∀ (d : D) (n : Nat), pl d n = true → d.canLay0 = true ∧ d.depth ≤ n
  | .none, _, _ => by simp [PyData.canLay0, PyData.depth]
  | .int i, _, _ => by simp [PyData.canLay0, PyData.depth]
  | .list xs, n + 1, q => by
    rw [pl] at q
    obtain ⟨h1, h2⟩ := plAll_lay xs n q
    rw [PyData.canLay0, PyData.depth]
    exact ⟨h1, by omega⟩
  | .tuple xs, n + 1, q => by
    rw [pl] at q
    obtain ⟨h1, h2⟩ := plAll_lay xs n q
    rw [PyData.canLay0, PyData.depth]
    exact ⟨h1, by omega⟩
  | .list xs, 0, q => by simp [pl] at q
  | .tuple xs, 0, q => by simp [pl] at q
  | .bool _, n, q => by cases n <;> simp [pl] at q
  | .str _, n, q => by cases n <;> simp [pl] at q
  | .dict _, n, q => by cases n <;> simp [pl] at q
theorem plAll_lay : ∀ (xs : List D) (n : Nat), plAll xs n = true → PyData.canLayAll0 xs = true ∧ PyData.depthAll xs ≤ n
  | [], _, _ => by simp [PyData.canLayAll0, PyData.depthAll]
  | x :: xs, n, q => by
    rw [plAll, Bool.and_eq_true] at q
    obtain ⟨h1, h2⟩ := pl_lay x n q.1
    obtain ⟨h3, h4⟩ := plAll_lay xs n q.2
    rw [PyData.canLayAll0, PyData.depthAll, h1, h3]
    exact ⟨rfl, by omega⟩
end
theorem pl_shaped {d : D} {n : Nat} (h : pl d n = true) (hn : n ≤ 64) : SeqAt.shaped d = true := by
  obtain ⟨h1, h2⟩ := pl_lay d n h
  unfold SeqAt.shaped
  rw [h1, decide_eq_true (by omega)]
  rfl
mutual
theorem pl_eqv : ∀ (d e : D) (n m : Nat), pl d n = true → pl e m = true → (PyData.eqv d e = true ↔ d = e)
  | .none, e, _, m, _, q => by cases e <;> (try simp [PyData.eqv]) <;> (cases m <;> simp [pl] at q)
  | .int i, e, _, m, _, q => by cases e <;> (try simp [PyData.eqv]) <;> (cases m <;> simp [pl] at q)
  | .list xs, e, n + 1, m, p, q => by
    rw [pl] at p
    cases e with
    | list ys =>
      cases m with
      | zero => simp [pl] at q
      | succ m => rw [pl] at q; rw [PyData.eqv, plAll_eqv xs ys n m p q]; simp
    | _ => simp [PyData.eqv]
  | .tuple xs, e, n + 1, m, p, q => by
    rw [pl] at p
    cases e with
    | tuple ys =>
      cases m with
      | zero => simp [pl] at q
      | succ m => rw [pl] at q; rw [PyData.eqv, plAll_eqv xs ys n m p q]; simp
    | _ => simp [PyData.eqv]
  | .list xs, _, 0, _, q, _ => by simp [pl] at q
  | .tuple xs, _, 0, _, q, _ => by simp [pl] at q
  | .bool _, _, n, _, q, _ => by cases n <;> simp [pl] at q
  | .str _, _, n, _, q, _ => by cases n <;> simp [pl] at q
  | .dict _, _, n, _, q, _ => by cases n <;> simp [pl] at q
theorem plAll_eqv : ∀ (xs ys : List D) (n m : Nat), plAll xs n = true → plAll ys m = true → (PyData.eqvAll xs ys = true ↔ xs = ys)
  | [], [], _, _, _, _ => by simp [PyData.eqvAll]
  | [], _ :: _, _, _, _, _ => by simp [PyData.eqvAll]
  | _ :: _, [], _, _, _, _ => by simp [PyData.eqvAll]
  | x :: xs, y :: ys, n, m, p, q => by
    rw [plAll, Bool.and_eq_true] at p q
    rw [PyData.eqvAll, Bool.and_eq_true, pl_eqv x y n m p.1 q.1, plAll_eqv xs ys n m p.2 q.2]
    simp
end
open Classical in
theorem pl_eq {d e : D} {n m : Nat} (p : pl d n = true) (q : pl e m = true) : PyData.eqv d e = decide (d = e) := by
  rw [Bool.eq_iff_iff, pl_eqv d e n m p q, decide_eq_true_eq]
open Classical in
theorem W_eqP {d e : D} {Q : D → Prop} (n m : Nat) (hn : n ≤ 64) (hm : m ≤ 64) (p : pl d n = true) (q : pl e m = true) : W (aCmp .Eq d e) Q = Q (.bool (decide (d = e))) := by
  show W (aEq _ _) Q = _
  unfold aEq
  rw [if_pos ⟨pl_shaped p hn, pl_shaped q hm⟩, W_some, pl_eq p q]
open Classical in
theorem W_neP {d e : D} {Q : D → Prop} (n m : Nat) (hn : n ≤ 64) (hm : m ≤ 64) (p : pl d n = true) (q : pl e m = true) : W (aCmp .NotEq d e) Q = Q (.bool (decide (¬d = e))) := by
  show W (aNe _ _) Q = _
  unfold aNe
  rw [if_pos ⟨pl_shaped p hn, pl_shaped q hm⟩, W_some, pl_eq p q, ← decide_not]
open Classical in
theorem any_pl {d : D} {xs : List D} {n m : Nat} (p : pl d n = true) (q : ∀ x ∈ xs, pl x m = true) : (xs.any fun z => PyData.eqv z d) = decide (d ∈ xs) := by
  rw [Bool.eq_iff_iff, List.any_eq_true, decide_eq_true_eq]
  constructor
  · rintro ⟨x, hx, e⟩
    rw [pl_eqv x d m n (q x hx) p] at e
    exact e ▸ hx
  · exact fun h => ⟨d, h, by rw [pl_eqv d d n n p p]⟩
open Classical in
theorem W_inLP {d : D} {xs : List D} {Q : D → Prop} (n m : Nat) (hn : n ≤ 64) (hm : m < 64) (p : pl d n = true) (q : ∀ x ∈ xs, pl x m = true) : W (aCmp .In d (.list xs)) Q = Q (.bool (decide (d ∈ xs))) := by
  show W (aIn false d (.list xs)) Q = _
  unfold aIn
  rw [W_if, any_pl p q]
  simp [pl_shaped p hn, pl_shaped (pl_lst q) (by omega)]
open Classical in
theorem W_inTP {d : D} {xs : List D} {Q : D → Prop} (n m : Nat) (hn : n ≤ 64) (hm : m < 64) (p : pl d n = true) (q : ∀ x ∈ xs, pl x m = true) : W (aCmp .In d (.tuple xs)) Q = Q (.bool (decide (d ∈ xs))) := by
  show W (aIn false d (.tuple xs)) Q = _
  unfold aIn
  rw [W_if, any_pl p q]
  simp [pl_shaped p hn, pl_shaped (pl_tup q) (by omega)]
open Classical in
theorem W_niLP {d : D} {xs : List D} {Q : D → Prop} (n m : Nat) (hn : n ≤ 64) (hm : m < 64) (p : pl d n = true) (q : ∀ x ∈ xs, pl x m = true) : W (aCmp .NotIn d (.list xs)) Q = Q (.bool (decide (¬d ∈ xs))) := by
  show W (aIn true d (.list xs)) Q = _
  unfold aIn
  rw [W_if, any_pl p q]
  simp [pl_shaped p hn, pl_shaped (pl_lst q) (by omega)]
open Classical in
theorem W_niTP {d : D} {xs : List D} {Q : D → Prop} (n m : Nat) (hn : n ≤ 64) (hm : m < 64) (p : pl d n = true) (q : ∀ x ∈ xs, pl x m = true) : W (aCmp .NotIn d (.tuple xs)) Q = Q (.bool (decide (¬d ∈ xs))) := by
  show W (aIn true d (.tuple xs)) Q = _
  unfold aIn
  rw [W_if, any_pl p q]
  simp [pl_shaped p hn, pl_shaped (pl_tup q) (by omega)]
/-! ### indices and cuts -/
theorem at_nat {xs : List D} {i : Int} {j : Nat} {v : D} (hi : i = j) (h : xs[j]? = some v) : atI xs i = some v := by subst hi; exact atI_nat h
theorem W_at {xs : List D} {i : Int} {Q : D → Prop} (h0 : 0 ≤ i) (h1 : i < xs.length) (h : ∀ v, xs[i.toNat]? = some v → Q v) : W (atI xs i) Q := by
  have hl : i.toNat < xs.length := by omega
  exact ⟨xs[i.toNat], at_nat (by omega) (List.getElem?_eq_getElem hl), h _ (List.getElem?_eq_getElem hl)⟩
theorem ixN_nat {n : Nat} {i : Int} (h0 : 0 ≤ i) (h1 : i < n) : ixN n i = some i.toNat := by unfold ixN; rw [if_pos h0, if_pos h1]
theorem cut_all (xs : List D) (k : Nat) : cutD xs (some (k : Int)) none = xs.drop k := by
  unfold cutD
  rw [HT.sIx_nat, HT.sIx_none]
  by_cases h : k ≤ xs.length
  · rw [Nat.min_eq_left h, List.take_of_length_le (by simp)]
  · rw [Nat.min_eq_right (by omega), List.drop_eq_nil_of_le (by omega), List.drop_eq_nil_of_le (by omega)]; simp
theorem cut_to (xs : List D) (k : Nat) : cutD xs none (some (k : Int)) = xs.take k := by
  unfold cutD
  rw [HT.sIx_nat, HT.sIx_none]
  by_cases h : k ≤ xs.length
  · rw [Nat.min_eq_left h, List.drop_zero]; rfl
  · rw [Nat.min_eq_right (by omega), List.drop_zero, List.take_of_length_le (by omega), List.take_of_length_le (by omega)]
theorem cut_mid (xs : List D) (j k : Nat) : cutD xs (some (j : Int)) (some (k : Int)) = (xs.take k).drop j := by
  unfold cutD
  rw [HT.sIx_nat, HT.sIx_nat]
  rw [List.drop_take]
  by_cases h : j ≤ xs.length
  · rw [Nat.min_eq_left h]
    by_cases hk : k ≤ xs.length
    · rw [Nat.min_eq_left hk]
    · rw [Nat.min_eq_right (by omega), List.take_of_length_le (by simp), List.take_of_length_le (by simp; omega)]
  · rw [Nat.min_eq_right (show xs.length ≤ j by omega), List.drop_eq_nil_of_le (Nat.le_refl _), List.drop_eq_nil_of_le (by omega)]; simp
theorem cut_mem {xs : List D} {l h : Option Int} {x : D} (hx : x ∈ cutD xs l h) : x ∈ xs := List.mem_of_mem_drop (List.mem_of_mem_take hx)
theorem W_ints {xs : List Int} {i : Int} {Q : D → Prop} (h0 : 0 ≤ i) (h1 : i < xs.length) (h : ∀ v, xs[i.toNat]? = some v → Q (.int v)) : W (atI (xs.map PyData.int) i) Q := by
  refine W_at h0 (by rw [List.length_map]; exact h1) fun v hv => ?_
  rw [List.getElem?_map] at hv
  cases e : xs[i.toNat]? with
  | none => rw [e] at hv; cases hv
  | some n => rw [e] at hv; cases hv; exact h n e
theorem rg_ok {a b : Int} (h1 : -1000000 ≤ a) (h2 : a ≤ 1000000) (h3 : -1000000 ≤ b) (h4 : b ≤ 1000000) : rgOk a b = true := by
  unfold rgOk
  simp only [Bool.and_eq_true, decide_eq_true_eq]
  omega
end PF
namespace PF
open PySem PySem.Spec PyProof.Rows L2
/-! ### the order of typed data -/
structure Ordr {α : Type} (lt : α → α → Bool) : Prop where
  irr : ∀ a, lt a a = false
  tr : ∀ a b c, lt a b = true → lt b c = true → lt a c = true
  tot : ∀ a b, lt a b = false → lt b a = false → a = b
def lxLt {α : Type} [DecidableEq α] (lt : α → α → Bool) : List α → List α → Bool
  | [], [] => false
  | [], _ :: _ => true
  | _ :: _, [] => false
  | x :: xs, y :: ys => if x = y then lxLt lt xs ys else lt x y
section
variable {α : Type} [DecidableEq α] {lt : α → α → Bool}
theorem Ordr.asym (o : Ordr lt) {a b : α} (h : lt a b = true) : lt b a = false := by
  cases e : lt b a with
  | false => rfl
  | true => have := o.tr _ _ _ h e; rw [o.irr] at this; cases this
theorem lx_self : ∀ xs : List α, lxLt lt xs xs = false
  | [] => rfl
  | x :: xs => by rw [lxLt, if_pos rfl]; exact lx_self xs
theorem lx_tr (o : Ordr lt) : ∀ xs ys zs : List α, lxLt lt xs ys = true → lxLt lt ys zs = true → lxLt lt xs zs = true
  | [], [], _, h, _ => by cases h
  | [], _ :: _, [], _, h => by cases h
  | [], _ :: _, _ :: _, _, _ => rfl
  | _ :: _, [], _, h, _ => by cases h
  | _ :: _, _ :: _, [], _, h => by cases h
  | x :: xs, y :: ys, z :: zs, h1, h2 => by
    rw [lxLt] at h1 h2 ⊢
    by_cases e1 : x = y
    · subst e1
      rw [if_pos rfl] at h1
      by_cases e2 : x = z
      · subst e2
        rw [if_pos rfl] at h2 ⊢
        exact lx_tr o xs ys zs h1 h2
      · rw [if_neg e2] at h2 ⊢
        exact h2
    · rw [if_neg e1] at h1
      by_cases e2 : y = z
      · subst e2
        rw [if_neg e1]
        exact h1
      · rw [if_neg e2] at h2
        have h3 := o.tr _ _ _ h1 h2
        by_cases e3 : x = z
        · subst e3
          rw [o.irr] at h3
          cases h3
        · rw [if_neg e3]; exact h3
theorem lx_tot (o : Ordr lt) : ∀ xs ys : List α, lxLt lt xs ys = false → lxLt lt ys xs = false → xs = ys
  | [], [], _, _ => rfl
  | [], _ :: _, h, _ => by cases h
  | _ :: _, [], _, h => by cases h
  | x :: xs, y :: ys, h1, h2 => by
    rw [lxLt] at h1 h2
    by_cases e : x = y
    · subst e
      rw [if_pos rfl] at h1 h2
      rw [lx_tot o xs ys h1 h2]
    · rw [if_neg e] at h1
      rw [if_neg fun z => e z.symm] at h2
      exact absurd (o.tot _ _ h1 h2) e
theorem Ordr.lx (o : Ordr lt) : Ordr (lxLt lt) := ⟨lx_self, lx_tr o, lx_tot o⟩
/-- a longer list of the same beginning -/
theorem lx_app (o : Ordr lt) : ∀ {xs ys : List α} (us vs : List α), xs.length = ys.length → lxLt lt (xs ++ us) (ys ++ vs) = if xs = ys then lxLt lt us vs else lxLt lt xs ys
  | [], [], us, vs, _ => by simp
  | [], _ :: _, _, _, h => by simp at h
  | _ :: _, [], _, _, h => by simp at h
  | x :: xs, y :: ys, us, vs, h => by
    rw [List.cons_append, List.cons_append, lxLt, lx_app o (xs := xs) (ys := ys) us vs (by simpa using h)]
    by_cases e : x = y
    · subst e
      rw [if_pos rfl]
      by_cases e2 : xs = ys
      · subst e2; rw [if_pos rfl, if_pos rfl]
      · rw [if_neg e2, if_neg (by simp [e2]), lxLt, if_pos rfl]
    · rw [if_neg e, if_neg (by simp [e]), lxLt, if_neg e]
def srt (lt : α → α → Bool) (xs : List α) : List α := xs.mergeSort fun a b => !lt b a
theorem Ordr.le_tr (o : Ordr lt) (a b c : α) (h1 : (!lt b a) = true) (h2 : (!lt c b) = true) : (!lt c a) = true := by
  rw [Bool.not_eq_true'] at h1 h2 ⊢
  cases e : lt c a with
  | false => rfl
  | true =>
    cases e2 : lt a b with
    | true => have := o.tr _ _ _ e e2; rw [h2] at this; cases this
    | false => have := o.tot _ _ e2 h1; subst this; rw [h2] at e; cases e
theorem Ordr.le_tot (o : Ordr lt) (a b : α) : (!lt b a || !lt a b) = true := by
  cases e : lt b a with
  | false => rfl
  | true => rw [o.asym e]; rfl
theorem srt_sorted (o : Ordr lt) (xs : List α) : (srt lt xs).Pairwise fun a b => (!lt b a) = true := List.pairwise_mergeSort (fun a b c => o.le_tr a b c) (fun a b => o.le_tot a b) xs
theorem srt_perm (xs : List α) : (srt lt xs).Perm xs := List.mergeSort_perm _ _
theorem srt_eq (o : Ordr lt) {xs ys : List α} (hp : xs.Perm ys) (hs : ys.Pairwise fun a b => lt a b = true) : srt lt xs = ys := by
  refine List.Perm.eq_of_pairwise (le := fun a b => (!lt b a) = true) (fun a b _ _ h1 h2 => ?_) (srt_sorted o xs) (hs.imp fun h => ?_) ((srt_perm xs).trans hp)
  · rw [Bool.not_eq_true'] at h1 h2
    exact o.tot _ _ h2 h1
  · rw [o.asym h]; rfl
/-- sorted without a twin: strictly rising -/
theorem srt_strict (o : Ordr lt) {xs : List α} (nd : xs.Nodup) : (srt lt xs).Pairwise fun a b => lt a b = true := by
  have h1 := srt_sorted o xs
  have h2 : (srt lt xs).Nodup := (srt_perm xs).nodup_iff.mpr nd
  have := h1.and h2
  refine this.imp fun {a b} h => ?_
  cases e : lt a b with
  | true => rfl
  | false =>
    have h3 := h.1
    rw [Bool.not_eq_true'] at h3
    exact absurd (o.tot _ _ e h3) h.2
end
/-- what stands for data in the order of data -/
structure Enc {α : Type} [DecidableEq α] (to : α → D) (lt : α → α → Bool) : Prop where
  alike : ∀ a b, PySem.W.alike (to a) (to b) = true
  eqv : ∀ a b, PyData.eqv (to a) (to b) = decide (a = b)
  lt_eq : ∀ a b, PySem.W.dataLt (to a) (to b) = lt a b
section
variable {α : Type} [DecidableEq α] {lt : α → α → Bool} {to : α → D}
theorem enc_alike (h : Enc to lt) : ∀ xs ys : List α, PySem.W.alikeAll (xs.map to) (ys.map to) = true
  | [], _ => by rw [List.map_nil, PySem.W.alikeAll]
  | _ :: _, [] => by rw [List.map_nil, List.map_cons, PySem.W.alikeAll]
  | x :: xs, y :: ys => by rw [List.map_cons, List.map_cons, PySem.W.alikeAll, h.alike, enc_alike h xs ys]; rfl
theorem enc_eqv (h : Enc to lt) : ∀ xs ys : List α, PyData.eqvAll (xs.map to) (ys.map to) = decide (xs = ys)
  | [], [] => by simp [PyData.eqvAll]
  | [], _ :: _ => by simp [PyData.eqvAll]
  | _ :: _, [] => by simp [PyData.eqvAll]
  | x :: xs, y :: ys => by
    rw [List.map_cons, List.map_cons, PyData.eqvAll, h.eqv, enc_eqv h xs ys, ← Bool.decide_and]
    exact decide_eq_decide.mpr (by rw [List.cons.injEq])
theorem enc_lex (h : Enc to lt) : ∀ xs ys : List α, PyProof.Rows.lexLt PyProof.Rows.itemOrd (PySem.W.keyToksAll (xs.map to)) (PySem.W.keyToksAll (ys.map to)) = lxLt lt xs ys
  | [], [] => rfl
  | [], _ :: _ => by
    rw [List.map_nil, List.map_cons]
    simp only [PySem.W.keyToksAll, lxLt]
    rfl
  | _ :: _, [] => by
    rw [List.map_nil, List.map_cons]
    simp only [PySem.W.keyToksAll, lxLt]
    rfl
  | x :: xs, y :: ys => by
    rw [List.map_cons, List.map_cons, lxLt]
    by_cases e : x = y
    · rw [if_pos e, PySem.W.dataLt_all_yes (h.alike x y) (by rw [h.eqv]; exact decide_eq_true e)]
      exact enc_lex h xs ys
    · rw [if_neg e, PySem.W.dataLt_all_no (h.alike x y) (by rw [h.eqv]; exact decide_eq_false e)]
      exact h.lt_eq x y
theorem Enc.tup (h : Enc to lt) : Enc (fun xs : List α => .tuple (xs.map to)) (lxLt lt) := ⟨fun a b => by simp only [PySem.W.alike]; exact enc_alike h a b, fun a b => by simp only [PyData.eqv]; exact enc_eqv h a b, fun a b => enc_lex h a b⟩
theorem Enc.lst (h : Enc to lt) : Enc (fun xs : List α => .list (xs.map to)) (lxLt lt) := ⟨fun a b => by simp only [PySem.W.alike]; exact enc_alike h a b, fun a b => by simp only [PyData.eqv]; exact enc_eqv h a b, fun a b => enc_lex h a b⟩
theorem Enc.srt (h : Enc to lt) (xs : List α) : sortD (xs.map to) = (PF.srt lt xs).map to := by
  unfold sortD PF.srt
  refine (List.map_mergeSort fun a _ b _ => ?_).symm
  show (!lt b a) = PySem.W.dataLe false id (to a) (to b)
  rw [← h.lt_eq]
  rfl
theorem Enc.sortOk (h : Enc to lt) {n : Nat} (hp : ∀ a, pl (to a) n = true) (hn : n < 64) (xs : List α) (hf : (∀ a ∈ xs, firstT (to a) = true) ∨ ∀ a ∈ xs, flatK (to a) = true) (hl : xs.length ≤ sizeLine) : PF.sortOk (xs.map to) = true := by
  unfold PF.sortOk
  have h1 : SeqAt.shaped (.list (xs.map to)) = true := pl_shaped (pl_lst fun d hd => by obtain ⟨a, _, rfl⟩ := List.mem_map.mp hd; exact hp a) (by omega)
  have h2 : alikeB (xs.map to) = true := by
    unfold alikeB
    rw [List.all_eq_true]
    intro x hx
    rw [List.all_eq_true]
    intro y hy
    obtain ⟨a, _, rfl⟩ := List.mem_map.mp hx
    obtain ⟨b, _, rfl⟩ := List.mem_map.mp hy
    exact h.alike a b
  have h3 : ((xs.map to).all firstT || (xs.map to).all flatK) = true := by
    rw [Bool.or_eq_true, List.all_eq_true, List.all_eq_true]
    rcases hf with hf | hf
    · exact .inl fun d hd => by obtain ⟨a, ha, rfl⟩ := List.mem_map.mp hd; exact hf a ha
    · exact .inr fun d hd => by obtain ⟨a, ha, rfl⟩ := List.mem_map.mp hd; exact hf a ha
  rw [h1, h2, h3, List.length_map, decide_eq_true hl]
  rfl
end
def natLt (a b : Nat) : Bool := decide (a < b)
theorem ordNat : Ordr natLt := ⟨fun a => by simp [natLt], fun a b c h1 h2 => by simp [natLt] at *; omega, fun a b h1 h2 => by simp [natLt] at *; omega⟩
theorem encNat : Enc (fun n : Nat => PyData.int (n : Int)) natLt := ⟨fun a b => by simp only [PySem.W.alike], fun a b => by
    rw [eqv_int]
    exact decide_eq_decide.mpr ⟨fun e => by omega, fun e => by omega⟩, fun a b => by
    rw [PySem.W.dataLt_int]
    exact decide_eq_decide.mpr ⟨fun e => by omega, fun e => by omega⟩⟩
theorem W_srtL (ds : List D) (Q : D → Prop) : W (bSorted [.list ds]) Q = (sortOk ds = true ∧ Q (.list (sortD ds))) := W_if _ _ _
theorem W_srtT (ds : List D) (Q : D → Prop) : W (bSorted [.tuple ds]) Q = (sortOk ds = true ∧ Q (.list (sortD ds))) := W_if _ _ _
/-! two clauses -/
theorem W_comp2 (it it1 : Env → Option (List D)) (vs vs1 : List Nat) (b b1 : D → Env → Option Env) (c c1 : Env → Option Bool) (e : Den) (ρ : Env) (Q : D → Prop) : W (dComp2 it vs b c it1 vs1 b1 c1 e ρ) Q = W (it ρ) fun items => W (comp2L b c it1 vs1 b1 c1 e (wipeE ρ vs) items) fun ys => ys.length ≤ sizeLine ∧ Q (.list ys) := by
  unfold dComp2
  simp only [W_bind, W_if]
theorem comp2_typed {α : Type} {b b1 : D → Env → Option Env} {c c1 : Env → Option Bool} {it1 : Env → Option (List D)} {vs1 : List Nat} {e : Den} {ρ0 : Env} (as : List α) (to : α → D) (g : α → List D) (h : ∀ a ∈ as, W (b (to a) ρ0) fun ρ1 => W (c ρ1) fun k => if k = true then W (it1 (noOwn ρ1)) fun items => compL b1 c1 e (wipeE (noOwn ρ1) vs1) items = some (g a) else g a = []) : comp2L b c it1 vs1 b1 c1 e ρ0 (as.map to) = some (as.flatMap g) := by
  induction as with
  | nil => rfl
  | cons a as ih =>
    obtain ⟨ρ1, e1, k, e2, hk⟩ := h a (List.mem_cons_self ..)
    have ih' := ih fun a ha => h a (List.mem_cons_of_mem _ ha)
    rw [List.map_cons]
    unfold comp2L
    rw [e1, Option.bind_some, e2, Option.bind_some, List.flatMap_cons]
    cases k with
    | true =>
      rw [if_pos rfl] at hk
      obtain ⟨items, e3, e4⟩ := hk
      rw [if_pos rfl, e3, Option.bind_some, e4, Option.bind_some, ih']
      rfl
    | false =>
      rw [if_neg (by decide)] at hk
      rw [if_neg (by decide), ih', hk]
      rfl
end PF
namespace PF
open PySem PySem.Spec PyProof.Rows L2
/-! a, b = x, y -/
theorem W_par (i j : Nat) (oi oj : Bool) (f g : Den) (ρ : Env) (R : Out → Prop) : W (dPar i j oi oj f g ρ) R = W (f ρ) fun d => W (g ρ) fun e => W (dPut oi i d ρ) fun ρ1 => W (dPut oj j e ρ1) fun ρ2 => R (.next ρ2) := by
  unfold dPar
  simp only [W_bind, W_map]
theorem W_putT (i : Nat) (xs : List D) (ρ : Env) (K : Env → Prop) : W (dPut true i (.list xs) ρ) K = Pt ρ i (.own xs) K := W_some _ _
theorem W_putF (i : Nat) (d : D) (ρ : Env) (K : Env → Prop) : W (dPut false i d ρ) K = Pt ρ i (.val d) K := W_some _ _
theorem W_revL (xs : List D) (Q : D → Prop) : W (aRev (.list xs)) Q = Q (.list xs.reverse) := W_some _ _
theorem W_revT (xs : List D) (Q : D → Prop) : W (aRev (.tuple xs)) Q = Q (.tuple xs.reverse) := W_some _ _
def ev4 := And.intro @W_revL <| And.intro @W_revT <| And.intro @W_par <| And.intro @W_putT <| @W_putF
/-! while, by a measure -/
theorem W_while {c : Den} {F : DenS} {P : Out → Prop} (I : Nat → Env → Prop) (hs : ∀ m ρ, I m ρ → W (c ρ) fun d => Bz d (W (F ρ) (Lp (fun ρ' => ∃ m', m' < m ∧ I m' ρ') P)) (P (.next ρ))) : ∀ n m ρ, m < n → I m ρ → W (whileL c F n ρ) P
  | 0, m, ρ, h, _ => by omega
  | n + 1, m, ρ, h, hI => by
    obtain ⟨d, e1, b, rfl, ht, hf⟩ := hs m ρ hI
    unfold whileL
    rw [e1]
    cases b with
    | false => exact ⟨_, rfl, hf rfl⟩
    | true =>
      obtain ⟨o, e2, h2⟩ := ht rfl
      simp only [e2]
      cases o with
      | next ρ2 => obtain ⟨m', h3, h4⟩ := h2; exact W_while I hs n m' ρ2 (by omega) h4
      | cont ρ2 => obtain ⟨m', h3, h4⟩ := h2; exact W_while I hs n m' ρ2 (by omega) h4
      | brk ρ2 => exact ⟨_, rfl, h2⟩
      | ret d => exact ⟨_, rfl, h2⟩
      | reto d => exact ⟨_, rfl, h2⟩
theorem W_ext (i : Nat) (f : Den) (ρ : Env) (R : Out → Prop) : W (dExtend i f ρ) R = Lo ρ i fun xs => W (f ρ) fun d => Lv d fun ys => xs.length + ys.length ≤ sizeLine ∧ Pt ρ i (.own (xs ++ ys)) fun ρ' => R (.next ρ') := by
  unfold dExtend
  split
  · rename_i xs e
    rw [Lo_of e]
    cases e2 : f ρ with
    | none => simp only [W_none]
    | some d =>
      cases d with
      | list ys => simp only [W_some, Lv_l, W_if]; rfl
      | _ => simp only [W_none, W_some]; exact propext ⟨fun z => False.elim z, fun ⟨_, e, _⟩ => by cases e⟩
  · rename_i hn
    rw [W_none]
    exact propext ⟨fun z => False.elim z, fun ⟨xs, e, _⟩ => hn xs e⟩
theorem W_pop (i : Nat) (b : D → Env → Option Env) (ρ : Env) (R : Out → Prop) (xs : List D) (x : D) (e : ρ[i]? = some (some (.own (xs ++ [x])))) : W (dPop i b ρ) R = Pt ρ i (.own xs) fun ρ' => W (b x ρ') fun ρ'' => R (.next ρ'') := by
  unfold dPop
  rw [e]
  simp only [List.length_append, List.length_cons, List.length_nil, Nat.zero_add, Nat.add_sub_cancel]
  rw [List.getElem?_append_right (Nat.le_refl _), Nat.sub_self, List.getElem?_cons_zero]
  simp only [W_map, List.dropLast_concat]
  rfl
end PF
namespace PF
open PySem PySem.Spec PyProof.Rows L2
/-! ### dicts with typed keys -/
structure Ky {α : Type} (to : α → D) (ky : α → NestedKey) : Prop where
  key : ∀ a, keyT (to a) = some (ky a)
  inj : ∀ a b, ky a = ky b → a = b
section
variable {α β : Type} [DecidableEq α]
def aget (m : List (α × β)) (a : α) : Option β := (m.find? fun p => decide (p.1 = a)).map (·.2)
def aput (m : List (α × β)) (a : α) (v : β) : List (α × β) := if (aget m a).isSome then m.map fun p => if p.1 = a then (p.1, v) else p else m ++ [(a, v)]
def adel (m : List (α × β)) (a : α) : List (α × β) := m.filter fun p => decide (¬p.1 = a)
theorem aget_nil (a : α) : aget ([] : List (α × β)) a = none := rfl
theorem aget_cons (p : α × β) (m : List (α × β)) (a : α) : aget (p :: m) a = if p.1 = a then some p.2 else aget m a := by
  unfold aget
  by_cases h : p.1 = a
  · rw [List.find?_cons_of_pos (by simpa using h), if_pos h]; rfl
  · rw [List.find?_cons_of_neg (by simpa using h), if_neg h]
theorem aget_some (m : List (α × β)) (a : α) : (aget m a).isSome = decide (a ∈ m.map (·.1)) := by
  induction m with
  | nil => simp [aget_nil]
  | cons p m ih =>
    rw [aget_cons, List.map_cons]
    by_cases h : p.1 = a
    · rw [if_pos h]; simp [h]
    · rw [if_neg h, ih]
      exact decide_eq_decide.mpr ⟨fun z => List.mem_cons_of_mem _ z, fun z => (List.mem_cons.mp z).resolve_left fun e => h e.symm⟩
theorem aget_map (m : List (α × β)) (a b : α) (v : β) : aget (m.map fun p => if p.1 = a then (p.1, v) else p) b = (aget m b).map fun x => if b = a then v else x := by
  induction m with
  | nil => rfl
  | cons p m ih =>
    rw [List.map_cons, aget_cons, aget_cons, ih]
    by_cases h : p.1 = a
    · rw [if_pos h]
      by_cases h2 : p.1 = b
      · rw [if_pos h2, if_pos h2]
        simp [← h2, h]
      · rw [if_neg h2, if_neg h2]
    · rw [if_neg h]
      by_cases h2 : p.1 = b
      · rw [if_pos h2, if_pos h2]
        have : ¬b = a := fun e => h (h2.trans e)
        simp [this]
      · rw [if_neg h2, if_neg h2]
theorem aget_app (m : List (α × β)) (a b : α) (v : β) : aget (m ++ [(a, v)]) b = (aget m b).or (if a = b then some v else none) := by
  induction m with
  | nil =>
    rw [List.nil_append, aget_cons, aget_nil]
    rfl
  | cons p m ih =>
    rw [List.cons_append, aget_cons, aget_cons, ih]
    by_cases h : p.1 = b
    · rw [if_pos h, if_pos h]; rfl
    · rw [if_neg h, if_neg h]
theorem aget_put (m : List (α × β)) (a b : α) (v : β) : aget (aput m a v) b = if b = a then some v else aget m b := by
  unfold aput
  cases e : aget m a with
  | some x =>
    simp only [Option.isSome_some, if_true]
    rw [aget_map]
    by_cases h : b = a
    · subst h; rw [e]; simp
    · simp [h]
  | none =>
    simp only [Option.isSome_none, Bool.false_eq_true, if_false]
    rw [aget_app]
    by_cases h : b = a
    · subst h; rw [e]; simp
    · have : ¬a = b := fun z => h z.symm
      rw [if_neg this, if_neg h]
      cases aget m b <;> rfl
theorem aget_del (m : List (α × β)) (a b : α) : aget (adel m a) b = if b = a then none else aget m b := by
  unfold adel
  induction m with
  | nil => simp [aget_nil]
  | cons p m ih =>
    by_cases h : p.1 = a
    · rw [List.filter_cons_of_neg (by simpa using h), ih, aget_cons]
      by_cases h2 : b = a
      · rw [if_pos h2, if_pos h2]
      · rw [if_neg h2, if_neg h2, if_neg fun e => h2 (e.symm.trans h)]
    · rw [List.filter_cons_of_pos (by simpa using h), aget_cons, ih, aget_cons]
      by_cases h2 : p.1 = b
      · rw [if_pos h2, if_pos h2, if_neg fun e => h (h2.trans e)]
      · rw [if_neg h2, if_neg h2]
theorem akeys_put (m : List (α × β)) (a : α) (v : β) : (aput m a v).map (·.1) = if a ∈ m.map (·.1) then m.map (·.1) else m.map (·.1) ++ [a] := by
  unfold aput
  rw [aget_some]
  by_cases h : a ∈ m.map (·.1)
  · rw [decide_eq_true h, if_pos rfl, if_pos h, List.map_map]
    refine List.map_congr_left fun p _ => ?_
    simp only [Function.comp]
    split <;> rfl
  · rw [decide_eq_false h, if_neg (by decide), if_neg h, List.map_append]
    rfl
theorem akeys_del (m : List (α × β)) (a : α) : (adel m a).map (·.1) = (m.map (·.1)).filter fun x => decide (¬x = a) := by
  unfold adel
  rw [List.filter_map]
  rfl
theorem aget_mem {m : List (α × β)} {a : α} {v : β} (h : aget m a = some v) : (a, v) ∈ m := by
  unfold aget at h
  obtain ⟨p, h1, h2⟩ := Option.map_eq_some_iff.mp h
  have h3 := List.find?_some h1
  simp only [decide_eq_true_eq] at h3
  have h4 := List.mem_of_find?_eq_some h1
  subst h2
  rw [← h3]
  exact h4
end
/-- a typed dict as data -/
def encM {α β : Type} (to : α → D) (tv : β → D) (m : List (α × β)) : List (D × D) := m.map fun p => (to p.1, tv p.2)
def mD {α β : Type} (to : α → D) (tv : β → D) (m : List (α × β)) : D := dicD (encM to tv m)
section
variable {α β : Type} [DecidableEq α] {to : α → D} {ky : α → NestedKey} {tv : β → D}
theorem Ky.is (h : Ky to ky) (a : α) (p : α × β) : isKy (ky a) (to p.1, tv p.2) = decide (p.1 = a) := by
  rw [isKy_iff (h.key p.1)]
  exact decide_eq_decide.mpr ⟨fun e => h.inj _ _ e, fun e => by rw [e]⟩
theorem Ky.get (h : Ky to ky) (m : List (α × β)) (a : α) : getKV (encM to tv m) (ky a) = (aget m a).map tv := by
  induction m with
  | nil => rfl
  | cons p m ih =>
    unfold getKV encM at ih ⊢
    rw [List.map_cons, aget_cons]
    by_cases e : p.1 = a
    · rw [List.find?_cons_of_pos (by rw [h.is]; simpa using e), if_pos e]; rfl
    · rw [List.find?_cons_of_neg (by rw [h.is]; simpa using e), if_neg e]
      exact ih
theorem Ky.some (h : Ky to ky) (m : List (α × β)) (a : α) : (getKV (encM to tv m) (ky a)).isSome = (aget m a).isSome := by rw [h.get, Option.isSome_map]
theorem Ky.put (h : Ky to ky) (m : List (α × β)) (a : α) (v : β) : putKV (encM to tv m) (ky a) (to a) (tv v) = encM to tv (aput m a v) := by
  unfold putKV aput
  rw [h.some]
  split
  · unfold encM
    rw [List.map_map, List.map_map]
    refine List.map_congr_left fun p _ => ?_
    simp only [Function.comp, h.is]
    by_cases e : p.1 = a
    · rw [if_pos (by simpa using e), if_pos e]
    · rw [if_neg (by simpa using e), if_neg e]
  · unfold encM
    rw [List.map_append]
    rfl
theorem Ky.del (h : Ky to ky) (m : List (α × β)) (a : α) : dropKV (encM to tv m) (ky a) = encM to tv (adel m a) := by
  unfold dropKV adel encM
  rw [List.filter_map]
  congr 1
  refine List.filter_congr fun p _ => ?_
  simp only [Function.comp, h.is]
  rw [decide_not]
theorem encM_keys (m : List (α × β)) : (encM to tv m).map (·.1) = (m.map (·.1)).map to := by unfold encM; rw [List.map_map, List.map_map]; rfl
theorem encM_len (m : List (α × β)) : (encM to tv m).length = m.length := List.length_map ..
/-! rules -/
theorem W_niK (h : Ky to ky) (m : List (α × β)) (a : α) (Q : D → Prop) : W (aCmp .NotIn (to a) (mD to tv m)) Q = Q (.bool (!(aget m a).isSome)) := by
  show W ((keyT (to a)).map fun k => PyData.bool (if (true : Bool) = true then !(getKV (encM to tv m) k).isSome else (getKV (encM to tv m) k).isSome)) Q = _
  rw [h.key, Option.map_some, W_some, h.some]
  rfl
theorem W_inK (h : Ky to ky) (m : List (α × β)) (a : α) (Q : D → Prop) : W (aCmp .In (to a) (mD to tv m)) Q = Q (.bool (aget m a).isSome) := by
  show W ((keyT (to a)).map fun k => PyData.bool (if (false : Bool) = true then !(getKV (encM to tv m) k).isSome else (getKV (encM to tv m) k).isSome)) Q = _
  rw [h.key, Option.map_some, W_some, h.some]
  rfl
theorem W_ixK (h : Ky to ky) (m : List (α × β)) (a : α) (Q : D → Prop) : W (aIx (mD to tv m) (to a)) Q = W (aget m a) fun v => Q (tv v) := by
  have e : aIx (mD to tv m) (to a) = (keyT (to a)).bind (getKV (encM to tv m)) := by
    obtain ⟨⟨ds, hd⟩, _⟩ := keyT_tup (h.key a)
    rw [hd]
    rfl
  rw [e, h.key, Option.bind_some, h.get, W_map]
end
/-! typed dict comprehensions: one pair for each item -/
theorem W_dcomp (it : Env → Option (List D)) (vs : List Nat) (b : D → Env → Option Env) (c : Env → Option Bool) (kk vv : Den) (ρ : Env) (Q : D → Prop) : W (dDComp it vs b c kk vv ρ) Q = W (it ρ) fun items => W (dcL b c kk vv (wipeE ρ vs) items []) fun kvs => Q (dicD kvs) := by
  unfold dDComp
  simp only [W_bind, W_map]
theorem W_ownC (i : Nat) (it : Env → Option (List D)) (vs : List Nat) (b : D → Env → Option Env) (c : Env → Option Bool) (kk vv : Den) (ρ : Env) (R : Out → Prop) : W (dOwnC i it vs b c kk vv ρ) R = W (it ρ) fun items => W (dcL b c kk vv (wipeE ρ vs) items []) fun kvs => Pt ρ i (.dic kvs) fun ρ' => R (.next ρ') := by
  unfold dOwnC
  simp only [W_bind, W_map]
  rfl
theorem dc_typed {γ α β : Type} [DecidableEq α] {to : α → D} {ky : α → NestedKey} {tv : β → D} (hk : Ky to ky) {b : D → Env → Option Env} {kk vv : Den} {ρ0 : Env} (toI : γ → D) (fk : γ → α) (fv : γ → β) : ∀ (xs : List γ) (m : List (α × β)),
    (∀ x ∈ xs, W (b (toI x) ρ0) fun ρ1 => W (kk ρ1) fun kd => kd = to (fk x) ∧ W (vv ρ1) fun vd => vd = tv (fv x)) →
    dcL b (fun _ => some true) kk vv ρ0 (xs.map toI) (encM to tv m) = some (encM to tv (xs.foldl (fun m x => aput m (fk x) (fv x)) m))
  | [], m, _ => rfl
  | x :: xs, m, h => by
    obtain ⟨ρ1, e1, kd, e2, rfl, vd, e3, rfl⟩ := h x (List.mem_cons_self ..)
    rw [List.map_cons]
    unfold dcL
    rw [e1, Option.bind_some, Option.bind_some, if_pos rfl, e2, Option.bind_some, e3, Option.bind_some, hk.key, Option.bind_some, hk.put]
    exact dc_typed hk toI fk fv xs _ fun y hy => h y (List.mem_cons_of_mem _ hy)
theorem fold_keys {γ α β : Type} [DecidableEq α] (fk : γ → α) (fv : γ → β) (a : α) : ∀ (xs : List γ) (m : List (α × β)), (aget (xs.foldl (fun m x => aput m (fk x) (fv x)) m) a).isSome = (decide (a ∈ xs.map fk) || (aget m a).isSome)
  | [], m => by simp
  | x :: xs, m => by
    rw [List.foldl_cons, fold_keys fk fv a xs, aget_put, List.map_cons]
    by_cases h : a = fk x
    · simp [h]
    · rw [if_neg h]
      congr 1
      exact decide_eq_decide.mpr ⟨fun z => List.mem_cons_of_mem _ z, fun z => (List.mem_cons.mp z).resolve_left h⟩
/-! own dicts -/
def Ld (ρ : Env) (i : Nat) (K : List (D × D) → Prop) : Prop := ∃ kvs, ρ[i]? = some (some (.dic kvs)) ∧ K kvs
theorem Ld_0 (ρ : Env) (kvs : List (D × D)) (K : List (D × D) → Prop) : Ld (some (.dic kvs) :: ρ) 0 K = K kvs := propext ⟨fun ⟨_, e, h⟩ => by cases e; exact h, fun h => ⟨kvs, rfl, h⟩⟩
theorem Ld_s (ρ : Env) (i : Nat) (x : Option SV) (K : List (D × D) → Prop) : Ld (x :: ρ) (i + 1) K = Ld ρ i K := rfl
theorem Ld_of {ρ : Env} {i : Nat} {kvs : List (D × D)} (e : ρ[i]? = some (some (.dic kvs))) (K : List (D × D) → Prop) : Ld ρ i K = K kvs := propext ⟨fun ⟨ys, e', h⟩ => by rw [e] at e'; cases e'; exact h, fun h => ⟨kvs, e, h⟩⟩
theorem W_newD (i : Nat) (ρ : Env) (R : Out → Prop) : W (dNewD i ρ) R = Pt ρ i (.dic []) fun ρ' => R (.next ρ') := W_some _ _
theorem W_putN (i : Nat) (g f : Den) (ρ : Env) (R : Out → Prop) : W (dPutN i g f ρ) R = Ld ρ i fun kvs => W (f ρ) fun v => W (g ρ) fun d => W (keyT d) fun k => kvs.length < sizeLine ∧ Pt ρ i (.dic (putKV kvs k d v)) fun ρ' => R (.next ρ') := by
  unfold dPutN
  split
  · rename_i kvs e
    rw [Ld_of e]
    simp only [W_bind, W_if]
    rfl
  · rename_i hn
    rw [W_none]
    exact propext ⟨fun z => False.elim z, fun ⟨xs, e, _⟩ => hn xs e⟩
theorem W_popN (i : Nat) (g : Den) (ρ : Env) (R : Out → Prop) : W (dPopN i g ρ) R = Ld ρ i fun kvs => W (g ρ) fun d => W (keyT d) fun k => W (getKV kvs k) fun _ => Pt ρ i (.dic (dropKV kvs k)) fun ρ' => R (.next ρ') := by
  unfold dPopN
  split
  · rename_i kvs e
    rw [Ld_of e]
    simp only [W_bind, W_map]
    rfl
  · rename_i hn
    rw [W_none]
    exact propext ⟨fun z => False.elim z, fun ⟨xs, e, _⟩ => hn xs e⟩
def ev5 := And.intro @Ld_0 <| And.intro @Ld_s <| And.intro @W_newD <| And.intro @W_putN <| And.intro @W_popN <| And.intro @W_dcomp <| @W_ownC
end PF
namespace PF
open PySem PySem.Spec PyProof.Rows L2
/-! ### where a thing stands, how often -/
section
variable {α : Type} {to : α → D} {m : Nat}
open Classical in
theorem idx_typed [BEq α] [LawfulBEq α] (hp : ∀ a, pl (to a) m = true) (inj : ∀ a b, to a = to b → a = b) (a : α) : ∀ ws : List α, a ∈ ws → idxD (ws.map to) (to a) = some (ws.idxOf a)
  | [], h => by cases h
  | w :: ws, h => by
    unfold idxD
    rw [List.map_cons, List.findIdx?_cons, pl_eq (hp w) (hp a)]
    by_cases e : w = a
    · subst e
      simp
    · have e' : ¬to w = to a := fun z => e (inj _ _ z)
      rw [decide_eq_false e']
      have ih := idx_typed hp inj a ws ((List.mem_cons.mp h).resolve_left fun z => e z.symm)
      unfold idxD at ih
      simp only [Bool.false_eq_true, if_false]
      rw [ih, List.idxOf_cons, cond_eq_ite, if_neg (by simpa using e)]
      rfl
theorem index_tup [BEq α] [LawfulBEq α] (hp : ∀ a, pl (to a) m = true) (hm : m < 64) (inj : ∀ a b, to a = to b → a = b) {ws : List α} {a : α} (h : a ∈ ws) : aIndex (.tuple (ws.map to)) (to a) = some (.int ((ws.idxOf a : Nat) : Int)) := by
  show (if SeqAt.shaped (to a) = true ∧ SeqAt.shaped (.tuple (ws.map to)) = true then (idxD (ws.map to) (to a)).map fun j => PyData.int (j : Nat) else none) = _
  rw [if_pos ⟨pl_shaped (hp a) (by omega), pl_shaped (pl_tup fun x hx => by obtain ⟨b, _, rfl⟩ := List.mem_map.mp hx; exact hp b) (by omega)⟩, idx_typed hp inj a ws h]
  rfl
theorem index_lst [BEq α] [LawfulBEq α] (hp : ∀ a, pl (to a) m = true) (hm : m < 64) (inj : ∀ a b, to a = to b → a = b) {ws : List α} {a : α} (h : a ∈ ws) : aIndex (.list (ws.map to)) (to a) = some (.int ((ws.idxOf a : Nat) : Int)) := by
  show (if SeqAt.shaped (to a) = true ∧ SeqAt.shaped (.list (ws.map to)) = true then (idxD (ws.map to) (to a)).map fun j => PyData.int (j : Nat) else none) = _
  rw [if_pos ⟨pl_shaped (hp a) (by omega), pl_shaped (pl_lst fun x hx => by obtain ⟨b, _, rfl⟩ := List.mem_map.mp hx; exact hp b) (by omega)⟩, idx_typed hp inj a ws h]
  rfl
end
/-! own dicts, again -/
theorem aput_fresh {α β : Type} [DecidableEq α] {m : List (α × β)} {a : α} (v : β) (h : a ∉ m.map (·.1)) : aput m a v = m ++ [(a, v)] := by
  unfold aput
  rw [aget_some, decide_eq_false h, if_neg (by decide)]
theorem aget_isSome {α β : Type} [DecidableEq α] {m : List (α × β)} {a : α} : (aget m a).isSome = true ↔ a ∈ m.map (·.1) := by rw [aget_some, decide_eq_true_iff]
theorem aget_not {α β : Type} [DecidableEq α] {m : List (α × β)} {a : α} : (aget m a).isSome = false ↔ a ∉ m.map (·.1) := by rw [aget_some, decide_eq_false_iff_not]
theorem aget_nd {α β : Type} [DecidableEq α] {a : α} {v : β} : ∀ {m : List (α × β)}, (m.map (·.1)).Nodup → (a, v) ∈ m → aget m a = some v
  | [], _, h => by cases h
  | p :: m, nd, h => by
    rw [aget_cons]
    rw [List.map_cons] at nd
    obtain ⟨n1, n2⟩ := List.nodup_cons.mp nd
    rcases List.mem_cons.mp h with e | h
    · rw [← e, if_pos rfl]
    · have : ¬p.1 = a := fun e => n1 (by rw [e]; exact List.mem_map.mpr ⟨_, h, rfl⟩)
      rw [if_neg this]
      exact aget_nd n2 h
theorem W_oneD (i : Nat) (g f : Den) (ρ : Env) (R : Out → Prop) : W (dOneD i g f ρ) R = W (g ρ) fun d => W (f ρ) fun v => W (keyT d) fun _ => Pt ρ i (.dic [(d, v)]) fun ρ' => R (.next ρ') := by
  unfold dOneD
  simp only [W_bind, W_some]
  rfl
theorem W_getN {i : Nat} {g : Den} {ρ : Env} {kvs : List (D × D)} {Q : D → Prop} (e : ρ[i]? = some (some (.dic kvs))) : W (dGetN i g ρ) Q = W (g ρ) fun d => W (keyT d) fun k => W (getKV kvs k) Q := by
  unfold dGetN
  rw [e]
  simp only [W_bind]
theorem W_inNd {n : Bool} {i : Nat} {g : Den} {ρ : Env} {kvs : List (D × D)} {Q : D → Prop} (e : ρ[i]? = some (some (.dic kvs))) : W (dInN n g i ρ) Q = W (g ρ) fun d => W (keyT d) fun k => Q (.bool (if n = true then !(getKV kvs k).isSome else (getKV kvs k).isSome)) := by
  unfold dInN
  rw [e]
  simp only [W_bind, W_map]
/-! the least of numbers, or 0 -/
def least0 : List Int → Int
  | [] => 0
  | n :: r => r.foldl min n
theorem foldl_min_le : ∀ (r : List Int) (n : Int), (r.foldl min n ≤ n ∧ ∀ x ∈ r, r.foldl min n ≤ x) ∧ (r.foldl min n = n ∨ r.foldl min n ∈ r)
  | [], n => ⟨⟨Int.le_refl _, fun x h => by cases h⟩, .inl rfl⟩
  | y :: r, n => by
    obtain ⟨⟨h1, h2⟩, h3⟩ := foldl_min_le r (min n y)
    rw [List.foldl_cons]
    refine ⟨⟨by omega, fun x hx => ?_⟩, ?_⟩
    · rcases List.mem_cons.mp hx with rfl | hx
      · omega
      · exact h2 x hx
    · rcases h3 with h3 | h3
      · by_cases hc : n ≤ y
        · left; omega
        · right; rw [h3]; have : min n y = y := by omega
          rw [this]; exact List.mem_cons_self ..
      · right; exact List.mem_cons_of_mem _ h3
theorem least_spec {ns : List Int} (h : ns ≠ []) : least0 ns ∈ ns ∧ ∀ x ∈ ns, least0 ns ≤ x := by
  cases ns with
  | nil => exact absurd rfl h
  | cons n r =>
    obtain ⟨⟨h1, h2⟩, h3⟩ := foldl_min_le r n
    refine ⟨?_, fun x hx => ?_⟩
    · rcases h3 with h3 | h3
      · show r.foldl min n ∈ _; rw [h3]; exact List.mem_cons_self ..
      · exact List.mem_cons_of_mem _ h3
    · rcases List.mem_cons.mp hx with rfl | hx
      · exact h1
      · exact h2 x hx
theorem least_perm {xs ys : List Int} (h : xs.Perm ys) : least0 xs = least0 ys := by
  by_cases e : xs = []
  · subst e; rw [h.symm.eq_nil]
  · have e' : ys ≠ [] := fun z => e (by rw [z] at h; exact h.eq_nil)
    obtain ⟨a1, a2⟩ := least_spec e
    obtain ⟨b1, b2⟩ := least_spec e'
    have := a2 _ (h.symm.subset b1)
    have := b2 _ (h.subset a1)
    omega
end PF
namespace LW
open PySem PySem.Spec PyProof.Rows L2 PF
def wFuel : Nat := 1099511627776
def den_likes_of : DenS :=
  (dRet (d2 aIx (d2 aIx (dVarB 0) (dC (.int 2))) (d2 aSub (dVarB 1) (dC (.int 1)))))
def f_likes_of : List D → Option D := runF 2 den_likes_of
def den_choice : DenS :=
  (dSeq (dFor (dItems (dCall f_likes_of [(dVar 0), (dVar 2)])) (bName 3) (dSeq (dStar 1 (bCons (bName 4) (bCons (bName 5) bNil)) (dVar 3))
    (dIfS (d2 (aCmp .Eq) (d2 aIx (dVarB 1) (d2 aIx (dVarB 3) (dC (.int 1)))) (dCall bTuple [(dVarB 5)])) (dRet (dVar 3)) (fun ρ => some (.next ρ)))))
    (dRet (dTup [])))
def f_choice : List D → Option D := runF 6 den_choice
def den_l_cell : DenS :=
  (dSeq (dIfS (d2 (aCmp .Lt) (dVarB 1) (dCall bLen [(dVarB 0)])) (dRet (d2 aIx (dVarB 0) (dVarB 1))) (fun ρ => some (.next ρ)))
    (dSeq (dIfS (d2 (aCmp .Eq) (dCall bLen [(dVarB 0)]) (dC (.int 0))) (dRet (d2 aAdd (d2 aMul (dC (.int 7919)) (dVarB 1)) (dC (.int 101)))) (fun ρ => some (.next ρ)))
    (dRet (d2 aAdd (d2 aMod (d2 aIx (dVarB 0) (d2 aMod (dVarB 1) (dCall bLen [(dVarB 0)]))) (dC (.int 1000003))) (d2 aMul (dC (.int 7919)) (dVarB 1))))))
def f_l_cell : List D → Option D := runF 2 den_l_cell
def den_l_draws : DenS :=
  (dSeq (dSet 4 (dTup [(dC (.int 2147483647)), (dC (.int 2147483629)), (dC (.int 2147483587)), (dC (.int 2147483579)), (dC (.int 2147483563)), (dC (.int 2147483549)), (dC (.int 2147483543)), (dC (.int 2147483497))]))
    (dSeq (dSet 5 (dCall f_l_cell [(dVar 0), (dVar 1)]))
    (dSeq (dSet 6 (dC (.int 0)))
    (dSeq (dIfS (d2 (aCmp .GtE) (dVarB 5) (d2 aPow (dC (.int 10)) (dC (.int 18)))) (dSet 6 (dVar 5)) (fun ρ => some (.next ρ)))
    (dSeq (dOwn 7 (dLst []))
    (dSeq (dFor (dRg (dC (.int 0)) (dVarB 2)) (bName 8) (dSeq (dSet 9 (d2 aMul (d2 aMod (dVarB 5) (d2 aIx (dVarB 4) (d2 aMod (dVarB 8) (dC (.int 8))))) (d2 aAdd (dC (.int 48271)) (d2 aMul (d2 aMul (dC (.int 2)) (dVarB 8)) (dVarB 8)))))
    (dSeq (dSet 9 (d2 aAdd (d2 aAdd (dVarB 9) (d2 aMul (d2 aMul (dC (.int 7919)) (d2 aAdd (dVarB 8) (dC (.int 1)))) (d2 aAdd (dVarB 8) (dC (.int 1))))) (d2 aMul (dC (.int 104729)) (dVarB 1))))
    (dSeq (dSet 9 (d2 aMod (dVarB 9) (d2 aIx (dVarB 4) (d2 aMod (d2 aAdd (d2 aMul (dC (.int 3)) (dVarB 8)) (dVarB 1)) (dC (.int 8))))))
    (dSeq (dSet 9 (d2 aMod (d2 aMul (d2 aMul (dVarB 9) (dVarB 9)) (dVarB 9)) (d2 aIx (dVarB 4) (d2 aMod (d2 aAdd (dVarB 8) (dC (.int 5))) (dC (.int 8))))))
    (dSeq (dIfS (d2 (aCmp .Gt) (dVarB 6) (dC (.int 0))) (dSet 9 (dVar 6)) (fun ρ => some (.next ρ)))
    (dSeq (dAppend 7 (d2 aMod (dVarB 9) (dVarB 3)))
    (dSet 6 (d2 aDiv (dVarB 6) (dVarB 3))))))))))
    (fun ρ => (dRet (dVar 7)) (fzE ρ [7]))))))))
def f_l_draws : List D → Option D := runF 10 den_l_draws
def den_l_walk : DenS :=
  (dSeq (dOwn 4 (dLst [(dVar 2)]))
    (dSeq (dFor (dItems (dCut (dVarB 3) none (some (dVarB 0)))) (bName 5) (dSeq (dSet 6 (dComp (dRg (dC (.int 0)) (dVarB 0)) [7] (bName 7) (dT (d2 (aCmp .NotIn) (dVarB 7) (dVarB 4))) (dVar 7)))
    (dSeq (dSet 6 (dComp (dItems (dVarB 6)) [7] (bName 7) (dT (d2 (aCmp .In) (dTup [(dCall bMin [(d2 aIx (dVarB 4) (d1 aNeg (dC (.int 1)))), (dVarB 7)]), (dCall bMax [(d2 aIx (dVarB 4) (d1 aNeg (dC (.int 1)))), (dVarB 7)])]) (dVarB 1))) (dVar 7)))
    (dIfS (dAnd (d2 (aCmp .NotEq) (d2 aIx (dVarB 4) (d1 aNeg (dC (.int 1)))) (dC (.int 0))) (d2 (aCmp .NotEq) (dVarB 6) (dLst []))) (dAppend 4 (d2 aIx (dVarB 6) (d2 aMod (dVarB 5) (dCall bLen [(dVarB 6)])))) (fun ρ => some (.next ρ))))))
    (dRet (dIf (d2 (aCmp .Eq) (d2 aIx (dVarB 4) (d1 aNeg (dC (.int 1)))) (dC (.int 0))) (dCall bTuple [(dVarB 4)]) (dC .none)))))
def f_l_walk : List D → Option D := runF 8 den_l_walk
def den_l_ways : DenS :=
  (dSeq (dSet 4 (d2 aIx (dLst [(d2 aMod (d2 aIx (dVarB 3) (dC (.int 42))) (dC (.int 7))), (dC (.int 6)), (d2 aAdd (dC (.int 1)) (d2 aMod (d2 aIx (dVarB 3) (dC (.int 42))) (dC (.int 3))))]) (d2 aMod (d2 aIx (dVarB 3) (dC (.int 43))) (dC (.int 3)))))
    (dSeq (dOwn 5 (dLst []))
    (dSeq (dFor (dRg (dC (.int 0)) (dVarB 4)) (bName 6) (dSeq (dSet 7 (dCall f_l_walk [(dVar 0), (dVar 1), (dVar 2), (dCut (dVarB 3) (some (d2 aMul (dC (.int 6)) (dVarB 6))) (some (d2 aAdd (d2 aMul (dC (.int 6)) (dVarB 6)) (dC (.int 6)))))]))
    (dIfS (dAnd (d2 (aCmp .IsNot) (dVarB 7) (dC .none)) (d2 (aCmp .NotIn) (dVarB 7) (dVarB 5))) (dAppend 5 (dVar 7)) (fun ρ => some (.next ρ)))))
    (dRet (dCall bTuple [(dVarB 5)])))))
def f_l_ways : List D → Option D := runF 8 den_l_ways
def den_l_roads : DenS :=
  (dSeq (dSet 3 (dLst []))
    (dSeq (dFor (dRg (dC (.int 0)) (dVarB 0)) (bName 4) (dSet 3 (d2 aAdd (dVarB 3) (dComp (dRg (d2 aAdd (dVarB 4) (dC (.int 1))) (dVarB 0)) [5] (bName 5) (fun _ => some true) (dTup [(dVar 4), (dVar 5)])))))
    (dRet (dCall bTuple [(dComp (dEnum (dVarB 3)) [6, 7] (bTup (bCons (bName 6) (bCons (bName 7) bNil))) (dT (dOr (d2 (aCmp .NotEq) (d2 aMod (d2 aIx (dVarB 1) (dVarB 6)) (dVarB 2)) (dC (.int 0))) (d2 (aCmp .Eq) (dVarB 2) (dC (.int 6))))) (dVar 7))]))))
def f_l_roads : List D → Option D := runF 8 den_l_roads
def den_l_drawn : DenS :=
  (dSeq (dSet 3 (dCall f_l_draws [(dVar 0), (dVar 1), (dC (.int 30)), (dC (.int 27720))]))
    (dSeq (dSet 4 (d2 aIx (dLst [(d2 aAdd (dC (.int 2)) (d2 aMod (d2 aIx (dVarB 3) (dC (.int 0))) (d2 aSub (dVarB 2) (dC (.int 1))))), (dVar 2), (dCall bMin [(dC (.int 4)), (dVarB 2)])]) (d2 aMod (d2 aIx (dVarB 3) (dC (.int 1))) (dC (.int 3)))))
    (dSeq (dSet 5 (dCall f_l_roads [(dVar 4), (dCut (dVarB 3) (some (dC (.int 2))) none), (d2 aAdd (dC (.int 2)) (d2 aMod (d2 aIx (dVarB 3) (dC (.int 29))) (dC (.int 5))))]))
    (dSeq (dSet 6 (dComp (dRg (dC (.int 1)) (dVarB 4)) [7] (bName 7) (fun _ => some true) (dCall f_l_ways [(dVar 4), (dVar 5), (dVar 7), (dCall f_l_draws [(dVar 0), (d2 aAdd (dVarB 1) (dVarB 7)), (dC (.int 44)), (dC (.int 27720))])])))
    (dRet (dTup [(dVar 4), (dVar 5), (dCall bTuple [(dVarB 6)])]))))))
def f_l_drawn : List D → Option D := runF 8 den_l_drawn
def den_l_gadget : DenS :=
  (dSeq (dSet 3 (dCall f_l_draws [(dVar 0), (dVar 1), (dC (.int 12)), (dC (.int 27720))]))
    (dSeq (dSet 4 (d2 aAdd (dC (.int 3)) (d2 aMod (d2 aIx (dVarB 3) (dC (.int 0))) (d2 aSub (dVarB 2) (dC (.int 2))))))
    (dSeq (dOwn 5 (dLstOf (dRg (dC (.int 1)) (dVarB 4))))
    (dSeq (dPopC 6 5 [9] (dRg (dC (.int 0)) (d2 aSub (dVarB 4) (dC (.int 1)))) (bName 9) (d2 aMod (d2 aIx (dVarB 3) (d2 aAdd (dC (.int 1)) (dVarB 9))) (dCall bLen [(dVarB 5)])))
    (dSeq (dSet 7 (d2 aAdd (dC (.int 2)) (d2 aMod (d2 aIx (dVarB 3) (dC (.int 8))) (d2 aSub (dVarB 4) (dC (.int 2))))))
    (dSeq (dOwn 8 (dComp (dRg (dC (.int 1)) (dVarB 4)) [10] (bName 10) (fun _ => some true) (dTup [(dTup [(dVar 10), (dC (.int 0))])])))
    (dSeq (dFor (dRg (dC (.int 0)) (dVarB 7)) (bName 9) (dSeq (dSet 10 (d2 aIx (dVarB 6) (dVarB 9)))
    (dSeq (dSet 11 (d2 aIx (dVarB 6) (d2 aMod (d2 aAdd (dVarB 9) (dC (.int 1))) (dVarB 7))))
    (dSeq (dSetIx 8 (d2 aSub (dVarB 10) (dC (.int 1))) (dTup [(dTup [(dVar 10), (dVar 11), (dC (.int 0))]), (dTup [(dVar 10), (dC (.int 0))])]))
    (dIfS (dAnd (d2 (aCmp .Eq) (dVarB 9) (dC (.int 0))) (d2 (aCmp .Eq) (d2 aMod (d2 aIx (dVarB 3) (dC (.int 9))) (dC (.int 4))) (dC (.int 0)))) (dSetIx 8 (d2 aSub (dVarB 10) (dC (.int 1))) (dTup [(dTup [(dVar 10), (dC (.int 0))]), (dTup [(dVar 10), (dVar 11), (dC (.int 0))])])) (fun ρ => some (.next ρ)))))))
    (dSeq (dIfS (dAnd (d2 (aCmp .Eq) (d2 aMod (d2 aIx (dVarB 3) (dC (.int 9))) (dC (.int 5))) (dC (.int 1))) (d2 (aCmp .Lt) (d2 aAdd (dVarB 7) (dC (.int 1))) (dVarB 4))) (dSetIx 8 (d2 aSub (d2 aIx (dVarB 6) (dVarB 7)) (dC (.int 1))) (dTup [(d2 aAdd (dTup [(d2 aIx (dVarB 6) (dVarB 7))]) (d2 aIx (d2 aIx (dVarB 8) (d2 aSub (d2 aIx (dVarB 6) (dC (.int 0))) (dC (.int 1)))) (dC (.int 0)))), (dTup [(d2 aIx (dVarB 6) (dVarB 7)), (d2 aIx (dVarB 6) (dC (.int 1))), (dC (.int 0))])])) (fun ρ => some (.next ρ)))
    (dRet (dTup [(dVar 4), (dCall f_l_roads [(dVar 4), (d2 aAdd (dVarB 3) (dVarB 3)), (dC (.int 6))]), (dCall bTuple [(dVarB 8)])]))))))))))
def f_l_gadget : List D → Option D := runF 12 den_l_gadget
def den_l_guild : DenS :=
  (dSeq (dIfS (d2 (aCmp .Eq) (d2 aMod (d2 aIx (dCall f_l_draws [(dVar 0), (d2 aAdd (dVarB 1) (dC (.int 7))), (dC (.int 1)), (dC (.int 27720))]) (dC (.int 0))) (dC (.int 3))) (dC (.int 0))) (dRet (dCall f_l_gadget [(dVar 0), (dVar 1), (dCall bMax [(dVarB 2), (dC (.int 3))])])) (fun ρ => some (.next ρ)))
    (dRet (dCall f_l_drawn [(dVar 0), (dVar 1), (dVar 2)])))
def f_l_guild : List D → Option D := runF 3 den_l_guild
def den_l_stand : DenS :=
  (dSeq (dSet 2 (dComp (dItems (d2 aIx (dVarB 0) (dC (.int 2)))) [3] (bName 3) (fun _ => some true) (d2 aAdd (dTup [(dTup [])]) (dVarB 3))))
    (dRet (d2 aAdd (dTup [(dTup [(dC (.int 0))])]) (dCall bTuple [(dComp (dEnum (dVarB 2)) [4, 3] (bTup (bCons (bName 4) (bCons (bName 3) bNil))) (fun _ => some true) (d2 aIx (dVarB 3) (d2 aMod (d2 aIx (dVarB 1) (dVarB 4)) (dCall bLen [(dVarB 3)]))))]))))
def f_l_stand : List D → Option D := runF 5 den_l_stand
def den_l_choice : DenS :=
  (dSeq (dFor (dItems (d2 aIx (d2 aIx (dVarB 0) (dC (.int 2))) (d2 aSub (dVarB 2) (dC (.int 1))))) (bName 3) (dIfS (d2 (aCmp .Eq) (d2 aIx (dVarB 1) (d2 aIx (dVarB 3) (dC (.int 1)))) (dCut (dVarB 3) (some (dC (.int 1))) none)) (dRet (dVar 3)) (fun ρ => some (.next ρ))))
    (dRet (dTup [])))
def f_l_choice : List D → Option D := runF 4 den_l_choice
def den_l_made : DenS :=
  (dRet (dCall bTuple [(dComp (dRg (dC (.int 0)) (d2 aIx (dVarB 0) (dC (.int 0)))) [3] (bName 3) (fun _ => some true) (dIf (d2 (aCmp .In) (dVarB 3) (dVarB 2)) (dCall f_l_choice [(dVar 0), (dVar 1), (dVar 3)]) (d2 aIx (dVarB 1) (dVarB 3))))]))
def f_l_made : List D → Option D := runF 4 den_l_made
def den_l_first : DenS :=
  (dRet (d2 aAdd (dTup [(dTup [(dC (.int 0))])]) (d2 aMul (dTup [(dTup [])]) (d2 aSub (d2 aIx (dVarB 0) (dC (.int 0))) (dC (.int 1))))))
def f_l_first : List D → Option D := runF 1 den_l_first
def den_l_turns : DenS :=
  (dSeq (dSet 1 (dLst [(dTup [])]))
    (dSeq (dFor (dRg (dC (.int 1)) (dVarB 0)) (bName 2) (dSet 1 (d2 aAdd (dVarB 1) (dComp (dItems (dVarB 1)) [3] (bName 3) (fun _ => some true) (d2 aAdd (dVarB 3) (dTup [(dVar 2)]))))))
    (dRet (dCut (dVarB 1) (some (dC (.int 1))) none))))
def f_l_turns : List D → Option D := runF 4 den_l_turns
def den_l_run : DenS :=
  (dSeq (dSet 4 (dCall f_l_draws [(dVar 0), (dVar 1), (d2 aAdd (dVarB 3) (dC (.int 2))), (dC (.int 27720))]))
    (dSeq (dSet 5 (dCall f_l_turns [(dVar 2)]))
    (dSeq (dSet 6 (d2 aIx (dLst [(d2 aMod (d2 aIx (dVarB 4) (dVarB 3)) (d2 aAdd (dVarB 3) (dC (.int 1)))), (dVar 3)]) (d2 aMod (d2 aIx (dVarB 4) (d2 aAdd (dVarB 3) (dC (.int 1)))) (dC (.int 2)))))
    (dRet (dComp (dItems (dCut (dVarB 4) none (some (dVarB 6)))) [7] (bName 7) (fun _ => some true) (d2 aIx (dVarB 5) (d2 aMod (dVarB 7) (dCall bLen [(dVarB 5)]))))))))
def f_l_run : List D → Option D := runF 8 den_l_run
def den_choices : DenS :=
  (dRet (d2 aAdd (dTup [(dTup [(dC (.int 0))])]) (dCall bTuple [(dComp (dRg (dC (.int 1)) (d2 aIx (dVarB 0) (dC (.int 0)))) [2] (bName 2) (fun _ => some true) (dCall f_choice [(dVar 0), (dVar 1), (dVar 2)]))])))
def f_choices : List D → Option D := runF 3 den_choices
def den_made : DenS :=
  (dRet (dCall bTuple [(dComp (dEnum (dVarB 1)) [3, 4] (bTup (bCons (bName 3) (bCons (bName 4) bNil))) (fun _ => some true) (dIf (d2 (aCmp .In) (dVarB 3) (dVarB 2)) (dCall f_choice [(dVar 0), (dVar 1), (dVar 3)]) (dVar 4)))]))
def f_made : List D → Option D := runF 5 den_made
def den_is_steady : DenS :=
  (dRet (d2 (aCmp .Eq) (dCall f_choices [(dVar 0), (dVar 1)]) (dVarB 1)))
def f_is_steady : List D → Option D := runF 2 den_is_steady
def den_l_steady : DenS :=
  (dRet (dCall bAll [(dComp (dRg (dC (.int 1)) (d2 aIx (dVarB 0) (dC (.int 0)))) [2] (bName 2) (fun _ => some true) (d2 (aCmp .Eq) (dCall f_l_choice [(dVar 0), (dVar 1), (dVar 2)]) (d2 aIx (dVarB 1) (dVarB 2))))]))
def f_l_steady : List D → Option D := runF 3 den_l_steady
def den_l_truly : DenS :=
  (dRet (dAnd (dIsi [.bool] (dVarB 0)) (d2 (aCmp .Eq) (dVarB 0) (dVarB 1))))
def f_l_truly : List D → Option D := runF 2 den_l_truly
def den_tried : DenS :=
  (dRet (dComp (dItems (d2 aAdd (dTup [(dTup [])]) (dCall f_likes_of [(dVar 0), (dVar 2)]))) [3] (bName 3) (fun _ => some true) (d2 aAdd (dVarB 1) (dTup [(dVar 3)]))))
def f_tried : List D → Option D := runF 4 den_tried
def den_agrees : DenS :=
  (dSeq (dFor (dItems (dVar 0)) (bName 1) (dFor (dEnum (dVar 1)) (bTup (bCons (bName 2) (bCons (bName 3) bNil))) (dIfS (dAnd (d2 (aCmp .Lt) (dVarB 3) (dCall bLen [(dVarB 0)])) (d2 (aCmp .NotEq) (d2 aIx (dVarB 0) (dVarB 3)) (dCut (dVarB 1) (some (dVarB 2)) none))) (dRet (dC (.bool false))) (fun ρ => some (.next ρ)))))
    (dRet (dC (.bool true))))
def f_agrees : List D → Option D := runF 4 den_agrees
def den_steady_stands : DenS :=
  (dSeq (dSet 1 (dLst [(dTup [(dTup [(dC (.int 0))])])]))
    (dSeq (dFor (dRg (dC (.int 1)) (d2 aIx (dVarB 0) (dC (.int 0)))) (bName 2) (dSet 1 (dComp2 (dItems (dVarB 1)) [3, 4] (bName 3) (fun _ => some true) (dItems (dCall f_tried [(dVar 0), (dVar 3), (dVar 2)])) [4] (bName 4) (dT (dCall f_agrees [(dVar 4)])) (dVar 4))))
    (dRetO (dCall bSorted [(dComp (dItems (dVarB 1)) [3] (bName 3) (dT (dCall f_is_steady [(dVar 0), (dVar 3)])) (dVar 3))]))))
def f_steady_stands : List D → Option D := runO 5 den_steady_stands
def den_l_all : DenS :=
  (dSeq (dSet 1 (dLst [(dTup [(dTup [(dC (.int 0))])])]))
    (dSeq (dFor (dItems (d2 aIx (dVarB 0) (dC (.int 2)))) (bName 2) (dSeq (dSet 3 (dLst []))
    (dSeq (dFor (dItems (dVar 1)) (bName 4) (dSet 3 (d2 aAdd (dVarB 3) (dComp (dItems (d2 aAdd (dLst [(dTup [])]) (dCall bSorted [(dVarB 2)]))) [5] (bName 5) (fun _ => some true) (d2 aAdd (dVarB 4) (dTup [(dVar 5)]))))))
    (dSet 1 (dVar 3)))))
    (dRet (dVar 1))))
def f_l_all : List D → Option D := runF 6 den_l_all
def den_led : DenS :=
  (dSeq (dOwn 4 (dLst []))
    (dSeq (dSet 5 (dVar 1))
    (dSeq (dFor (dItems (dVar 2)) (bName 6) (dSeq (dSet 5 (dCall f_made [(dVar 0), (dVar 5), (dVar 6)]))
    (dAppend 4 (dVar 5))))
    (dRetO (dIf (dVar 3) (dRO 5) (dRO 4))))))
def f_led : List D → Option D := runO 7 den_led
def den_unlike : DenS :=
  (dRet (dCall bLen [(dComp (dZip (dVarB 0) (dVarB 1)) [2, 3] (bTup (bCons (bName 2) (bCons (bName 3) bNil))) (dT (d2 (aCmp .NotEq) (dVarB 2) (dVarB 3))) (dVar 2))]))
def f_unlike : List D → Option D := runF 4 den_unlike
def k_led__ : List D → List D → Option D := fun ds _ => f_led (ds ++ [(.bool false)])
def den_changes : DenS :=
  (dSeq (dSet 3 (d2 aAdd (dLst [(dVar 1)]) (dCallK k_led__ [(dVar 0), (dVar 1), (dVar 2)] [])))
    (dRet (dCall bSum [(dComp (dZip (dVarB 3) (dCut (dVarB 3) (some (dC (.int 1))) none)) [4, 5] (bTup (bCons (bName 4) (bCons (bName 5) bNil))) (fun _ => some true) (dCall f_unlike [(dVar 4), (dVar 5)]))])))
def f_changes : List D → Option D := runF 6 den_changes
def den_parting : DenS :=
  (dRet (d2 aIx (dCall bMax [(dComp (dEnum (dVarB 1)) [2, 3] (bTup (bCons (bName 2) (bCons (bName 3) bNil))) (dT (d2 (aCmp .NotEq) (d2 aIx (dVarB 0) (dVarB 3)) (dCut (dVarB 1) (some (dVarB 2)) none))) (dTup [(dVar 2), (dVar 3)]))]) (dC (.int 1))))
def f_parting : List D → Option D := runF 4 den_parting
def den_passed_over : DenS :=
  (dSeq (dOwn 3 (dLst []))
    (dSeq (dFor (dItems (dCall f_likes_of [(dVar 0), (dVar 2)])) (bName 4) (dSeq (dIfS (d2 (aCmp .Eq) (dVarB 4) (d2 aIx (dVarB 1) (dVarB 2))) (dRetO (dRO 3)) (fun ρ => some (.next ρ)))
    (dAppend 3 (dTup [(dVar 4), (dCall f_parting [(dVar 1), (dVar 4)])]))))
    (dRetO (dRO 3))))
def f_passed_over : List D → Option D := runO 5 den_passed_over
def den_l_passed : DenS :=
  (dSeq (dOwn 3 (dLst []))
    (dSeq (dFor (dItems (d2 aIx (d2 aIx (dVarB 0) (dC (.int 2))) (d2 aSub (dVarB 2) (dC (.int 1))))) (bName 4) (dSeq (dIfS (d2 (aCmp .Eq) (dVarB 4) (d2 aIx (dVarB 1) (dVarB 2))) (fun ρ => (dRet (dVar 3)) (fzE ρ [3])) (fun ρ => some (.next ρ)))
    (dSeq (dSet 5 (d2 aIx (dComp (dEnum (dVarB 4)) [6, 7] (bTup (bCons (bName 6) (bCons (bName 7) bNil))) (dT (d2 (aCmp .NotEq) (d2 aIx (dVarB 1) (dVarB 7)) (dCut (dVarB 4) (some (dVarB 6)) none))) (dVar 7)) (d1 aNeg (dC (.int 1)))))
    (dAppend 3 (dTup [(dVar 4), (dVar 5)])))))
    (fun ρ => (dRet (dVar 3)) (fzE ρ [3]))))
def f_l_passed : List D → Option D := runF 8 den_l_passed
def den_rank_of : DenS :=
  (dSeq (dIfS (d2 (aCmp .In) (dTup [(dVar 1), (dVar 2)]) (d2 aIx (dVarB 0) (dC (.int 1)))) (dRet (dC (.int 0))) (fun ρ => some (.next ρ)))
    (dRet (dIf (d2 (aCmp .In) (dTup [(dVar 2), (dVar 1)]) (d2 aIx (dVarB 0) (dC (.int 1)))) (dC (.int 2)) (dC (.int 1)))))
def f_rank_of : List D → Option D := runF 3 den_rank_of
def den_is_fit : DenS :=
  (dSeq (dSet 2 (dComp (dZip (dVarB 1) (dCut (dVarB 1) (some (dC (.int 1))) none)) [3, 4] (bTup (bCons (bName 3) (bCons (bName 4) bNil))) (fun _ => some true) (dCall f_rank_of [(dVar 0), (dVar 3), (dVar 4)])))
    (dRet (dCall bAll [(dComp (dZip (dVarB 2) (dCut (dVarB 2) (some (dC (.int 1))) none)) [3, 4] (bTup (bCons (bName 3) (bCons (bName 4) bNil))) (fun _ => some true) (dOr (d2 (aCmp .Eq) (dVarB 3) (dC (.int 2))) (d2 (aCmp .Eq) (dVarB 4) (dC (.int 0)))))])))
def f_is_fit : List D → Option D := runF 5 den_is_fit
def den_l_trade : DenS :=
  (dSeq (dSet 3 (dCall f_l_draws [(dVar 0), (dVar 1), (dC (.int 60)), (dC (.int 27720))]))
    (dSeq (dSet 4 (d2 aIx (dLst [(d2 aAdd (dC (.int 2)) (d2 aMod (d2 aIx (dVarB 3) (dC (.int 0))) (d2 aSub (dVarB 2) (dC (.int 1))))), (dVar 2), (dCall bMin [(dC (.int 4)), (dVarB 2)])]) (d2 aMod (d2 aIx (dVarB 3) (dC (.int 1))) (dC (.int 3)))))
    (dSeq (dOwn 5 (dLstOf (dRg (dC (.int 0)) (dVarB 4))))
    (dSeq (dPopC 6 5 [11] (dRg (dC (.int 0)) (dVarB 4)) (bName 11) (d2 aMod (d2 aIx (dVarB 3) (d2 aAdd (dC (.int 50)) (dVarB 11))) (dCall bLen [(dVarB 5)])))
    (dSeq (dPar 8 9 true true (dLst []) (dLst []))
    (dSeq (dFor (dRg (dC (.int 0)) (dVarB 4)) (bName 7) (dFor (dRg (d2 aAdd (dVarB 7) (dC (.int 1))) (dVarB 4)) (bName 10) (dSeq (dSet 12 (d2 aIx (dVarB 3) (d2 aAdd (d2 aAdd (dC (.int 2)) (d2 aMul (dC (.int 6)) (dVarB 7))) (dVarB 10))))
    (dSeq (dSet 13 (dTup [(dVar 7), (dVar 10)]))
    (dIfS (d2 (aCmp .Lt) (d2 aMod (dVarB 12) (dC (.int 5))) (dC (.int 3))) (dSeq (dSet 14 (dIf (d2 (aCmp .Eq) (d2 aMod (d2 aIx (dVarB 3) (dC (.int 49))) (dC (.int 2))) (dC (.int 0))) (d2 (aCmp .Lt) (d2 aIx (dVarB 6) (dVarB 7)) (d2 aIx (dVarB 6) (dVarB 10))) (d2 (aCmp .Eq) (d2 aMod (d2 aDiv (dVarB 12) (dC (.int 5))) (dC (.int 2))) (dC (.int 0)))))
    (dAppend 8 (dIf (dVar 14) (dVar 13) (d1 aRev (dVarB 13))))) (dIfS (d2 (aCmp .Eq) (d2 aMod (dVarB 12) (dC (.int 5))) (dC (.int 3))) (dAppend 9 (dVar 13)) (fun ρ => some (.next ρ))))))))
    (dRet (dTup [(dVar 4), (dCall bTuple [(dCall bSorted [(dVarB 8)])]), (dCall bTuple [(dVarB 9)])]))))))))
def f_l_trade : List D → Option D := runF 15 den_l_trade
def den_l_all_2 : DenS :=
  (dSeq (dSet 3 (dLst []))
    (dSeq (dOwn 4 (dLst [(dTup [(dVar 2)])]))
    (dSeq (whileL (d2 (aCmp .NotEq) (dVarB 4) (dLst [])) (dSeq (dPop 4 (bName 5))
    (dSeq (dSet 6 (dComp (dRg (dC (.int 0)) (dVarB 0)) [7] (bName 7) (dT (d2 (aCmp .NotIn) (dVarB 7) (dVarB 5))) (dVar 7)))
    (dSeq (dSet 6 (dComp (dItems (dVarB 6)) [7] (bName 7) (dT (d2 (aCmp .In) (dTup [(dCall bMin [(d2 aIx (dVarB 5) (d1 aNeg (dC (.int 1)))), (dVarB 7)]), (dCall bMax [(d2 aIx (dVarB 5) (d1 aNeg (dC (.int 1)))), (dVarB 7)])]) (dVarB 1))) (dVar 7)))
    (dSeq (dSet 3 (d2 aAdd (dVarB 3) (dComp (dItems (dVarB 6)) [7] (bName 7) (dT (d2 (aCmp .Eq) (dVarB 7) (dC (.int 0)))) (d2 aAdd (dVarB 5) (dTup [(dC (.int 0))])))))
    (dExtend 4 (dComp (dItems (dVarB 6)) [7] (bName 7) (dT (d2 (aCmp .NotEq) (dVarB 7) (dC (.int 0)))) (d2 aAdd (dVarB 5) (dTup [(dVar 7)])))))))) wFuel)
    (dRet (dVar 3)))))
def f_l_all_2 : List D → Option D := runF 8 den_l_all_2
def den_l_sort : DenS :=
  (dSeq (dIfS (d2 (aCmp .In) (dTup [(dVar 1), (dVar 2)]) (d2 aIx (dVarB 0) (dC (.int 1)))) (dRet (dC (.int 0))) (fun ρ => some (.next ρ)))
    (dRet (dIf (d2 (aCmp .In) (dTup [(dVar 2), (dVar 1)]) (d2 aIx (dVarB 0) (dC (.int 1)))) (dC (.int 2)) (dC (.int 1)))))
def f_l_sort : List D → Option D := runF 3 den_l_sort
def den_l_fit : DenS :=
  (dSeq (dSet 2 (dC (.bool true)))
    (dSeq (dFor (dZip (dVar 1) (dCut (dVarB 1) (some (dC (.int 1))) none)) (bTup (bCons (bName 3) (bCons (bName 4) bNil))) (dSeq (dSet 5 (dCall f_l_sort [(dVar 0), (dVar 3), (dVar 4)]))
    (dSeq (dIfS (dAnd (dNot (dVar 2)) (d2 (aCmp .NotEq) (dVarB 5) (dC (.int 0)))) (dRet (dC (.bool false))) (fun ρ => some (.next ρ)))
    (dSet 2 (dAnd (dVar 2) (d2 (aCmp .Eq) (dVarB 5) (dC (.int 2))))))))
    (dRet (dC (.bool true)))))
def f_l_fit : List D → Option D := runF 6 den_l_fit
def den_joined : DenS :=
  (dRet (d2 (aCmp .In) (dTup [(dCall bMin [(dVarB 1), (dVarB 2)]), (dCall bMax [(dVarB 1), (dVarB 2)])]) (dVarB 0)))
def f_joined : List D → Option D := runF 3 den_joined
def den_goes_along : DenS :=
  (dRet (dCall bAny [(dComp (dZip (dVarB 0) (dCut (dVarB 0) (some (dC (.int 1))) none)) [2, 3] (bTup (bCons (bName 2) (bCons (bName 3) bNil))) (fun _ => some true) (dCall f_joined [(dVar 1), (dVar 2), (dVar 3)]))]))
def f_goes_along : List D → Option D := runF 4 den_goes_along
def den_without : DenS :=
  (dSeq (dUnp (bTup (bCons (bName 4) (bCons (bName 5) (bCons (bName 6) bNil)))) (dVar 0))
    (dSeq (dSet 2 (dComp (dItems (dVarB 1)) [7] (bName 7) (fun _ => some true) (dTup [(dCall bMin [(dVarB 7)]), (dCall bMax [(dVarB 7)])])))
    (dSeq (dSet 3 (dCall bTuple [(dComp (dItems (dVarB 5)) [8] (bName 8) (dT (d2 (aCmp .NotIn) (dVarB 8) (dVarB 2))) (dVar 8))]))
    (dRet (dTup [(dVar 4), (dVar 3), (dCall bTuple [(dComp (dItems (dVarB 6)) [9] (bName 9) (fun _ => some true) (dCall bTuple [(dComp (dItems (dVarB 9)) [10] (bName 10) (dT (dNot (dCall f_goes_along [(dVar 10), (dVar 2)]))) (dVar 10))]))])])))))
def f_without : List D → Option D := runF 11 den_without
def den_dropped : DenS :=
  (dSeq (dUnp (bTup (bCons (bName 3) (bCons (bName 4) (bCons (bName 5) bNil)))) (dVar 0))
    (dSeq (dSet 2 (dDComp (dItems (dVarB 1)) [6] (bName 6) (fun _ => some true) (dVar 6) (dC (.bool true))))
    (dRet (dTup [(dVar 3), (dVar 4), (dCall bTuple [(dComp (dItems (dVarB 5)) [7] (bName 7) (fun _ => some true) (dCall bTuple [(dComp (dItems (dVarB 7)) [6] (bName 6) (dT (d2 (aCmp .NotIn) (dVarB 6) (dVarB 2))) (dVar 6))]))])]))))
def f_dropped : List D → Option D := runF 8 den_dropped
def den_l_liked : DenS :=
  (dSeq (dSet 1 (dLst []))
    (dSeq (dFor (dItems (d2 aIx (dVarB 0) (dC (.int 2)))) (bName 2) (dSet 1 (d2 aAdd (dVarB 1) (dCall bList [(dVarB 2)]))))
    (dRet (dVar 1))))
def f_l_liked : List D → Option D := runF 3 den_l_liked
def den_l_without : DenS :=
  (dSeq (dOwn 2 (dLst []))
    (dSeq (dFor (dItems (d2 aIx (dVarB 0) (dC (.int 2)))) (bName 3) (dSeq (dOwn 5 (dLst []))
    (dSeq (dFor (dItems (dVar 3)) (bName 6) (dSeq (dSet 7 (dComp (dZip (dVarB 6) (dCut (dVarB 6) (some (dC (.int 1))) none)) [9, 10] (bTup (bCons (bName 9) (bCons (bName 10) bNil))) (fun _ => some true) (dTup [(dCall bMin [(dVarB 9), (dVarB 10)]), (dCall bMax [(dVarB 9), (dVarB 10)])])))
    (dIfS (d2 (aCmp .Eq) (dComp (dItems (dVarB 7)) [11] (bName 11) (dT (dOr (d2 (aCmp .In) (dVarB 11) (dVarB 1)) (d2 (aCmp .In) (d1 aRev (dVarB 11)) (dVarB 1)))) (dVar 11)) (dLst [])) (dAppend 5 (dVar 6)) (fun ρ => some (.next ρ)))))
    (dAppend 2 (dCall bTuple [(dVarB 5)])))))
    (dSeq (dSet 4 (dComp (dItems (d2 aIx (dVarB 0) (dC (.int 1)))) [8] (bName 8) (dT (dAnd (d2 (aCmp .NotIn) (dVarB 8) (dVarB 1)) (d2 (aCmp .NotIn) (d1 aRev (dVarB 8)) (dVarB 1)))) (dVar 8)))
    (dRet (dTup [(d2 aIx (dVarB 0) (dC (.int 0))), (dCall bTuple [(dVarB 4)]), (dCall bTuple [(dVarB 2)])])))))
def f_l_without : List D → Option D := runF 12 den_l_without
def den_l_some : DenS :=
  (dSeq (dOwn 3 (dLst []))
    (dSeq (dFor (dRg (dC (.int 0)) (d2 aIx (dLst [(d2 aMod (d2 aIx (dVarB 2) (dC (.int 20))) (dC (.int 10))), (d2 aMod (d2 aIx (dVarB 2) (dC (.int 20))) (dC (.int 3)))]) (d2 aMod (d2 aIx (dVarB 2) (dC (.int 21))) (dC (.int 2))))) (bName 4) (dSeq (dSet 5 (dIf (dAnd (d2 (aCmp .NotEq) (dVarB 0) (dLst [])) (d2 (aCmp .NotEq) (d2 aMod (d2 aIx (dVarB 2) (dVarB 4)) (dC (.int 4))) (dC (.int 0)))) (dVar 0) (dVar 1)))
    (dAppend 3 (d2 aIx (dVarB 5) (d2 aMod (d2 aDiv (d2 aIx (dVarB 2) (dVarB 4)) (dC (.int 4))) (dCall bLen [(dVarB 5)]))))))
    (fun ρ => (dRet (dVar 3)) (fzE ρ [3]))))
def f_l_some : List D → Option D := runF 6 den_l_some
def den_worth : DenS :=
  (dSeq (dSet 2 (dDComp (dItems (d2 aIx (dVarB 0) (dC (.int 1)))) [4, 5, 6, 7] (bTup (bCons (bName 4) (bCons (bName 5) (bCons (bName 6) (bCons (bName 7) bNil))))) (fun _ => some true) (dTup [(dVar 4), (dVar 5)]) (dTup [(dVar 6), (dVar 7)])))
    (dSeq (dSet 3 (dComp (dZip (dVarB 1) (dCut (dVarB 1) (some (dC (.int 1))) none)) [4, 5] (bTup (bCons (bName 4) (bCons (bName 5) bNil))) (fun _ => some true) (d2 aIx (dVarB 2) (dTup [(dCall bMin [(dVarB 4), (dVarB 5)]), (dCall bMax [(dVarB 4), (dVarB 5)])]))))
    (dRet (dTup [(dCall bSum [(dComp (dItems (dVarB 3)) [6, 7] (bTup (bCons (bName 6) (bCons (bName 7) bNil))) (fun _ => some true) (dVar 6))]), (dCall bMin [(dComp (dItems (dVarB 3)) [6, 7] (bTup (bCons (bName 6) (bCons (bName 7) bNil))) (fun _ => some true) (dVar 7))])]))))
def f_worth : List D → Option D := runF 8 den_worth
def den_l_net : DenS :=
  (dSeq (dSet 3 (dCall f_l_draws [(dVar 0), (dVar 1), (dC (.int 30)), (dC (.int 27720))]))
    (dSeq (dSet 4 (d2 aIx (dLst [(d2 aAdd (dC (.int 2)) (d2 aMod (d2 aIx (dVarB 3) (dC (.int 0))) (d2 aSub (dVarB 2) (dC (.int 1))))), (dVar 2)]) (d2 aMod (d2 aIx (dVarB 3) (dC (.int 1))) (dC (.int 2)))))
    (dSeq (dSet 5 (dLst []))
    (dSeq (dFor (dRg (dC (.int 0)) (dVarB 4)) (bName 6) (dSet 5 (d2 aAdd (dVarB 5) (dComp (dRg (d2 aAdd (dVarB 6) (dC (.int 1))) (dVarB 4)) [13] (bName 13) (fun _ => some true) (dTup [(dVar 6), (dVar 13)])))))
    (dSeq (dSet 7 (dCall f_l_draws [(dVar 0), (d2 aAdd (dVarB 1) (dC (.int 1))), (dC (.int 42)), (dC (.int 27720))]))
    (dSeq (dOwn 8 (dLst []))
    (dSeq (dFor (dEnum (dVar 5)) (bTup (bCons (bName 9) (bCons (bName 10) bNil))) (dSeq (dSet 11 (d2 aIx (dLst [(d2 aAdd (dC (.int 1)) (d2 aMod (d2 aIx (dVarB 7) (d2 aMul (dC (.int 2)) (dVarB 9))) (dC (.int 99)))), (d2 aAdd (dC (.int 1)) (d2 aMod (d2 aIx (dVarB 7) (d2 aMul (dC (.int 2)) (dVarB 9))) (dC (.int 4)))), (dC (.int 99))]) (d2 aMod (d2 aMod (d2 aDiv (d2 aIx (dVarB 7) (d2 aMul (dC (.int 2)) (dVarB 9))) (dC (.int 99))) (dC (.int 5))) (dC (.int 3)))))
    (dSeq (dSet 12 (d2 aIx (dLst [(d2 aAdd (dC (.int 1)) (d2 aMod (d2 aIx (dVarB 7) (d2 aAdd (d2 aMul (dC (.int 2)) (dVarB 9)) (dC (.int 1)))) (dC (.int 99)))), (d2 aAdd (dC (.int 1)) (d2 aMod (d2 aIx (dVarB 7) (d2 aAdd (d2 aMul (dC (.int 2)) (dVarB 9)) (dC (.int 1)))) (dC (.int 3)))), (dC (.int 50))]) (d2 aMod (d2 aMod (d2 aDiv (d2 aIx (dVarB 7) (d2 aAdd (d2 aMul (dC (.int 2)) (dVarB 9)) (dC (.int 1)))) (dC (.int 99))) (dC (.int 5))) (dC (.int 3)))))
    (dIfS (dOr (d2 (aCmp .NotEq) (d2 aMod (d2 aIx (dVarB 3) (d2 aAdd (dC (.int 2)) (dVarB 9))) (d2 aAdd (dC (.int 2)) (d2 aMod (d2 aIx (dVarB 3) (dC (.int 29))) (dC (.int 5))))) (dC (.int 0))) (d2 (aCmp .Eq) (d2 aMod (d2 aIx (dVarB 3) (dC (.int 29))) (dC (.int 5))) (dC (.int 4)))) (dAppend 8 (dTup [(d2 aIx (dVarB 10) (dC (.int 0))), (d2 aIx (dVarB 10) (dC (.int 1))), (dVar 11), (dVar 12)])) (fun ρ => some (.next ρ))))))
    (dRet (dTup [(dVar 4), (dCall bTuple [(dVarB 8)])])))))))))
def f_l_net : List D → Option D := runF 14 den_l_net
def den_l_worth : DenS :=
  (dSeq (dUnp (bTup (bCons (bName 2) (bCons (bName 3) bNil))) (dTup [(dC (.int 0)), (dC (.int 99))]))
    (dSeq (dFor (dZip (dVar 1) (dCut (dVarB 1) (some (dC (.int 1))) none)) (bTup (bCons (bName 4) (bCons (bName 5) bNil))) (dSeq (dSet 6 (d2 aIx (dComp (dItems (d2 aIx (dVarB 0) (dC (.int 1)))) [6] (bName 6) (dT (d2 (aCmp .Eq) (dCut (dVarB 6) none (some (dC (.int 2)))) (dTup [(dCall bMin [(dVarB 4), (dVarB 5)]), (dCall bMax [(dVarB 4), (dVarB 5)])]))) (dVar 6)) (dC (.int 0))))
    (dSeq (dSet 2 (d2 aAdd (dVarB 2) (d2 aIx (dVarB 6) (dC (.int 2)))))
    (dSet 3 (dCall bMin [(dVarB 3), (d2 aIx (dVarB 6) (dC (.int 3)))])))))
    (dRet (dTup [(dVar 2), (dVar 3)]))))
def f_l_worth : List D → Option D := runF 7 den_l_worth
def den_all_ways : DenS :=
  (dRet (dCall bSorted [(dComp2 (dItems (d2 aIx (dVarB 0) (dC (.int 2)))) [1, 2] (bName 1) (fun _ => some true) (dItems (dVar 1)) [2] (bName 2) (fun _ => some true) (dVar 2))]))
def f_all_ways : List D → Option D := runF 3 den_all_ways
def den_is_liked_way : DenS :=
  (dRet (dAnd (d2 (aCmp .Gt) (dCall bLen [(dVarB 1)]) (dC (.int 1))) (dAnd (dChain (aCmp .Lt) (aCmp .Lt) (dC (.int 0)) (d2 aIx (dVarB 1) (dC (.int 0))) (d2 aIx (dVarB 0) (dC (.int 0)))) (d2 (aCmp .In) (dVarB 1) (d2 aIx (d2 aIx (dVarB 0) (dC (.int 2))) (d2 aSub (d2 aIx (dVarB 1) (dC (.int 0))) (dC (.int 1))))))))
def f_is_liked_way : List D → Option D := runF 2 den_is_liked_way
def den_ends_of : DenS :=
  (dRet (dComp (dRg (dC (.int 1)) (dCall bLen [(dVarB 0)])) [1] (bName 1) (fun _ => some true) (dCut (dVarB 0) (some (dVarB 1)) none)))
def f_ends_of : List D → Option D := runF 2 den_ends_of
def den_spoke_steps : DenS :=
  (dSeq (dNewD 1)
    (dSeq (dFor (dItems (dCall f_all_ways [(dVar 0)])) (bName 2) (dSeq (dSet 3 (dCall f_likes_of [(dVar 0), (d2 aIx (dVarB 2) (dC (.int 0)))]))
    (dSeq (dSet 4 (dCut (dVarB 3) none (some (d2 aIndex (dVarB 3) (dVarB 2)))))
    (dPutN 1 (dVar 2) (dComp2 (dItems (dVarB 4)) [5, 6] (bName 5) (fun _ => some true) (dItems (dCall f_ends_of [(dVar 5)])) [6] (bName 6) (dT (dCall f_is_liked_way [(dVar 0), (dVar 6)])) (dTup [(dVar 5), (dVar 6)]))))))
    (fun ρ => (dRet (dVar 1)) (fzE ρ [1]))))
def f_spoke_steps : List D → Option D := runF 7 den_spoke_steps
def den_ring_from : DenS :=
  (dSeq (dOneD 2 (dVar 1) (dLst []))
    (dSeq (dSet 3 (dLst [(dVar 1)]))
    (dSeq (whileL (d2 (aCmp .NotEq) (dVarB 3) (dLst [])) (dSeq (dOwn 4 (dLst []))
    (dSeq (dFor (dItems (dVar 3)) (bName 5) (dFor (dItems (d2 aIx (dVarB 0) (dVarB 5))) (bTup (bCons (bName 6) (bCons (bName 7) bNil))) (dSeq (dSet 8 (d2 aAdd (dGetN 2 (dVarB 5)) (dLst [(dTup [(dVar 5), (dVar 6)])])))
    (dSeq (dIfS (d2 (aCmp .Eq) (dVarB 7) (dVarB 1)) (dRet (dVar 8)) (fun ρ => some (.next ρ)))
    (dIfS (dInN true (dVarB 7) 2) (dSeq (dPutN 2 (dVar 7) (dVar 8))
    (dAppend 4 (dVar 7))) (fun ρ => some (.next ρ)))))))
    (fun ρ => (dSet 3 (dVar 4)) (fzE ρ [4])))) wFuel)
    (dRet (dLst [])))))
def f_ring_from : List D → Option D := runF 9 den_ring_from
def den_rings_found : DenS :=
  (dSeq (dSet 1 (dCall f_spoke_steps [(dVar 0)]))
    (dSeq (dSet 2 (dComp (dItems (dVarB 1)) [3] (bName 3) (fun _ => some true) (dCall f_ring_from [(dVar 1), (dVar 3)])))
    (dRet (dComp (dItems (dVarB 2)) [4] (bName 4) (dT (d2 (aCmp .NotEq) (dVarB 4) (dLst []))) (dVar 4)))))
def f_rings_found : List D → Option D := runF 5 den_rings_found
def den_shortest_ring : DenS :=
  (dRet (d2 (aBestD PySem.W.minD) (dComp (dItems (dCall f_rings_found [(dVar 0)])) [1] (bName 1) (fun _ => some true) (dCall bLen [(dVarB 1)])) (dC (.int 0))))
def f_shortest_ring : List D → Option D := runF 2 den_shortest_ring
def den_l_ends : DenS :=
  (dSeq (dSet 2 (dComp (dRg (dC (.int 1)) (d2 aSub (dCall bLen [(dVarB 1)]) (dC (.int 1)))) [3] (bName 3) (fun _ => some true) (dCut (dVarB 1) (some (dVarB 3)) none)))
    (dRet (dComp (dItems (dVarB 2)) [4] (bName 4) (dT (d2 (aCmp .In) (dVarB 4) (d2 aIx (d2 aIx (dVarB 0) (dC (.int 2))) (d2 aSub (d2 aIx (dVarB 4) (dC (.int 0))) (dC (.int 1)))))) (dVar 4))))
def f_l_ends : List D → Option D := runF 5 den_l_ends
def den_l_follow : DenS :=
  (dSeq (dSet 2 (dLst []))
    (dSeq (dSet 3 (d2 aIx (d2 aIx (dVarB 0) (dC (.int 2))) (d2 aSub (d2 aIx (dVarB 1) (dC (.int 0))) (dC (.int 1)))))
    (dSeq (dFor (dItems (dCut (dVarB 3) none (some (d2 aIndex (dVarB 3) (dVarB 1))))) (bName 4) (dSet 2 (d2 aAdd (dVarB 2) (dComp (dItems (dCall f_l_ends [(dVar 0), (dVar 4)])) [5] (bName 5) (fun _ => some true) (dTup [(dVar 4), (dVar 5)])))))
    (dRet (dVar 2)))))
def f_l_follow : List D → Option D := runF 6 den_l_follow
def den_l_ring_at : DenS :=
  (dSeq (dSet 2 (dLst [(dTup [(dVar 1), (dLst [])])]))
    (dSeq (dOwn 3 (dLst [(dVar 1)]))
    (dSeq (whileL (d2 (aCmp .NotEq) (dVarB 2) (dLst [])) (dSeq (dOwn 4 (dLst []))
    (dSeq (dFor (dItems (dVar 2)) (bTup (bCons (bName 5) (bCons (bName 6) bNil))) (dFor (dItems (dCall f_l_follow [(dVar 0), (dVar 5)])) (bTup (bCons (bName 7) (bCons (bName 8) bNil))) (dSeq (dIfS (d2 (aCmp .Eq) (dVarB 8) (dVarB 1)) (dRet (d2 aAdd (dVarB 6) (dLst [(dTup [(dVar 5), (dVar 7)])]))) (fun ρ => some (.next ρ)))
    (dIfS (d2 (aCmp .NotIn) (dVarB 8) (dVarB 3)) (dSeq (dAppend 3 (dVar 8))
    (dAppend 4 (dTup [(dVar 8), (d2 aAdd (dVarB 6) (dLst [(dTup [(dVar 5), (dVar 7)])]))]))) (fun ρ => some (.next ρ))))))
    (fun ρ => (dSet 2 (dVar 4)) (fzE ρ [4])))) wFuel)
    (dRet (dLst [])))))
def f_l_ring_at : List D → Option D := runF 9 den_l_ring_at
def den_first_stand : DenS :=
  (dRet (d2 aAdd (dTup [(dTup [(dC (.int 0))])]) (d2 aMul (dTup [(dTup [])]) (d2 aSub (d2 aIx (dVarB 0) (dC (.int 0))) (dC (.int 1))))))
def f_first_stand : List D → Option D := runF 1 den_first_stand
def den_is_stand : DenS :=
  (dSeq (dIfS (dOr (dNot (dIsi [.tuple] (dVarB 1))) (d2 (aCmp .NotEq) (dCall bLen [(dVarB 1)]) (d2 aIx (dVarB 0) (dC (.int 0))))) (dRet (dC (.bool false))) (fun ρ => some (.next ρ)))
    (dSeq (dIfS (dNot (dCall bAll [(dComp (dItems (dVarB 1)) [4] (bName 4) (fun _ => some true) (dIsi [.tuple] (dVarB 4)))])) (dRet (dC (.bool false))) (fun ρ => some (.next ρ)))
    (dSeq (dIfS (dNot (dCall bAll [(dComp2 (dItems (dVarB 1)) [4, 5] (bName 4) (fun _ => some true) (dItems (dVar 4)) [5] (bName 5) (fun _ => some true) (dAnd (dIsi [.int] (dVarB 5)) (dNot (dIsi [.bool] (dVarB 5)))))])) (dRet (dC (.bool false))) (fun ρ => some (.next ρ)))
    (dSeq (dStar 1 (bCons (bName 2) (bCons (bName 3) bNil)) (dVar 1))
    (dRet (dAnd (d2 (aCmp .Eq) (dVarB 2) (dTup [(dC (.int 0))])) (dCall bAll [(dComp (dEnum (dVarB 3)) [6, 4] (bTup (bCons (bName 6) (bCons (bName 4) bNil))) (fun _ => some true) (dOr (d2 (aCmp .Eq) (dVarB 4) (dTup [])) (d2 (aCmp .In) (dVarB 4) (d2 aIx (d2 aIx (dVarB 0) (dC (.int 2))) (dVarB 6)))))])))))))
def f_is_stand : List D → Option D := runF 7 den_is_stand
def den_l_number : DenS :=
  (dRet (dAnd (dIsi [.int] (dVarB 0)) (dAnd (dNot (dIsi [.bool] (dVarB 0))) (dChain (aCmp .LtE) (aCmp .LtE) (dVarB 1) (dVarB 0) (dVarB 2)))))
def f_l_number : List D → Option D := runF 3 den_l_number
def den_l_is_stand : DenS :=
  (dSeq (dIfS (dOr (dNot (dIsi [.tuple] (dVarB 1))) (d2 (aCmp .NotEq) (dCall bLen [(dVarB 1)]) (d2 aIx (dVarB 0) (dC (.int 0))))) (dRet (dC (.bool false))) (fun ρ => some (.next ρ)))
    (dSeq (dFor (dEnum (dVar 1)) (bTup (bCons (bName 2) (bCons (bName 3) bNil))) (dSeq (dIfS (dOr (dNot (dIsi [.tuple] (dVarB 3))) (dNot (dCall bAll [(dComp (dItems (dVarB 3)) [4] (bName 4) (fun _ => some true) (dCall f_l_number [(dVar 4), (dC (.int 0)), (dC (.int 6))]))]))) (dRet (dC (.bool false))) (fun ρ => some (.next ρ)))
    (dIfS (dOr (dAnd (d2 (aCmp .Eq) (dVarB 2) (dC (.int 0))) (d2 (aCmp .NotEq) (dVarB 3) (dTup [(dC (.int 0))]))) (dAnd (d2 (aCmp .Gt) (dVarB 2) (dC (.int 0))) (dAnd (d2 (aCmp .NotEq) (dVarB 3) (dTup [])) (d2 (aCmp .NotIn) (dVarB 3) (d2 aIx (d2 aIx (dVarB 0) (dC (.int 2))) (d2 aSub (dVarB 2) (dC (.int 1)))))))) (dRet (dC (.bool false))) (fun ρ => some (.next ρ)))))
    (dRet (dC (.bool true)))))
def f_l_is_stand : List D → Option D := runF 5 den_l_is_stand
def den_l_places (f_self : List D → Option D) : DenS :=
  (dSeq (dSet 1 (dLst [(dTup [])]))
    (dSeq (dIfS (dIsi [.list, .tuple] (dVarB 0)) (dFor (dEnum (dVar 0)) (bTup (bCons (bName 2) (bCons (bName 3) bNil))) (dSet 1 (d2 aAdd (dVarB 1) (dComp (dItems (dCall f_self [(dVar 3)])) [4] (bName 4) (fun _ => some true) (d2 aAdd (dTup [(dVar 2)]) (dVarB 4)))))) (fun ρ => some (.next ρ)))
    (dRet (dVar 1))))
def f_l_places : List D → Option D := recF 5 den_l_places 12
def den_l_other : DenS :=
  (dSeq (dSet 2 (dLst [(dC .none), (dC (.bool true)), (dC (.bool false)), (dC (.int 7)), (d2 aSub (dC (.int 0)) (dC (.int 1))), (d2 aPow (dC (.int 10)) (dC (.int 39))), (dC (.str "0")), (dC (.str "")), (dTup []), (dLst []), (dTup [(dVar 0)]), (dLst [(dVar 0)]), (dTup [(dC (.int 0))]), (dTup [(dC (.int 1)), (dC (.int 0))]), (dC (.int 1)), (dC (.int 0))]))
    (dSeq (dIfS (dAnd (dIsi [.int] (dVarB 0)) (dNot (dIsi [.bool] (dVarB 0)))) (dSet 2 (d2 aAdd (dLst [(d2 aAdd (dVarB 0) (dC (.int 1))), (d2 aSub (dVarB 0) (dC (.int 1))), (dCall bBool [(dVarB 0)]), (d2 aAdd (dVarB 0) (dC (.int 1))), (d2 aSub (dVarB 0) (dC (.int 1))), (dCall bBool [(dVarB 0)])]) (dVarB 2))) (fun ρ => some (.next ρ)))
    (dSeq (dIfS (dIsi [.list, .tuple] (dVarB 0)) (dSet 2 (d2 aAdd (dLst [(dCall bList [(dVarB 0)]), (dCall bTuple [(dVarB 0)]), (dCall bTuple [(d1 aRev (dVarB 0))]), (dCall bList [(dVarB 0)])]) (dVarB 2))) (fun ρ => some (.next ρ)))
    (dRet (d2 aIx (dVarB 2) (d2 aMod (d2 aIx (dVarB 1) (dC (.int 1))) (dCall bLen [(dVarB 2)])))))))
def f_l_other : List D → Option D := runF 3 den_l_other
def den_l_shifted : DenS :=
  (dSeq (dSet 3 (d2 aMod (d2 aIx (dVarB 2) (dC (.int 2))) (dCall bLen [(dVarB 0)])))
    (dSeq (dIfS (d2 (aCmp .Eq) (d2 aMod (d2 aIx (dVarB 2) (dC (.int 0))) (dC (.int 3))) (dC (.int 0))) (dRetO (d2 aAdd (dCut (dVarB 0) none (some (dVarB 1))) (dCut (dVarB 0) (some (d2 aAdd (dVarB 1) (dC (.int 1)))) none))) (fun ρ => some (.next ρ)))
    (dSeq (dIfS (d2 (aCmp .Eq) (d2 aMod (d2 aIx (dVarB 2) (dC (.int 0))) (dC (.int 3))) (dC (.int 1))) (dRetO (d2 aAdd (d2 aAdd (dCut (dVarB 0) none (some (dVarB 3))) (dLst [(d2 aIx (dVarB 0) (dVarB 1))])) (dCut (dVarB 0) (some (dVarB 3)) none))) (fun ρ => some (.next ρ)))
    (dSeq (dSet 4 (d2 aAdd (dCut (dVarB 0) none (some (dVarB 1))) (dCut (dVarB 0) (some (d2 aAdd (dVarB 1) (dC (.int 1)))) none)))
    (dRetO (d2 aAdd (d2 aAdd (dCut (dVarB 4) none (some (dVarB 3))) (dLst [(d2 aIx (dVarB 0) (dVarB 1))])) (dCut (dVarB 4) (some (dVarB 3)) none)))))))
def f_l_shifted : List D → Option D := runO 5 den_l_shifted
def k_l_shifted__ : List D → List D → Option D := fun ds _ => f_l_shifted ds
def den_l_put (f_self : List D → Option D) : DenS :=
  (dSeq (dIfS (d2 (aCmp .Eq) (dVarB 1) (dTup [])) (dRet (dCall f_l_other [(dVar 0), (dVar 2)])) (fun ρ => some (.next ρ)))
    (dSeq (dOwn 3 (dCall bList [(dVarB 0)]))
    (dSeq (dIfS (dAnd (d2 (aCmp .Eq) (dCall bLen [(dVarB 1)]) (dC (.int 1))) (d2 (aCmp .Eq) (d2 aMod (d2 aIx (dVarB 2) (dC (.int 3))) (dC (.int 2))) (dC (.int 0)))) (fun ρ => (dOwn 3 (dCallK k_l_shifted__ [(dVar 3), (d2 aIx (dVarB 1) (dC (.int 0))), (dVar 2)] [])) (fzE ρ [3])) (dSetIx 3 (d2 aIx (dVarB 1) (dC (.int 0))) (dCall f_self [(d2 aIx (dVarB 3) (d2 aIx (dVarB 1) (dC (.int 0)))), (dCut (dVarB 1) (some (dC (.int 1))) none), (dVar 2)])))
    (fun ρ => (dRet (dIf (dIsi [.list] (dVarB 0)) (dVar 3) (dCall bTuple [(dVarB 3)]))) (fzE ρ [3])))))
def f_l_put : List D → Option D := recF 4 den_l_put 12
def den_l_bent : DenS :=
  (dSeq (dSet 2 (dCall f_l_places [(dVar 0)]))
    (dRet (dCall f_l_put [(dVar 0), (d2 aIx (dVarB 2) (d2 aMod (d2 aIx (dVarB 1) (dC (.int 4))) (dCall bLen [(dVarB 2)]))), (dVar 1)])))
def f_l_bent : List D → Option D := runF 3 den_l_bent
def den_l_thing (f_self : List D → Option D) : DenS :=
  (dSeq (dSet 2 (d2 aMod (d2 aIx (dVarB 0) (dVarB 1)) (dC (.int 12))))
    (dSeq (dSet 3 (d2 aIx (dLst [(d2 aSub (d2 aMod (d2 aIx (dVarB 0) (d2 aAdd (dVarB 1) (dC (.int 1)))) (dC (.int 12))) (dC (.int 2))), (d2 aSub (dC (.int 0)) (d2 aPow (dC (.int 10)) (dC (.int 39)))), (d2 aPow (dC (.int 10)) (dC (.int 39)))]) (d2 aMod (d2 aIx (dVarB 0) (d2 aAdd (dVarB 1) (dC (.int 2)))) (dC (.int 3)))))
    (dSeq (dIfS (dOr (d2 (aCmp .Lt) (dVarB 2) (dC (.int 4))) (d2 (aCmp .Gt) (dVarB 1) (dC (.int 3)))) (dRet (dVar 3)) (fun ρ => some (.next ρ)))
    (dSeq (dIfS (d2 (aCmp .Lt) (dVarB 2) (dC (.int 7))) (dRet (d2 aIx (dLst [(dC (.bool true)), (dC (.bool false)), (dC .none)]) (d2 aSub (dVarB 2) (dC (.int 4))))) (fun ρ => some (.next ρ)))
    (dSeq (dIfS (d2 (aCmp .Lt) (dVarB 2) (dC (.int 9))) (dRet (d2 aIx (dLst [(dC (.str "")), (dC (.str "0")), (dC (.str "1-0")), (dC (.str "hall")), (dC (.str "3")), (dC (.str "none")), (dC (.str "1:")), (dC (.str "~"))]) (d2 aMod (d2 aIx (dVarB 0) (d2 aAdd (dVarB 1) (dC (.int 3)))) (dC (.int 8))))) (fun ρ => some (.next ρ)))
    (dSeq (dSet 4 (dComp (dRg (dC (.int 0)) (d2 aMod (d2 aIx (dVarB 0) (d2 aAdd (dVarB 1) (dC (.int 4)))) (dC (.int 4)))) [5] (bName 5) (fun _ => some true) (dCall f_self [(d2 aAdd (dCut (dVarB 0) (some (dVarB 5)) none) (dCut (dVarB 0) none (some (dVarB 5)))), (d2 aAdd (dVarB 1) (dC (.int 1)))])))
    (dRet (dIf (d2 (aCmp .Eq) (dVarB 2) (dC (.int 9))) (dVar 4) (dCall bTuple [(dVarB 4)])))))))))
def f_l_thing : List D → Option D := recF 6 den_l_thing 12
def den_all_turns : DenS :=
  (dSeq (dSet 1 (dLst [(dTup [])]))
    (dSeq (dFor (dRg (dC (.int 1)) (dVarB 0)) (bName 2) (dSet 1 (d2 aAdd (dVarB 1) (dComp (dItems (dVarB 1)) [3] (bName 3) (fun _ => some true) (d2 aAdd (dVarB 3) (dTup [(dVar 2)]))))))
    (dRet (dCut (dVarB 1) (some (dC (.int 1))) none))))
def f_all_turns : List D → Option D := runF 4 den_all_turns
def den_all_made : DenS :=
  (dSeq (dSet 3 (dCall f_choices [(dVar 0), (dVar 1)]))
    (dRet (dComp (dItems (dVarB 2)) [4] (bName 4) (fun _ => some true) (dTup [(dVar 4), (dCall bTuple [(dComp (dEnum (dVarB 1)) [5, 6] (bTup (bCons (bName 5) (bCons (bName 6) bNil))) (fun _ => some true) (dIf (d2 (aCmp .In) (dVarB 5) (dVarB 4)) (d2 aIx (dVarB 3) (dVarB 5)) (dVar 6)))])]))))
def f_all_made : List D → Option D := runF 7 den_all_made
def den_l_small : DenS :=
  (dSeq (dSet 2 (dCall f_l_guild [(dVar 0), (dVar 1), (dC (.int 5))]))
    (dSeq (dIfS (d2 (aCmp .Lt) (d2 aIx (dVarB 2) (dC (.int 0))) (dC (.int 5))) (dRet (dVar 2)) (fun ρ => some (.next ρ)))
    (dRet (dTup [(d2 aIx (dVarB 2) (dC (.int 0))), (d2 aIx (dVarB 2) (dC (.int 1))), (dCall bTuple [(dComp (dItems (d2 aIx (dVarB 2) (dC (.int 2)))) [3] (bName 3) (fun _ => some true) (dCut (dVarB 3) none (some (dC (.int 2)))))])]))))
def f_l_small : List D → Option D := runF 4 den_l_small
def den_forerunners : DenS :=
  (dSeq (dNewD 1)
    (dSeq (dFor (dItems (dCall f_all_ways [(dVar 0)])) (bName 2) (dSeq (dSet 3 (dCall f_likes_of [(dVar 0), (d2 aIx (dVarB 2) (dC (.int 0)))]))
    (dPutN 1 (dVar 2) (d2 aAdd (dCall bList [(dCut (dVarB 3) none (some (d2 aIndex (dVarB 3) (dVarB 2))))]) (dComp (dItems (dCall f_ends_of [(dVar 2)])) [4] (bName 4) (dT (dCall f_is_liked_way [(dVar 0), (dVar 4)])) (dVar 4))))))
    (fun ρ => (dRet (dVar 1)) (fzE ρ [1]))))
def f_forerunners : List D → Option D := runF 5 den_forerunners
def den_are_ways : DenS :=
  (dSeq (dIfS (dOr (dNot (dIsi [.list] (dVarB 0))) (dNot (dCall bAll [(dComp (dItems (dVarB 0)) [1] (bName 1) (fun _ => some true) (dAnd (dIsi [.tuple] (dVarB 1)) (d2 (aCmp .NotEq) (dVarB 1) (dTup []))))]))) (dRet (dC (.bool false))) (fun ρ => some (.next ρ)))
    (dRet (dCall bAll [(dComp2 (dItems (dVarB 0)) [1, 2] (bName 1) (fun _ => some true) (dItems (dVar 1)) [2] (bName 2) (fun _ => some true) (dAnd (dIsi [.int] (dVarB 2)) (dNot (dIsi [.bool] (dVarB 2)))))])))
def f_are_ways : List D → Option D := runF 3 den_are_ways
def den_is_order : DenS :=
  (dSeq (dIfS (dOr (dNot (dCall f_are_ways [(dVar 1)])) (d2 (aCmp .NotEq) (dCall bSorted [(dVarB 1)]) (dCall f_all_ways [(dVar 0)]))) (dRet (dC (.bool false))) (fun ρ => some (.next ρ)))
    (dSeq (dSet 2 (dDComp (dEnum (dVarB 1)) [4, 5] (bTup (bCons (bName 4) (bCons (bName 5) bNil))) (fun _ => some true) (dVar 5) (dVar 4)))
    (dSeq (dSet 3 (dCall f_forerunners [(dVar 0)]))
    (dRet (dCall bAll [(dComp2 (dItems (dVarB 1)) [5, 6] (bName 5) (fun _ => some true) (dItems (d2 aIx (dVarB 3) (dVarB 5))) [6] (bName 6) (fun _ => some true) (d2 (aCmp .Lt) (d2 aIx (dVarB 2) (dVarB 6)) (d2 aIx (dVarB 2) (dVarB 5))))])))))
def f_is_order : List D → Option D := runF 7 den_is_order
def den_l_before : DenS :=
  (dSeq (dSet 2 (dCall bList [(d2 aIx (d2 aIx (dVarB 0) (dC (.int 2))) (d2 aSub (d2 aIx (dVarB 1) (dC (.int 0))) (dC (.int 1))))]))
    (dSeq (dSet 3 (dComp (dRg (dC (.int 1)) (d2 aSub (dCall bLen [(dVarB 1)]) (dC (.int 1)))) [4] (bName 4) (fun _ => some true) (dCut (dVarB 1) (some (dVarB 4)) none)))
    (dRet (d2 aAdd (dCut (dVarB 2) none (some (d2 aIndex (dVarB 2) (dVarB 1)))) (dComp (dItems (dVarB 3)) [5] (bName 5) (dT (d2 (aCmp .In) (dVarB 5) (d2 aIx (d2 aIx (dVarB 0) (dC (.int 2))) (d2 aSub (d2 aIx (dVarB 5) (dC (.int 0))) (dC (.int 1)))))) (dVar 5))))))
def f_l_before : List D → Option D := runF 6 den_l_before
def den_l_are_ways : DenS :=
  (dSeq (dIfS (dNot (dIsi [.list] (dVarB 0))) (dRet (dC (.bool false))) (fun ρ => some (.next ρ)))
    (dSeq (dFor (dItems (dVar 0)) (bName 1) (dSeq (dIfS (dOr (dNot (dIsi [.tuple] (dVarB 1))) (d2 (aCmp .Eq) (dVarB 1) (dTup []))) (dRet (dC (.bool false))) (fun ρ => some (.next ρ)))
    (dIfS (dNot (dCall bAll [(dComp (dItems (dVarB 1)) [2] (bName 2) (fun _ => some true) (dCall f_l_number [(dVar 2), (d2 aSub (dC (.int 0)) (d2 aPow (dC (.int 10)) (dC (.int 40)))), (d2 aPow (dC (.int 10)) (dC (.int 40)))]))])) (dRet (dC (.bool false))) (fun ρ => some (.next ρ)))))
    (dRet (dC (.bool true)))))
def f_l_are_ways : List D → Option D := runF 3 den_l_are_ways
def den_l_is_order : DenS :=
  (dSeq (dIfS (dOr (dNot (dCall f_l_are_ways [(dVar 1)])) (d2 (aCmp .NotEq) (dCall bSorted [(dVarB 1)]) (dCall bSorted [(dCall f_l_liked [(dVar 0)])]))) (dRet (dC (.bool false))) (fun ρ => some (.next ρ)))
    (dSeq (dOwn 2 (dLst []))
    (dSeq (dFor (dItems (dVar 1)) (bName 3) (dSeq (dIfS (dNot (dCall bAll [(dComp (dItems (dCall f_l_before [(dVar 0), (dVar 3)])) [4] (bName 4) (fun _ => some true) (d2 (aCmp .In) (dVarB 4) (dVarB 2)))])) (dRet (dC (.bool false))) (fun ρ => some (.next ρ)))
    (dAppend 2 (dVar 3))))
    (dRet (dC (.bool true))))))
def f_l_is_order : List D → Option D := runF 5 den_l_is_order
def den_l_sorted : DenS :=
  (dSeq (dSet 1 (dCall bSorted [(dCall f_l_liked [(dVar 0)])]))
    (dSeq (dSet 2 (dComp (dItems (dVarB 1)) [5] (bName 5) (fun _ => some true) (dCall f_l_before [(dVar 0), (dVar 5)])))
    (dSeq (dNewD 3)
    (dSeq (dSet 4 (dC (.bool true)))
    (dSeq (whileL (dVar 4) (dSeq (dSet 4 (dC (.bool false)))
    (dFor (dZip (dVar 1) (dVar 2)) (bTup (bCons (bName 5) (bCons (bName 6) bNil))) (dIfS (dAnd (dNot (dVar 4)) (dAnd (dInN true (dVarB 5) 3) (dCall bAll [(dComp (dItems (dVarB 6)) [7] (bName 7) (fun _ => some true) (dInN false (dVarB 7) 3))]))) (dSeq (dPutN 3 (dVar 5) (dC (.bool true)))
    (dSet 4 (dC (.bool true)))) (fun ρ => some (.next ρ))))) wFuel)
    (fun ρ => (dRet (dTup [(dCall bList [(dVarB 3)]), (dComp (dItems (dVarB 1)) [5] (bName 5) (dT (dInN true (dVarB 5) 3)) (dVar 5))])) (fzE ρ [3])))))))
def f_l_sorted : List D → Option D := runF 8 den_l_sorted
def den_graph_of : DenS :=
  (dSeq (dSet 2 (dCall f_all_turns [(d2 aIx (dVarB 0) (dC (.int 0)))]))
    (dSeq (dSet 3 (dCall f_first_stand [(dVar 0)]))
    (dSeq (dNewD 4)
    (dSeq (dSet 5 (dLst [(dVar 3)]))
    (dSeq (dOneD 6 (dVar 3) (dC (.bool true)))
    (dSeq (whileL (d2 (aCmp .NotEq) (dVarB 5) (dLst [])) (dSeq (dOwn 7 (dLst []))
    (dSeq (dFor (dItems (dVar 5)) (bName 8) (dSeq (dPutN 4 (dVar 8) (dCall f_all_made [(dVar 0), (dVar 8), (dVar 2)]))
    (dSeq (dFor (dItems (dGetN 4 (dVarB 8))) (bTup (bCons (bName 9) (bCons (bName 10) bNil))) (dIfS (dInN true (dVarB 10) 6) (dSeq (dPutN 6 (dVar 10) (dC (.bool true)))
    (dAppend 7 (dVar 10))) (fun ρ => some (.next ρ))))
    (dIfS (d2 (aCmp .Gt) (dLenN 6) (dVarB 1)) (fun _ => none) (fun ρ => some (.next ρ))))))
    (fun ρ => (dSet 5 (dVar 7)) (fzE ρ [7])))) wFuel)
    (fun ρ => (dRet (dVar 4)) (fzE ρ [4]))))))))
def f_graph_of : List D → Option D := runF 11 den_graph_of
def den_reached : DenS :=
  (dRetO (dCall bSorted [(dCall bList [(dCall f_graph_of [(dVar 0), (dVar 1)])])]))
def f_reached : List D → Option D := runO 2 den_reached
def den_l_graph : DenS :=
  (dSeq (dSet 1 (dCall f_l_turns [(d2 aIx (dVarB 0) (dC (.int 0)))]))
    (dSeq (dNewD 2)
    (dSeq (dOwn 3 (dLst [(dCall f_l_first [(dVar 0)])]))
    (dSeq (whileL (d2 (aCmp .NotEq) (dVarB 3) (dLst [])) (dSeq (dPop 3 (bName 4))
    (dIfS (dInN true (dVarB 4) 2) (dSeq (dPutN 2 (dVar 4) (dComp (dItems (dVarB 1)) [5] (bName 5) (fun _ => some true) (dTup [(dVar 5), (dCall f_l_made [(dVar 0), (dVar 4), (dVar 5)])])))
    (dExtend 3 (dComp (dItems (dGetN 2 (dVarB 4))) [5, 6] (bTup (bCons (bName 5) (bCons (bName 6) bNil))) (fun _ => some true) (dVar 6)))) (fun ρ => some (.next ρ)))) wFuel)
    (fun ρ => (dRet (dVar 2)) (fzE ρ [2]))))))
def f_l_graph : List D → Option D := runF 7 den_l_graph
def k_reached__most : List D → List D → Option D := fun ds es => f_reached (ds ++ es)
def den_rests : DenS :=
  (dRet (dComp (dItems (dCallK k_reached__most [(dVar 0)] [(dVar 1)])) [2] (bName 2) (dT (dCall f_is_steady [(dVar 0), (dVar 2)])) (dVar 2)))
def f_rests : List D → Option D := runF 3 den_rests
def den_placed : DenS :=
  (dSeq (dSet 1 (dCall f_forerunners [(dVar 0)]))
    (dSeq (dOwn 2 (dLst []))
    (dSeq (dOwnC 3 (dItems (dVarB 1)) [6] (bName 6) (fun _ => some true) (dVar 6) (dC (.bool true)))
    (dSeq (dSet 4 (dComp (dItemsN 3) [6] (bName 6) (dT (d2 (aCmp .Eq) (d2 aIx (dVarB 1) (dVarB 6)) (dLst []))) (dVar 6)))
    (dSeq (whileL (d2 (aCmp .NotEq) (dVarB 4) (dLst [])) (dSeq (dSet 5 (dCall bMin [(dVarB 4)]))
    (dSeq (dAppend 2 (dVar 5))
    (dSeq (dPopN 3 (dVar 5))
    (dSet 4 (dComp (dItemsN 3) [6] (bName 6) (dT (dNot (dCall bAny [(dComp (dItems (d2 aIx (dVarB 1) (dVarB 6))) [7] (bName 7) (fun _ => some true) (dInN false (dVarB 7) 3))]))) (dVar 6)))))) wFuel)
    (fun ρ => (dRet (dTup [(dVar 2), (dCall bList [(dVarB 3)])])) (fzE ρ [2, 3])))))))
def f_placed : List D → Option D := runF 8 den_placed
def den_first_order : DenS :=
  (dSeq (dUnp (bTup (bCons (bName 1) (bCons (bName 2) bNil))) (dCall f_placed [(dVar 0)]))
    (dSeq (dIfS (d2 (aCmp .NotEq) (dVarB 2) (dLst [])) (fun _ => none) (fun ρ => some (.next ρ)))
    (dRet (dVar 1))))
def f_first_order : List D → Option D := runF 3 den_first_order
def den_grown : DenS :=
  (dSeq (dOwn 1 (dCall bList [(dCall f_first_stand [(dVar 0)])]))
    (dSeq (dFor (dItems (dCall f_first_order [(dVar 0)])) (bName 2) (dSeq (dStar 1 (bCons (bName 3) (bCons (bName 4) bNil)) (dVar 2))
    (dIfS (dAnd (d2 (aCmp .Eq) (d2 aIx (dVarB 1) (dVarB 3)) (dTup [])) (d2 (aCmp .Eq) (d2 aIx (dVarB 1) (d2 aIx (dVarB 4) (dC (.int 0)))) (dCall bTuple [(dVarB 4)]))) (dSetIx 1 (dVarB 3) (dVar 2)) (fun ρ => some (.next ρ)))))
    (dRet (dCall bTuple [(dVarB 1)]))))
def f_grown : List D → Option D := runF 5 den_grown
def k_led__last : List D → List D → Option D := fun ds es => f_led (ds ++ es)
def den_l_rests : DenS :=
  (dSeq (dSet 3 (dCall f_l_turns [(d2 aIx (dVarB 0) (dC (.int 0)))]))
    (dSeq (dFor (dRg (dC (.int 0)) (dC (.int 40))) (bName 4) (dSeq (dSet 5 (d2 aIx (dVarB 2) (d2 aMod (dVarB 4) (dCall bLen [(dVarB 2)]))))
    (dSeq (dSet 1 (d2 aAdd (dVarB 1) (dLst [(d2 aIx (dVarB 3) (d2 aMod (dVarB 5) (dCall bLen [(dVarB 3)])))])))
    (dSet 1 (d2 aAdd (dVarB 1) (dComp (dRg (dC (.int 1)) (d2 aIx (dVarB 0) (dC (.int 0)))) [6] (bName 6) (fun _ => some true) (dTup [(dVar 6)])))))))
    (dRet (d2 (aCmp .Eq) (dCallK k_led__last [(dVar 0), (dCall f_first_stand [(dVar 0)]), (dVar 1)] [(dC (.bool true))]) (dCall f_grown [(dVar 0)])))))
def f_l_rests : List D → Option D := runF 7 den_l_rests
def den_finished : DenS :=
  (dSeq (dNewD 1)
    (dSeq (dOwn 2 (dLst []))
    (dSeq (dFor (dItems (dVar 0)) (bName 3) (dSeq (dSet 4 (dIf (dInN false (dVarB 3) 1) (dLst []) (dLst [(dTup [(dVar 3), (dC (.int 0))])])))
    (dSeq (dPutN 1 (dVar 3) (dC (.bool true)))
    (whileL (d2 (aCmp .NotEq) (dVarB 4) (dLst [])) (dSeq (dPop 4 (bTup (bCons (bName 5) (bCons (bName 6) bNil))))
    (dIfS (d2 (aCmp .Eq) (dVarB 6) (dCall bLen [(d2 aIx (dVarB 0) (dVarB 5))])) (dAppend 2 (dVar 5)) (dSeq (dAppend 4 (dTup [(dVar 5), (d2 aAdd (dVarB 6) (dC (.int 1)))]))
    (dSeq (dSet 7 (d2 aIx (d2 aIx (d2 aIx (dVarB 0) (dVarB 5)) (dVarB 6)) (dC (.int 1))))
    (dIfS (dInN true (dVarB 7) 1) (dSeq (dPutN 1 (dVar 7) (dC (.bool true)))
    (dAppend 4 (dTup [(dVar 7), (dC (.int 0))]))) (fun ρ => some (.next ρ))))))) wFuel))))
    (fun ρ => (dRet (dVar 2)) (fzE ρ [2])))))
def f_finished : List D → Option D := runF 8 den_finished
def den_counts_of : DenS :=
  (dSeq (dNewD 1)
    (dSeq (dFor (dItems (dCall f_finished [(dVar 0)])) (bName 2) (dSeq (dSet 3 (dComp (dItems (d2 aIx (dVarB 0) (dVarB 2))) [4, 5] (bTup (bCons (bName 4) (bCons (bName 5) bNil))) (dT (d2 (aCmp .NotEq) (dVarB 5) (dVarB 2))) (d2 aAdd (dCall f_unlike [(dVar 2), (dVar 5)]) (dGetN 1 (dVarB 5)))))
    (dPutN 1 (dVar 2) (d2 (aBestD PySem.W.maxD) (dVarB 3) (dC (.int 0))))))
    (fun ρ => (dRet (dVar 1)) (fzE ρ [1]))))
def f_counts_of : List D → Option D := runF 6 den_counts_of
def den_graph_in_order : DenS :=
  (dSeq (dDrop (dCall f_first_order [(dVar 0)]))
    (dRet (dCall f_graph_of [(dVar 0), (dVar 1)])))
def f_graph_in_order : List D → Option D := runF 2 den_graph_in_order
def den_tally : DenS :=
  (dSeq (dSet 2 (dCall f_counts_of [(dCall f_graph_in_order [(dVar 0), (dVar 1)])]))
    (dRetO (dCall bSorted [(dComp (dItems (dVarB 2)) [3] (bName 3) (fun _ => some true) (dTup [(dVar 3), (d2 aIx (dVarB 2) (dVarB 3))]))])))
def f_tally : List D → Option D := runO 4 den_tally
def den_most_changes : DenS :=
  (dRet (d2 aIx (dCall f_counts_of [(dCall f_graph_in_order [(dVar 0), (dVar 1)])]) (dCall f_first_stand [(dVar 0)])))
def f_most_changes : List D → Option D := runF 2 den_most_changes
def den_l_ordered : DenS :=
  (dSeq (dSet 1 (d2 aIx (dCall f_l_sorted [(dVar 0)]) (dC (.int 1))))
    (dSeq (whileL (d2 (aCmp .NotEq) (dVarB 1) (dLst [])) (dSeq (dSet 2 (d2 aIx (dVarB 1) (d2 aDiv (dCall bLen [(dVarB 1)]) (dC (.int 2)))))
    (dSeq (dSet 0 (dTup [(d2 aIx (dVarB 0) (dC (.int 0))), (d2 aIx (dVarB 0) (dC (.int 1))), (dCall bTuple [(dComp (dItems (d2 aIx (dVarB 0) (dC (.int 2)))) [3] (bName 3) (fun _ => some true) (dCall bTuple [(dComp (dItems (dVarB 3)) [4] (bName 4) (dT (d2 (aCmp .NotEq) (dVarB 4) (dVarB 2))) (dVar 4))]))])]))
    (dSet 1 (d2 aIx (dCall f_l_sorted [(dVar 0)]) (dC (.int 1)))))) wFuel)
    (dRet (dVar 0))))
def f_l_ordered : List D → Option D := runF 5 den_l_ordered
def den_l_unlike : DenS :=
  (dRet (dCall bLen [(dComp (dRg (dC (.int 0)) (dCall bLen [(dVarB 0)])) [2] (bName 2) (dT (d2 (aCmp .NotEq) (d2 aIx (dVarB 0) (dVarB 2)) (d2 aIx (dVarB 1) (dVarB 2)))) (dVar 2))]))
def f_l_unlike : List D → Option D := runF 3 den_l_unlike
def den_l_whole : DenS :=
  (dRet (dAnd (dIsi [.int] (dVarB 0)) (dNot (dIsi [.bool] (dVarB 0)))))
def f_l_whole : List D → Option D := runF 1 den_l_whole
def den_is_number : DenS :=
  (dRet (dAnd (dIsi [.int] (dVarB 0)) (dAnd (dNot (dIsi [.bool] (dVarB 0))) (dChain (aCmp .LtE) (aCmp .LtE) (dVarB 1) (dVarB 0) (dVarB 2)))))
def f_is_number : List D → Option D := runF 3 den_is_number
def den_is_pair : DenS :=
  (dSeq (dIfS (dOr (dNot (dIsi [.tuple] (dVarB 0))) (d2 (aCmp .NotEq) (dCall bLen [(dVarB 0)]) (dC (.int 2)))) (dRet (dC (.bool false))) (fun ρ => some (.next ρ)))
    (dRet (dAnd (dCall f_is_number [(d2 aIx (dVarB 0) (dC (.int 0))), (dC (.int 0)), (d2 aSub (dVarB 1) (dC (.int 1)))]) (dCall f_is_number [(d2 aIx (dVarB 0) (dC (.int 1))), (dC (.int 0)), (d2 aSub (dVarB 1) (dC (.int 1)))]))))
def f_is_pair : List D → Option D := runF 2 den_is_pair
def den_is_rising : DenS :=
  (dRet (dCall bAll [(dComp (dZip (dVarB 0) (dCut (dVarB 0) (some (dC (.int 1))) none)) [1, 2] (bTup (bCons (bName 1) (bCons (bName 2) bNil))) (fun _ => some true) (d2 (aCmp .Lt) (dVarB 1) (dVarB 2)))]))
def f_is_rising : List D → Option D := runF 3 den_is_rising
def den_is_net_row : DenS :=
  (dSeq (dIfS (dOr (dNot (dIsi [.tuple] (dVarB 0))) (d2 (aCmp .NotEq) (dCall bLen [(dVarB 0)]) (dC (.int 4)))) (dRet (dC (.bool false))) (fun ρ => some (.next ρ)))
    (dSeq (dStar 2 (bCons (bName 2) (bCons (bName 3) (bCons (bName 4) bNil))) (dVar 0))
    (dRet (dAnd (dCall f_is_pair [(dTup [(dVar 2), (dVar 3)]), (dVar 1)]) (dAnd (d2 (aCmp .Lt) (dVarB 2) (dVarB 3)) (dCall bAll [(dComp (dItems (dVarB 4)) [5] (bName 5) (fun _ => some true) (dCall f_is_number [(dVar 5), (dC (.int 1)), (dC (.int 99))]))]))))))
def f_is_net_row : List D → Option D := runF 6 den_is_net_row
def den_is_net : DenS :=
  (dSeq (dIfS (dOr (dNot (dIsi [.tuple] (dVarB 0))) (d2 (aCmp .NotEq) (dCall bLen [(dVarB 0)]) (dC (.int 2)))) (dRet (dC (.bool false))) (fun ρ => some (.next ρ)))
    (dSeq (dUnp (bTup (bCons (bName 1) (bCons (bName 2) bNil))) (dVar 0))
    (dSeq (dIfS (dOr (dNot (dCall f_is_number [(dVar 1), (dC (.int 2)), (dC (.int 7))])) (dNot (dIsi [.tuple] (dVarB 2)))) (dRet (dC (.bool false))) (fun ρ => some (.next ρ)))
    (dRet (dAnd (dCall bAll [(dComp (dItems (dVarB 2)) [3] (bName 3) (fun _ => some true) (dCall f_is_net_row [(dVar 3), (dVar 1)]))]) (dCall f_is_rising [(dComp (dItems (dVarB 2)) [3] (bName 3) (fun _ => some true) (dCut (dVarB 3) none (some (dC (.int 2)))))]))))))
def f_is_net : List D → Option D := runF 4 den_is_net
def den_l_is_row : DenS :=
  (dSeq (dIfS (dOr (dNot (dIsi [.tuple] (dVarB 0))) (d2 (aCmp .NotEq) (dCall bLen [(dVarB 0)]) (dC (.int 4)))) (dRet (dC (.bool false))) (fun ρ => some (.next ρ)))
    (dSeq (dIfS (dOr (dNot (dCall f_l_number [(d2 aIx (dVarB 0) (dC (.int 0))), (dC (.int 0)), (d2 aSub (dVarB 1) (dC (.int 1)))])) (dOr (dNot (dCall f_l_number [(d2 aIx (dVarB 0) (dC (.int 1))), (dC (.int 0)), (d2 aSub (dVarB 1) (dC (.int 1)))])) (d2 (aCmp .GtE) (d2 aIx (dVarB 0) (dC (.int 0))) (d2 aIx (dVarB 0) (dC (.int 1)))))) (dRet (dC (.bool false))) (fun ρ => some (.next ρ)))
    (dRet (dAnd (dCall f_l_number [(d2 aIx (dVarB 0) (dC (.int 2))), (dC (.int 1)), (dC (.int 99))]) (dCall f_l_number [(d2 aIx (dVarB 0) (dC (.int 3))), (dC (.int 1)), (dC (.int 99))])))))
def f_l_is_row : List D → Option D := runF 2 den_l_is_row
def den_l_is_net : DenS :=
  (dSeq (dIfS (dOr (dNot (dIsi [.tuple] (dVarB 0))) (dOr (d2 (aCmp .NotEq) (dCall bLen [(dVarB 0)]) (dC (.int 2))) (dNot (dCall f_l_number [(d2 aIx (dVarB 0) (dC (.int 0))), (dC (.int 2)), (dC (.int 7))])))) (dRet (dC (.bool false))) (fun ρ => some (.next ρ)))
    (dSeq (dIfS (dOr (dNot (dIsi [.tuple] (d2 aIx (dVarB 0) (dC (.int 1))))) (dNot (dCall bAll [(dComp (dItems (d2 aIx (dVarB 0) (dC (.int 1)))) [2] (bName 2) (fun _ => some true) (dCall f_l_is_row [(dVar 2), (d2 aIx (dVarB 0) (dC (.int 0)))]))]))) (dRet (dC (.bool false))) (fun ρ => some (.next ρ)))
    (dSeq (dSet 1 (dComp (dItems (d2 aIx (dVarB 0) (dC (.int 1)))) [2] (bName 2) (fun _ => some true) (dCut (dVarB 2) none (some (dC (.int 2))))))
    (dRet (d2 (aCmp .Eq) (d1 aSrtSet (dVarB 1)) (dVarB 1))))))
def f_l_is_net : List D → Option D := runF 3 den_l_is_net
end LW
namespace LW
open PySem PySem.Spec PyProof.Rows L2 PF
theorem cell_ok (ns : List Int) (k : Nat) (hk : k < 1000000) : W (f_l_cell [scrD ns, .int k]) fun d => ∃ c : Int, d = .int c := by
  refine W_run ?_
  simp only [den_l_cell, ex_all]
  simp only [↓ev_all]
  refine ⟨fun h => ?_, fun h => ⟨fun h2 => ⟨by omega, _, rfl⟩, fun h2 => ?_⟩⟩
  · refine W_ints (by omega) h fun v _ => ⟨_, rfl⟩
  · refine ⟨by omega, ?_⟩
    have h3 := Int.emod_lt_of_pos (k : Int) (show (0 : Int) < ns.length by omega)
    have h4 := Int.emod_nonneg (k : Int) (show (ns.length : Int) ≠ 0 by omega)
    refine W_ints h4 h3 fun v _ => ?_
    simp only [↓ev_all]
    exact ⟨by omega, by omega, _, rfl⟩
/-- what draws gives: ints below base -/
def iD (xs : List Int) : List D := xs.map PyData.int
theorem iD_len (xs : List Int) : (iD xs).length = xs.length := List.length_map ..
theorem iD_app (xs : List Int) (i : Int) : iD xs ++ [.int i] = iD (xs ++ [i]) := by unfold iD; simp
def Drawn (m : Nat) (xs : List Int) : Prop := xs.length = m ∧ ∀ x ∈ xs, 0 ≤ x
def prms : List Int := [2147483647, 2147483629, 2147483587, 2147483579, 2147483563, 2147483549, 2147483543, 2147483497]
theorem prm_at (i : Int) : W (atI (iD prms) (i % 8)) fun d => ∃ p : Int, d = .int p ∧ 0 < p ∧ p < 2147483648 := by
  have h3 := Int.emod_lt_of_pos i (show (0 : Int) < 8 by omega)
  have h4 := Int.emod_nonneg i (show (8 : Int) ≠ 0 by omega)
  refine W_ints h4 h3 fun v hv => ⟨v, rfl, ?_⟩
  have : v ∈ prms := List.mem_of_getElem? hv
  simp only [prms, List.mem_cons, List.not_mem_nil, or_false] at this
  omega
theorem mod_b (a b : Int) (h : 0 < b) : 0 ≤ a % b ∧ a % b < b := ⟨Int.emod_nonneg a (by omega), Int.emod_lt_of_pos a h⟩
theorem draws_ok (ns : List Int) (k many : Nat) (base : Int) (hk : k < 1000) (hm : many ≤ 1000) (hb : 0 < base) (hb2 : base < 1000000) :
    W (f_l_draws [scrD ns, .int k, .int many, .int base]) fun d => ∃ xs, d = .list (iD xs) ∧ Drawn many xs := by
  refine W_run ?_
  simp only [den_l_draws, ex_all]
  simp only [↓ev_all]
  refine (cell_ok ns k (by omega)).mono fun d ⟨c, hc⟩ => ?_
  subst hc
  simp only [↓ev_all]
  have key : ∀ rest : Int, rgOk 0 (many : Int) = true ∧
      W (forL (bName 8) (dSeq (dSet 9 (d2 aMul (d2 aMod (dVarB 5) (d2 aIx (dVarB 4) (d2 aMod (dVarB 8) (dC (.int 8))))) (d2 aAdd (dC (.int 48271)) (d2 aMul (d2 aMul (dC (.int 2)) (dVarB 8)) (dVarB 8)))))
    (dSeq (dSet 9 (d2 aAdd (d2 aAdd (dVarB 9) (d2 aMul (d2 aMul (dC (.int 7919)) (d2 aAdd (dVarB 8) (dC (.int 1)))) (d2 aAdd (dVarB 8) (dC (.int 1))))) (d2 aMul (dC (.int 104729)) (dVarB 1))))
    (dSeq (dSet 9 (d2 aMod (dVarB 9) (d2 aIx (dVarB 4) (d2 aMod (d2 aAdd (d2 aMul (dC (.int 3)) (dVarB 8)) (dVarB 1)) (dC (.int 8))))))
    (dSeq (dSet 9 (d2 aMod (d2 aMul (d2 aMul (dVarB 9) (dVarB 9)) (dVarB 9)) (d2 aIx (dVarB 4) (d2 aMod (d2 aAdd (dVarB 8) (dC (.int 5))) (dC (.int 8))))))
    (dSeq (dIfS (d2 (aCmp .Gt) (dVarB 6) (dC (.int 0))) (dSet 9 (dVar 6)) (fun ρ => some (.next ρ)))
    (dSeq (dAppend 7 (d2 aMod (dVarB 9) (dVarB 3)))
    (dSet 6 (d2 aDiv (dVarB 6) (dVarB 3))))))))) (rgD 0 many) [some (.val (scrD ns)), some (.val (.int k)), some (.val (.int many)), some (.val (.int base)), some (.val (.tuple (iD prms))), some (.val (.int c)), some (.val (.int rest)), some (.own []), none, none])
        (Kn (fun ρ => (dRet (dVar 7)) (fzE ρ [7])) (Rt fun d => ∃ xs, d = .list (iD xs) ∧ Drawn many xs)) := fun rest => by
    refine ⟨rg_ok (by omega) (by omega) (by omega) (by omega), ?_⟩
    refine W_forR (fun i ρ => ∃ (r : Int) (xs : List Int) (u v : Option SV), Drawn i xs ∧ ρ = [some (.val (scrD ns)), some (.val (.int k)), some (.val (.int many)), some (.val (.int base)), some (.val (.tuple (iD prms))), some (.val (.int c)), some (.val (.int r)), some (.own (iD xs)), u, v]) ⟨rest, [], none, none, ⟨rfl, fun x h => by cases h⟩, rfl⟩ (fun ρ ⟨r, xs, u, v, hx, hρ⟩ => ?_) (fun i ρ hi ⟨r, xs, u, v, hx, hρ⟩ => ?_)
    · subst hρ
      simp only [↓Kn_n, ex_all]
      simp only [↓ev_all]
      refine ⟨xs, rfl, ?_⟩
      have : ((many : Int) - 0).toNat = many := by omega
      rw [this] at hx
      exact hx
    · subst hρ
      simp only [↓ev_all]
      refine ⟨by omega, (prm_at _).mono fun d ⟨p, hp, p1, p2⟩ => ?_⟩
      subst hp
      simp only [↓ev_all]
      have b1 := mod_b c p p1
      refine ⟨p1, by omega, by omega, ?_⟩
      refine ⟨by omega, by omega, by omega, by omega, by omega, by omega, (prm_at _).mono fun d ⟨q, hq, q1, q2⟩ => ?_⟩
      subst hq
      simp only [↓ev_all]
      have b2 := mod_b (c % p * (48271 + 2 * (0 + ↑i) * (0 + ↑i)) + 7919 * (0 + ↑i + 1) * (0 + ↑i + 1) + 104729 * ↑k) q q1
      refine ⟨q1, by omega, by omega, by omega, (prm_at _).mono fun d ⟨q', hq', q1', q2'⟩ => ?_⟩
      subst hq'
      simp only [↓ev_all]
      refine ⟨q1', fun h => ?_, fun h => ?_⟩
      · refine ⟨hb, ?_, ⟨hb, by omega⟩, _, _, _, _, ?_, by rw [iD_app]⟩
        · rw [iD_len, hx.1]; show _ < 16777216; omega
        · refine ⟨by simp [hx.1], fun x hx' => ?_⟩
          rw [List.mem_append] at hx'
          rcases hx' with h | h
          · exact hx.2 x h
          · cases h with
            | head => exact (mod_b _ _ hb).1
            | tail _ h => cases h
      · refine ⟨hb, ?_, ⟨hb, by omega⟩, _, _, _, _, ?_, by rw [iD_app]⟩
        · rw [iD_len, hx.1]; show _ < 16777216; omega
        · refine ⟨by simp [hx.1], fun x hx' => ?_⟩
          rw [List.mem_append] at hx'
          rcases hx' with h | h
          · exact hx.2 x h
          · cases h with
            | head => exact (mod_b _ _ hb).1
            | tail _ h => cases h
  exact ⟨by decide, fun _ => key c, fun _ => key 0⟩
end LW
namespace PF
open PySem PySem.Spec PyProof.Rows L2
/-- a comprehension with a test: each item that is kept is as R says -/
theorem W_comp_if {b : D → Env → Option Env} {c : Env → Option Bool} {e : Den} {ρ0 : Env} {R : D → Prop} {P : List D → Prop} (xs : List D) (h : ∀ x ∈ xs, W (b x ρ0) fun ρ1 => W (c ρ1) fun k => k = true → W (e ρ1) R) (k : ∀ ys : List D, ys.length ≤ xs.length → (∀ y ∈ ys, R y) → P ys) : W (compL b c e ρ0 xs) P := by
  have : ∃ ys, compL b c e ρ0 xs = some ys ∧ ys.length ≤ xs.length ∧ ∀ y ∈ ys, R y := by
    clear k
    induction xs with
    | nil => exact ⟨[], rfl, Nat.le_refl _, fun y hy => by cases hy⟩
    | cons x xs ih =>
      obtain ⟨ys, h1, h2, h3⟩ := ih fun y hy => h y (List.mem_cons_of_mem _ hy)
      obtain ⟨ρ1, e1, k, e2, hk⟩ := h x (List.mem_cons_self ..)
      unfold compL
      rw [e1, Option.bind_some, e2, Option.bind_some]
      cases k with
      | false => rw [if_neg (by decide)]; exact ⟨ys, h1, by simp; omega, h3⟩
      | true =>
        obtain ⟨d, e3, hd⟩ := hk rfl
        rw [if_pos rfl, e3, h1]
        refine ⟨d :: ys, rfl, by simp; omega, fun y hy => ?_⟩
        cases hy with
        | head => exact hd
        | tail _ hy => exact h3 y hy
  obtain ⟨ys, h1, h2, h3⟩ := this
  exact ⟨ys, h1, k ys h2 h3⟩
end PF
namespace LW
open PySem PySem.Spec PyProof.Rows L2 PF
def nD (w : List Nat) : List D := w.map fun n => PyData.int (n : Nat)
def wD (w : List Nat) : D := .tuple (nD w)
def rD (r : Nat × Nat) : D := .tuple [.int (r.1 : Nat), .int (r.2 : Nat)]
def rsD (rs : List (Nat × Nat)) : D := .tuple (rs.map rD)
theorem nD_app (w : List Nat) (n : Nat) : nD w ++ [.int n] = nD (w ++ [n]) := by unfold nD; simp
theorem nD_len (w : List Nat) : (nD w).length = w.length := List.length_map ..
theorem nD_pl {w : List Nat} {d : D} (h : d ∈ nD w) (n : Nat) : pl d n = true := by
  obtain ⟨m, _, rfl⟩ := List.mem_map.mp h
  exact pl_int _ _
theorem nD_mem {w : List Nat} {n : Nat} : PyData.int n ∈ nD w ↔ n ∈ w := by
  unfold nD
  rw [List.mem_map]
  constructor
  · rintro ⟨m, h, e⟩
    injection e with e
    have : m = n := by omega
    exact this ▸ h
  · exact fun h => ⟨n, h, rfl⟩
theorem nD_inj {v w : List Nat} (h : nD v = nD w) : v = w := by
  unfold nD at h
  refine (List.map_inj_right fun a b e => ?_).mp h
  injection e with e
  omega
theorem wD_inj {v w : List Nat} (h : wD v = wD w) : v = w := by
  injection h with h
  exact nD_inj h
theorem wD_pl (w : List Nat) (n : Nat) : pl (wD w) (n + 1) = true := pl_tup fun d h => nD_pl h n
theorem rD_pl (r : Nat × Nat) (n : Nat) : pl (rD r) (n + 1) = true := pl_tup fun d h => by
  cases h with
  | head => exact pl_int _ _
  | tail _ h => cases h with
    | head => exact pl_int _ _
    | tail _ h => cases h
theorem rD_inj {r s : Nat × Nat} (h : rD r = rD s) : r = s := by
  unfold rD at h
  injection h with h
  simp only [List.cons.injEq, PyData.int.injEq, and_true] at h
  exact Prod.ext (by omega) (by omega)
theorem rsD_mem {rs : List (Nat × Nat)} {r : Nat × Nat} : rD r ∈ rs.map rD ↔ r ∈ rs := by
  rw [List.mem_map]
  exact ⟨fun ⟨s, h, e⟩ => rD_inj e ▸ h, fun h => ⟨r, h, rfl⟩⟩
theorem rsD_pl {rs : List (Nat × Nat)} {d : D} (h : d ∈ rs.map rD) (n : Nat) : pl d (n + 1) = true := by
  obtain ⟨r, _, rfl⟩ := List.mem_map.mp h
  exact rD_pl r n
/-- each step of the way is a road -/
def Lnk (rs : List (Nat × Nat)) (w : List Nat) : Prop := ∀ (i : Nat) a b, w[i]? = some a → w[i + 1]? = some b → (min a b, max a b) ∈ rs
structure WayOk (many : Nat) (rs : List (Nat × Nat)) (h : Nat) (w : List Nat) : Prop where
  hd : w[0]? = some h
  last : ∃ v, w = v ++ [0]
  nd : w.Nodup
  lt : ∀ x ∈ w, x < many
  lnk : Lnk rs w
theorem Lnk.add {rs : List (Nat × Nat)} {w : List Nat} {l n : Nat} (h : Lnk rs (w ++ [l])) (hn : (min l n, max l n) ∈ rs) : Lnk rs ((w ++ [l]) ++ [n]) := fun i a b ha hb => by
  by_cases hi : i + 1 < (w ++ [l]).length
  · rw [List.getElem?_append_left (by omega)] at ha
    rw [List.getElem?_append_left hi] at hb
    exact h i a b ha hb
  · have hlt : i + 1 < ((w ++ [l]) ++ [n]).length := (List.getElem?_eq_some_iff.mp hb).1
    simp only [List.length_append, List.length_cons, List.length_nil] at hi hlt
    have e : i = w.length := by omega
    subst e
    rw [List.getElem?_append_left (by simp), List.getElem?_append_right (by omega)] at ha
    rw [List.getElem?_append_right (by simp)] at hb
    simp at ha hb
    subst ha hb
    exact hn
theorem walk_ok (many h : Nat) (rs : List (Nat × Nat)) (xs : List Int) (hm : many ≤ 100) (h1 : h < many) (hx : ∀ x ∈ xs, 0 ≤ x) :
    W (f_l_walk [.int many, rsD rs, .int h, .list (iD xs)]) fun d => d = .none ∨ ∃ w, d = wD w ∧ WayOk many rs h w := by
  refine W_run ?_
  simp only [den_l_walk, ex_all]
  try simp only [↓ev_all]
  refine W_forL (fun r ρ => ∃ (w : List Nat) (l : Nat) (u v t : Option SV), (∀ d ∈ r, ∃ x : Int, d = .int x ∧ 0 ≤ x) ∧ (w ++ [l])[0]? = some h ∧ (w ++ [l]).Nodup ∧ (∀ x ∈ w ++ [l], x < many) ∧ Lnk rs (w ++ [l]) ∧
    ρ = [some (.val (.int many)), some (.val (rsD rs)), some (.val (.int h)), some (.val (.list (iD xs))), some (.own (nD (w ++ [l]))), u, v, t]) ?a ?b _ _ ?c
  case c =>
    refine ⟨[], h, none, none, none, fun d hd => ?_, rfl, by simp, fun x hx => ?_, fun i a b ha hb => ?_, rfl⟩
    · have := cut_mem hd
      unfold iD at this
      obtain ⟨x, h2, rfl⟩ := List.mem_map.mp this
      exact ⟨x, rfl, hx x h2⟩
    · simp at hx; omega
    · simp at hb
  case a =>
    rintro ρ ⟨w, l, u, v, t, -, w1, w2, w3, w4, rfl⟩
    try simp only [↓ev_all]
    refine W.of (by rw [← nD_app]; exact atI_last _ _) ?_
    try simp only [↓ev_all]
    refine ⟨fun hl => ?_, fun _ => by simp⟩
    refine .inr ⟨w ++ [l], rfl, w1, ⟨w, ?_⟩, w2, w3, w4⟩
    have : l = 0 := by omega
    rw [this]
  case b =>
    rintro x r ρ ⟨w, l, u, v, t, hr, w1, w2, w3, w4, rfl⟩
    obtain ⟨x, rfl, hx0⟩ := hr x (List.mem_cons_self ..)
    have hl : atI (nD (w ++ [l])) (-1) = some (.int (l : Nat)) := by rw [← nD_app]; exact atI_last _ _
    try simp only [↓ev_all]
    refine ⟨rg_ok (by omega) (by omega) (by omega) (by omega), ?_⟩
    refine W_comp_if (R := fun d => ∃ n : Nat, d = .int n ∧ n < many ∧ n ∉ w ++ [l]) _ (fun y hy => ?_) fun ys hys hR => ?_
    · obtain ⟨n, rfl, hn⟩ := rg_mem hy
      simp only [wipeE, List.set_cons_succ, List.set_cons_zero]
      try simp only [↓ev_all]
      rw [W_niLP 0 0 (by omega) (by omega) (pl_int _ _) fun d hd => nD_pl hd 0]
      try simp only [↓ev_all]
      intro hk
      refine ⟨n, by simp, by omega, fun hmem => ?_⟩
      simp only [decide_eq_true_eq] at hk
      apply hk
      have e : (0 : Int) + n = (n : Nat) := by omega
      rw [e]
      exact nD_mem.mpr hmem
    · refine W_comp_if (R := fun d => ∃ n : Nat, d = .int n ∧ n < many ∧ n ∉ w ++ [l] ∧ (min l n, max l n) ∈ rs) _ (fun y hy => ?_) fun zs hzs hR2 => ?_
      · obtain ⟨n, rfl, hn, hnw⟩ := hR y hy
        simp only [wipeE, List.set_cons_succ, List.set_cons_zero]
        try simp only [↓ev_all]
        refine W.of hl ?_
        try simp only [↓ev_all]
        refine W.of hl ?_
        try simp only [↓ev_all]
        have e : PyData.tuple [.int (min (l : Int) n), .int (max (l : Int) n)] = rD (min l n, max l n) := by
          unfold rD
          congr 3
          · congr 1; omega
          · congr 2; omega
        rw [e]
        unfold rsD
        rw [W_inTP 1 1 (by omega) (by omega) (rD_pl _ 0) fun d hd => rsD_pl hd 0]
        try simp only [↓ev_all]
        intro hk
        simp only [decide_eq_true_eq] at hk
        exact ⟨n, rfl, hn, hnw, rsD_mem.mp hk⟩
      · try simp only [↓ev_all]
        refine W.of hl ?_
        try simp only [↓ev_all]
        refine ⟨fun hl0 => ?_, fun hl0 => ?_⟩
        · rw [W_neP 1 1 (by omega) (by omega) (pl_lst fun d hd => ?_) (pl_lst fun d hd => by cases hd)]
          · try simp only [↓ev_all]
            refine ⟨fun hne => ?_, fun hne => ?_⟩
            · have hlen : 0 < zs.length := by
                cases zs with
                | nil => exact (hne rfl).elim
                | cons z zs => simp
              refine ⟨by omega, ?_⟩
              have b := mod_b x zs.length (by omega)
              refine W_at b.1 b.2 fun y hy => ?_
              obtain ⟨n, rfl, hn, hnw, hrd⟩ := hR2 y (List.mem_of_getElem? hy)
              have hlw : (w ++ [l]).length ≤ many := by
                have := List.Nodup.length_le_of_subset (l₁ := w ++ [l]) (l₂ := List.range many) w2 fun a ha => List.mem_range.mpr (w3 a ha)
                simpa using this
              refine ⟨by rw [nD_len]; show _ < 16777216; omega, w ++ [l], n, _, _, _, fun d hd => hr d (List.mem_cons_of_mem _ hd), ?_, ?_, ?_, w4.add hrd, by rw [nD_app]⟩
              · rw [List.getElem?_append_left (by simp)]; exact w1
              · rw [List.nodup_append]
                refine ⟨w2, by simp, fun a ha b hb => ?_⟩
                rw [List.mem_singleton] at hb
                intro e
                exact hnw (hb ▸ e ▸ ha)
              · intro a ha
                rw [List.mem_append, List.mem_singleton] at ha
                rcases ha with ha | ha
                · exact w3 a ha
                · omega
            · exact ⟨w, l, _, _, _, fun d hd => hr d (List.mem_cons_of_mem _ hd), w1, w2, w3, w4, rfl⟩
          · obtain ⟨n, rfl, _⟩ := hR2 d hd
            exact pl_int _ _
        · exact ⟨w, l, _, _, _, fun d hd => hr d (List.mem_cons_of_mem _ hd), w1, w2, w3, w4, rfl⟩
end LW
namespace PF
open PySem PySem.Spec PyProof.Rows L2
/-- a comprehension with a test over typed items: a sublist of them -/
theorem W_comp_sub {α : Type} {b : D → Env → Option Env} {c : Env → Option Bool} {e : Den} {ρ0 : Env} {P : List D → Prop} (as : List α) (to to2 : α → D) (K : α → Bool → Prop) (h : ∀ a ∈ as, W (b (to a) ρ0) fun ρ1 => W (c ρ1) fun k => K a k ∧ (k = true → e ρ1 = some (to2 a)))
    (k : ∀ bs : List α, bs.Sublist as → ((∀ a ∈ as, ∀ k, K a k → k = true) → bs = as) → (∀ a ∈ bs, K a true) → P (bs.map to2)) : W (compL b c e ρ0 (as.map to)) P := by
  have : ∃ bs : List α, compL b c e ρ0 (as.map to) = some (bs.map to2) ∧ bs.Sublist as ∧ ((∀ a ∈ as, ∀ k, K a k → k = true) → bs = as) ∧ ∀ a ∈ bs, K a true := by
    clear k
    induction as with
    | nil => exact ⟨[], rfl, List.Sublist.slnil, fun _ => rfl, fun a ha => by cases ha⟩
    | cons x xs ih =>
      obtain ⟨bs, h1, h2, h3, h5⟩ := ih fun y hy => h y (List.mem_cons_of_mem _ hy)
      obtain ⟨ρ1, e1, k, e2, hK, hk⟩ := h x (List.mem_cons_self ..)
      rw [List.map_cons]
      unfold compL
      rw [e1, Option.bind_some, e2, Option.bind_some]
      cases k with
      | false =>
        rw [if_neg (by decide)]
        exact ⟨bs, h1, h2.cons _, fun H => absurd (H x (List.mem_cons_self ..) false hK) (by decide), h5⟩
      | true =>
        rw [if_pos rfl, hk rfl, h1]
        refine ⟨x :: bs, rfl, h2.cons_cons _, fun H => by rw [h3 fun a ha => H a (List.mem_cons_of_mem _ ha)], fun a ha => ?_⟩
        cases ha with
        | head => exact hK
        | tail _ ha => exact h5 a ha
  obtain ⟨bs, h1, h2, h3, h4⟩ := this
  exact ⟨_, h1, k bs h2 h3 h4⟩
theorem enumD_eq : ∀ (xs : List D) (n : Nat), enumD n xs = (xs.zipIdx n).map fun p => PyData.tuple [.int (p.2 : Nat), p.1]
  | [], n => rfl
  | x :: xs, n => by rw [enumD, List.zipIdx_cons, List.map_cons, enumD_eq xs (n + 1)]
theorem W_at3 {a b c : D} {i : Int} {Q : D → Prop} (h0 : 0 ≤ i) (h1 : i < 3) (ha : i = 0 → Q a) (hb : i = 1 → Q b) (hc : i = 2 → Q c) : W (atI [a, b, c] i) Q := by
  have : i = 0 ∨ i = 1 ∨ i = 2 := by omega
  rcases this with rfl | rfl | rfl
  · rw [W_at0]; exact ha rfl
  · rw [W_at1]; exact hb rfl
  · rw [W_at2]; exact hc rfl
theorem W_at2' {a b : D} {i : Int} {Q : D → Prop} (h0 : 0 ≤ i) (h1 : i < 2) (ha : i = 0 → Q a) (hb : i = 1 → Q b) : W (atI [a, b] i) Q := by
  have : i = 0 ∨ i = 1 := by omega
  rcases this with rfl | rfl
  · rw [W_at0]; exact ha rfl
  · rw [W_at1]; exact hb rfl
theorem W_call1 {f : List D → Option D} {ds es : List D} {P : D → Prop} (h : W (f ds) P) (e : ds = es) : W (f es) P := e ▸ h
end PF
namespace LW
open PySem PySem.Spec PyProof.Rows L2 PF
theorem iD_cut (xs : List Int) (l h : Option Int) : ∃ ys, PF.cutD (iD xs) l h = iD ys ∧ (∀ y ∈ ys, y ∈ xs) := by
  unfold PF.cutD iD
  rw [← List.map_drop, ← List.map_take]
  exact ⟨_, rfl, fun y hy => List.mem_of_mem_drop (List.mem_of_mem_take hy)⟩
theorem draws_int (ns : List Int) {k m base : Int} (hk : 0 ≤ k) (hk2 : k < 1000) (hm : 0 ≤ m) (hm2 : m ≤ 1000) (hb : 0 < base) (hb2 : base < 1000000) :
    W (f_l_draws [scrD ns, .int k, .int m, .int base]) fun d => ∃ xs : List Int, d = .list (iD xs) ∧ (xs.length : Int) = m ∧ ∀ x ∈ xs, 0 ≤ x := by
  obtain ⟨k', rfl⟩ := Int.eq_ofNat_of_zero_le hk
  obtain ⟨m', rfl⟩ := Int.eq_ofNat_of_zero_le hm
  exact (draws_ok ns k' m' base (by omega) (by omega) hb hb2).mono fun d ⟨xs, h1, h2, h3⟩ => ⟨xs, h1, by omega, h3⟩
/-- one drawn number -/
theorem W_draw {xs : List Int} {i : Int} {Q : D → Prop} (hx : ∀ x ∈ xs, 0 ≤ x) (h0 : 0 ≤ i) (h1 : i < xs.length) (h : ∀ v : Int, 0 ≤ v → Q (.int v)) : W (atI (iD xs) i) Q :=
  W_ints h0 h1 fun v hv => h v (hx v (List.mem_of_getElem? hv))
def prsTo (many i : Nat) : List (Nat × Nat) := (List.range i).flatMap fun a => (List.range (many - (a + 1))).map fun b => (a, a + 1 + b)
def prs (many : Nat) : List (Nat × Nat) := prsTo many many
theorem prs_mem (many a b : Nat) : (a, b) ∈ prs many ↔ a < b ∧ b < many := by
  unfold prs prsTo
  simp only [List.mem_flatMap, List.mem_range, List.mem_map, Prod.mk.injEq]
  constructor
  · rintro ⟨c, h1, d, h2, rfl, rfl⟩; omega
  · rintro ⟨h1, h2⟩; exact ⟨a, by omega, b - (a + 1), by omega, rfl, by omega⟩
theorem prs_len {many i : Nat} (h : many ≤ 7) (hi : i ≤ many) : (prsTo many i).length ≤ 21 := by
  have : ∀ m < 8, ∀ i < 8, i ≤ m → (prsTo m i).length ≤ 21 := by decide
  exact this many (by omega) i (by omega) hi
theorem roads_ok (many : Nat) (xs : List Int) (share : Int) (hm : many ≤ 7) (hs : 0 < share) (hs2 : share < 100) (hx : ∀ x ∈ xs, 0 ≤ x) (hl : 21 ≤ xs.length) :
    W (f_l_roads [.int many, .list (iD xs), .int share]) fun d => ∃ rs, d = rsD rs ∧ rs.Sublist (prs many) ∧ (share = 6 → rs = prs many) := by
  refine W_run ?_
  simp only [den_l_roads, ex_all]
  simp only [↓ev_all]
  refine ⟨rg_ok (by omega) (by omega) (by omega) (by omega), ?_⟩
  refine W_forR (fun i ρ => ∃ (u v s t : Option SV), ρ = [some (.val (.int many)), some (.val (.list (iD xs))), some (.val (.int share)), some (.val (.list ((prsTo many i).map rD))), u, v, s, t]) ⟨none, none, none, none, rfl⟩ ?a ?b
  case b =>
    rintro i ρ hi ⟨u, v, s, t, rfl⟩
    simp only [↓ev_all]
    refine ⟨rg_ok (by omega) (by omega) (by omega) (by omega), ?_⟩
    have e := comp_map (b := bName 5) (e := dTup [dVar 4, dVar 5]) (ρ0 := wipeE [some (.val (.int many)), some (.val (.list (iD xs))), some (.val (.int share)), some (.val (.list ((prsTo many i).map rD))), some (.val (.int (0 + i))), v, s, t] [5]) (fun d => .tuple [.int (0 + (i : Nat)), d]) (rgD (0 + i + 1) many) fun x hx => by
      simp only [wipeE, List.set_cons_succ, List.set_cons_zero]
      simp only [↓ev_all]
      rfl
    refine W.of e ?_
    have e2 : (rgD (0 + (i : Int) + 1) many).map (fun d => PyData.tuple [.int (0 + (i : Nat)), d]) = ((List.range (many - (i + 1))).map fun b => (i, i + 1 + b)).map rD := by
      unfold rgD rgI rD
      rw [List.map_map, List.map_map, List.map_map]
      have : ((many : Int) - (0 + (i : Int) + 1)).toNat = many - (i + 1) := by omega
      rw [this]
      refine List.map_congr_left fun b _ => ?_
      simp only [Function.comp]
      congr 3
      · congr 1; omega
      · congr 2; simp
    rw [e2]
    refine ⟨?_, some (.val (.int (0 + i))), v, s, t, ?_⟩
    · have h1 := prs_len (many := many) (i := i) hm (by omega)
      simp only [List.length_map, List.length_range]
      show _ ≤ 16777216
      omega
    · rw [← List.map_append]
      congr 6
      unfold prsTo
      rw [List.range_succ, List.flatMap_append]
      simp
  case a =>
    rintro ρ ⟨u, v, s, t, rfl⟩
    have e0 : ((many : Int) - 0).toNat = many := by omega
    rw [e0]
    simp only [↓ev_all]
    rw [enumD_eq, List.zipIdx_map, List.map_map]
    refine W_comp_sub (to2 := fun p => rD p.1) (K := fun p k => share = 6 → k = true) _ _ ?_ fun bs h1 h2 _ => ?_
    · rintro ⟨r, j⟩ hp
      have hj : j < (prsTo many many).length := by
        have := List.snd_lt_of_mem_zipIdx hp
        simpa using this
      have := prs_len (many := many) (i := many) hm (by omega)
      simp only [wipeE, List.set_cons_succ, List.set_cons_zero, Function.comp, Prod.map, id]
      simp only [↓ev_all]
      refine W_draw hx (by omega) (by omega) fun v hv => ?_
      try simp only [↓ev_all]
      refine ⟨hs, fun h => ⟨fun _ => by simp, fun _ => rfl⟩, fun h => ⟨fun h => by simpa using h, fun h => rfl⟩⟩
    · refine ⟨bs.map (·.1), ?_, ?_, fun h6 => ?_⟩
      · unfold rsD; rw [List.map_map]; rfl
      · have := h1.map (·.1)
        rw [List.zipIdx_map_fst] at this
        exact this
      · rw [h2 fun a _ k hk => hk h6, List.zipIdx_map_fst]; rfl
theorem isnot_w (w : List Nat) (Q : D → Prop) : W (aCmp .IsNot (wD w) .none) Q = Q (.bool true) := W_some _ _
theorem is_w (w : List Nat) (Q : D → Prop) : W (aCmp .Is (wD w) .none) Q = Q (.bool false) := W_some _ _
def wsD (ws : List (List Nat)) : D := .tuple (ws.map wD)
structure WaysOk (many : Nat) (rs : List (Nat × Nat)) (h : Nat) (ws : List (List Nat)) : Prop where
  nd : ws.Nodup
  few : ws.length ≤ 6
  ok : ∀ w ∈ ws, WayOk many rs h w
theorem ways_ok (many h : Nat) (rs : List (Nat × Nat)) (xs : List Int) (hm : many ≤ 100) (h1 : h < many) (hx : ∀ x ∈ xs, 0 ≤ x) (hl : xs.length = 44) :
    W (f_l_ways [.int many, rsD rs, .int h, .list (iD xs)]) fun d => ∃ ws, d = wsD ws ∧ WaysOk many rs h ws := by
  refine W_run ?_
  simp only [den_l_ways, ex_all]
  simp only [↓ev_all]
  refine W_draw hx (by omega) (by omega) fun a ha => ?_
  simp only [↓ev_all]
  refine ⟨by omega, W_draw hx (by omega) (by omega) fun b hb => ?_⟩
  simp only [↓ev_all]
  refine ⟨by omega, W_draw hx (by omega) (by omega) fun c hc => ?_⟩
  simp only [↓ev_all]
  have b1 := mod_b a 7 (by omega)
  have b2 := mod_b b 3 (by omega)
  have b3 := mod_b c 3 (by omega)
  refine ⟨by omega, ?_⟩
  refine (W_at3 (Q := fun d => ∃ n : Int, d = .int n ∧ 0 ≤ n ∧ n ≤ 6) b3.1 b3.2 (fun _ => ⟨_, rfl, by omega, by omega⟩) (fun _ => ⟨_, rfl, by omega, by omega⟩) (fun _ => ⟨_, rfl, by omega, by omega⟩)).mono fun d ⟨n, hd, n0, n6⟩ => ?_
  subst hd
  simp only [↓ev_all]
  refine ⟨rg_ok (by omega) (by omega) (by omega) (by omega), ?_⟩
  refine W_forR (fun i ρ => ∃ (ws : List (List Nat)) (u v : Option SV), ws.Nodup ∧ ws.length ≤ i ∧ (∀ w ∈ ws, WayOk many rs h w) ∧ ρ = [some (.val (.int many)), some (.val (rsD rs)), some (.val (.int h)), some (.val (.list (iD xs))), some (.val (.int n)), some (.own (ws.map wD)), u, v]) ⟨[], none, none, by simp, by simp, fun w hw => (by cases hw), rfl⟩ ?a ?b
  case a =>
    rintro ρ ⟨ws, u, v, w1, w2, w3, rfl⟩
    simp only [↓ev_all]
    exact ⟨ws, rfl, w1, by omega, w3⟩
  case b =>
    rintro i ρ hi ⟨ws, u, v, w1, w2, w3, rfl⟩
    simp only [↓ev_all]
    refine ⟨by omega, by omega, ?_⟩
    obtain ⟨ys, e, hy⟩ := iD_cut xs (some (6 * (0 + (i : Int)))) (some (6 * (0 + (i : Int)) + 6))
    rw [e]
    refine (walk_ok many h rs ys hm h1 fun y h => hx y (hy y h)).mono fun d hd => ?_
    rcases hd with rfl | ⟨w, rfl, hw⟩
    · simp only [↓ev_all]
      exact ⟨ws, _, _, w1, by omega, w3, rfl⟩
    · simp only [↓ev_all, ↓isnot_w]
      rw [W_niLP 1 1 (by omega) (by omega) (wD_pl w 0) fun d hd => by obtain ⟨w', _, rfl⟩ := List.mem_map.mp hd; exact wD_pl w' 0]
      simp only [↓ev_all]
      refine ⟨fun hn => ⟨?_, ws ++ [w], _, _, ?_, ?_, ?_, by rw [List.map_append]; rfl⟩, fun _ => ⟨ws, _, _, w1, by omega, w3, rfl⟩⟩
      · rw [List.length_map]; show _ < 16777216; omega
      · rw [List.nodup_append]
        refine ⟨w1, by simp, fun a ha b hb => ?_⟩
        rw [List.mem_singleton] at hb
        intro e
        exact hn (List.mem_map.mpr ⟨w, hb ▸ e ▸ ha, rfl⟩)
      · simp; omega
      · intro v hv
        rw [List.mem_append, List.mem_singleton] at hv
        rcases hv with hv | hv
        · exact w3 v hv
        · exact hv ▸ hw
end LW
namespace PF
open PySem PySem.Spec PyProof.Rows L2
theorem W_popC (i iL : Nat) (vs : List Nat) (it : Env → Option (List D)) (bb : D → Env → Option Env) (g : Den) (ρ : Env) (R : Out → Prop) :
    W (dPopC i iL vs it bb g ρ) R = Lo ρ iL fun xs => W (it ρ) fun items => W (popL iL vs bb g ρ items xs) fun p => Pt ρ iL (.own p.2) fun ρ' => Pt ρ' i (.val (.list p.1)) fun ρ'' => R (.next ρ'') := by
  unfold dPopC
  split
  · rename_i xs e
    rw [Lo_of e, W_bind]
    simp only [W_map]
    rfl
  · rename_i hn
    rw [W_none]
    exact propext ⟨fun z => False.elim z, fun ⟨xs, e, _⟩ => hn xs e⟩
theorem erase_perm : ∀ (xs : List D) {j : Nat} (h : j < xs.length), (xs[j] :: xs.eraseIdx j).Perm xs
  | x :: xs, 0, _ => List.Perm.refl _
  | x :: xs, j + 1, h => by
    rw [List.getElem_cons_succ, List.eraseIdx_cons_succ]
    exact (List.Perm.swap _ _ _).trans ((erase_perm xs (by simpa using h)).cons x)
theorem nodup_map {α β : Type} {f : α → β} {l : List α} (hf : ∀ a b, f a = f b → a = b) (h : l.Nodup) : (l.map f).Nodup := List.Pairwise.map f (fun a b n e => n (hf a b e)) h
theorem nodup_of_map {α β : Type} {f : α → β} {l : List α} (h : (l.map f).Nodup) : l.Nodup := by
  have := List.pairwise_map.mp h
  exact this.imp fun n e => n (congrArg f e)
theorem nodup_get {α : Type} {l : List α} (h : l.Nodup) {i j : Nat} {a : α} (h1 : l[i]? = some a) (h2 : l[j]? = some a) : i = j := (List.getElem?_inj (List.getElem?_eq_some_iff.mp h1).1 h).mp (h1.trans h2.symm)
theorem popL_ok {iL : Nat} {vs : List Nat} {bb : D → Env → Option Env} {g : Den} {ρ : Env} : ∀ (items xs : List D), items.length ≤ xs.length → xs.length < 1000000 →
    (∀ x ∈ items, ∀ ys : List D, 0 < ys.length → W (bb x (wipeE (ρ.set iL (some (.own ys))) vs)) fun ρ1 => ρ1[iL]? = some (some (.own ys)) ∧ W (g ρ1) fun d => ∃ k : Int, d = .int k ∧ 0 ≤ k ∧ k < ys.length) →
    W (popL iL vs bb g ρ items xs) fun p => p.1.length = items.length ∧ (p.1 ++ p.2).Perm xs
  | [], xs, _, _, _ => ⟨_, rfl, rfl, List.Perm.refl _⟩
  | x :: items, xs, hl, hs, h => by
    have hl' : items.length + 1 ≤ xs.length := hl
    obtain ⟨ρ1, e1, e2, d, e3, k, rfl, k0, k1⟩ := h x (List.mem_cons_self ..) xs (by omega)
    have hj : k.toNat < xs.length := by omega
    have el : (xs.eraseIdx k.toNat).length = xs.length - 1 := List.length_eraseIdx_of_lt hj
    obtain ⟨p, e4, p1, p2⟩ := popL_ok (iL := iL) (vs := vs) (bb := bb) (g := g) (ρ := ρ) items (xs.eraseIdx k.toNat) (by rw [el]; omega) (by rw [el]; omega) fun y hy => h y (List.mem_cons_of_mem _ hy)
    unfold popL
    rw [e1, Option.bind_some, e2, e3]
    simp only
    rw [if_pos ⟨by omega, by omega⟩, ixN_nat k0 k1, Option.bind_some, List.getElem?_eq_getElem hj, Option.bind_some, e4]
    refine ⟨_, rfl, by simp [p1], ?_⟩
    exact (p2.cons _).trans (erase_perm xs hj)
end PF
namespace LW
open PySem PySem.Spec PyProof.Rows L2 PF
def lsD (ls : List (List (List Nat))) : D := .tuple (ls.map wsD)
def gD (many : Nat) (rs : List (Nat × Nat)) (ls : List (List (List Nat))) : D := .tuple [.int (many : Nat), rsD rs, lsD ls]
structure GOk (most many : Nat) (rs : List (Nat × Nat)) (ls : List (List (List Nat))) : Prop where
  lo : 2 ≤ many
  hi : many ≤ most
  rd : rs.Sublist (prs many)
  len : ls.length + 1 = many
  ok : ∀ (j : Nat) ws, ls[j]? = some ws → WaysOk many rs (j + 1) ws
theorem iD_drop (xs : List Int) (k : Nat) : PF.cutD (iD xs) (some (k : Int)) none = iD (xs.drop k) := by
  rw [cut_all]; unfold iD; rw [List.map_drop]
theorem drawn_ok (ns : List Int) (att most : Nat) (h1 : att < 900) (h2 : 2 ≤ most) (h3 : most ≤ 7) :
    W (f_l_drawn [scrD ns, .int att, .int most]) fun d => ∃ many rs ls, d = gD many rs ls ∧ GOk most many rs ls := by
  refine W_run ?_
  simp only [den_l_drawn, ex_all]
  simp only [↓ev_all]
  refine (draws_int ns (by omega) (by omega) (by omega) (by omega) (by omega) (by omega)).mono fun d ⟨xs, hd, hl, hx⟩ => ?_
  subst hd
  simp only [↓ev_all]
  refine W_draw hx (by omega) (by omega) fun a ha => ?_
  simp only [↓ev_all]
  refine ⟨by omega, W_draw hx (by omega) (by omega) fun b hb => ?_⟩
  simp only [↓ev_all]
  have b1 := mod_b a (most - 1) (by omega)
  have b2 := mod_b b 3 (by omega)
  refine ⟨by omega, ?_⟩
  refine (W_at3 (Q := fun d => ∃ n : Nat, d = .int n ∧ 2 ≤ n ∧ n ≤ most) b2.1 b2.2 (fun _ => ?_) (fun _ => ⟨_, rfl, by omega, by omega⟩) (fun _ => ?_)).mono fun d ⟨n, hd, n0, n6⟩ => ?_
  · obtain ⟨m, hm⟩ := Int.eq_ofNat_of_zero_le b1.1
    exact ⟨2 + m, by rw [hm]; simp, by omega, by omega⟩
  · exact ⟨min 4 most, by congr 1; omega, by omega, by omega⟩
  subst hd
  simp only [↓ev_all]
  refine W_draw hx (by omega) (by omega) fun c hc => ?_
  simp only [↓ev_all]
  have b3 := mod_b c 5 (by omega)
  refine ⟨by omega, ?_⟩
  have e2 := iD_drop xs 2
  rw [show ((2 : Nat) : Int) = 2 from rfl] at e2
  rw [e2]
  refine (roads_ok n (xs.drop 2) (2 + c % 5) (by omega) (by omega) (by omega) (fun x h => hx x (List.mem_of_mem_drop h)) (by rw [List.length_drop]; omega)).mono fun d ⟨rs, hd, hrs, _⟩ => ?_
  subst hd
  try simp only [↓ev_all]
  refine ⟨rg_ok (by omega) (by omega) (by omega) (by omega), ?_⟩
  refine W_comp_all (α := List (List Nat)) (to := wsD) (R := fun x ws => ∃ m : Nat, x = .int (1 + m : Int) ∧ WaysOk n rs (m + 1) ws) _ (fun x hx => ?_) fun ls l1 l2 => ?_
  · obtain ⟨m, rfl, hm⟩ := rg_mem hx
    simp only [wipeE, List.set_cons_succ, List.set_cons_zero]
    simp only [↓ev_all]
    refine (draws_int ns (by omega) (by omega) (by omega) (by omega) (by omega) (by omega)).mono fun d ⟨ys, hd, hl, hy⟩ => ?_
    subst hd
    have e : (1 + (m : Int)) = ((m + 1 : Nat) : Int) := by omega
    rw [e]
    refine (ways_ok n (m + 1) rs ys (by omega) (by omega) hy (by omega)).mono fun d ⟨ws, hd, hw⟩ => ⟨ws, hd, m, by rw [e], hw⟩
  · try simp only [↓ev_all]
    refine ⟨n, rs, ls, rfl, n0, n6, hrs, ?_, fun j ws hj => ?_⟩
    · rw [l1, rg_len]; omega
    · have hj2 : j < ls.length := (List.getElem?_eq_some_iff.mp hj).1
      rw [l1] at hj2
      obtain ⟨m, hm, hw⟩ := l2 j _ ws (List.getElem?_eq_getElem hj2) hj
      have := (rg_get (List.getElem?_eq_getElem hj2)).1
      rw [this] at hm
      injection hm with hm
      have : m = j := by omega
      exact this ▸ hw
theorem way_all {many h : Nat} {w : List Nat} (hd : w[0]? = some h) (hl : ∃ v, w = v ++ [0]) (nd : w.Nodup) (lt : ∀ x ∈ w, x < many) : WayOk many (prs many) h w :=
  ⟨hd, hl, nd, lt, fun i a b ha hb => by
    rw [prs_mem]
    have h1 := lt a (List.mem_of_getElem? ha)
    have h2 := lt b (List.mem_of_getElem? hb)
    have h3 : a ≠ b := fun e => by
      subst e
      have := nodup_get nd ha hb
      omega
    omega⟩
theorem way2 {many h : Nat} (h1 : 1 ≤ h) (h2 : h < many) : WayOk many (prs many) h [h, 0] :=
  way_all rfl ⟨[h], rfl⟩ (by simp; omega) (by simp; omega)
theorem way3 {many h a : Nat} (h1 : 1 ≤ h) (h2 : h < many) (a1 : 1 ≤ a) (a2 : a < many) (ha : h ≠ a) : WayOk many (prs many) h [h, a, 0] :=
  way_all rfl ⟨[h, a], rfl⟩ (by simp; omega) (by simp; omega)
theorem way4 {many h a b : Nat} (h1 : 1 ≤ h) (h2 : h < many) (a1 : 1 ≤ a) (a2 : a < many) (b1 : 1 ≤ b) (b2 : b < many) (ha : h ≠ a) (hb : h ≠ b) (hab : a ≠ b) : WayOk many (prs many) h [h, a, b, 0] :=
  way_all rfl ⟨[h, a, b], rfl⟩ (by simp; omega) (by simp; omega)
theorem two_ways {many : Nat} {rs : List (Nat × Nat)} {h : Nat} {v w : List Nat} (hv : WayOk many rs h v) (hw : WayOk many rs h w) (ne : v ≠ w) : WaysOk many rs h [v, w] :=
  ⟨by simp [ne], by simp, fun u hu => by
    cases hu with
    | head => exact hv
    | tail _ hu => cases hu with
      | head => exact hw
      | tail _ hu => cases hu⟩
theorem n_get {hs : List Nat} {i : Int} {j n : Nat} {Q : D → Prop} (hi : i = j) (hj : hs[j]? = some n) (h : Q (.int n)) : W (atI (nD hs) i) Q :=
  W.of (at_nat hi (by unfold nD; rw [List.getElem?_map, hj]; rfl)) h
theorem ls_set {ls : List (List (List Nat))} {j : Nat} {x : List (List Nat)} {d : D} (h : d = wsD x) : (ls.map wsD).set j d = (ls.set j x).map wsD := by rw [h, List.map_set]
theorem ls_ok {ls : List (List (List Nat))} {many : Nat} {rs : List (Nat × Nat)} {h : Nat} {x : List (List Nat)} (h1 : 1 ≤ h) (ok : ∀ (j : Nat) ws, ls[j]? = some ws → WaysOk many rs (j + 1) ws) (hx : WaysOk many rs h x) : ∀ (j : Nat) ws, (ls.set (h - 1) x)[j]? = some ws → WaysOk many rs (j + 1) ws := fun j ws hj => by
  rw [List.getElem?_set] at hj
  by_cases e : h - 1 = j
  · rw [if_pos e] at hj
    by_cases e2 : h - 1 < ls.length
    · rw [if_pos e2] at hj
      cases hj
      have : j + 1 = h := by omega
      exact this ▸ hx
    · rw [if_neg e2] at hj; cases hj
  · rw [if_neg e] at hj
    exact ok j ws hj
theorem houses_ok {many : Nat} {p q : List D} (hp : (p ++ q).Perm (rgD 1 many)) : ∃ hs : List Nat, p = nD hs ∧ hs.Nodup ∧ ∀ x ∈ hs, 1 ≤ x ∧ x < many := by
  have h1 : ∀ d ∈ p, ∃ n : Nat, d = .int n ∧ 1 ≤ n ∧ n < many := fun d hd => by
    obtain ⟨n, h1, h2⟩ := rg_mem (hp.subset (List.mem_append_left _ hd))
    exact ⟨1 + n, by rw [h1]; congr 1, by omega, by omega⟩
  have nd : p.Nodup := by
    have : (rgD 1 many).Nodup := by
      unfold rgD rgI
      rw [List.map_map]
      refine nodup_map (fun a b e => ?_) List.nodup_range
      simp only [Function.comp, PyData.int.injEq] at e
      omega
    exact (List.nodup_append.mp (hp.nodup_iff.mpr this)).1
  have h2 : ∃ hs : List Nat, p = nD hs ∧ ∀ x ∈ hs, 1 ≤ x ∧ x < many := by
    clear nd hp
    induction p with
    | nil => exact ⟨[], rfl, fun x hx => by cases hx⟩
    | cons d p ih =>
      obtain ⟨hs, e, h⟩ := ih fun y hy => h1 y (List.mem_cons_of_mem _ hy)
      obtain ⟨n, rfl, hn⟩ := h1 d (List.mem_cons_self ..)
      refine ⟨n :: hs, by rw [e]; rfl, fun x hx => ?_⟩
      cases hx with
      | head => exact hn
      | tail _ hx => exact h x hx
  obtain ⟨hs, rfl, h⟩ := h2
  exact ⟨hs, rfl, PF.nodup_of_map nd, h⟩
end LW
namespace LW
open PySem PySem.Spec PyProof.Rows L2 PF
theorem gadget_ok (ns : List Int) (att most : Nat) (h1 : att < 900) (h2 : 3 ≤ most) (h3 : most ≤ 7) :
    W (f_l_gadget [scrD ns, .int att, .int most]) fun d => ∃ many rs ls, d = gD many rs ls ∧ GOk most many rs ls := by
  refine W_run ?_
  simp only [den_l_gadget, ex_all]
  try simp only [↓ev_all]
  refine (draws_int ns (by omega) (by omega) (by omega) (by omega) (by omega) (by omega)).mono fun d ⟨xs, hd, hl, hx⟩ => ?_
  subst hd
  try simp only [↓ev_all]
  refine W_draw hx (by omega) (by omega) fun a ha => ?_
  try simp only [↓ev_all]
  have b1 := mod_b a (most - 2) (by omega)
  refine ⟨by omega, ?_⟩
  obtain ⟨many, hm⟩ := Int.eq_ofNat_of_zero_le (show 0 ≤ 3 + a % ((most : Int) - 2) by omega)
  rw [hm]
  have m3 : 3 ≤ many := by omega
  have m7 : many ≤ most := by omega
  refine ⟨rg_ok (by omega) (by omega) (by omega) (by omega), ?_⟩
  simp only [↓ev_all, ↓W_popC]
  refine ⟨rg_ok (by omega) (by omega) (by omega) (by omega), ?_⟩
  refine (popL_ok _ _ (by rw [rg_len, rg_len]; omega) (by rw [rg_len]; omega) fun x hx' ys hy => ?_).mono fun p ⟨p1, p2⟩ => ?_
  · obtain ⟨n, rfl, hn⟩ := rg_mem hx'
    simp only [wipeE, List.set_cons_succ, List.set_cons_zero]
    try simp only [↓ev_all]
    refine ⟨rfl, W_draw hx (by omega) (by omega) fun b hb => ?_⟩
    try simp only [↓ev_all]
    have := mod_b b ys.length (by omega)
    exact ⟨by omega, _, rfl, this.1, this.2⟩
  obtain ⟨hs, e, hnd, hlt⟩ := houses_ok p2
  rw [e] at p1 ⊢
  rw [nD_len, rg_len] at p1
  have hlen : hs.length = many - 1 := by omega
  try simp only [↓ev_all]
  refine W_draw hx (by omega) (by omega) fun b hb => ?_
  try simp only [↓ev_all]
  have b2 := mod_b b (many - 2) (by omega)
  refine ⟨by omega, ?_⟩
  obtain ⟨count, hc⟩ := Int.eq_ofNat_of_zero_le (show 0 ≤ 2 + b % ((many : Int) - 2) by omega)
  rw [hc]
  have c2 : 2 ≤ count := by omega
  have cm : count < many := by omega
  have get : ∀ j, j < many - 1 → ∃ n, hs[j]? = some n ∧ 1 ≤ n ∧ n < many := fun j hj => by
    have hj' : j < hs.length := by omega
    exact ⟨hs[j], List.getElem?_eq_getElem hj', hlt _ (List.getElem_mem hj')⟩
  obtain ⟨g0, e0, g01, g02⟩ := get 0 (by omega)
  obtain ⟨g1, e1, g11, g12⟩ := get 1 (by omega)
  have g01ne : g0 ≠ g1 := fun z => by have := nodup_get hnd (z ▸ e0) e1; omega
  refine ⟨rg_ok (by omega) (by omega) (by omega) (by omega), ?_⟩
  refine W_comp_all (α := List (List Nat)) (to := wsD) (R := fun x ws => ∃ m : Nat, x = .int (1 + m : Int) ∧ ws = [[m + 1, 0]] ∧ m + 1 < many) _ (fun x hx => ?_) fun ls0 l1 l2 => ?_
  · obtain ⟨m, rfl, hm⟩ := rg_mem hx
    simp only [wipeE, List.set_cons_succ, List.set_cons_zero]
    try simp only [↓ev_all]
    refine ⟨[[m + 1, 0]], ?_, m, rfl, rfl, by omega⟩
    have e : (1 + (m : Int)) = ((m + 1 : Nat) : Int) := by omega
    rw [e]
    rfl
  have l1' : ls0.length = many - 1 := by rw [l1, rg_len]; omega
  have l3 : ∀ (j : Nat) ws, ls0[j]? = some ws → WaysOk many (prs many) (j + 1) ws := fun j ws hj => by
    have hj2 : j < ls0.length := (List.getElem?_eq_some_iff.mp hj).1
    rw [l1] at hj2
    obtain ⟨m, hm, rfl, hlt⟩ := l2 j _ ws (List.getElem?_eq_getElem hj2) hj
    have := (rg_get (List.getElem?_eq_getElem hj2)).1
    rw [this] at hm
    injection hm with hm
    have : m = j := by omega
    subst this
    refine ⟨by simp, by simp, fun w hw => ?_⟩
    rw [List.mem_singleton] at hw
    exact hw ▸ way2 (by omega) hlt
  try simp only [↓ev_all]
  refine ⟨rg_ok (by omega) (by omega) (by omega) (by omega), ?_⟩
  refine W_forR (fun i ρ => ∃ (ls : List (List (List Nat))) (u v t : Option SV), ls.length = many - 1 ∧ (∀ (j : Nat) ws, ls[j]? = some ws → WaysOk many (prs many) (j + 1) ws) ∧ (0 < i → ∃ w r, ls[g0 - 1]? = some (w :: r) ∧ (w = [g0, g1, 0] ∨ w = [g0, 0])) ∧
    ρ = [some (.val (scrD ns)), some (.val (.int att)), some (.val (.int most)), some (.val (.list (iD xs))), some (.val (.int many)), some (.own p.2), some (.val (.list (nD hs))), some (.val (.int count)), some (.own (ls.map wsD)), u, v, t]) ⟨ls0, _, _, _, l1', l3, fun z => absurd z (by omega), rfl⟩ ?zEnd ?zStep
  case zStep =>
    rintro i ρ hi ⟨ls, u, v, t, s1, s2, s3, rfl⟩
    try simp only [↓ev_all]
    obtain ⟨h, eh, hh1, hh2⟩ := get i (by omega)
    refine n_get (j := i) (by omega) eh ?_
    try simp only [↓ev_all]
    have b3 : (i + 1) % count < count := Nat.mod_lt _ (by omega)
    obtain ⟨a', ea, ha1, ha2⟩ := get ((i + 1) % count) (by omega)
    refine ⟨by omega, n_get (j := (i + 1) % count) (by simp) ea ?_⟩
    try simp only [↓ev_all]
    have hne : h ≠ a' := fun z => by
      have := nodup_get hnd (z ▸ eh) ea
      have hi' : i + 1 ≤ count := by omega
      rcases Nat.lt_or_ge (i + 1) count with q | q
      · rw [Nat.mod_eq_of_lt q] at this; omega
      · have q' : i + 1 = count := by omega
        rw [q', Nat.mod_self] at this; omega
    have first : i = 0 → h = g0 ∧ a' = g1 := fun z => by
      subst z
      rw [Nat.mod_eq_of_lt (by omega)] at ea
      have := e0.symm.trans eh
      have := e1.symm.trans ea
      simp at *
      omega
    have other : 0 < i → h - 1 ≠ g0 - 1 := fun z q => by
      have : h = g0 := by omega
      have := nodup_get hnd (this ▸ eh) e0
      omega
    have W1 := two_ways (way3 hh1 hh2 ha1 ha2 hne) (way2 hh1 hh2) (by simp)
    have W2 := two_ways (way2 hh1 hh2) (way3 hh1 hh2 ha1 ha2 hne) (by simp)
    have ix : ∀ n, n = many - 1 → ixN n ((h : Int) - 1) = some (h - 1) := fun n hn => by
      rw [ixN_nat (by omega) (by omega)]
      congr 1
      omega
    refine W.of (ix _ (by rw [List.length_map]; exact s1)) ?_
    have q1 : ∀ (x : List (List Nat)), ((0 : Nat) < i + 1 → (i = 0 → ∃ w r, x = w :: r ∧ (w = [g0, g1, 0] ∨ w = [g0, 0])) → ∃ w r, (ls.set (h - 1) x)[g0 - 1]? = some (w :: r) ∧ (w = [g0, g1, 0] ∨ w = [g0, 0])) := fun x _ hx => by
      by_cases z : i = 0
      · obtain ⟨z1, z2⟩ := first z
        obtain ⟨w, r, e, q⟩ := hx z
        refine ⟨w, r, ?_, q⟩
        rw [z1, List.getElem?_set_self (by omega), e]
      · rw [List.getElem?_set_ne (other (by omega))]
        exact s3 (by omega)
    have A1 : (fun ρ => ∃ (ls : List (List (List Nat))) (u v t : Option SV), ls.length = many - 1 ∧ (∀ (j : Nat) ws, ls[j]? = some ws → WaysOk many (prs many) (j + 1) ws) ∧ (0 < i + 1 → ∃ w r, ls[g0 - 1]? = some (w :: r) ∧ (w = [g0, g1, 0] ∨ w = [g0, 0])) ∧
    ρ = [some (.val (scrD ns)), some (.val (.int att)), some (.val (.int most)), some (.val (.list (iD xs))), some (.val (.int many)), some (.own p.2), some (.val (.list (nD hs))), some (.val (.int count)), some (.own (ls.map wsD)), u, v, t]) [some (.val (scrD ns)), some (.val (.int att)), some (.val (.int most)), some (.val (.list (iD xs))), some (.val (.int many)), some (.own p.2), some (.val (.list (nD hs))), some (.val (.int count)), some (.own ((ls.map wsD).set (h - 1) (.tuple [.tuple [.int h, .int a', .int 0], .tuple [.int h, .int 0]]))), some (.val (.int (0 + i))), some (.val (.int h)), some (.val (.int a'))] :=
      ⟨ls.set (h - 1) [[h, a', 0], [h, 0]], _, _, _, by rw [List.length_set]; exact s1, ls_ok hh1 s2 W1, fun z => q1 _ z fun z0 => ⟨_, _, rfl, .inl (by rw [(first z0).1, (first z0).2])⟩, by rw [List.map_set]; rfl⟩
    try simp only [↓ev_all]
    refine ⟨fun hi0 => W_draw hx (by omega) (by omega) fun c hc => ?_, fun hi0 => A1⟩
    try simp only [↓ev_all]
    refine ⟨by omega, fun hc4 => ?_, fun _ => A1⟩
    refine W.of (ix _ (by rw [List.length_set, List.length_map]; exact s1)) ?_
    try simp only [↓ev_all]
    rw [List.set_set]
    exact ⟨ls.set (h - 1) [[h, 0], [h, a', 0]], _, _, _, by rw [List.length_set]; exact s1, ls_ok hh1 s2 W2, fun z => q1 _ z fun z0 => ⟨_, _, rfl, .inr (by rw [(first z0).1])⟩, by rw [List.map_set]; rfl⟩
  case zEnd =>
    rintro ρ ⟨ls, u, v, t, s1, s2, s3, rfl⟩
    obtain ⟨w, r, lw, hw⟩ := s3 (by omega)
    try simp only [↓ev_all]
    refine W_draw hx (by omega) (by omega) fun c hc => ?_
    try simp only [↓ev_all]
    have fin : ∀ ls' : List (List (List Nat)), ls'.length = many - 1 → (∀ (j : Nat) ws, ls'[j]? = some ws → WaysOk many (prs many) (j + 1) ws) →
        ((iD xs).length + (iD xs).length ≤ sizeLine ∧ W (f_l_roads [.int many, .list (iD xs ++ iD xs), .int 6]) fun x => ∃ many' rs ls'', PyData.tuple [.int many, x, .tuple (ls'.map wsD)] = gD many' rs ls'' ∧ GOk most many' rs ls'') := fun ls' k1 k2 => by
      refine ⟨by rw [iD_len]; show _ ≤ 16777216; omega, ?_⟩
      have e : iD xs ++ iD xs = iD (xs ++ xs) := by unfold iD; rw [List.map_append]
      rw [e]
      refine (roads_ok many (xs ++ xs) 6 (by omega) (by omega) (by omega) (fun x h => ?_) (by rw [List.length_append]; omega)).mono fun d ⟨rs, hd, hrs, h6⟩ => ?_
      · rcases List.mem_append.mp h with h | h <;> exact hx x h
      · subst hd
        refine ⟨many, rs, ls', rfl, by omega, m7, hrs, by omega, ?_⟩
        rw [h6 rfl]
        exact k2
    refine ⟨by omega, fun h5 => ⟨fun hcm => ?_, fun _ => ?_⟩, fun _ => ?_⟩
    · obtain ⟨hcn, ec, hc1, hc2⟩ := get count (by omega)
      refine n_get (j := count) rfl ec ?_
      try simp only [↓ev_all]
      refine n_get (j := 0) rfl e0 ?_
      try simp only [↓ev_all]
      refine W.of (at_nat (j := g0 - 1) (by omega) (v := wsD (w :: r)) (by rw [List.getElem?_map, lw]; rfl)) ?_
      unfold wsD
      rw [List.map_cons]
      try simp only [↓ev_all]
      unfold wD
      try simp only [↓ev_all]
      refine ⟨?_, n_get (j := count) rfl ec ?_⟩
      · rw [nD_len]
        rcases hw with rfl | rfl <;> (show _ ≤ 16777216; simp)
      try simp only [↓ev_all]
      refine n_get (j := 1) rfl e1 ?_
      try simp only [↓ev_all]
      refine n_get (j := count) rfl ec ?_
      try simp only [↓ev_all]
      have n0 : hcn ≠ g0 := fun z => by have := nodup_get hnd (z ▸ ec) e0; omega
      have n1 : hcn ≠ g1 := fun z => by have := nodup_get hnd (z ▸ ec) e1; omega
      refine W.of (a := hcn - 1) (by rw [List.length_map, s1, ixN_nat (by omega) (by omega)]; congr 1; omega) ?_
      try simp only [↓ev_all]
      have Wc : WaysOk many (prs many) hcn [hcn :: w, [hcn, g1, 0]] := by
        rcases hw with rfl | rfl
        · exact two_ways (way4 hc1 hc2 g01 g02 g11 g12 n0 n1 g01ne) (way3 hc1 hc2 g11 g12 n1) (by simp)
        · exact two_ways (way3 hc1 hc2 g01 g02 n0) (way3 hc1 hc2 g11 g12 n1) (by simp; omega)
      have := fin (ls.set (hcn - 1) [hcn :: w, [hcn, g1, 0]]) (by rw [List.length_set]; exact s1) (ls_ok hc1 s2 Wc)
      rw [← ls_set rfl] at this
      exact this
    · exact fin ls s1 s2
    · exact fin ls s1 s2
theorem guild_ok (ns : List Int) (att most : Nat) (h1 : att < 900) (h2 : 2 ≤ most) (h3 : most ≤ 7) :
    W (f_l_guild [scrD ns, .int att, .int most]) fun d => ∃ many rs ls, d = gD many rs ls ∧ GOk (max most 3) many rs ls := by
  refine W_run ?_
  simp only [den_l_guild, ex_all]
  try simp only [↓ev_all]
  refine (draws_int ns (by omega) (by omega) (by omega) (by omega) (by omega) (by omega)).mono fun d ⟨xs, hd, hl, hx⟩ => ?_
  subst hd
  try simp only [↓ev_all]
  refine W_draw hx (by omega) (by omega) fun a ha => ?_
  try simp only [↓ev_all]
  refine ⟨by omega, fun _ => ?_, fun _ => ?_⟩
  · have e : max (most : Int) 3 = ((max most 3 : Nat) : Int) := by omega
    rw [e]
    exact gadget_ok ns att (max most 3) h1 (by omega) (by omega)
  · exact (drawn_ok ns att most h1 h2 h3).mono fun d ⟨many, rs, ls, e, h⟩ => ⟨many, rs, ls, e, h.lo, by have := h.hi; omega, h.rd, h.len, h.ok⟩
end LW
namespace LW
open PySem PySem.Spec PyProof.Rows L2 PF
/-! ### stands -/
def sD (st : List (List Nat)) : D := .tuple (st.map wD)
structure StOk (many : Nat) (ls : List (List (List Nat))) (st : List (List Nat)) : Prop where
  len : st.length = many
  hall : st[0]? = some [0]
  own : ∀ (j : Nat) w, st[j + 1]? = some w → w = [] ∨ ∃ ws, ls[j]? = some ws ∧ w ∈ ws
def pick (st : List (List Nat)) (ws : List (List Nat)) : List Nat := (ws.find? fun w => decide (st[w.getD 1 0]? = some (w.drop 1))).getD []
theorem pick_mem (st ws : List (List Nat)) : pick st ws = [] ∨ pick st ws ∈ ws := by
  unfold pick
  cases e : ws.find? fun w => decide (st[w.getD 1 0]? = some (w.drop 1)) with
  | none => exact .inl rfl
  | some w => exact .inr (List.mem_of_find?_eq_some e)
theorem ls_at {ls : List (List (List Nat))} {i : Int} {j : Nat} {ws : List (List Nat)} {Q : D → Prop} (hi : i = j) (h : ls[j]? = some ws) (q : Q (wsD ws)) : W (atI (ls.map wsD) i) Q :=
  W.of (at_nat hi (v := wsD ws) (by rw [List.getElem?_map, h]; rfl)) q
theorem st_at {st : List (List Nat)} {i : Int} {j : Nat} {w : List Nat} {Q : D → Prop} (hi : i = j) (h : st[j]? = some w) (q : Q (wD w)) : W (atI (st.map wD) i) Q :=
  W.of (at_nat hi (v := wD w) (by rw [List.getElem?_map, h]; rfl)) q
theorem wD_drop (w : List Nat) (k : Nat) : PF.cutD (nD w) (some (k : Int)) none = nD (w.drop k) := by rw [cut_all]; unfold nD; rw [List.map_drop]
theorem way_len {many : Nat} {rs : List (Nat × Nat)} {h : Nat} {w : List Nat} (hh : 1 ≤ h) (ok : WayOk many rs h w) : ∃ n r, w = h :: n :: r ∧ n < many := by
  obtain ⟨v, hv⟩ := ok.last
  have h0 := ok.hd
  match w, v, hv, h0, ok.lt with
  | _, [], rfl, h0, _ => simp at h0; omega
  | _, [a], rfl, h0, lt => simp at h0; exact ⟨0, [], by simp [h0], lt 0 (by simp)⟩
  | _, a :: b :: v, rfl, h0, lt => simp at h0; exact ⟨b, v ++ [0], by simp [h0], lt b (by simp)⟩
theorem W_ixW (w : List Nat) (j : Int) (Q : D → Prop) : W (aIx (wD w) (.int j)) Q = W (atI (nD w) j) Q := rfl
theorem W_ixWs (ws : List (List Nat)) (j : Int) (Q : D → Prop) : W (aIx (wsD ws) (.int j)) Q = W (atI (ws.map wD) j) Q := rfl
theorem W_ixLs (ls : List (List (List Nat))) (j : Int) (Q : D → Prop) : W (aIx (lsD ls) (.int j)) Q = W (atI (ls.map wsD) j) Q := rfl
theorem W_ixSt (st : List (List Nat)) (j : Int) (Q : D → Prop) : W (aIx (sD st) (.int j)) Q = W (atI (st.map wD) j) Q := rfl
theorem W_ixG0 (many : Nat) (rs : List (Nat × Nat)) (ls : List (List (List Nat))) (Q : D → Prop) : W (aIx (gD many rs ls) (.int 0)) Q = Q (.int many) := W_at0 _ _ _
theorem W_ixG1 (many : Nat) (rs : List (Nat × Nat)) (ls : List (List (List Nat))) (Q : D → Prop) : W (aIx (gD many rs ls) (.int 1)) Q = Q (rsD rs) := W_at1 _ _ _ _
theorem W_ixG2 (many : Nat) (rs : List (Nat × Nat)) (ls : List (List (List Nat))) (Q : D → Prop) : W (aIx (gD many rs ls) (.int 2)) Q = Q (lsD ls) := W_at2 _ _ _ _ _
theorem W_itW (w : List Nat) (Q : List D → Prop) : W (itm (wD w)) Q = Q (nD w) := W_some _ _
theorem W_itWs (ws : List (List Nat)) (Q : List D → Prop) : W (itm (wsD ws)) Q = Q (ws.map wD) := W_some _ _
theorem W_itLs (ls : List (List (List Nat))) (Q : List D → Prop) : W (itm (lsD ls)) Q = Q (ls.map wsD) := W_some _ _
theorem W_itSt (st : List (List Nat)) (Q : List D → Prop) : W (itm (sD st)) Q = Q (st.map wD) := W_some _ _
theorem W_itRs (rs : List (Nat × Nat)) (Q : List D → Prop) : W (itm (rsD rs)) Q = Q (rs.map rD) := W_some _ _
theorem W_itKW (w : List Nat) (Q : List D → Prop) : W (itmK (wD w)) Q = Q (nD w) := W_some _ _
theorem W_itKWs (ws : List (List Nat)) (Q : List D → Prop) : W (itmK (wsD ws)) Q = Q (ws.map wD) := W_some _ _
theorem W_itKLs (ls : List (List (List Nat))) (Q : List D → Prop) : W (itmK (lsD ls)) Q = Q (ls.map wsD) := W_some _ _
theorem W_itKSt (st : List (List Nat)) (Q : List D → Prop) : W (itmK (sD st)) Q = Q (st.map wD) := W_some _ _
theorem W_itKRs (rs : List (Nat × Nat)) (Q : List D → Prop) : W (itmK (rsD rs)) Q = Q (rs.map rD) := W_some _ _
theorem W_lnW (w : List Nat) (Q : D → Prop) : W (bLen [wD w]) Q = Q (.int w.length) := by unfold wD; rw [W_lenT, nD_len]
theorem W_lnWs (ws : List (List Nat)) (Q : D → Prop) : W (bLen [wsD ws]) Q = Q (.int ws.length) := by unfold wsD; rw [W_lenT, List.length_map]
theorem W_lnLs (ls : List (List (List Nat))) (Q : D → Prop) : W (bLen [lsD ls]) Q = Q (.int ls.length) := by unfold lsD; rw [W_lenT, List.length_map]
theorem W_lnSt (st : List (List Nat)) (Q : D → Prop) : W (bLen [sD st]) Q = Q (.int st.length) := by unfold sD; rw [W_lenT, List.length_map]
theorem W_cutW (w : List Nat) (l h : Option Int) (Q : D → Prop) : W (aCut (wD w) l h) Q = Q (.tuple (PF.cutD (nD w) l h)) := W_some _ _
theorem W_eqW (v w : List Nat) (Q : D → Prop) : W (aCmp .Eq (wD v) (wD w)) Q = Q (.bool (decide (v = w))) := by
  rw [W_eqP 1 1 (by omega) (by omega) (wD_pl _ 0) (wD_pl _ 0)]
  congr 2
  exact decide_eq_decide.mpr ⟨wD_inj, fun e => e ▸ rfl⟩
theorem W_eqW' (v w : List Nat) (Q : D → Prop) : W (aCmp .Eq (wD v) (.tuple (nD w))) Q = Q (.bool (decide (v = w))) := W_eqW v w Q
theorem W_neW (v w : List Nat) (Q : D → Prop) : W (aCmp .NotEq (wD v) (wD w)) Q = Q (.bool (decide (¬v = w))) := by
  rw [W_neP 1 1 (by omega) (by omega) (wD_pl _ 0) (wD_pl _ 0)]
  congr 2
  exact decide_eq_decide.mpr (not_congr ⟨wD_inj, fun e => e ▸ rfl⟩)
theorem sD_pl (st : List (List Nat)) (n : Nat) : pl (sD st) (n + 2) = true := pl_tup fun d hd => by
  obtain ⟨w, _, rfl⟩ := List.mem_map.mp hd
  exact wD_pl w n
theorem sD_inj {a b : List (List Nat)} (h : sD a = sD b) : a = b := by
  injection h with h
  exact (List.map_inj_right fun _ _ e => wD_inj e).mp h
theorem W_eqS (v w : List (List Nat)) (Q : D → Prop) : W (aCmp .Eq (sD v) (sD w)) Q = Q (.bool (decide (v = w))) := by
  rw [W_eqP 2 2 (by omega) (by omega) (sD_pl _ 0) (sD_pl _ 0)]
  congr 2
  exact decide_eq_decide.mpr ⟨sD_inj, fun e => e ▸ rfl⟩
theorem W_neS (v w : List (List Nat)) (Q : D → Prop) : W (aCmp .NotEq (sD v) (sD w)) Q = Q (.bool (decide (¬v = w))) := by
  rw [W_neP 2 2 (by omega) (by omega) (sD_pl _ 0) (sD_pl _ 0)]
  congr 2
  exact decide_eq_decide.mpr (not_congr ⟨sD_inj, fun e => e ▸ rfl⟩)
def eg := And.intro @W_itKW <| And.intro @W_itKWs <| And.intro @W_itKLs <| And.intro @W_itKSt <| And.intro @W_itKRs <| And.intro @W_eqW <| And.intro @W_eqW' <| And.intro @W_neW <| And.intro @W_eqS <| And.intro @W_neS <| And.intro @W_ixW <| And.intro @W_ixWs <| And.intro @W_ixLs <| And.intro @W_ixSt <| And.intro @W_ixG0 <| And.intro @W_ixG1 <| And.intro @W_ixG2 <| And.intro @W_itW <| And.intro @W_itWs <| And.intro @W_itLs <| And.intro @W_itSt <| And.intro @W_itRs <| And.intro @W_lnW <| And.intro @W_lnWs <| And.intro @W_lnLs <| And.intro @W_lnSt <| @W_cutW
/-- a house's likes -/
theorem ls_get {most many h : Nat} {rs : List (Nat × Nat)} {ls : List (List (List Nat))} (g : GOk most many rs ls) (h1 : 1 ≤ h) (h2 : h < many) : ∃ ws, ls[h - 1]? = some ws ∧ WaysOk many rs h ws := by
  have hl := g.len
  have hj : h - 1 < ls.length := by omega
  have := g.ok (h - 1) _ (List.getElem?_eq_getElem hj)
  exact ⟨_, List.getElem?_eq_getElem hj, by rw [show h - 1 + 1 = h by omega] at this; exact this⟩
theorem likes_ok {most many h : Nat} {rs : List (Nat × Nat)} {ls : List (List (List Nat))} {ws : List (List Nat)} (h1 : 1 ≤ h) (e : ls[h - 1]? = some ws) {i : Int} (hi : i = h) : f_likes_of [gD many rs ls, .int i] = some (wsD ws) := by
  have : W (f_likes_of [gD many rs ls, .int i]) fun d => d = wsD ws := by
    refine W_run ?_
    simp only [den_likes_of, ex_all]
    simp only [↓ev_all, ↓eg]
    exact ls_at (by omega) e rfl
  obtain ⟨d, h2, rfl⟩ := this
  exact h2
theorem pick_skip {st : List (List Nat)} {w : List Nat} {ws : List (List Nat)} {n : Nat} {u : List Nat} (e : w.getD 1 0 = n) (e2 : st[n]? = some u) (h : u ≠ w.drop 1) : pick st (w :: ws) = pick st ws := by
  unfold pick
  rw [List.find?_cons_of_neg]
  rw [e, e2]
  simpa using h
theorem pick_hit {st : List (List Nat)} {w : List Nat} {ws : List (List Nat)} {n : Nat} {u : List Nat} (e : w.getD 1 0 = n) (e2 : st[n]? = some u) (h : u = w.drop 1) : pick st (w :: ws) = w := by
  unfold pick
  rw [List.find?_cons_of_pos]
  · rfl
  · rw [e, e2, h]; simp
theorem lchoice_ok {most many h : Nat} {rs : List (Nat × Nat)} {ls : List (List (List Nat))} {st : List (List Nat)} {ws : List (List Nat)} (h1 : 1 ≤ h) (e : ls[h - 1]? = some ws) (hw : WaysOk many rs h ws) (hs : st.length = many) {i : Int} (hi : i = h) : f_l_choice [gD many rs ls, sD st, .int i] = some (wD (pick st ws)) := by
  have : W (f_l_choice [gD many rs ls, sD st, .int i]) fun d => d = wD (pick st ws) := by
    refine W_run ?_
    simp only [den_l_choice, ex_all]
    simp only [↓ev_all, ↓eg]
    refine ls_at (j := h - 1) (by omega) e ?_
    try simp only [↓ev_all, ↓eg]
    refine W_forL (fun r ρ => ∃ (vs : List (List Nat)) (u : Option SV), r = vs.map wD ∧ pick st vs = pick st ws ∧ (∀ w ∈ vs, WayOk many rs h w) ∧ ρ = [some (.val (gD many rs ls)), some (.val (sD st)), some (.val (.int i)), u]) ?zEnd ?zStep _ _ ⟨ws, none, rfl, rfl, hw.ok, rfl⟩
    case zEnd =>
      rintro ρ ⟨vs, u, e, p, -, rfl⟩
      try simp only [↓ev_all, ↓eg]
      cases vs with
      | nil => rw [← p]; rfl
      | cons v vs => cases e
    case zStep =>
      rintro x r ρ ⟨vs, u, e, p, k, rfl⟩
      cases vs with
      | nil => cases e
      | cons w vs =>
        rw [List.map_cons] at e
        injection e with e1 e2
        subst e1 e2
        obtain ⟨n, q, rfl, hn⟩ := way_len h1 (k w (List.mem_cons_self ..))
        have en : st[n]? = some st[n] := List.getElem?_eq_getElem (by omega)
        try simp only [↓ev_all, ↓eg]
        refine n_get (j := 1) rfl rfl ?_
        try simp only [↓ev_all, ↓eg]
        refine st_at rfl en ?_
        have e2 := wD_drop (h :: n :: q) 1
        rw [show ((1 : Nat) : Int) = 1 from rfl] at e2
        rw [e2]
        try simp only [↓ev_all, ↓eg]
        refine ⟨fun hE => ?_, fun hE => ⟨vs, _, rfl, ?_, fun w hw => k w (List.mem_cons_of_mem _ hw), rfl⟩⟩
        · rw [pick_hit (n := n) rfl en hE] at p
          show wD _ = wD _
          rw [p]
        · rw [← p, pick_skip (n := n) rfl en hE]
  obtain ⟨d, h2, rfl⟩ := this
  exact h2
theorem choice_ok {most many h : Nat} {rs : List (Nat × Nat)} {ls : List (List (List Nat))} {st : List (List Nat)} {ws : List (List Nat)} (h1 : 1 ≤ h) (e : ls[h - 1]? = some ws) (hw : WaysOk many rs h ws) (hs : st.length = many) {i : Int} (hi : i = h) : f_choice [gD many rs ls, sD st, .int i] = some (wD (pick st ws)) := by
  have : W (f_choice [gD many rs ls, sD st, .int i]) fun d => d = wD (pick st ws) := by
    refine W_run ?_
    simp only [den_choice, ex_all]
    simp only [↓ev_all, ↓eg]
    refine W.of (likes_ok (most := most) h1 e hi) ?_
    try simp only [↓ev_all, ↓eg]
    refine W_forL (fun r ρ => ∃ (vs : List (List Nat)) (u v t : Option SV), r = vs.map wD ∧ pick st vs = pick st ws ∧ (∀ w ∈ vs, WayOk many rs h w) ∧ ρ = [some (.val (gD many rs ls)), some (.val (sD st)), some (.val (.int i)), u, v, t]) ?zEnd ?zStep _ _ ⟨ws, none, none, none, rfl, rfl, hw.ok, rfl⟩
    case zEnd =>
      rintro ρ ⟨vs, u, v, t, e, p, -, rfl⟩
      try simp only [↓ev_all, ↓eg]
      cases vs with
      | nil => rw [← p]; rfl
      | cons v vs => cases e
    case zStep =>
      rintro x r ρ ⟨vs, u, v, t, e, p, k, rfl⟩
      cases vs with
      | nil => cases e
      | cons w vs =>
        rw [List.map_cons] at e
        injection e with e1 e2
        subst e1 e2
        obtain ⟨n, q, rfl, hn⟩ := way_len h1 (k w (List.mem_cons_self ..))
        have en : st[n]? = some st[n] := List.getElem?_eq_getElem (by omega)
        try simp only [↓ev_all, ↓eg]
        refine ⟨by rw [nD_len]; simp, ?_⟩
        show W (bCons (bName 4) (bCons (bName 5) bNil) ([PyData.int h] ++ [PyData.list (nD (n :: q))]) _) _
        simp only [List.cons_append, List.nil_append]
        try simp only [↓ev_all, ↓eg]
        refine n_get (j := 1) rfl rfl ?_
        try simp only [↓ev_all, ↓eg]
        refine st_at rfl en ?_
        try simp only [↓ev_all, ↓eg]
        refine ⟨fun hE => ?_, fun hE => ⟨vs, _, _, _, rfl, ?_, fun w hw => k w (List.mem_cons_of_mem _ hw), rfl⟩⟩
        · rw [pick_hit (w := h :: n :: q) (n := n) rfl en hE] at p
          show wD _ = wD _
          rw [p]
        · rw [← p, pick_skip (w := h :: n :: q) (n := n) rfl en hE]
  obtain ⟨d, h2, rfl⟩ := this
  exact h2
end LW
namespace LW
open PySem PySem.Spec PyProof.Rows L2 PF
theorem first_ok {most many : Nat} {rs : List (Nat × Nat)} {ls : List (List (List Nat))} (g : GOk most many rs ls) (h7 : most ≤ 7) : ∃ st, f_l_first [gD many rs ls] = some (sD st) ∧ StOk many ls st ∧ st = [0] :: List.replicate (many - 1) [] := by
  have hlo := g.lo
  have hhi := g.hi
  have : W (f_l_first [gD many rs ls]) fun d => d = sD ([0] :: List.replicate (many - 1) []) := by
    refine W_run ?_
    simp only [den_l_first, ex_all]
    simp only [↓ev_all, ↓eg]
    refine ⟨⟨by simp, by omega, by omega, by simp⟩, ?_, ?_⟩
    · simp; show _ ≤ 16777216; omega
    · unfold sD
      rw [List.map_cons, List.map_replicate]
      have e : ((many : Int) - 1).toNat = many - 1 := by omega
      rw [e]
      have e2 : ∀ n, (List.replicate n [PyData.tuple []]).flatten = List.replicate n (wD []) := fun n => by
        induction n with
        | zero => rfl
        | succ n ih => rw [List.replicate_succ, List.flatten_cons, ih]; rfl
      rw [e2]
      rfl
  obtain ⟨d, h2, rfl⟩ := this
  refine ⟨_, h2, ⟨by simp; omega, rfl, fun j w h => ?_⟩, rfl⟩
  rw [List.getElem?_cons_succ, List.getElem?_replicate] at h
  split at h
  · exact .inl (Option.some.inj h).symm
  · cases h
theorem stand_ok {most many : Nat} {rs : List (Nat × Nat)} {ls : List (List (List Nat))} {xs : List Int} (g : GOk most many rs ls) (h7 : most ≤ 7) (hx : ∀ x ∈ xs, 0 ≤ x) (hl : 6 ≤ xs.length) : W (f_l_stand [gD many rs ls, .list (iD xs)]) fun d => ∃ st, d = sD st ∧ StOk many ls st := by
  have hlo := g.lo
  have hhi := g.hi
  have hlen := g.len
  refine W_run ?_
  simp only [den_l_stand, ex_all]
  simp only [↓ev_all, ↓eg]
  refine W.of (comp_map (fun d => match d with | .tuple ws => .tuple (.tuple [] :: ws) | _ => .none) (ls.map wsD) fun x hx => ?_) ?_
  · obtain ⟨ws, hws, rfl⟩ := List.mem_map.mp hx
    obtain ⟨j, hj⟩ := List.getElem?_of_mem hws
    have hw := (g.ok j ws hj).few
    simp only [wipeE, List.set_cons_succ, List.set_cons_zero]
    simp only [↓ev_all, ↓eg]
    have : W (d2 aAdd (dTup [dTup []]) (dVarB 3) [some (SV.val (gD many rs ls)), some (SV.val (PyData.list (iD xs))), none, some (SV.val (wsD ws)), none]) fun d => d = .tuple (.tuple [] :: ws.map wD) := by
      unfold wsD
      simp only [↓ev_all, ↓eg]
      exact ⟨by simp; show _ ≤ 16777216; omega, rfl⟩
    obtain ⟨d, h2, rfl⟩ := this
    exact h2
  rw [List.map_map]
  try simp only [↓ev_all, ↓eg]
  have e : ls.map ((fun d => match d with | .tuple ws => .tuple (.tuple [] :: ws) | _ => PyData.none) ∘ wsD) = ls.map fun ws => wsD ([] :: ws) := rfl
  rw [e, enumD_eq]
  refine W_comp_all (α := List Nat) (to := wD) (R := fun x w => ∃ (j : Nat) (ws : List (List Nat)), x = .tuple [.int j, wsD ([] :: ws)] ∧ ls[j]? = some ws ∧ (w = [] ∨ w ∈ ws)) _ (fun x hx' => ?_) fun st l1 l2 => ?_
  · obtain ⟨⟨y, j⟩, hp, rfl⟩ := List.mem_map.mp hx'
    have hp' := List.mem_zipIdx_iff_getElem?.mp hp
    simp only at hp'
    rw [List.getElem?_map] at hp'
    cases e : ls[j]? with
    | none => rw [e] at hp'; cases hp'
    | some ws =>
      rw [e] at hp'
      cases hp'
      have hj : j < ls.length := (List.getElem?_eq_some_iff.mp e).1
      simp only [wipeE, List.set_cons_succ, List.set_cons_zero]
      simp only [↓ev_all, ↓eg]
      refine W_draw hx (by omega) (by omega) fun a ha => ?_
      try simp only [↓ev_all, ↓eg]
      have b := mod_b a (([] :: ws).length : Nat) (by simp)
      refine ⟨by simp, W_at b.1 (by rw [List.length_map]; exact b.2) fun v hv => ?_⟩
      have := List.mem_of_getElem? hv
      obtain ⟨w, hw, rfl⟩ := List.mem_map.mp this
      refine ⟨w, rfl, j, ws, rfl, e, ?_⟩
      cases hw with
      | head => exact .inl rfl
      | tail _ h => exact .inr h
  · try simp only [↓ev_all, ↓eg]
    have l3 : st.length = ls.length := by simpa using l1
    refine ⟨by simp; show _ ≤ 16777216; omega, [0] :: st, rfl, by simp; omega, rfl, fun j w h => ?_⟩
    rw [List.getElem?_cons_succ] at h
    have hj : j < st.length := (List.getElem?_eq_some_iff.mp h).1
    have hj2 : j < ((ls.map fun ws => wsD ([] :: ws)).zipIdx.map fun p => PyData.tuple [.int (p.2 : Nat), p.1]).length := by simp; omega
    obtain ⟨j', ws, e1, e2, e3⟩ := l2 j _ w (List.getElem?_eq_getElem hj2) h
    simp only [List.getElem_map, List.getElem_zipIdx, PyData.tuple.injEq, List.cons.injEq, PyData.int.injEq] at e1
    have : j' = j := by omega
    subst this
    rcases e3 with e3 | e3
    · exact .inl e3
    · exact .inr ⟨ws, e2, e3⟩
/-- turns -/
def subs : Nat → List (List Nat)
  | 0 => [[]]
  | n + 1 => subs n ++ (subs n).map (· ++ [n + 1])
theorem subs_len : ∀ n, (subs n).length = 2 ^ n
  | 0 => rfl
  | n + 1 => by rw [subs, List.length_append, List.length_map, subs_len n]; omega
theorem subs_mem : ∀ n t, t ∈ subs n → ∀ x ∈ t, 1 ≤ x ∧ x ≤ n
  | 0, t, h, x, hx => by
    rw [subs, List.mem_singleton] at h
    subst h
    cases hx
  | n + 1, t, h, x, hx => by
    rw [subs, List.mem_append, List.mem_map] at h
    rcases h with h | ⟨s, h, rfl⟩
    · have := subs_mem n t h x hx; omega
    · rw [List.mem_append, List.mem_singleton] at hx
      rcases hx with hx | hx
      · have := subs_mem n s h x hx; omega
      · omega
theorem subs_few : ∀ n t, t ∈ subs n → t.length ≤ n
  | 0, t, h => by
    rw [subs, List.mem_singleton] at h
    subst h
    simp
  | n + 1, t, h => by
    rw [subs, List.mem_append, List.mem_map] at h
    rcases h with h | ⟨s, h, rfl⟩
    · have := subs_few n t h; omega
    · have := subs_few n s h; simp; omega
theorem turns_ok {many : Nat} (h1 : 1 ≤ many) (h2 : many ≤ 7) {i : Int} (hi : i = many) : f_l_turns [.int i] = some (.list (((subs (many - 1)).drop 1).map wD)) := by
  have : W (f_l_turns [.int i]) fun d => d = .list (((subs (many - 1)).drop 1).map wD) := by
    refine W_run ?_
    simp only [den_l_turns, ex_all]
    simp only [↓ev_all, ↓eg]
    refine ⟨rg_ok (by omega) (by omega) (by omega) (by omega), ?_⟩
    refine W_forR (fun i' ρ => ∃ u v : Option SV, ρ = [some (.val (.int i)), some (.val (.list ((subs i').map wD))), u, v]) ⟨_, _, rfl⟩ ?zEnd ?zStep
    case zEnd =>
      rintro ρ ⟨u, v, rfl⟩
      simp only [↓ev_all, ↓eg]
      have e : (i - 1).toNat = many - 1 := by omega
      rw [e]
      have e2 := cut_all ((subs (many - 1)).map wD) 1
      rw [show ((1 : Nat) : Int) = 1 from rfl] at e2
      rw [e2, List.map_drop]
    case zStep =>
      rintro j ρ hj ⟨u, v, rfl⟩
      simp only [↓ev_all, ↓eg]
      have hlen := subs_len j
      have hp : 2 ^ j ≤ 2 ^ 6 := Nat.pow_le_pow_right (by omega) (by omega)
      refine W.of (comp_map (fun d => match d with | .tuple ws => .tuple (ws ++ [.int (1 + j)]) | _ => .none) ((subs j).map wD) fun x hx => ?_) ?_
      · obtain ⟨t, ht, rfl⟩ := List.mem_map.mp hx
        have hf := subs_few j t ht
        simp only [wipeE, List.set_cons_succ, List.set_cons_zero]
        simp only [↓ev_all, ↓eg]
        have : W (d2 aAdd (dVarB 3) (dTup [dVar 2]) [some (SV.val (.int i)), some (SV.val (PyData.list ((subs j).map wD))), some (SV.val (.int (1 + j))), some (SV.val (wD t))]) fun d => d = .tuple (nD t ++ [.int (1 + j)]) := by
          unfold wD
          simp only [↓ev_all, ↓eg]
          exact ⟨by simp [nD_len]; show _ ≤ 16777216; omega, by trivial⟩
        obtain ⟨d, h2, rfl⟩ := this
        exact h2
      · refine ⟨by simp; show _ ≤ 16777216; omega, some (.val (.int (1 + j))), v, ?_⟩
        rw [List.map_map, subs, List.map_append, List.map_map]
        have e : (1 : Int) + j = ((j + 1 : Nat) : Int) := by omega
        rw [e]
        congr 6
        refine List.map_congr_left fun t _ => ?_
        show PyData.tuple (nD t ++ [.int ((j + 1 : Nat) : Int)]) = wD (t ++ [j + 1])
        rw [nD_app]; rfl
  obtain ⟨d, h2, rfl⟩ := this
  exact h2
def TurnOk (many : Nat) (t : List Nat) : Prop := t ∈ (subs (many - 1)).drop 1
theorem TurnOk.lt {many : Nat} {t : List Nat} (h : TurnOk many t) {x : Nat} (hx : x ∈ t) : 1 ≤ x ∧ x < many := by
  have := subs_mem _ t (List.mem_of_mem_drop h) x hx
  omega
theorem run_ok (ns : List Int) {many most : Nat} {att : Int} (ha : 0 ≤ att) (ha2 : att < 900) (h2 : 2 ≤ many) (h7 : many ≤ 7) (hm : most ≤ 100) {i : Int} (hi : i = many) : W (f_l_run [scrD ns, .int att, .int i, .int most]) fun d => ∃ ts : List (List Nat), d = .list (ts.map wD) ∧ ts.length ≤ most ∧ ∀ t ∈ ts, TurnOk many t := by
  refine W_run ?_
  simp only [den_l_run, ex_all]
  simp only [↓ev_all, ↓eg]
  refine (draws_int ns (by omega) (by omega) (by omega) (by omega) (by omega) (by omega)).mono fun d ⟨xs, hd, hl, hx⟩ => ?_
  subst hd
  try simp only [↓ev_all, ↓eg]
  refine W.of (turns_ok (by omega) h7 hi) ?_
  try simp only [↓ev_all, ↓eg]
  refine W_draw hx (by omega) (by omega) fun a ha => ?_
  try simp only [↓ev_all, ↓eg]
  have b1 := mod_b a (most + 1) (by omega)
  refine ⟨by omega, W_draw hx (by omega) (by omega) fun b hb => ?_⟩
  try simp only [↓ev_all, ↓eg]
  have b2 := mod_b b 2 (by omega)
  refine ⟨by omega, ?_⟩
  refine (W_at2' (Q := fun d => ∃ n : Nat, d = .int n ∧ n ≤ most) b2.1 b2.2 (fun _ => ?_) (fun _ => ⟨_, rfl, by omega⟩)).mono fun d ⟨n, hd, n6⟩ => ?_
  · obtain ⟨m, hm⟩ := Int.eq_ofNat_of_zero_le b1.1
    exact ⟨m, by rw [hm], by omega⟩
  subst hd
  try simp only [↓ev_all, ↓eg]
  have e2 : PF.cutD (iD xs) none (some (n : Int)) = iD (xs.take n) := by rw [cut_to]; unfold iD; rw [List.map_take]
  rw [e2]
  have hpos : 0 < ((subs (many - 1)).drop 1).length := by
    rw [List.length_drop, subs_len]
    have : 2 ^ 1 ≤ 2 ^ (many - 1) := Nat.pow_le_pow_right (by omega) (by omega)
    omega
  refine W_comp_all (α := List Nat) (to := wD) (R := fun x t => TurnOk many t) _ (fun x hx' => ?_) fun ts l1 l2 => ?_
  · obtain ⟨v, hv, rfl⟩ := List.mem_map.mp hx'
    simp only [wipeE, List.set_cons_succ, List.set_cons_zero]
    simp only [↓ev_all, ↓eg]
    rw [List.length_map]
    have b := mod_b v (((subs (many - 1)).drop 1).length : Nat) (by omega)
    refine ⟨by omega, W_at b.1 (by rw [List.length_map]; exact b.2) fun v hv => ?_⟩
    obtain ⟨w, hw, rfl⟩ := List.mem_map.mp (List.mem_of_getElem? hv)
    exact ⟨w, rfl, hw⟩
  · try simp only [↓ev_all, ↓eg]
    rw [iD_len, List.length_take] at l1
    refine ⟨ts, rfl, by omega, fun t ht => ?_⟩
    obtain ⟨j, hj⟩ := List.getElem?_of_mem ht
    have hj2 : j < (iD (xs.take n)).length := by rw [iD_len, List.length_take]; have := (List.getElem?_eq_some_iff.mp hj).1; omega
    exact l2 j _ t (List.getElem?_eq_getElem hj2) hj
def madeS (ls : List (List (List Nat))) (st : List (List Nat)) (t : List Nat) : List (List Nat) := (List.range st.length).map fun x => if x ∈ t then pick st (ls.getD (x - 1) []) else st.getD x []
theorem made_ok {most many : Nat} {rs : List (Nat × Nat)} {ls : List (List (List Nat))} {st : List (List Nat)} {t : List Nat} (g : GOk most many rs ls) (h7 : most ≤ 7) (hs : StOk many ls st) (ht : ∀ x ∈ t, 1 ≤ x ∧ x < many) : f_l_made [gD many rs ls, sD st, wD t] = some (sD (madeS ls st t)) ∧ StOk many ls (madeS ls st t) := by
  have hlo := g.lo
  have hhi := g.hi
  have hlen := g.len
  have hsl := hs.len
  constructor
  · have : W (f_l_made [gD many rs ls, sD st, wD t]) fun d => d = sD (madeS ls st t) := by
      refine W_run ?_
      simp only [den_l_made, ex_all]
      simp only [↓ev_all, ↓eg]
      refine ⟨rg_ok (by omega) (by omega) (by omega) (by omega), ?_⟩
      have er : rgD 0 (many : Int) = (List.range many).map fun x => PyData.int (x : Nat) := by
        unfold rgD rgI
        rw [List.map_map]
        have : ((many : Int) - 0).toNat = many := by omega
        rw [this]
        refine List.map_congr_left fun x _ => ?_
        simp
      refine W.of (comp_map (fun d => match d with | .int x => wD (if x.toNat ∈ t then pick st (ls.getD (x.toNat - 1) []) else st.getD x.toNat []) | _ => .none) (rgD 0 many) fun x hx => ?_) ?_
      · obtain ⟨n, rfl, hn⟩ := rg_mem hx
        have e0 : (0 : Int) + (n : Int) = (n : Nat) := by omega
        rw [e0] at hn ⊢
        simp only [wipeE, List.set_cons_succ, List.set_cons_zero]
        simp only [↓ev_all, ↓eg]
        have : W (dIf (d2 (aCmp .In) (dVarB 3) (dVarB 2)) (dCall f_l_choice [(dVar 0), (dVar 1), (dVar 3)]) (d2 aIx (dVarB 1) (dVarB 3)) [some (SV.val (gD many rs ls)), some (SV.val (sD st)), some (SV.val (wD t)), some (SV.val (.int (n : Nat)))]) fun d => d = wD (if n ∈ t then pick st (ls.getD (n - 1) []) else st.getD n []) := by
          simp only [↓ev_all, ↓eg]
          unfold wD
          rw [W_inTP 0 0 (by omega) (by omega) (pl_int _ _) fun d hd => nD_pl hd 0]
          simp only [↓ev_all, ↓eg]
          refine ⟨fun h => ?_, fun h => ?_⟩
          · have hm := nD_mem.mp h
            obtain ⟨ws, e1, hw⟩ := ls_get g (ht n hm).1 (ht n hm).2
            refine W.of (lchoice_ok (most := most) (ht n hm).1 e1 hw hsl rfl) ?_
            rw [if_pos hm, List.getD_eq_getElem?_getD, e1]
            rfl
          · have hm : ¬n ∈ t := fun z => h (nD_mem.mpr z)
            rw [if_neg hm]
            refine st_at (j := n) rfl (List.getElem?_eq_getElem (by omega)) ?_
            rw [List.getD_eq_getElem?_getD, List.getElem?_eq_getElem (by omega)]
            rfl
        obtain ⟨d, h2, rfl⟩ := this
        exact h2
      · try simp only [↓ev_all, ↓eg]
        unfold sD madeS
        rw [er, List.map_map, List.map_map, hsl]
        rfl
    obtain ⟨d, h2, rfl⟩ := this
    exact h2
  · refine ⟨by unfold madeS; simp [hsl], ?_, fun j w h => ?_⟩
    · unfold madeS
      rw [List.getElem?_map, List.getElem?_range (by omega), Option.map_some, if_neg fun z => by have := (ht 0 z).1; omega, List.getD_eq_getElem?_getD, hs.hall]
      rfl
    · unfold madeS at h
      rw [List.getElem?_map] at h
      have hj : j + 1 < many := by
        by_cases z : j + 1 < many
        · exact z
        · rw [List.getElem?_eq_none (by simp; omega)] at h; cases h
      rw [List.getElem?_range (by omega), Option.map_some] at h
      by_cases hm : j + 1 ∈ t
      · rw [if_pos hm] at h
        obtain ⟨ws, e1, hw⟩ := ls_get g (ht _ hm).1 (ht _ hm).2
        rw [List.getD_eq_getElem?_getD, e1] at h
        cases h
        rcases pick_mem st ws with z | z
        · exact .inl z
        · exact .inr ⟨ws, e1, z⟩
      · rw [if_neg hm, List.getD_eq_getElem?_getD, List.getElem?_eq_getElem (by omega)] at h
        exact hs.own j w (by rw [List.getElem?_eq_getElem (by omega)]; exact h)
end LW
namespace PF
open PySem PySem.Spec PyProof.Rows L2
theorem W_isi (ks : List Kd) (f : Den) (ρ : Env) (Q : D → Prop) : W (dIsi ks f ρ) Q = W (f ρ) fun d => W (aIsi ks d) Q := by unfold dIsi; rw [W_bind]
theorem W_isiI (ks : List Kd) (i : Int) (Q : D → Prop) : W (aIsi ks (.int i)) Q = Q (.bool (ks.any (isK · (.int i)))) := W_some _ _
theorem W_isiB (ks : List Kd) (b : Bool) (Q : D → Prop) : W (aIsi ks (.bool b)) Q = Q (.bool (ks.any (isK · (.bool b)))) := W_some _ _
theorem W_isiN (ks : List Kd) (Q : D → Prop) : W (aIsi ks .none) Q = Q (.bool (ks.any (isK · .none))) := W_some _ _
theorem W_isiS (ks : List Kd) (s : Str) (Q : D → Prop) : W (aIsi ks (.str s)) Q = Q (.bool (ks.any (isK · (.str s)))) := W_some _ _
theorem W_isiL (ks : List Kd) (ds : List D) (Q : D → Prop) : W (aIsi ks (.list ds)) Q = Q (.bool (ks.any (isK · (.list ds)))) := W_some _ _
theorem W_isiT (ks : List Kd) (ds : List D) (Q : D → Prop) : W (aIsi ks (.tuple ds)) Q = Q (.bool (ks.any (isK · (.tuple ds)))) := W_some _ _
theorem W_eqB (a b : Bool) (Q : D → Prop) : W (aCmp .Eq (.bool a) (.bool b)) Q = Q (.bool (decide (a = b))) := by
  show W (aEq _ _) Q = _
  unfold aEq
  rw [if_pos ⟨by simp [SeqAt.shaped, PyData.canLay0, PyData.depth], by simp [SeqAt.shaped, PyData.canLay0, PyData.depth]⟩, W_some]
  cases a <;> cases b <;> simp [PyData.eqv]
theorem W_neB (a b : Bool) (Q : D → Prop) : W (aCmp .NotEq (.bool a) (.bool b)) Q = Q (.bool (decide (¬a = b))) := by
  show W (aNe _ _) Q = _
  unfold aNe
  rw [if_pos ⟨by simp [SeqAt.shaped, PyData.canLay0, PyData.depth], by simp [SeqAt.shaped, PyData.canLay0, PyData.depth]⟩, W_some]
  cases a <;> cases b <;> simp [PyData.eqv]
theorem bools_map : ∀ bs : List Bool, boolsOf (bs.map PyData.bool) = some bs
  | [] => rfl
  | b :: bs => by rw [List.map_cons, boolsOf, bools_map bs]; rfl
theorem ints_map : ∀ bs : List Int, intsOf (bs.map PyData.int) = some bs
  | [] => rfl
  | b :: bs => by rw [List.map_cons, intsOf, ints_map bs]; rfl
theorem W_all (bs : List Bool) (Q : D → Prop) : W (bAll [.list (bs.map PyData.bool)]) Q = Q (.bool (bs.all id)) := by
  show W ((boolsOf _).map _) Q = _
  rw [bools_map]
  exact W_some _ _
theorem W_any (bs : List Bool) (Q : D → Prop) : W (bAny [.list (bs.map PyData.bool)]) Q = Q (.bool (bs.any id)) := by
  show W ((boolsOf _).map _) Q = _
  rw [bools_map]
  exact W_some _ _
theorem W_sum (bs : List Int) (Q : D → Prop) : W (bSum [.list (bs.map PyData.int)]) Q = Q (.int bs.sum) := by
  show W ((intsOf _).map _) Q = _
  rw [ints_map]
  exact W_some _ _
def e2 := And.intro @W_isi <| And.intro @W_isiI <| And.intro @W_isiB <| And.intro @W_isiN <| And.intro @W_isiS <| And.intro @W_isiL <| And.intro @W_isiT <| And.intro @W_eqB <| @W_neB
/-- range(a, b) as typed items -/
theorem rg_map (a : Nat) {x : Int} {b : Int} (hx : x = a) : rgD x b = (List.range (b - a).toNat).map fun n => PyData.int ((a + n : Nat) : Int) := by
  subst hx
  unfold rgD rgI
  rw [List.map_map]
  refine List.map_congr_left fun n _ => ?_
  simp
/-- a comprehension over typed items -/
theorem comp_typed {α : Type} {b : D → Env → Option Env} {e : Den} {ρ0 : Env} (as : List α) (to g : α → D) (h : ∀ a ∈ as, W (b (to a) ρ0) fun ρ1 => W (e ρ1) fun d => d = g a) : compL b (fun _ => some true) e ρ0 (as.map to) = some (as.map g) := by
  induction as with
  | nil => rfl
  | cons a as ih =>
    obtain ⟨ρ1, e1, d, e2, rfl⟩ := h a (List.mem_cons_self ..)
    rw [List.map_cons]
    unfold compL
    rw [e1, Option.bind_some, Option.bind_some, if_pos rfl, e2, ih fun a ha => h a (List.mem_cons_of_mem _ ha)]
    rfl
/-- the same with a test -/
theorem comp_typed_if {α : Type} {b : D → Env → Option Env} {c : Env → Option Bool} {e : Den} {ρ0 : Env} (as : List α) (to g : α → D) (p : α → Bool) (h : ∀ a ∈ as, W (b (to a) ρ0) fun ρ1 => W (c ρ1) fun k => k = p a ∧ (k = true → W (e ρ1) fun d => d = g a)) : compL b c e ρ0 (as.map to) = some ((as.filter p).map g) := by
  induction as with
  | nil => rfl
  | cons a as ih =>
    obtain ⟨ρ1, e1, k, e2, hk, h3⟩ := h a (List.mem_cons_self ..)
    have ih' := ih fun a ha => h a (List.mem_cons_of_mem _ ha)
    rw [List.map_cons]
    unfold compL
    rw [e1, Option.bind_some, e2, Option.bind_some, ih']
    by_cases hp : p a = true
    · rw [hp] at hk
      obtain ⟨d, e4, rfl⟩ := h3 hk
      rw [if_pos hk, e4, List.filter_cons_of_pos hp]; rfl
    · have : k ≠ true := fun z => hp (hk ▸ z)
      rw [if_neg this, List.filter_cons_of_neg hp]
theorem W_eq {o : Option D} {d : D} (h : W o fun x => x = d) : o = some d := by
  obtain ⟨x, h2, rfl⟩ := h
  exact h2
end PF
namespace LW
open PySem PySem.Spec PyProof.Rows L2 PF
/-- the choices of all houses -/
def chs (ls : List (List (List Nat))) (st : List (List Nat)) : List (List Nat) := [0] :: ls.map (pick st)
theorem ls_choice {most many : Nat} {rs : List (Nat × Nat)} {ls : List (List (List Nat))} {st : List (List Nat)} (g : GOk most many rs ls) (hs : st.length = many) {n : Nat} (hn : n + 1 < many) {i : Int} (hi : i = (1 + n : Nat)) : f_choice [gD many rs ls, sD st, .int i] = some (wD (pick st (ls.getD n []))) ∧ f_l_choice [gD many rs ls, sD st, .int i] = some (wD (pick st (ls.getD n []))) := by
  obtain ⟨ws, q1, q2⟩ := ls_get (h := n + 1) g (by omega) (by omega)
  rw [show n + 1 - 1 = n by omega] at q1
  rw [List.getD_eq_getElem?_getD, q1]
  exact ⟨choice_ok (most := most) (h := n + 1) (by omega) q1 q2 hs (by omega), lchoice_ok (most := most) (h := n + 1) (by omega) q1 q2 hs (by omega)⟩
theorem map_getD (ls : List (List (List Nat))) (f : List (List Nat) → List Nat) : (List.range ls.length).map (fun n => f (ls.getD n [])) = ls.map f := by
  refine List.ext_getElem (by simp) fun i h1 h2 => ?_
  simp only [List.getElem_map, List.getElem_range]
  rw [List.getD_eq_getElem?_getD, List.getElem?_eq_getElem (by simpa using h2)]
  rfl
theorem choices_ok {most many : Nat} {rs : List (Nat × Nat)} {ls : List (List (List Nat))} {st : List (List Nat)} (g : GOk most many rs ls) (h7 : most ≤ 100) (hs : st.length = many) : f_choices [gD many rs ls, sD st] = some (sD (chs ls st)) := by
  have hlo := g.lo
  have hhi := g.hi
  have hlen := g.len
  refine W_eq (W_run ?_)
  simp only [den_choices, ex_all]
  simp only [↓ev_all, ↓eg]
  refine ⟨rg_ok (by omega) (by omega) (by omega) (by omega), ?_⟩
  rw [rg_map 1 (by rfl)]
  have e0 : ((many : Int) - ((1 : Nat) : Int)).toNat = ls.length := by omega
  rw [e0]
  refine W.of (comp_typed _ _ (fun n => wD (pick st (ls.getD n []))) fun n hn => ?_) ?_
  · have := List.mem_range.mp hn
    simp only [wipeE, List.set_cons_succ, List.set_cons_zero]
    simp only [↓ev_all, ↓eg]
    exact W.of (ls_choice g hs (n := n) (by omega) rfl).1 rfl
  · try simp only [↓ev_all, ↓eg]
    refine ⟨by simp; show _ ≤ 16777216; omega, ?_⟩
    unfold sD chs
    rw [List.map_cons, ← map_getD ls (pick st), List.map_map]
    rfl
theorem steady_ok {most many : Nat} {rs : List (Nat × Nat)} {ls : List (List (List Nat))} {st : List (List Nat)} (g : GOk most many rs ls) (h7 : most ≤ 100) (hs : st.length = many) : f_is_steady [gD many rs ls, sD st] = some (.bool (decide (chs ls st = st))) := by
  refine W_eq (W_run ?_)
  simp only [den_is_steady, ex_all]
  simp only [↓ev_all, ↓eg]
  refine W.of (choices_ok g h7 hs) ?_
  try simp only [↓ev_all, ↓eg]
theorem lsteady_ok {most many : Nat} {rs : List (Nat × Nat)} {ls : List (List (List Nat))} {st : List (List Nat)} (g : GOk most many rs ls) (h7 : most ≤ 100) (hs : st.length = many) (h0 : st[0]? = some [0]) : f_l_steady [gD many rs ls, sD st] = some (.bool (decide (chs ls st = st))) := by
  have hlo := g.lo
  have hhi := g.hi
  have hlen := g.len
  refine W_eq (W_run ?_)
  simp only [den_l_steady, ex_all]
  simp only [↓ev_all, ↓eg]
  refine ⟨rg_ok (by omega) (by omega) (by omega) (by omega), ?_⟩
  rw [rg_map 1 (by rfl)]
  have e0 : ((many : Int) - ((1 : Nat) : Int)).toNat = ls.length := by omega
  rw [e0]
  refine W.of (comp_typed _ _ (fun n => .bool (decide (pick st (ls.getD n []) = st.getD (1 + n) []))) fun n hn => ?_) ?_
  · have := List.mem_range.mp hn
    simp only [wipeE, List.set_cons_succ, List.set_cons_zero]
    simp only [↓ev_all, ↓eg]
    refine W.of (ls_choice g hs (n := n) (by omega) rfl).2 ?_
    refine st_at (j := 1 + n) rfl (List.getElem?_eq_getElem (by omega)) ?_
    try simp only [↓ev_all, ↓eg]
    rw [List.getD_eq_getElem?_getD (l := st), List.getElem?_eq_getElem (by omega)]
    rfl
  · have eb : (List.range ls.length).map (fun n => PyData.bool (decide (pick st (ls.getD n []) = st.getD (1 + n) []))) = ((List.range ls.length).map fun n => decide (pick st (ls.getD n []) = st.getD (1 + n) [])).map PyData.bool := by rw [List.map_map]; rfl
    rw [eb]
    simp only [↓ev_all, ↓eg, ↓W_all]
    congr 1
    rw [Bool.eq_iff_iff, List.all_eq_true, decide_eq_true_eq]
    constructor
    · intro h
      refine List.ext_getElem? fun i => ?_
      cases i with
      | zero => rw [h0]; rfl
      | succ i =>
        show (ls.map (pick st))[i]? = _
        by_cases hi : i < ls.length
        · have := h (decide (pick st (ls.getD i []) = st.getD (1 + i) [])) (List.mem_map.mpr ⟨i, List.mem_range.mpr hi, rfl⟩)
          simp only [id, decide_eq_true_eq] at this
          rw [List.getElem?_map, List.getElem?_eq_getElem hi, Option.map_some]
          rw [List.getD_eq_getElem?_getD, List.getElem?_eq_getElem hi, List.getD_eq_getElem?_getD, List.getElem?_eq_getElem (by omega)] at this
          simp only [Option.getD_some] at this
          rw [this, List.getElem?_eq_getElem (by omega)]
          congr 2
          omega
        · rw [List.getElem?_eq_none (by simp; omega), List.getElem?_eq_none (by omega)]
    · intro h b hb
      obtain ⟨n, hn, rfl⟩ := List.mem_map.mp hb
      have hn' := List.mem_range.mp hn
      simp only [id, decide_eq_true_eq]
      have := congrArg (fun l : List (List Nat) => l[n + 1]?) h
      simp only [chs, List.getElem?_cons_succ, List.getElem?_map] at this
      rw [List.getElem?_eq_getElem hn', Option.map_some] at this
      rw [List.getD_eq_getElem?_getD, List.getElem?_eq_getElem hn', List.getD_eq_getElem?_getD, show 1 + n = n + 1 by omega, ← this]
      rfl
theorem truly_ok (a b : Bool) : f_l_truly [.bool a, .bool b] = some (.bool (decide (a = b))) := by
  refine W_eq (W_run ?_)
  simp only [den_l_truly, ex_all]
  simp only [↓ev_all, ↓eg, ↓e2]
  exact ⟨true, rfl, fun _ => by trivial, fun z => by cases z⟩
theorem pmade_ok {most many : Nat} {rs : List (Nat × Nat)} {ls : List (List (List Nat))} {st : List (List Nat)} {t : List Nat} (g : GOk most many rs ls) (h7 : most ≤ 7) (hs : StOk many ls st) (ht : ∀ x ∈ t, 1 ≤ x ∧ x < many) : f_made [gD many rs ls, sD st, wD t] = some (sD (madeS ls st t)) := by
  have hlo := g.lo
  have hhi := g.hi
  have hlen := g.len
  have hsl := hs.len
  refine W_eq (W_run ?_)
  simp only [den_made, ex_all]
  simp only [↓ev_all, ↓eg]
  rw [enumD_eq, List.zipIdx_map, List.map_map]
  refine W.of (comp_typed _ _ (fun p => wD (if p.2 ∈ t then pick st (ls.getD (p.2 - 1) []) else p.1)) fun p hp => ?_) ?_
  · obtain ⟨w, j⟩ := p
    have hj : st[j]? = some w := List.mem_zipIdx_iff_getElem?.mp hp
    have hjl := (List.getElem?_eq_some_iff.mp hj).1
    simp only [wipeE, List.set_cons_succ, List.set_cons_zero, Function.comp, Prod.map, id]
    simp only [↓ev_all, ↓eg]
    unfold wD
    rw [W_inTP 0 0 (by omega) (by omega) (pl_int _ _) fun d hd => nD_pl hd 0]
    simp only [↓ev_all, ↓eg]
    refine ⟨fun h => ?_, fun h => ?_⟩
    · have hm := nD_mem.mp h
      have := ht j hm
      rw [if_pos hm]
      exact W.of (ls_choice g hsl (n := j - 1) (by omega) (by omega)).1 rfl
    · have hm : ¬j ∈ t := fun z => h (nD_mem.mpr z)
      rw [if_neg hm]
  · try simp only [↓ev_all, ↓eg]
    unfold sD madeS
    rw [List.map_map]
    congr 1
    refine List.ext_getElem (by simp) fun i h1 h2 => ?_
    simp only [List.getElem_map, List.getElem_zipIdx, List.getElem_range, Function.comp]
    have hi : i < st.length := by simpa using h1
    rw [List.getD_eq_getElem?_getD (l := st), List.getElem?_eq_getElem hi]
    simp
end LW
namespace PF
open PySem PySem.Spec PyProof.Rows L2
theorem Enc.comap {α β : Type} [DecidableEq α] [DecidableEq β] {lt : α → α → Bool} {to : α → D} (h : Enc to lt) (f : β → α) (hf : ∀ a b, f a = f b → a = b) : Enc (fun b => to (f b)) (fun a b => lt (f a) (f b)) :=
  ⟨fun a b => h.alike _ _, fun a b => by rw [h.eqv]; exact decide_eq_decide.mpr ⟨hf a b, fun e => by rw [e]⟩, fun a b => h.lt_eq _ _⟩
theorem Ordr.comap {α β : Type} {lt : α → α → Bool} (h : Ordr lt) (f : β → α) (hf : ∀ a b, f a = f b → a = b) : Ordr (fun a b => lt (f a) (f b)) :=
  ⟨fun a => h.irr _, fun a b c => h.tr _ _ _, fun a b h1 h2 => hf a b (h.tot _ _ h1 h2)⟩
theorem zipD_eq : ∀ (xs ys : List D), zipD xs ys = (xs.zip ys).map fun p => PyData.tuple [p.1, p.2]
  | [], _ => by simp [zipD]
  | _ :: _, [] => by simp [zipD]
  | x :: xs, y :: ys => by simp [zipD, zipD_eq xs ys]
end PF
namespace LW
open PySem PySem.Spec PyProof.Rows L2 PF
def pr2 (r : Nat × Nat) : List Nat := [r.1, r.2]
theorem pr2_inj (a b : Nat × Nat) (h : pr2 a = pr2 b) : a = b := by
  unfold pr2 at h
  simp only [List.cons.injEq, and_true] at h
  exact Prod.ext h.1 h.2
def rlt (a b : Nat × Nat) : Bool := lxLt natLt (pr2 a) (pr2 b)
theorem encR : Enc rD rlt := encNat.tup.comap pr2 pr2_inj
theorem ordR : Ordr rlt := ordNat.lx.comap pr2 pr2_inj
def tD (many : Nat) (ss ps : List (Nat × Nat)) : D := .tuple [.int (many : Nat), rsD ss, rsD ps]
def nrm (r : Nat × Nat) : Nat × Nat := (min r.1 r.2, max r.1 r.2)
structure TrOk (most many : Nat) (ss ps : List (Nat × Nat)) : Prop where
  lo : 2 ≤ many
  hi : many ≤ most
  sal : ss.Pairwise fun a b => rlt a b = true
  per : ps.Pairwise fun a b => rlt a b = true
  nd : (ss.map nrm ++ ps).Nodup
  mem : ∀ r ∈ ss.map nrm ++ ps, r ∈ prs many
theorem rlt_iff (a b : Nat × Nat) : rlt a b = true ↔ a.1 < b.1 ∨ a.1 = b.1 ∧ a.2 < b.2 := by
  unfold rlt pr2
  simp only [lxLt, natLt]
  by_cases h : a.1 = b.1
  · rw [if_pos h]
    by_cases h2 : a.2 = b.2
    · rw [if_pos h2]; simp; omega
    · rw [if_neg h2]; simp only [decide_eq_true_eq]; omega
  · rw [if_neg h]; simp only [decide_eq_true_eq]; omega
theorem W_tupL' (ds : List D) (Q : D → Prop) : W (bTuple [.list ds]) Q = Q (.tuple ds) := W_some _ _
/-- what is done ahead of (i, j) -/
def Ahead (i j : Nat) (r : Nat × Nat) : Prop := r.1 < i ∨ r.1 = i ∧ r.2 < j
structure TrI (many i j : Nat) (ss ps : List (Nat × Nat)) : Prop where
  per : ps.Pairwise fun a b => rlt a b = true
  nd : (ss.map nrm ++ ps).Nodup
  mem : ∀ r ∈ ss.map nrm ++ ps, r ∈ prs many
  ah : ∀ r ∈ ss.map nrm ++ ps, Ahead i j r
theorem TrI.skip {many i j : Nat} {ss ps : List (Nat × Nat)} (h : TrI many i j ss ps) : TrI many i (j + 1) ss ps := ⟨h.per, h.nd, h.mem, fun r hr => by have := h.ah r hr; unfold Ahead at *; omega⟩
theorem TrI.next {many i j : Nat} {ss ps : List (Nat × Nat)} (h : TrI many i j ss ps) : TrI many (i + 1) (i + 2) ss ps := ⟨h.per, h.nd, h.mem, fun r hr => by have := h.ah r hr; unfold Ahead at *; omega⟩
theorem TrI.sale {many i j : Nat} {ss ps : List (Nat × Nat)} (h : TrI many i j ss ps) (hij : i < j) (hj : j < many) {r : Nat × Nat} (hr : nrm r = (i, j)) : TrI many i (j + 1) (ss ++ [r]) ps := by
  have hp : (ss.map nrm ++ (i, j) :: ps).Perm ((i, j) :: (ss.map nrm ++ ps)) := List.perm_middle
  have e : (ss ++ [r]).map nrm ++ ps = ss.map nrm ++ (i, j) :: ps := by simp [hr]
  refine ⟨h.per, ?_, ?_, ?_⟩
  · rw [e, hp.nodup_iff, List.nodup_cons]
    refine ⟨fun hm => ?_, h.nd⟩
    have := h.ah _ hm
    unfold Ahead at this
    omega
  · intro q hq
    rw [e] at hq
    rcases List.mem_cons.mp (hp.subset hq) with rfl | hq
    · rw [prs_mem]; omega
    · exact h.mem q hq
  · intro q hq
    rw [e] at hq
    rcases List.mem_cons.mp (hp.subset hq) with rfl | hq
    · unfold Ahead; omega
    · have := h.ah q hq; unfold Ahead at *; omega
theorem TrI.peer {many i j : Nat} {ss ps : List (Nat × Nat)} (h : TrI many i j ss ps) (hij : i < j) (hj : j < many) : TrI many i (j + 1) ss (ps ++ [(i, j)]) := by
  have e : ss.map nrm ++ (ps ++ [(i, j)]) = (ss.map nrm ++ ps) ++ [(i, j)] := by simp
  refine ⟨?_, ?_, ?_, ?_⟩
  · rw [List.pairwise_append]
    refine ⟨h.per, by simp, fun a ha b hb => ?_⟩
    rw [List.mem_singleton] at hb
    subst hb
    have := h.ah a (List.mem_append_right _ ha)
    rw [rlt_iff]
    unfold Ahead at this
    exact this
  · rw [e, List.nodup_append]
    refine ⟨h.nd, by simp, fun a ha b hb z => ?_⟩
    rw [List.mem_singleton] at hb
    subst hb z
    have := h.ah _ ha
    unfold Ahead at this
    omega
  · intro q hq
    rw [e, List.mem_append, List.mem_singleton] at hq
    rcases hq with hq | rfl
    · exact h.mem q hq
    · rw [prs_mem]; omega
  · intro q hq
    rw [e, List.mem_append, List.mem_singleton] at hq
    rcases hq with hq | rfl
    · have := h.ah q hq; unfold Ahead at *; omega
    · unfold Ahead; omega
theorem TrI.few {many i j : Nat} {ss ps : List (Nat × Nat)} (h : TrI many i j ss ps) (hm : many ≤ 7) : ss.length + ps.length ≤ 21 := by
  have h1 := List.Nodup.length_le_of_subset h.nd h.mem
  have h2 := prs_len (many := many) (i := many) hm (Nat.le_refl _)
  have h3 : (prs many).length ≤ 21 := h2
  simp only [List.length_append, List.length_map] at h1
  omega
theorem trade_ok (ns : List Int) (att most : Nat) (h1 : att < 900) (h2 : 2 ≤ most) (h3 : most ≤ 7) :
    W (f_l_trade [scrD ns, .int att, .int most]) fun d => ∃ many ss ps, d = tD many ss ps ∧ TrOk most many ss ps := by
  refine W_run ?_
  simp only [den_l_trade, ex_all]
  try simp only [↓ev_all]
  refine (draws_int ns (by omega) (by omega) (by omega) (by omega) (by omega) (by omega)).mono fun d ⟨xs, hd, hl, hx⟩ => ?_
  subst hd
  simp only [↓ev_all]
  refine W_draw hx (by omega) (by omega) fun a ha => ?_
  simp only [↓ev_all]
  refine ⟨by omega, W_draw hx (by omega) (by omega) fun b hb => ?_⟩
  simp only [↓ev_all]
  have b1 := mod_b a (most - 1) (by omega)
  have b2 := mod_b b 3 (by omega)
  refine ⟨by omega, ?_⟩
  refine (W_at3 (Q := fun d => ∃ n : Nat, d = .int n ∧ 2 ≤ n ∧ n ≤ most) b2.1 b2.2 (fun _ => ?_) (fun _ => ⟨_, rfl, by omega, by omega⟩) (fun _ => ?_)).mono fun d ⟨n, hd, n0, n6⟩ => ?_
  · obtain ⟨m, hm⟩ := Int.eq_ofNat_of_zero_le b1.1
    exact ⟨2 + m, by rw [hm]; simp, by omega, by omega⟩
  · exact ⟨min 4 most, by congr 1; omega, by omega, by omega⟩
  subst hd
  simp only [↓ev_all, ↓W_popC]
  refine ⟨rg_ok (by omega) (by omega) (by omega) (by omega), rg_ok (by omega) (by omega) (by omega) (by omega), ?_⟩
  refine (popL_ok _ _ (by rw [rg_len]; omega) (by rw [rg_len]; omega) fun x hx' ys hy => ?_).mono fun p ⟨p1, p2⟩ => ?_
  · obtain ⟨m, rfl, hm⟩ := rg_mem hx'
    simp only [wipeE, List.set_cons_succ, List.set_cons_zero]
    try simp only [↓ev_all]
    refine ⟨rfl, W_draw hx (by omega) (by omega) fun b hb => ?_⟩
    try simp only [↓ev_all]
    have := mod_b b ys.length (by omega)
    exact ⟨by omega, _, rfl, this.1, this.2⟩
  rw [rg_len] at p1
  have hp : ∀ d ∈ p.1, ∃ m : Nat, d = .int m := fun d hd => by
    obtain ⟨m, h, _⟩ := rg_mem (p2.subset (List.mem_append_left _ hd))
    exact ⟨m, by rw [h]; congr 1; omega⟩
  have hget : ∀ i : Int, 0 ≤ i → i < n → ∃ m : Nat, atI p.1 i = some (.int m) := fun i h0 h1 => by
    have hi : i.toNat < p.1.length := by omega
    obtain ⟨m, hm⟩ := hp _ (List.getElem_mem hi)
    exact ⟨m, at_nat (j := i.toNat) (by omega) (by rw [List.getElem?_eq_getElem hi, hm])⟩
  try simp only [↓ev_all, ↓ev4]
  refine ⟨rg_ok (by omega) (by omega) (by omega) (by omega), ?_⟩
  refine W_forR (fun i ρ => ∃ (ss ps : List (Nat × Nat)) (x7 x10 x11 x12 x13 x14 : Option SV), TrI n i (i + 1) ss ps ∧ ρ = [some (.val (scrD ns)), some (.val (.int att)), some (.val (.int most)), some (.val (.list (iD xs))), some (.val (.int n)), some (.own p.2), some (.val (.list p.1)), x7, some (.own (ss.map rD)), some (.own (ps.map rD)), x10, x11, x12, x13, x14]) ⟨[], [], _, _, _, _, _, _, ⟨by simp, by simp, fun r h => (by cases h), fun r h => (by cases h)⟩, rfl⟩ ?zEnd ?zStep
  case zEnd =>
    rintro ρ ⟨ss, ps, x7, x10, x11, x12, x13, x14, hI, rfl⟩
    have hf := hI.few (by omega)
    try simp only [↓ev_all, ↓W_srtL]
    refine ⟨encR.sortOk (n := 1) (fun a => rD_pl a 0) (by omega) _ (.inl fun r _ => rfl) (by show _ ≤ 16777216; omega), ?_⟩
    rw [encR.srt]
    have hss : (ss.map nrm).Nodup := (List.nodup_append.mp hI.nd).1
    have hpm : ((srt rlt ss).map nrm ++ ps).Perm (ss.map nrm ++ ps) := ((srt_perm ss).map nrm).append_right ps
    refine ⟨n, srt rlt ss, ps, rfl, n0, n6, srt_strict ordR (PF.nodup_of_map hss), hI.per, hpm.nodup_iff.mpr hI.nd, fun r hr => hI.mem r (hpm.subset hr)⟩
  case zStep =>
    rintro i ρ hi ⟨ss, ps, x7, x10, x11, x12, x13, x14, hI, rfl⟩
    try simp only [↓ev_all]
    refine ⟨rg_ok (by omega) (by omega) (by omega) (by omega), ?_⟩
    refine W_forR (fun j ρ => ∃ (ss ps : List (Nat × Nat)) (x10 x11 x12 x13 x14 : Option SV), TrI n i (i + 1 + j) ss ps ∧ ρ = [some (.val (scrD ns)), some (.val (.int att)), some (.val (.int most)), some (.val (.list (iD xs))), some (.val (.int n)), some (.own p.2), some (.val (.list p.1)), some (.val (.int (0 + (i : Int)))), some (.own (ss.map rD)), some (.own (ps.map rD)), x10, x11, x12, x13, x14]) ⟨ss, ps, _, _, _, _, _, hI, rfl⟩ ?yEnd ?yStep
    case yEnd =>
      rintro ρ ⟨ss, ps, x10, x11, x12, x13, x14, hI, rfl⟩
      exact ⟨ss, ps, _, _, _, _, _, _, hI.next, rfl⟩
    case yStep =>
      rintro j ρ hj ⟨ss, ps, x10, x11, x12, x13, x14, hI, rfl⟩
      have hf := hI.few (by omega)
      have hrw : PyData.tuple [.int (0 + (i : Int)), .int (0 + (i : Int) + 1 + (j : Int))] = rD (i, i + 1 + j) := by
        unfold rD
        congr 3
        · congr 1; omega
        · congr 2; simp
      have hrv : PyData.tuple [.int (0 + (i : Int)), .int (0 + (i : Int) + 1 + (j : Int))].reverse = rD (i + 1 + j, i) := by
        unfold rD
        simp only [List.reverse_cons, List.reverse_nil, List.nil_append, List.cons_append]
        congr 3
        · congr 1; simp
        · congr 2; omega
      try simp only [↓ev_all]
      refine ⟨by omega, ?_⟩
      refine W_draw hx (by omega) (by omega) fun c hc => ?_
      have hsale : ∀ (r : Nat × Nat), nrm r = (i, i + 1 + j) → ∃ (ss' ps' : List (Nat × Nat)), TrI n i (i + 1 + (j + 1)) ss' ps' ∧ ss.map rD ++ [rD r] = ss'.map rD ∧ ps.map rD = ps'.map rD := fun r hr => ⟨ss ++ [r], ps, hI.sale (by omega) (by omega) hr, by rw [List.map_append]; rfl, rfl⟩
      have hl8 : (ss.map rD).length < sizeLine := by rw [List.length_map]; show _ < 16777216; omega
      have hl9 : (ps.map rD).length < sizeLine := by rw [List.length_map]; show _ < 16777216; omega
      have n1 : nrm (i, i + 1 + j) = (i, i + 1 + j) := by unfold nrm; exact Prod.ext (by simp; omega) (by simp; omega)
      have n2 : nrm (i + 1 + j, i) = (i, i + 1 + j) := by unfold nrm; exact Prod.ext (by simp; omega) (by simp; omega)
      try simp only [↓ev_all]
      refine ⟨by omega, fun _ => ?_, fun _ => ⟨by omega, fun _ => ?_, fun _ => ?_⟩⟩
      · refine W_draw hx (by omega) (by omega) fun c2 hc2 => ?_
        try simp only [↓ev_all]
        refine ⟨by omega, fun _ => ?_, fun _ => ?_⟩
        · obtain ⟨m1, e1⟩ := hget (0 + (i : Int)) (by omega) (by omega)
          obtain ⟨m2, e2⟩ := hget (0 + (i : Int) + 1 + (j : Int)) (by omega) (by omega)
          refine W.of e1 (W.of e2 ?_)
          simp only [↓ev_all, ↓ev4]
          obtain ⟨ss1, ps1, t1, t2, t3⟩ := hsale _ n1
          obtain ⟨ss2, ps2, u1, u2, u3⟩ := hsale _ n2
          exact ⟨fun _ => ⟨hl8, ss1, ps1, _, _, _, _, _, t1, by rw [← t2, ← t3, ← hrw]⟩, fun _ => ⟨hl8, ss2, ps2, _, _, _, _, _, u1, by rw [← u2, ← u3, ← hrv]⟩⟩
        · refine ⟨by omega, by omega, ?_⟩
          simp only [↓ev_all, ↓ev4]
          obtain ⟨ss1, ps1, t1, t2, t3⟩ := hsale _ n1
          obtain ⟨ss2, ps2, u1, u2, u3⟩ := hsale _ n2
          exact ⟨fun _ => ⟨hl8, ss1, ps1, _, _, _, _, _, t1, by rw [← t2, ← t3, ← hrw]⟩, fun _ => ⟨hl8, ss2, ps2, _, _, _, _, _, u1, by rw [← u2, ← u3, ← hrv]⟩⟩
      · refine ⟨hl9, ?_⟩
        exact ⟨ss, ps ++ [(i, i + 1 + j)], _, _, _, _, _, hI.peer (by omega) (by omega), by rw [List.map_append, List.map_cons, List.map_nil, ← hrw]⟩
      · exact ⟨ss, ps, _, _, _, _, _, hI.skip, rfl⟩
end LW
namespace LW
open PySem PySem.Spec PyProof.Rows L2 PF
/-! ### all ways, by a stack -/
/-- a way that has not come to the hall yet -/
structure PartOk (many : Nat) (rs : List (Nat × Nat)) (h : Nat) (p : List Nat) : Prop where
  hd : p[0]? = some h
  nd : p.Nodup
  lt : ∀ x ∈ p, x < many
  nz : 0 ∉ p
  lnk : Lnk rs p
theorem PartOk.ne {many : Nat} {rs : List (Nat × Nat)} {h : Nat} {p : List Nat} (ok : PartOk many rs h p) : ∃ q l, p = q ++ [l] := by
  cases e : p with
  | nil => have := ok.hd; rw [e] at this; cases this
  | cons a r => exact ⟨(a :: r).dropLast, (a :: r).getLast (by simp), (List.dropLast_concat_getLast (by simp)).symm⟩
theorem PartOk.few {many : Nat} {rs : List (Nat × Nat)} {h : Nat} {p : List Nat} (ok : PartOk many rs h p) : p.length + 1 ≤ many := by
  have h0 : (0 :: p).Nodup := List.nodup_cons.mpr ⟨ok.nz, ok.nd⟩
  have hm : h < many := ok.lt h (List.mem_of_getElem? ok.hd)
  have := List.Nodup.length_le_of_subset (l₁ := 0 :: p) (l₂ := List.range many) h0 fun a ha => by
    rcases List.mem_cons.mp ha with rfl | ha
    · exact List.mem_range.mpr (by omega)
    · exact List.mem_range.mpr (ok.lt a ha)
  simpa using this
def nearOf (many : Nat) (rs : List (Nat × Nat)) (p : List Nat) (l : Nat) : List Nat := ((List.range many).filter fun o => decide (¬o ∈ p)).filter fun o => decide ((min l o, max l o) ∈ rs)
theorem nearOf_nd (many : Nat) (rs : List (Nat × Nat)) (p : List Nat) (l : Nat) : (nearOf many rs p l).Nodup := (List.nodup_range.filter _).filter _
theorem nearOf_mem {many : Nat} {rs : List (Nat × Nat)} {p : List Nat} {l o : Nat} : o ∈ nearOf many rs p l ↔ o < many ∧ o ∉ p ∧ (min l o, max l o) ∈ rs := by
  unfold nearOf
  simp only [List.mem_filter, List.mem_range, decide_eq_true_eq]
  exact ⟨fun h => ⟨h.1.1, h.1.2, h.2⟩, fun h => ⟨⟨h.1, h.2.1⟩, h.2.2⟩⟩
theorem lnk_app {rs : List (Nat × Nat)} {q r : List Nat} {l o : Nat} (h : Lnk rs (q ++ [l] ++ o :: r)) : (min l o, max l o) ∈ rs := by
  refine h q.length l o ?_ ?_
  · rw [List.append_assoc, List.getElem?_append_right (Nat.le_refl _), Nat.sub_self]; rfl
  · rw [List.append_assoc, List.getElem?_append_right (by omega)]; simp
theorem lnk_left {rs : List (Nat × Nat)} {q r : List Nat} (h : Lnk rs (q ++ r)) : Lnk rs q := fun i a b ha hb => by
  have h1 := (List.getElem?_eq_some_iff.mp ha).1
  have h2 := (List.getElem?_eq_some_iff.mp hb).1
  exact h i a b (by rw [List.getElem?_append_left h1]; exact ha) (by rw [List.getElem?_append_left h2]; exact hb)
theorem zero_end {many : Nat} {rs : List (Nat × Nat)} {h : Nat} {w p r : List Nat} (ok : WayOk many rs h w) (e : w = p ++ 0 :: r) : r = [] := by
  obtain ⟨v, hv⟩ := ok.last
  cases r with
  | nil => rfl
  | cons a r =>
    exfalso
    have h1 : w[p.length]? = some 0 := by rw [e, List.getElem?_append_right (Nat.le_refl _), Nat.sub_self]; rfl
    have h2 : w[v.length]? = some 0 := by rw [hv, List.getElem?_append_right (Nat.le_refl _), Nat.sub_self]; rfl
    have h3 := nodup_get ok.nd h1 h2
    have h4 := congrArg List.length (e.symm.trans hv)
    simp only [List.length_append, List.length_cons, List.length_nil] at h4
    omega
def kids (many : Nat) (rs : List (Nat × Nat)) (p : List Nat) (l : Nat) : List (List Nat) := ((nearOf many rs p l).filter fun o => decide (¬o = 0)).map fun o => p ++ [o]
def done1 (many : Nat) (rs : List (Nat × Nat)) (p : List Nat) (l : Nat) : List (List Nat) := ((nearOf many rs p l).filter fun o => decide (o = 0)).map fun _ => p ++ [0]
theorem kids_ok {many : Nat} {rs : List (Nat × Nat)} {h : Nat} {q : List Nat} {l : Nat} (ok : PartOk many rs h (q ++ [l])) : ∀ p ∈ kids many rs (q ++ [l]) l, PartOk many rs h p ∧ p.length = q.length + 2 := fun p hp => by
  unfold kids at hp
  obtain ⟨o, ho, rfl⟩ := List.mem_map.mp hp
  rw [List.mem_filter, decide_eq_true_eq, nearOf_mem] at ho
  refine ⟨⟨?_, ?_, ?_, ?_, ok.lnk.add ho.1.2.2⟩, by simp⟩
  · rw [List.getElem?_append_left (by simp)]; exact ok.hd
  · rw [List.nodup_append]
    refine ⟨ok.nd, by simp, fun a ha b hb z => ?_⟩
    rw [List.mem_singleton] at hb
    subst hb z
    exact ho.1.2.1 ha
  · intro x hx
    rw [List.mem_append, List.mem_singleton] at hx
    rcases hx with hx | rfl
    · exact ok.lt x hx
    · exact ho.1.1
  · intro hx
    rw [List.mem_append, List.mem_singleton] at hx
    rcases hx with hx | hx
    · exact ok.nz hx
    · exact ho.2 hx.symm
theorem done1_ok {many : Nat} {rs : List (Nat × Nat)} {h : Nat} {q : List Nat} {l : Nat} (ok : PartOk many rs h (q ++ [l])) : ∀ p ∈ done1 many rs (q ++ [l]) l, WayOk many rs h p := fun p hp => by
  unfold done1 at hp
  obtain ⟨o, ho, rfl⟩ := List.mem_map.mp hp
  rw [List.mem_filter, decide_eq_true_eq, nearOf_mem] at ho
  obtain ⟨⟨h1, h2, h3⟩, rfl⟩ := ho
  refine ⟨?_, ⟨_, rfl⟩, ?_, ?_, ok.lnk.add h3⟩
  · rw [List.getElem?_append_left (by simp)]; exact ok.hd
  · rw [List.nodup_append]
    refine ⟨ok.nd, by simp, fun a ha b hb z => ?_⟩
    rw [List.mem_singleton] at hb
    subst hb z
    exact h2 ha
  · intro x hx
    rw [List.mem_append, List.mem_singleton] at hx
    rcases hx with hx | rfl
    · exact ok.lt x hx
    · exact h1
theorem cnt_zero {α : Type} {l : List α} {P : α → Bool} (h : ∀ a ∈ l, P a = false) : l.countP P = 0 := List.countP_eq_zero.mpr fun a ha => by rw [h a ha]; simp
theorem cnt_one : ∀ {l : List Nat} (nd : l.Nodup) {a : Nat} (h : a ∈ l) (P : Nat → Bool) (hP : ∀ b ∈ l, P b = decide (b = a)), l.countP P = 1
  | [], _, a, h, _, _ => by cases h
  | x :: l, nd, a, h, P, hP => by
    rw [List.nodup_cons] at nd
    by_cases e : x = a
    · subst e
      rw [List.countP_cons_of_pos (by rw [hP x (List.mem_cons_self ..)]; simp), cnt_zero fun b hb => by
        rw [hP b (List.mem_cons_of_mem _ hb), decide_eq_false_iff_not]
        rintro rfl
        exact nd.1 hb]
    · rw [List.countP_cons_of_neg (by rw [hP x (List.mem_cons_self ..)]; simpa using e)]
      rcases List.mem_cons.mp h with h | h
      · exact absurd h.symm e
      · exact cnt_one nd.2 h P fun b hb => hP b (List.mem_cons_of_mem _ hb)
def pf (w p : List Nat) : Bool := p.isPrefixOf w
theorem pf_iff (w p : List Nat) : pf w p = true ↔ p <+: w := List.isPrefixOf_iff_prefix
/-- a step of the stack keeps the count of each way -/
theorem step_cnt {many : Nat} {rs : List (Nat × Nat)} {h : Nat} {q : List Nat} {l : Nat} (ok : PartOk many rs h (q ++ [l])) {w : List Nat} (hw : WayOk many rs h w) :
    (done1 many rs (q ++ [l]) l).count w + (kids many rs (q ++ [l]) l).countP (pf w) = if pf w (q ++ [l]) = true then 1 else 0 := by
  by_cases hp : pf w (q ++ [l]) = true
  · rw [if_pos hp]
    obtain ⟨t, ht⟩ := (pf_iff _ _).mp hp
    have hmem : ∀ o r, t = o :: r → o ∈ nearOf many rs (q ++ [l]) l := fun o r e => by
      rw [nearOf_mem]
      subst e
      refine ⟨hw.lt o (by rw [← ht]; simp), fun hm => ?_, lnk_app (by rw [ht]; exact hw.lnk)⟩
      have := hw.nd
      rw [← ht, List.nodup_append] at this
      exact this.2.2 o hm o (by simp) rfl
    cases t with
    | nil =>
      exfalso
      obtain ⟨v, hv⟩ := hw.last
      apply ok.nz
      rw [List.append_nil] at ht
      rw [ht, hv]; simp
    | cons o r =>
      have ho := hmem o r rfl
      by_cases hz : o = 0
      · subst hz
        have hr := zero_end hw ht.symm
        subst hr
        have e1 : (done1 many rs (q ++ [l]) l).count w = 1 := by
          unfold done1
          rw [List.count_eq_countP, List.countP_map]
          refine cnt_one ((nearOf_nd _ _ _ _).filter _) (List.mem_filter.mpr ⟨ho, by simp⟩) _ fun b hb => ?_
          rw [List.mem_filter, decide_eq_true_eq] at hb
          simp only [Function.comp, hb.2, ht, beq_self_eq_true, decide_true]
        have e2 : (kids many rs (q ++ [l]) l).countP (pf w) = 0 := cnt_zero fun p hp => by
          unfold kids at hp
          obtain ⟨o', ho', rfl⟩ := List.mem_map.mp hp
          rw [List.mem_filter, decide_eq_true_eq] at ho'
          rw [Bool.eq_false_iff]
          intro z
          obtain ⟨u, hu⟩ := (pf_iff _ _).mp z
          rw [← ht, List.append_assoc] at hu
          have := List.append_cancel_left hu
          simp only [List.cons_append, List.nil_append, List.cons.injEq] at this
          exact ho'.2 this.1
        rw [e1, e2]
      · have e1 : (done1 many rs (q ++ [l]) l).count w = 0 := by
          rw [List.count_eq_countP]
          refine cnt_zero fun p hp => ?_
          unfold done1 at hp
          obtain ⟨o', ho', rfl⟩ := List.mem_map.mp hp
          rw [beq_eq_false_iff_ne]
          intro z
          rw [← ht] at z
          have := List.append_cancel_left z
          simp only [List.cons.injEq] at this
          exact hz this.1.symm
        have e2 : (kids many rs (q ++ [l]) l).countP (pf w) = 1 := by
          unfold kids
          rw [List.countP_map]
          refine cnt_one ((nearOf_nd _ _ _ _).filter _) (List.mem_filter.mpr ⟨ho, by simpa using hz⟩) _ fun b hb => ?_
          simp only [Function.comp]
          rw [Bool.eq_iff_iff, pf_iff, decide_eq_true_eq]
          constructor
          · rintro ⟨u, hu⟩
            rw [← ht, List.append_assoc] at hu
            have := List.append_cancel_left hu
            simp only [List.cons_append, List.nil_append, List.cons.injEq] at this
            exact this.1
          · rintro rfl
            exact ⟨r, by rw [← ht, List.append_assoc]; rfl⟩
        rw [e1, e2]
  · rw [if_neg hp]
    have hno : ∀ o, ¬(q ++ [l] ++ [o] <+: w) := fun o ⟨u, hu⟩ => hp ((pf_iff _ _).mpr ⟨o :: u, by rw [← hu]; simp⟩)
    have e1 : (done1 many rs (q ++ [l]) l).count w = 0 := by
      rw [List.count_eq_countP]
      refine cnt_zero fun p hp' => ?_
      unfold done1 at hp'
      obtain ⟨o', ho', rfl⟩ := List.mem_map.mp hp'
      rw [beq_eq_false_iff_ne]
      intro z
      exact hno 0 ⟨[], by rw [List.append_nil]; exact z⟩
    have e2 : (kids many rs (q ++ [l]) l).countP (pf w) = 0 := cnt_zero fun p hp' => by
      unfold kids at hp'
      obtain ⟨o', ho', rfl⟩ := List.mem_map.mp hp'
      rw [Bool.eq_false_iff]
      exact fun z => hno o' ((pf_iff _ _).mp z)
    rw [e1, e2]
def wt (p : List Nat) : Nat := 8 ^ (7 - p.length)
def wts (row : List (List Nat)) : Nat := (row.map wt).sum
theorem wts_app (a b : List (List Nat)) : wts (a ++ b) = wts a + wts b := by unfold wts; rw [List.map_append, List.sum_append]
theorem wts_const : ∀ (k : Nat) (ps : List (List Nat)), (∀ p ∈ ps, wt p = k) → wts ps = ps.length * k
  | k, [], _ => by simp [wts]
  | k, p :: ps, h => by
    have ih := wts_const k ps fun q hq => h q (List.mem_cons_of_mem _ hq)
    unfold wts at ih ⊢
    rw [List.map_cons, List.sum_cons, ih, h p (List.mem_cons_self ..), List.length_cons, Nat.add_mul]
    omega
theorem flt_two (P : Nat → Prop) [DecidablePred P] : ∀ l : List Nat, (l.filter fun o => decide (P o)).length + (l.filter fun o => decide (¬P o)).length = l.length
  | [] => rfl
  | x :: l => by
    have ih := flt_two P l
    by_cases h : P x
    · rw [List.filter_cons_of_pos (by simpa using h), List.filter_cons_of_neg (by simpa using h), List.length_cons, List.length_cons]; omega
    · rw [List.filter_cons_of_neg (by simpa using h), List.filter_cons_of_pos (by simpa using h), List.length_cons, List.length_cons]; omega
theorem kids_len {many : Nat} {rs : List (Nat × Nat)} (hm : many ≤ 7) (p : List Nat) (l : Nat) (hp : l ∈ p) (hl : l < many) : (kids many rs p l).length + (done1 many rs p l).length ≤ 6 := by
  have h1 : (kids many rs p l).length + (done1 many rs p l).length = (nearOf many rs p l).length := by
    unfold kids done1
    rw [List.length_map, List.length_map, Nat.add_comm]
    exact flt_two _ _
  have h2 := List.Nodup.length_le_of_subset (l₁ := l :: nearOf many rs p l) (l₂ := List.range many) (List.nodup_cons.mpr ⟨fun h => (nearOf_mem.mp h).2.1 hp, nearOf_nd _ _ _ _⟩) fun a ha => by
    rcases List.mem_cons.mp ha with rfl | ha
    · exact List.mem_range.mpr hl
    · exact List.mem_range.mpr (nearOf_mem.mp ha).1
  simp at h2
  omega
theorem step_wt {many : Nat} {rs : List (Nat × Nat)} {h : Nat} {q : List Nat} {l : Nat} (hm : many ≤ 7) (ok : PartOk many rs h (q ++ [l])) :
    (done1 many rs (q ++ [l]) l).length + wts (kids many rs (q ++ [l]) l) < wt (q ++ [l]) := by
  have h1 := kids_len (rs := rs) hm (q ++ [l]) l (by simp) (ok.lt l (by simp))
  have h2 := ok.few
  simp only [List.length_append, List.length_cons, List.length_nil] at h2
  have e : wts (kids many rs (q ++ [l]) l) = (kids many rs (q ++ [l]) l).length * 8 ^ (7 - (q.length + 2)) := wts_const _ _ fun p hp => by
    unfold wt
    rw [(kids_ok ok p hp).2]
  have e2 : wt (q ++ [l]) = 8 * 8 ^ (7 - (q.length + 2)) := by
    unfold wt
    simp only [List.length_append, List.length_cons, List.length_nil]
    rw [show 7 - (q.length + (0 + 1)) = (7 - (q.length + 2)) + 1 by omega, Nat.pow_succ]
    omega
  rw [e, e2]
  have hpos : 0 < 8 ^ (7 - (q.length + 2)) := Nat.pow_pos (by omega)
  have h3 : (kids many rs (q ++ [l]) l).length * 8 ^ (7 - (q.length + 2)) ≤ 6 * 8 ^ (7 - (q.length + 2)) := Nat.mul_le_mul_right _ (by omega)
  have h4 : (done1 many rs (q ++ [l]) l).length ≤ 1 := by
    unfold done1
    rw [List.length_map]
    have := List.Nodup.length_le_of_subset (l₁ := (nearOf many rs (q ++ [l]) l).filter fun o => decide (o = 0)) (l₂ := [0]) ((nearOf_nd _ _ _ _).filter _) fun a ha => by
      rw [List.mem_filter, decide_eq_true_eq] at ha
      simp [ha.2]
    simpa using this
  omega
end LW
namespace LW
open PySem PySem.Spec PyProof.Rows L2 PF
theorem W_neNil (row : List (List Nat)) (Q : D → Prop) : W (aCmp .NotEq (.list (row.map wD)) (.list [])) Q = Q (.bool (decide (row ≠ []))) := by
  rw [W_neP 2 1 (by omega) (by omega) (pl_lst fun d hd => by obtain ⟨w, _, rfl⟩ := List.mem_map.mp hd; exact wD_pl w 0) (pl_lst fun d hd => by cases hd)]
  congr 2
  exact decide_eq_decide.mpr (by cases row <;> simp)
theorem W_niW (n : Nat) (w : List Nat) (Q : D → Prop) : W (aCmp .NotIn (.int (n : Nat)) (wD w)) Q = Q (.bool (decide (¬n ∈ w))) := by
  unfold wD
  rw [W_niTP 0 0 (by omega) (by omega) (pl_int _ _) fun d hd => nD_pl hd 0]
  congr 2
  exact decide_eq_decide.mpr (by rw [nD_mem])
theorem W_inW (n : Nat) (w : List Nat) (Q : D → Prop) : W (aCmp .In (.int (n : Nat)) (wD w)) Q = Q (.bool (decide (n ∈ w))) := by
  unfold wD
  rw [W_inTP 0 0 (by omega) (by omega) (pl_int _ _) fun d hd => nD_pl hd 0]
  congr 2
  exact decide_eq_decide.mpr (by rw [nD_mem])
theorem W_inRL (r : Nat × Nat) (rs : List (Nat × Nat)) (Q : D → Prop) : W (aCmp .In (rD r) (.list (rs.map rD))) Q = Q (.bool (decide (r ∈ rs))) := by
  rw [W_inLP 1 1 (by omega) (by omega) (rD_pl _ 0) fun d hd => rsD_pl hd 0]
  congr 2
  exact decide_eq_decide.mpr rsD_mem
theorem W_inRT (r : Nat × Nat) (rs : List (Nat × Nat)) (Q : D → Prop) : W (aCmp .In (rD r) (rsD rs)) Q = Q (.bool (decide (r ∈ rs))) := by
  unfold rsD
  rw [W_inTP 1 1 (by omega) (by omega) (rD_pl _ 0) fun d hd => rsD_pl hd 0]
  congr 2
  exact decide_eq_decide.mpr rsD_mem
theorem mm_rD (l n : Nat) : PyData.tuple [.int (min (l : Int) n), .int (max (l : Int) n)] = rD (min l n, max l n) := by
  unfold rD
  congr 3
  · congr 1; omega
  · congr 2; omega
theorem w_last (q : List Nat) (l : Nat) : atI (nD (q ++ [l])) (-1) = some (.int (l : Nat)) := by rw [← nD_app]; exact atI_last _ _
theorem W_addW (w : List Nat) (n : Nat) (Q : D → Prop) (hl : w.length < 1000) (h : Q (wD (w ++ [n]))) : W (aAdd (wD w) (.tuple [.int (n : Nat)])) Q := by
  unfold wD at *
  rw [W_addT]
  refine ⟨by rw [nD_len]; show _ ≤ 16777216; simp; omega, ?_⟩
  rw [nD_app]
  exact h
theorem all_ok {many h : Nat} {rs : List (Nat × Nat)} {rd : D} (hm : many ≤ 7) (h1 : 1 ≤ h) (h2 : h < many) (hin : ∀ r Q, W (aCmp .In (rD r) rd) Q = Q (.bool (decide (r ∈ rs)))) :
    W (f_l_all_2 [.int many, rd, .int h]) fun d => ∃ ws : List (List Nat), d = .list (ws.map wD) ∧ ws.Nodup ∧ ws.length ≤ 262144 ∧ ∀ w, w ∈ ws ↔ WayOk many rs h w := by
  refine W_run ?_
  simp only [den_l_all_2, ex_all]
  try simp only [↓ev_all]
  refine W_while (fun m ρ => ∃ (found row : List (List Nat)) (u5 u6 u7 : Option SV), m = wts row ∧ (∀ p ∈ row, PartOk many rs h p) ∧ (∀ w ∈ found, WayOk many rs h w) ∧ found.length + wts row ≤ 262144 ∧ (∀ w, WayOk many rs h w → found.count w + row.countP (pf w) = 1) ∧
    ρ = [some (.val (.int many)), some (.val rd), some (.val (.int h)), some (.val (.list (found.map wD))), some (.own (row.map wD)), u5, u6, u7]) ?step wFuel 262144 _ (by decide) ⟨[], [[h]], none, none, none, ?m0, ?p0, fun w hw => (by cases hw), ?l0, ?c0, rfl⟩
  case m0 => rfl
  case p0 =>
    intro p hp
    rw [List.mem_singleton] at hp
    subst hp
    exact ⟨rfl, by simp, fun x hx => by simp at hx; omega, by simp; omega, fun i a b _ hb => by simp at hb⟩
  case l0 => simp [wts, wt]
  case c0 =>
    intro w hw
    have : pf w [h] = true := by
      rw [pf_iff]
      cases w with
      | nil => have := hw.hd; cases this
      | cons a r =>
        have := hw.hd
        simp only [List.getElem?_cons_zero, Option.some.injEq] at this
        subst this
        exact ⟨r, rfl⟩
    simp [this]
  case step =>
    rintro m ρ ⟨found, row, u5, u6, u7, rfl, k1, k2, k3, k4, rfl⟩
    simp only [↓ev_all, ↓W_neNil]
    refine ⟨fun hne => ?_, fun hne => ?_⟩
    · have hrow : ∃ row' p, row = row' ++ [p] := ⟨_, _, (List.dropLast_concat_getLast hne).symm⟩
      obtain ⟨row', p, rfl⟩ := hrow
      have hp := k1 p (by simp)
      obtain ⟨q, l, rfl⟩ := hp.ne
      have hfew := hp.few
      simp only [List.length_append, List.length_cons, List.length_nil] at hfew
      rw [W_pop 4 (bName 5) _ _ (row'.map wD) (wD (q ++ [l])) (by simp)]
      try simp only [↓ev_all]
      refine ⟨rg_ok (by omega) (by omega) (by omega) (by omega), ?_⟩
      rw [rg_map (x := 0) 0 rfl]
      have e0 : ((many : Int) - ((0 : Nat) : Int)).toNat = many := by omega
      rw [e0]
      have ez : ∀ n : Nat, PyData.int ((0 + n : Nat) : Int) = .int (n : Nat) := fun n => by rw [Nat.zero_add]
      refine W.of (comp_typed_if _ _ (fun n => .int ((n : Nat) : Int)) (fun o => decide (¬o ∈ q ++ [l])) fun n hn => ?_) ?_
      · simp only [wipeE, List.set_cons_succ, List.set_cons_zero, ez]
        simp only [↓ev_all, ↓W_niW]
        exact ⟨by first | rfl | trivial, fun _ => by first | rfl | trivial⟩
      try simp only [↓ev_all]
      refine W.of (comp_typed_if _ _ (fun n => .int ((n : Nat) : Int)) (fun o => decide ((min l o, max l o) ∈ rs)) fun n hn => ?_) ?_
      · simp only [wipeE, List.set_cons_succ, List.set_cons_zero]
        simp only [↓ev_all, ↓eg]
        refine W.of (w_last q l) ?_
        simp only [↓ev_all, ↓eg]
        refine W.of (w_last q l) ?_
        simp only [↓ev_all, ↓eg, mm_rD]
        rw [hin]
        try simp only [↓ev_all]
        exact ⟨by first | rfl | trivial, fun _ => by first | rfl | trivial⟩
      have en : List.filter (fun o => decide ((min l o, max l o) ∈ rs)) (List.filter (fun o => decide (¬o ∈ q ++ [l])) (List.range many)) = nearOf many rs (q ++ [l]) l := rfl
      rw [en]
      try simp only [↓ev_all]
      refine W.of (comp_typed_if _ _ (fun _ => wD (q ++ [l] ++ [0])) (fun o => decide (o = 0)) fun n hn => ?_) ?_
      · simp only [wipeE, List.set_cons_succ, List.set_cons_zero]
        try simp only [↓ev_all]
        refine ⟨decide_eq_decide.mpr (by omega), fun _ => ?_⟩
        exact W_addW (q ++ [l]) 0 _ (by simp; omega) rfl
      have sw := step_wt (rs := rs) hm hp
      have ed : List.map (fun _ => wD (q ++ [l] ++ [0])) ((nearOf many rs (q ++ [l]) l).filter fun o => decide (o = 0)) = (done1 many rs (q ++ [l]) l).map wD := by
        unfold done1; rw [List.map_map]; rfl
      rw [ed]
      rw [wts_app] at k3
      have ew : wts [q ++ [l]] = wt (q ++ [l]) := by simp [wts]
      rw [ew] at k3
      simp only [↓ev_all, ↓W_ext]
      refine ⟨by simp only [List.length_map]; show _ ≤ 16777216; omega, ?_⟩
      refine W.of (comp_typed_if _ _ (fun n => wD (q ++ [l] ++ [n])) (fun o => decide (¬o = 0)) fun n hn => ?_) ?_
      · simp only [wipeE, List.set_cons_succ, List.set_cons_zero]
        try simp only [↓ev_all]
        refine ⟨decide_eq_decide.mpr (by omega), fun _ => ?_⟩
        exact W_addW (q ++ [l]) n _ (by simp; omega) rfl
      have ek : List.map (fun n => wD (q ++ [l] ++ [n])) ((nearOf many rs (q ++ [l]) l).filter fun o => decide (¬o = 0)) = (kids many rs (q ++ [l]) l).map wD := by
        unfold kids; rw [List.map_map]; rfl
      rw [ek]
      try simp only [↓ev_all]
      have hlen : ∀ r : List (List Nat), (∀ p ∈ r, PartOk many rs h p) → r.length ≤ wts r := fun r => by
        induction r with
        | nil => intro _; simp
        | cons a r ih =>
          intro hr
          have := ih fun p hp => hr p (List.mem_cons_of_mem _ hp)
          have e : wts (a :: r) = wt a + wts r := by simp [wts]
          have pos : 0 < wt a := Nat.pow_pos (by omega)
          rw [e, List.length_cons]
          omega
      have hk := fun p hp' => (kids_ok hp p hp').1
      have l1 := hlen row' fun p hp => k1 p (by simp [hp])
      have l2 := hlen (kids many rs (q ++ [l]) l) hk
      refine ⟨by simp only [List.length_map]; show _ ≤ 16777216; omega, ?_⟩
      refine ⟨wts (row' ++ kids many rs (q ++ [l]) l), ?_, found ++ done1 many rs (q ++ [l]) l, row' ++ kids many rs (q ++ [l]) l, _, _, _, rfl, ?_, ?_, ?_, ?_, by rw [List.map_append, List.map_append]⟩
      · rw [wts_app, wts_app, ew]; omega
      · intro p hp'
        rcases List.mem_append.mp hp' with hp' | hp'
        · exact k1 p (by simp [hp'])
        · exact hk p hp'
      · intro w hw
        rcases List.mem_append.mp hw with hw | hw
        · exact k2 w hw
        · exact done1_ok hp w hw
      · rw [wts_app, List.length_append]; omega
      · intro w hw
        have c1 := k4 w hw
        have c2 := step_cnt hp hw
        rw [List.countP_append, List.countP_singleton] at c1
        rw [List.count_append, List.countP_append]
        omega
    · have hr : row = [] := by simpa using hne
      subst hr
      try simp only [↓ev_all]
      have k3' : found.length ≤ 262144 := by omega
      have k4' : ∀ w, WayOk many rs h w → found.count w = 1 := fun w hw => by have := k4 w hw; simpa using this
      refine ⟨found, rfl, List.nodup_iff_count.mpr fun w => ?_, k3', fun w => ⟨k2 w, fun hw => ?_⟩⟩
      · by_cases hw : w ∈ found
        · rw [k4' w (k2 w hw)]; exact Nat.le_refl _
        · rw [List.count_eq_zero_of_not_mem hw]; omega
      · refine List.count_pos_iff.mp ?_
        rw [k4' w hw]; omega
end LW
namespace PF
open PySem PySem.Spec PyProof.Rows L2
def zipA : D → D → Option (List D)
  | .list xs, .list ys => some (zipD xs ys)
  | .tuple xs, .tuple ys => some (zipD xs ys)
  | _, _ => none
theorem W_zip {f g : Den} {ρ : Env} {Q : List D → Prop} : W (dZip f g ρ) Q = W (f ρ) fun x => W (g ρ) fun y => W (zipA x y) Q := by
  unfold dZip zipA
  cases e1 : f ρ with
  | none => simp only [W_none]
  | some x =>
    cases e2 : g ρ with
    | none => simp only [W_none, W_some]
    | some y => cases x <;> cases y <;> simp only [W_none, W_some]
theorem W_zipL (xs ys : List D) (Q : List D → Prop) : W (zipA (.list xs) (.list ys)) Q = Q (zipD xs ys) := W_some _ _
theorem W_zipT (xs ys : List D) (Q : List D → Prop) : W (zipA (.tuple xs) (.tuple ys)) Q = Q (zipD xs ys) := W_some _ _
theorem W_minT (x : D) (xs : List D) (Q : D → Prop) : W (bMin [.tuple (x :: xs)]) Q = (bestOk x xs (PySem.W.minD x xs) = true ∧ Q (PySem.W.minD x xs)) := W_if _ _ _
theorem W_maxT (x : D) (xs : List D) (Q : D → Prop) : W (bMax [.tuple (x :: xs)]) Q = (bestOk x xs (PySem.W.maxD x xs) = true ∧ Q (PySem.W.maxD x xs)) := W_if _ _ _
end PF
namespace LW
open PySem PySem.Spec PyProof.Rows L2 PF
theorem best_I (x y m : Int) : bestOk (.int x) [.int y] (.int m) = true := by
  unfold bestOk
  have h1 : SeqAt.shaped (.list [.int x, .int y]) = true := pl_shaped (n := 1) (pl_lst fun d hd => by
    simp only [List.mem_cons, List.not_mem_nil, or_false] at hd
    rcases hd with rfl | rfl <;> exact pl_int _ _) (by omega)
  rw [h1]
  simp [alikeB, noN, isN, notL, PySem.W.alike]
theorem W_minR (r : Nat × Nat) (Q : D → Prop) : W (bMin [rD r]) Q = Q (.int (min (r.1 : Int) r.2)) := by
  unfold rD
  rw [W_minT]
  have e : PySem.W.minD (.int (r.1 : Nat)) [.int (r.2 : Nat)] = .int (min (r.1 : Int) r.2) := by
    have := PySem.W.minD_ints (r.1 : Int) [(r.2 : Int)]
    simpa using this
  rw [e, best_I]
  simp
theorem W_maxR (r : Nat × Nat) (Q : D → Prop) : W (bMax [rD r]) Q = Q (.int (max (r.1 : Int) r.2)) := by
  unfold rD
  rw [W_maxT]
  have e : PySem.W.maxD (.int (r.1 : Nat)) [.int (r.2 : Nat)] = .int (max (r.1 : Int) r.2) := by
    have := PySem.W.maxD_ints (r.1 : Int) [(r.2 : Int)]
    simpa using this
  rw [e, best_I]
  simp
theorem W_ixT0 (many : Nat) (ss ps : List (Nat × Nat)) (Q : D → Prop) : W (aIx (tD many ss ps) (.int 0)) Q = Q (.int many) := W_at0 _ _ _
theorem W_ixT1 (many : Nat) (ss ps : List (Nat × Nat)) (Q : D → Prop) : W (aIx (tD many ss ps) (.int 1)) Q = Q (rsD ss) := W_at1 _ _ _ _
theorem W_ixT2 (many : Nat) (ss ps : List (Nat × Nat)) (Q : D → Prop) : W (aIx (tD many ss ps) (.int 2)) Q = Q (rsD ps) := W_at2 _ _ _ _ _
theorem W_addR (a b : List (Nat × Nat)) (Q : D → Prop) (hl : a.length + b.length ≤ 1000) (h : Q (rsD (a ++ b))) : W (aAdd (rsD a) (rsD b)) Q := by
  unfold rsD at *
  rw [W_addT]
  refine ⟨by simp only [List.length_map]; show _ ≤ 16777216; omega, ?_⟩
  rw [← List.map_append]
  exact h
def eT := And.intro @W_ixT0 <| And.intro @W_ixT1 <| And.intro @W_ixT2 <| And.intro @W_inRT <| And.intro @W_minR <| @W_maxR
def rk (ss : List (Nat × Nat)) (a b : Nat) : Nat := if (a, b) ∈ ss then 0 else if (b, a) ∈ ss then 2 else 1
theorem rD_mk (a b : Nat) : PyData.tuple [.int (a : Nat), .int (b : Nat)] = rD (a, b) := rfl
theorem rank_ok (many : Nat) (ss ps : List (Nat × Nat)) (a b : Nat) : f_rank_of [tD many ss ps, .int (a : Nat), .int (b : Nat)] = some (.int (rk ss a b : Nat)) := by
  refine W_eq (W_run ?_)
  simp only [den_rank_of, ex_all]
  try simp only [↓ev_all, ↓eT]
  simp only [rD_mk]
  try simp only [↓ev_all, ↓eT]
  unfold rk
  refine ⟨fun h => ?_, fun h => ⟨fun h2 => ?_, fun h2 => ?_⟩⟩
  · rw [if_pos h]; rfl
  · rw [if_neg h, if_pos h2]; rfl
  · rw [if_neg h, if_neg h2]; rfl
theorem lsort_ok (many : Nat) (ss ps : List (Nat × Nat)) (a b : Nat) : f_l_sort [tD many ss ps, .int (a : Nat), .int (b : Nat)] = some (.int (rk ss a b : Nat)) := by
  refine W_eq (W_run ?_)
  simp only [den_l_sort, ex_all]
  try simp only [↓ev_all, ↓eT]
  simp only [rD_mk]
  try simp only [↓ev_all, ↓eT]
  unfold rk
  refine ⟨fun h => ?_, fun h => ⟨fun h2 => ?_, fun h2 => ?_⟩⟩
  · rw [if_pos h]; rfl
  · rw [if_neg h, if_pos h2]; rfl
  · rw [if_neg h, if_neg h2]; rfl
def rks (ss : List (Nat × Nat)) (w : List Nat) : List Nat := (w.zip w.tail).map fun p => rk ss p.1 p.2
def chain2 (s : List Nat) : Bool := (s.zip s.tail).all fun p => decide (p.1 = 2) || decide (p.2 = 0)
def fitB (ss : List (Nat × Nat)) (w : List Nat) : Bool := chain2 (rks ss w)
def upB : Bool → List Nat → Bool
  | _, [] => true
  | c, s :: r => (c || decide (s = 0)) && upB (c && decide (s = 2)) r
theorem chain2_cons (a b : Nat) (r : List Nat) : chain2 (a :: b :: r) = ((decide (a = 2) || decide (b = 0)) && chain2 (b :: r)) := by simp [chain2]
theorem upB_chain : ∀ (r : List Nat) (a : Nat), upB (decide (a = 2)) r = chain2 (a :: r)
  | [], a => by simp [upB, chain2]
  | b :: r, a => by
    rw [chain2_cons, upB, ← upB_chain r b]
    by_cases ha : a = 2
    · simp [ha]
    · by_cases hb : b = 0
      · simp [ha, hb]
      · simp [ha, hb]
theorem upB_fit (s : List Nat) : upB true s = chain2 s := by
  cases s with
  | nil => rfl
  | cons a r => rw [upB, ← upB_chain]; simp
theorem nD_zip (v w : List Nat) : zipD (nD v) (nD w) = (v.zip w).map rD := by
  rw [zipD_eq]
  unfold nD
  rw [List.zip_map, List.map_map]
  rfl
theorem wD_tail (w : List Nat) : PF.cutD (nD w) (some 1) none = nD w.tail := by
  have := wD_drop w 1
  rw [List.drop_one] at this
  exact this
theorem wD_def (w : List Nat) : wD w = .tuple (nD w) := rfl
theorem fit_ok (many : Nat) (ss ps : List (Nat × Nat)) (w : List Nat) : f_is_fit [tD many ss ps, wD w] = some (.bool (fitB ss w)) := by
  refine W_eq (W_run ?_)
  simp only [den_is_fit, ex_all]
  try simp only [↓ev_all, ↓W_zip, ↓eg]
  rw [wD_tail]
  try unfold wD
  simp only [↓W_zipL, ↓W_zipT]
  rw [nD_zip]
  try simp only [← wD_def]
  refine W.of (comp_typed _ rD (fun p => .int (rk ss p.1 p.2 : Nat)) fun p hp => ?_) ?_
  · simp only [wipeE, List.set_cons_succ, List.set_cons_zero]
    unfold rD
    simp only [↓ev_all]
    refine W.of (rank_ok many ss ps p.1 p.2) rfl
  have e : List.map (fun p : Nat × Nat => PyData.int (rk ss p.1 p.2 : Nat)) (w.zip w.tail) = nD (rks ss w) := by unfold nD rks; rw [List.map_map]; rfl
  rw [e]
  try simp only [↓ev_all, ↓W_zip, ↓eg]
  rw [wD_tail]
  try simp only [↓W_zipL, ↓W_zipT]
  rw [nD_zip]
  refine W.of (comp_typed _ rD (fun p => .bool (decide (p.1 = 2) || decide (p.2 = 0))) fun p hp => ?_) ?_
  · simp only [wipeE, List.set_cons_succ, List.set_cons_zero]
    unfold rD
    simp only [↓ev_all]
    refine ⟨fun h => ?_, fun h => ?_⟩
    · have : p.1 = 2 := by omega
      simp [this]
    · have : ¬p.1 = 2 := by omega
      simp only [this, decide_false, Bool.false_or, PyData.bool.injEq]
      exact decide_eq_decide.mpr (by omega)
  have e2 : List.map (fun p : Nat × Nat => PyData.bool (decide (p.1 = 2) || decide (p.2 = 0))) ((rks ss w).zip (rks ss w).tail) = (((rks ss w).zip (rks ss w).tail).map fun p => decide (p.1 = 2) || decide (p.2 = 0)).map PyData.bool := by rw [List.map_map]; rfl
  rw [e2]
  simp only [↓ev_all, ↓W_all]
  unfold fitB chain2
  rw [List.all_map]
  rfl
theorem lfit_ok (many : Nat) (ss ps : List (Nat × Nat)) (w : List Nat) : f_l_fit [tD many ss ps, wD w] = some (.bool (fitB ss w)) := by
  refine W_eq (W_run ?_)
  simp only [den_l_fit, ex_all]
  try simp only [↓ev_all, ↓W_zip, ↓eg]
  rw [wD_tail]
  try unfold wD
  simp only [↓W_zipL, ↓W_zipT]
  rw [nD_zip]
  try simp only [← wD_def]
  refine W_forL (fun r ρ => ∃ (ps' : List (Nat × Nat)) (c : Bool) (x3 x4 x5 : Option SV), r = ps'.map rD ∧ upB c (ps'.map fun p => rk ss p.1 p.2) = fitB ss w ∧ ρ = [some (.val (tD many ss ps)), some (.val (wD w)), some (.val (.bool c)), x3, x4, x5]) ?zEnd ?zStep _ _ ⟨w.zip w.tail, true, _, _, _, rfl, ?z0, rfl⟩
  case z0 => exact upB_fit _
  case zEnd =>
    rintro ρ ⟨ps', c, x3, x4, x5, h1, h2, rfl⟩
    cases ps' with
    | cons a b => cases h1
    | nil =>
      simp only [↓ev_all]
      rw [← h2]
      rfl
  case zStep =>
    rintro x r ρ ⟨ps', c, x3, x4, x5, h1, h2, rfl⟩
    cases ps' with
    | nil => cases h1
    | cons p ps' =>
      rw [List.map_cons] at h1
      injection h1 with e1 e2
      subst e1 e2
      rw [List.map_cons, upB] at h2
      unfold rD
      simp only [↓ev_all]
      refine W.of (lsort_ok many ss ps p.1 p.2) ?_
      simp only [↓ev_all]
      have fin : (c || decide (rk ss p.1 p.2 = 0)) = true → upB (c && decide (rk ss p.1 p.2 = 2)) (ps'.map fun p => rk ss p.1 p.2) = fitB ss w := fun h => by rw [h, Bool.true_and] at h2; exact h2
      cases c with
      | true =>
        simp only [Bool.not_true, ↓ev_all]
        have := fin rfl
        rw [Bool.true_and] at this
        have e : decide (((rk ss p.1 p.2 : Nat) : Int) = 2) = decide (rk ss p.1 p.2 = 2) := decide_eq_decide.mpr (by omega)
        exact ⟨ps', decide (rk ss p.1 p.2 = 2), _, _, _, rfl, this, by rw [← e]⟩
      | false =>
        simp only [Bool.not_false, ↓ev_all]
        refine ⟨fun h => ?_, fun h => ?_⟩
        · have h' : ¬rk ss p.1 p.2 = 0 := fun z => h (by omega)
          simp only [h', decide_false, Bool.or_self, Bool.false_and] at h2
          rw [← h2]
          rfl
        · have h' : rk ss p.1 p.2 = 0 := by
            by_cases z : rk ss p.1 p.2 = 0
            · exact z
            · exact absurd (fun y => z (by omega)) h
          exact ⟨ps', false, _, _, _, rfl, by have := fin (by simp [h']); simpa using this, rfl⟩
end LW
namespace LW
open PySem PySem.Spec PyProof.Rows L2 PF
/-! ### tuples of whole numbers -/
def itD (w : List Int) : D := .tuple (iD w)
theorem iD_pl {w : List Int} {d : D} (h : d ∈ iD w) (n : Nat) : pl d n = true := by
  obtain ⟨m, _, rfl⟩ := List.mem_map.mp h
  exact pl_int _ _
theorem itD_pl (w : List Int) (n : Nat) : pl (itD w) (n + 1) = true := pl_tup fun d h => iD_pl h n
theorem iD_inj {v w : List Int} (h : iD v = iD w) : v = w := by
  unfold iD at h
  exact (List.map_inj_right fun a b e => by injection e).mp h
theorem itD_inj {v w : List Int} (h : itD v = itD w) : v = w := by
  injection h with h
  exact iD_inj h
def toI (w : List Nat) : List Int := w.map fun n : Nat => (n : Int)
theorem toI_inj {v w : List Nat} (h : toI v = toI w) : v = w := by
  unfold toI at h
  exact (List.map_inj_right (f := fun n : Nat => (n : Int)) fun a b e => by omega).mp h
theorem wD_it (w : List Nat) : wD w = itD (toI w) := by unfold wD itD nD iD toI; rw [List.map_map]; rfl
def pD (p : Int × Int) : D := .tuple [.int p.1, .int p.2]
theorem pD_it (p : Int × Int) : pD p = itD [p.1, p.2] := rfl
theorem rD_pD (r : Nat × Nat) : rD r = pD (r.1, r.2) := rfl
theorem pD_pl (p : Int × Int) (n : Nat) : pl (pD p) (n + 1) = true := itD_pl [p.1, p.2] n
theorem pD_inj {p q : Int × Int} (h : pD p = pD q) : p = q := by
  have := itD_inj (v := [p.1, p.2]) (w := [q.1, q.2]) h
  simp only [List.cons.injEq, and_true] at this
  exact Prod.ext this.1 this.2
def tyK (w : List Int) : NestedKey := .tup (w.map .num)
theorem keys_int : ∀ w : List Int, keysD (iD w) = some (w.map .num)
  | [] => rfl
  | n :: w => by
    have ih := keys_int w
    unfold iD at ih ⊢
    rw [List.map_cons, keysD, ih]
    rfl
theorem depth_int : ∀ w : List Int, NestedKey.depthAll (w.map .num) = 0
  | [] => by rw [List.map_nil, NestedKey.depthAll]
  | n :: w => by rw [List.map_cons, NestedKey.depthAll, depth_int w, NestedKey.depth]; rfl
theorem kyI : Ky itD tyK := ⟨fun w => by
    show (keyD (.tuple (iD w))).bind (fun k => if k.depth ≤ 8 then some k else none) = _
    rw [keyD, keys_int]
    show (if (NestedKey.tup (w.map .num)).depth ≤ 8 then some (NestedKey.tup (w.map .num)) else none) = _
    rw [if_pos (by rw [NestedKey.depth, depth_int]; omega)]
    rfl, fun a b h => by
    unfold tyK at h
    injection h with h
    exact (List.map_inj_right fun a b e => by injection e).mp h⟩
theorem kyW : Ky wD (fun w => tyK (toI w)) := ⟨fun w => by rw [wD_it]; exact kyI.key _, fun a b h => toI_inj (kyI.inj _ _ h)⟩
theorem kyP : Ky pD (fun p => tyK [p.1, p.2]) := ⟨fun p => kyI.key [p.1, p.2], fun a b h => by
  have := kyI.inj _ _ h
  simp only [List.cons.injEq, and_true] at this
  exact Prod.ext this.1 this.2⟩
/-- some of what is known and of others -/
theorem some_ok {α : Type} (to : α → D) (hp : ∀ a, pl (to a) 1 = true) (known others : List α) (xs : List Int) (ho : others ≠ []) (hl : xs.length = 22) (hx : ∀ x ∈ xs, 0 ≤ x) (hk : known.length < 1000) (ho2 : others.length < 1000) :
    W (f_l_some [.list (known.map to), .list (others.map to), .list (iD xs)]) fun d => ∃ gs : List α, d = .list (gs.map to) ∧ gs.length ≤ 9 := by
  refine W_run ?_
  simp only [den_l_some, ex_all]
  simp only [↓ev_all]
  refine W_draw hx (by omega) (by omega) fun a ha => ?_
  simp only [↓ev_all]
  refine ⟨by omega, W_draw hx (by omega) (by omega) fun b hb => ?_⟩
  simp only [↓ev_all]
  refine ⟨by omega, W_draw hx (by omega) (by omega) fun c hc => ?_⟩
  simp only [↓ev_all]
  have b1 := mod_b a 10 (by omega)
  have b2 := mod_b b 3 (by omega)
  have b3 := mod_b c 2 (by omega)
  refine ⟨by omega, ?_⟩
  refine (W_at2' (Q := fun d => ∃ n : Int, d = .int n ∧ 0 ≤ n ∧ n ≤ 9) b3.1 b3.2 (fun _ => ⟨_, rfl, by omega, by omega⟩) (fun _ => ⟨_, rfl, by omega, by omega⟩)).mono fun d ⟨n, hd, n0, n9⟩ => ?_
  subst hd
  simp only [↓ev_all]
  refine ⟨rg_ok (by omega) (by omega) (by omega) (by omega), ?_⟩
  refine W_forR (fun i ρ => ∃ (gs : List α) (u v : Option SV), gs.length ≤ i ∧ ρ = [some (.val (.list (known.map to))), some (.val (.list (others.map to))), some (.val (.list (iD xs))), some (.own (gs.map to)), u, v]) ⟨[], none, none, by simp, rfl⟩ ?a ?b
  case a =>
    rintro ρ ⟨gs, u, v, h1, rfl⟩
    simp only [↓ev_all, ex_all]
    try simp only [↓ev_all]
    exact ⟨gs, rfl, by omega⟩
  case b =>
    rintro i ρ hi ⟨gs, u, v, h1, rfl⟩
    have fin : ∀ (pool : List α) (v : Option SV), pool ≠ [] → pool.length < 1000 → W (dAppend 3 (d2 aIx (dVarB 5) (d2 aMod (d2 aDiv (d2 aIx (dVarB 2) (dVarB 4)) (dC (.int 4))) (dCall bLen [(dVarB 5)])))
        [some (.val (.list (known.map to))), some (.val (.list (others.map to))), some (.val (.list (iD xs))), some (.own (gs.map to)), some (.val (.int (0 + (i : Int)))), some (.val (.list (pool.map to)))])
        (Lp (fun ρ => ∃ (gs : List α) (u v : Option SV), gs.length ≤ i + 1 ∧ ρ = [some (.val (.list (known.map to))), some (.val (.list (others.map to))), some (.val (.list (iD xs))), some (.own (gs.map to)), u, v]) (Kn (fun ρ => (dRet (dVar 3)) (fzE ρ [3])) (Rt fun d => ∃ gs : List α, d = .list (gs.map to) ∧ gs.length ≤ 9))) := fun pool v hne hpl => by
      have hpos : 0 < pool.length := List.length_pos_iff.mpr hne
      simp only [↓ev_all]
      refine W_draw hx (by omega) (by omega) fun e he => ?_
      simp only [↓ev_all, List.length_map]
      have hdv : 0 ≤ e / 4 := Int.ediv_nonneg he (by omega)
      have b4 := mod_b (e / 4) pool.length (by omega)
      refine ⟨⟨by omega, by omega⟩, by omega, ?_⟩
      refine W_at b4.1 (by rw [List.length_map]; exact b4.2) fun w hw => ?_
      rw [List.getElem?_map] at hw
      obtain ⟨a, _, rfl⟩ := Option.map_eq_some_iff.mp hw
      refine ⟨by show _ < 16777216; omega, gs ++ [a], _, _, by simp; omega, by rw [List.map_append]; rfl⟩
    simp only [ex_all] at fin
    simp only [↓ev_all] at fin
    simp only [↓ev_all]
    rw [W_neP 2 1 (by omega) (by omega) (pl_lst fun d hd => by obtain ⟨w, _, rfl⟩ := List.mem_map.mp hd; exact hp w) (pl_lst fun d hd => by cases hd)]
    simp only [↓ev_all]
    refine ⟨fun hne => W_draw hx (by omega) (by omega) fun e he => ?_, fun _ => fin others v ho ho2⟩
    simp only [↓ev_all]
    refine ⟨by omega, fun _ => fin known v (fun z => hne (by rw [z]; rfl)) hk, fun _ => fin others v ho ho2⟩
end LW
namespace LW
open PySem PySem.Spec PyProof.Rows L2 PF
theorem W_minP (p : Int × Int) (Q : D → Prop) : W (bMin [pD p]) Q = Q (.int (min p.1 p.2)) := by
  unfold pD
  rw [W_minT]
  have e : PySem.W.minD (.int p.1) [.int p.2] = .int (min p.1 p.2) := by
    have := PySem.W.minD_ints p.1 [p.2]
    simpa using this
  rw [e, best_I]
  simp
theorem W_maxP (p : Int × Int) (Q : D → Prop) : W (bMax [pD p]) Q = Q (.int (max p.1 p.2)) := by
  unfold pD
  rw [W_maxT]
  have e : PySem.W.maxD (.int p.1) [.int p.2] = .int (max p.1 p.2) := by
    have := PySem.W.maxD_ints p.1 [p.2]
    simpa using this
  rw [e, best_I]
  simp
theorem pD_mem {p : Int × Int} {qs : List (Int × Int)} : pD p ∈ qs.map pD ↔ p ∈ qs := by
  rw [List.mem_map]
  exact ⟨fun ⟨q, h, e⟩ => pD_inj e ▸ h, fun h => ⟨p, h, rfl⟩⟩
theorem pDs_pl {qs : List (Int × Int)} {d : D} (h : d ∈ qs.map pD) : pl d 1 = true := by
  obtain ⟨q, _, rfl⟩ := List.mem_map.mp h
  exact pD_pl q 0
theorem W_inP (p : Int × Int) (qs : List (Int × Int)) (Q : D → Prop) : W (aCmp .In (pD p) (.list (qs.map pD))) Q = Q (.bool (decide (p ∈ qs))) := by
  rw [W_inLP 1 1 (by omega) (by omega) (pD_pl p 0) fun d hd => pDs_pl hd]
  congr 2
  exact decide_eq_decide.mpr pD_mem
theorem W_niP (p : Int × Int) (qs : List (Int × Int)) (Q : D → Prop) : W (aCmp .NotIn (pD p) (.list (qs.map pD))) Q = Q (.bool (decide (¬p ∈ qs))) := by
  rw [W_niLP 1 1 (by omega) (by omega) (pD_pl p 0) fun d hd => pDs_pl hd]
  congr 2
  exact decide_eq_decide.mpr (not_congr pD_mem)
def rI (r : Nat × Nat) : Int × Int := (r.1, r.2)
theorem W_inPr (r : Nat × Nat) (qs : List (Int × Int)) (Q : D → Prop) : W (aCmp .In (rD r) (.list (qs.map pD))) Q = Q (.bool (decide (rI r ∈ qs))) := W_inP (rI r) qs Q
theorem W_niPr (r : Nat × Nat) (qs : List (Int × Int)) (Q : D → Prop) : W (aCmp .NotIn (rD r) (.list (qs.map pD))) Q = Q (.bool (decide (¬rI r ∈ qs))) := W_niP (rI r) qs Q
theorem W_revR (r : Nat × Nat) (Q : D → Prop) : W (aRev (rD r)) Q = Q (rD (r.2, r.1)) := W_some _ _
def nrmI (p : Int × Int) : Int × Int := (min p.1 p.2, max p.1 p.2)
def goneB (gs : List (Int × Int)) (r : Nat × Nat) : Bool := decide (rI r ∈ gs ∨ rI (r.2, r.1) ∈ gs)
theorem gone_iff (gs : List (Int × Int)) {r : Nat × Nat} (h : r.1 ≤ r.2) : decide (rI r ∈ gs.map nrmI) = goneB gs r := by
  unfold goneB
  refine decide_eq_decide.mpr ?_
  rw [List.mem_map]
  constructor
  · rintro ⟨p, hp, e⟩
    unfold nrmI rI at e
    injection e with e1 e2
    by_cases hc : p.1 ≤ p.2
    · left
      have : p = rI r := Prod.ext (by show p.1 = (r.1 : Int); omega) (by show p.2 = (r.2 : Int); omega)
      exact this ▸ hp
    · right
      have : p = rI (r.2, r.1) := Prod.ext (by show p.1 = (r.2 : Int); omega) (by show p.2 = (r.1 : Int); omega)
      exact this ▸ hp
  · rintro (hp | hp)
    · exact ⟨_, hp, Prod.ext (by show min (r.1 : Int) r.2 = r.1; omega) (by show max (r.1 : Int) r.2 = r.2; omega)⟩
    · exact ⟨_, hp, Prod.ext (by show min (r.2 : Int) r.1 = r.1; omega) (by show max (r.2 : Int) r.1 = r.2; omega)⟩
theorem nrm_le (r : Nat × Nat) : (nrm r).1 ≤ (nrm r).2 := by unfold nrm; show min _ _ ≤ max _ _; omega
def keepW (gs : List (Int × Int)) (w : List Nat) : Bool := !((w.zip w.tail).any fun p => goneB gs (nrm p))
theorem joined_ok (qs : List (Int × Int)) (a b : Nat) : f_joined [.list (qs.map pD), .int (a : Nat), .int (b : Nat)] = some (.bool (decide (rI (nrm (a, b)) ∈ qs))) := by
  refine W_eq (W_run ?_)
  simp only [den_joined, ex_all]
  try simp only [↓ev_all, mm_rD, ↓W_inPr]
  rfl
theorem along_ok (gs : List (Int × Int)) (w : List Nat) : f_goes_along [wD w, .list ((gs.map nrmI).map pD)] = some (.bool (!keepW gs w)) := by
  refine W_eq (W_run ?_)
  simp only [den_goes_along, ex_all]
  try simp only [↓ev_all, ↓W_zip, ↓eg]
  rw [wD_tail]
  try unfold wD
  try simp only [↓W_zipL, ↓W_zipT]
  rw [nD_zip]
  refine W.of (comp_typed _ rD (fun p => .bool (goneB gs (nrm p))) fun p hp => ?_) ?_
  · simp only [wipeE, List.set_cons_succ, List.set_cons_zero]
    unfold rD
    try simp only [↓ev_all]
    refine W.of (joined_ok (gs.map nrmI) p.1 p.2) ?_
    rw [gone_iff gs (nrm_le _)]
  have e2 : List.map (fun p : Nat × Nat => PyData.bool (goneB gs (nrm p))) (w.zip w.tail) = ((w.zip w.tail).map fun p => goneB gs (nrm p)).map PyData.bool := by rw [List.map_map]; rfl
  rw [e2]
  try simp only [↓ev_all, ↓W_any]
  unfold keepW
  rw [List.any_map, Bool.not_not]
  rfl
theorem tup_row (ws : List (List Nat)) : PyData.tuple (ws.map wD) = wsD ws := rfl
theorem tup_ls (ls : List (List (List Nat))) : PyData.tuple (ls.map wsD) = lsD ls := rfl
theorem tup_rs (rs : List (Nat × Nat)) : PyData.tuple (rs.map rD) = rsD rs := rfl
theorem without_ok {most many : Nat} {rs : List (Nat × Nat)} {ls : List (List (List Nat))} (g : GOk most many rs ls) (gs : List (Int × Int)) :
    f_without [gD many rs ls, .list (gs.map pD)] = some (gD many (rs.filter fun r => !goneB gs r) (ls.map fun ws => ws.filter (keepW gs))) := by
  refine W_eq (W_run ?_)
  simp only [den_without, ex_all]
  try simp only [↓ev_all]
  unfold gD
  try simp only [↓ev_all]
  refine W.of (comp_typed gs pD (fun p => pD (nrmI p)) fun p hp => ?_) ?_
  · simp only [wipeE, List.set_cons_succ, List.set_cons_zero]
    try simp only [↓ev_all, ↓W_minP, ↓W_maxP]
    rfl
  have e0 : List.map (fun p => pD (nrmI p)) gs = (gs.map nrmI).map pD := by rw [List.map_map]; rfl
  rw [e0]
  try simp only [↓ev_all, ↓eg]
  refine W.of (comp_typed_if rs rD rD (fun r => !goneB gs r) fun r hr => ?_) ?_
  · have hle : r.1 ≤ r.2 := by have := (prs_mem many r.1 r.2).mp (g.rd.subset hr); omega
    simp only [wipeE, List.set_cons_succ, List.set_cons_zero]
    try simp only [↓ev_all, ↓W_niPr]
    refine ⟨?_, fun _ => by first | rfl | trivial⟩
    rw [decide_not, gone_iff gs hle]
  try simp only [↓ev_all, ↓eg]
  refine W.of (comp_typed ls wsD (fun ws => wsD (ws.filter (keepW gs))) fun ws hw => ?_) ?_
  · simp only [wipeE, List.set_cons_succ, List.set_cons_zero]
    try simp only [↓ev_all, ↓eg]
    refine W.of (comp_typed_if ws wD wD (keepW gs) fun w hw => ?_) ?_
    · simp only [wipeE, List.set_cons_succ, List.set_cons_zero]
      try simp only [↓ev_all, ↓eg]
      refine W.of (along_ok gs w) ?_
      try simp only [↓ev_all, Bool.not_not]
      exact ⟨trivial, fun _ => trivial⟩
    try simp only [↓ev_all]
    rfl
  try simp only [↓ev_all]
  have e1 : List.map (fun ws => wsD (ws.filter (keepW gs))) ls = (ls.map fun ws => ws.filter (keepW gs)).map wsD := by rw [List.map_map]; rfl
  rw [e1]
  rfl
theorem lwithout_ok {most many : Nat} {rs : List (Nat × Nat)} {ls : List (List (List Nat))} (g : GOk most many rs ls) (h7 : most ≤ 7) (gs : List (Int × Int)) :
    f_l_without [gD many rs ls, .list (gs.map pD)] = some (gD many (rs.filter fun r => !goneB gs r) (ls.map fun ws => ws.filter (keepW gs))) := by
  have hlen := g.len
  have hhi := g.hi
  refine W_eq (W_run ?_)
  simp only [den_l_without, ex_all]
  try simp only [↓ev_all, ↓eg]
  refine W_forL (fun r ρ => ∃ (ls' done : List (List (List Nat))) (x3 x4 x5 x6 x7 x8 x9 x10 x11 : Option SV), r = ls'.map wsD ∧ (∀ ws ∈ ls', ws ∈ ls) ∧ done.length + ls'.length ≤ 7 ∧ done ++ (ls'.map fun ws => ws.filter (keepW gs)) = ls.map (fun ws => ws.filter (keepW gs)) ∧
    ρ = [some (.val (gD many rs ls)), some (.val (.list (gs.map pD))), some (.own (done.map wsD)), x3, x4, x5, x6, x7, x8, x9, x10, x11]) ?zEnd ?zStep _ _ ⟨ls, [], _, _, _, _, _, _, _, _, _, rfl, fun _ h => h, by simp; omega, rfl, rfl⟩
  case zEnd =>
    rintro ρ ⟨ls', done, x3, x4, x5, x6, x7, x8, x9, x10, x11, h1, h2, h3, h4, rfl⟩
    cases ls' with
    | cons a b => cases h1
    | nil =>
      rw [List.map_nil, List.append_nil] at h4
      subst h4
      try simp only [↓ev_all, ↓eg]
      refine W.of (comp_typed_if rs rD rD (fun r => !goneB gs r) fun r hr => ?_) ?_
      · simp only [wipeE, List.set_cons_succ, List.set_cons_zero]
        try simp only [↓ev_all, ↓W_niPr, ↓W_revR]
        unfold goneB
        refine ⟨fun h => ?_, fun h => ?_⟩
        · exact ⟨by simp [h], fun _ => by first | rfl | trivial⟩
        · exact ⟨by have h' : rI r ∈ gs := Classical.not_not.mp h; simp [h'], fun _ => by first | rfl | trivial⟩
      try simp only [↓ev_all, ↓eg]
      rfl
  case zStep =>
    rintro x r ρ ⟨ls', done, x3, x4, x5, x6, x7, x8, x9, x10, x11, h1, h2, h3, h4, rfl⟩
    cases ls' with
    | nil => cases h1
    | cons ws ls' =>
      rw [List.map_cons] at h1
      injection h1 with e1 e2
      subst e1 e2
      have hws := h2 ws (List.mem_cons_self ..)
      have hsix : ws.length ≤ 6 := by
        obtain ⟨j, hj⟩ := List.getElem?_of_mem hws
        exact (g.ok j ws hj).few
      simp only [List.length_cons] at h3
      try simp only [↓ev_all, ↓eg]
      refine W_forL (fun r' ρ => ∃ (ws' left : List (List Nat)) (x6 x7 x9 x10 x11 : Option SV), r' = ws'.map wD ∧ left.length + ws'.length ≤ 6 ∧ left ++ ws'.filter (keepW gs) = ws.filter (keepW gs) ∧
        ρ = [some (.val (gD many rs ls)), some (.val (.list (gs.map pD))), some (.own (done.map wsD)), some (.val (wsD ws)), x4, some (.own (left.map wD)), x6, x7, x8, x9, x10, x11]) ?yEnd ?yStep _ _ ⟨ws, [], _, _, _, _, _, rfl, by simpa using hsix, rfl, rfl⟩
      case yEnd =>
        rintro ρ ⟨ws', left, x6, x7, x9, x10, x11, k1, k2, k3, rfl⟩
        cases ws' with
        | cons a b => cases k1
        | nil =>
          rw [List.filter_nil, List.append_nil] at k3
          subst k3
          try simp only [↓ev_all]
          refine ⟨by rw [List.length_map]; show _ < 16777216; omega, ?_⟩
          refine ⟨ls', done ++ [ws.filter (keepW gs)], _, _, _, _, _, _, _, _, _, rfl, fun v hv => h2 v (List.mem_cons_of_mem _ hv), by simp; omega, by rw [List.append_assoc]; exact h4, by rw [List.map_append]; rfl⟩
      case yStep =>
        rintro x r' ρ ⟨ws', left, x6, x7, x9, x10, x11, k1, k2, k3, rfl⟩
        cases ws' with
        | nil => cases k1
        | cons w ws' =>
          rw [List.map_cons] at k1
          injection k1 with e1 e2
          subst e1 e2
          simp only [List.length_cons] at k2
          try simp only [↓ev_all, ↓W_zip, ↓eg]
          rw [wD_tail]
          have ez : ∀ Q : List D → Prop, W (zipA (wD w) (.tuple (nD w.tail))) Q = Q ((w.zip w.tail).map rD) := fun Q => by
            unfold wD
            rw [W_zipT, nD_zip]
          simp only [↓ez]
          refine W.of (comp_typed (w.zip w.tail) rD (fun p => rD (nrm p)) fun p hp => ?_) ?_
          · simp only [wipeE, List.set_cons_succ, List.set_cons_zero]
            unfold rD
            try simp only [↓ev_all]
            exact mm_rD p.1 p.2
          have e0 : List.map (fun p => rD (nrm p)) (w.zip w.tail) = ((w.zip w.tail).map nrm).map rD := by rw [List.map_map]; rfl
          rw [e0]
          try simp only [↓ev_all]
          refine W.of (comp_typed_if ((w.zip w.tail).map nrm) rD rD (goneB gs) fun r hr => ?_) ?_
          · simp only [wipeE, List.set_cons_succ, List.set_cons_zero]
            try simp only [↓ev_all, ↓W_inPr, ↓W_revR]
            unfold goneB
            refine ⟨fun h => ⟨by simp [h], fun _ => by first | rfl | trivial⟩, fun h => ⟨?_, fun _ => by first | rfl | trivial⟩⟩
            simp [h]
          have hpl : pl (.list (List.map rD (List.filter (goneB gs) ((w.zip w.tail).map nrm)))) 2 = true := pl_lst fun d hd => rsD_pl hd 0
          rw [W_eqP 2 1 (by omega) (by omega) hpl (pl_lst fun d hd => by cases hd)]
          try simp only [↓ev_all]
          have key : (PyData.list (List.map rD (List.filter (goneB gs) ((w.zip w.tail).map nrm))) = .list []) ↔ keepW gs w = true := by
            unfold keepW
            rw [PyData.list.injEq, List.map_eq_nil_iff, List.filter_eq_nil_iff, Bool.not_eq_true', List.any_eq_false]
            simp only [List.mem_map, forall_exists_index, and_imp, forall_apply_eq_imp_iff₂]
          refine ⟨fun h => ⟨by rw [List.length_map]; show _ < 16777216; omega, ?_⟩, fun h => ?_⟩
          · refine ⟨ws', left ++ [w], _, _, _, _, _, rfl, by simp; omega, ?_, by rw [List.map_append]; rfl⟩
            rw [← k3, List.filter_cons_of_pos (key.mp h), List.append_assoc]
            rfl
          · refine ⟨ws', left, _, _, _, _, _, rfl, by omega, ?_, rfl⟩
            rw [← k3, List.filter_cons_of_neg fun z => h (key.mpr z)]
def keepT (ts : List (List Int)) (w : List Nat) : Bool := decide (¬toI w ∈ ts)
theorem dropped_ok (many : Nat) (rs : List (Nat × Nat)) (ls : List (List (List Nat))) (ts : List (List Int)) :
    f_dropped [gD many rs ls, .list (ts.map itD)] = some (gD many rs (ls.map fun ws => ws.filter (keepT ts))) := by
  refine W_eq (W_run ?_)
  simp only [den_dropped, ex_all]
  try simp only [↓ev_all]
  unfold gD
  try simp only [↓ev_all, ↓ev5]
  have dc := dc_typed (β := Unit) (tv := fun _ => PyData.bool true) kyI (b := bName 6) (kk := dVar 6) (vv := dC (.bool true)) (ρ0 := wipeE [some (.val (.tuple [.int (many : Nat), rsD rs, lsD ls])), some (.val (.list (ts.map itD))), none, some (.val (.int (many : Nat))), some (.val (rsD rs)), some (.val (lsD ls)), none, none] [6]) itD id (fun _ => ()) ts [] fun x hx => by
    simp only [wipeE, List.set_cons_succ, List.set_cons_zero]
    try simp only [↓ev_all]
    exact ⟨rfl, trivial⟩
  refine W.of dc ?_
  try simp only [↓ev_all, ↓eg]
  refine W.of (comp_typed ls wsD (fun ws => wsD (ws.filter (keepT ts))) fun ws hw => ?_) ?_
  · simp only [wipeE, List.set_cons_succ, List.set_cons_zero]
    try simp only [↓ev_all, ↓eg]
    refine W.of (comp_typed_if ws wD wD (keepT ts) fun w hw => ?_) ?_
    · simp only [wipeE, List.set_cons_succ, List.set_cons_zero]
      try simp only [↓ev_all, ↓eg]
      rw [wD_it]
      refine (congrArg (fun z => z) (W_niK kyI (tv := fun _ : Unit => PyData.bool true) _ (toI w) _)).mpr ?_
      try simp only [↓ev_all]
      refine ⟨?_, fun _ => by first | rfl | trivial⟩
      rw [fold_keys]
      unfold keepT
      simp [aget_nil]
    try simp only [↓ev_all]
    rfl
  try simp only [↓ev_all]
  have e1 : List.map (fun ws => wsD (ws.filter (keepT ts))) ls = (ls.map fun ws => ws.filter (keepT ts)).map wsD := by rw [List.map_map]; rfl
  rw [e1]
  rfl
theorem liked_ok {most many : Nat} {rs : List (Nat × Nat)} {ls : List (List (List Nat))} (g : GOk most many rs ls) (h7 : most ≤ 7) : f_l_liked [gD many rs ls] = some (.list (ls.flatten.map wD)) ∧ ls.flatten.length ≤ 36 := by
  have hlen := g.len
  have hhi := g.hi
  have hfew : ∀ l' : List (List (List Nat)), (∀ ws ∈ l', ws ∈ ls) → l'.flatten.length ≤ 6 * l'.length := fun l' => by
    induction l' with
    | nil => intro _; simp
    | cons ws l' ih =>
      intro h
      have := ih fun v hv => h v (List.mem_cons_of_mem _ hv)
      obtain ⟨j, hj⟩ := List.getElem?_of_mem (h ws (List.mem_cons_self ..))
      have h6 := (g.ok j ws hj).few
      rw [List.flatten_cons, List.length_append, List.length_cons]
      omega
  have htot := hfew ls fun _ h => h
  refine ⟨W_eq (W_run ?_), by omega⟩
  simp only [den_l_liked, ex_all]
  try simp only [↓ev_all, ↓eg]
  refine W_forL (fun r ρ => ∃ (ls' : List (List (List Nat))) (done : List (List Nat)) (x2 : Option SV), r = ls'.map wsD ∧ done ++ ls'.flatten = ls.flatten ∧ ρ = [some (.val (gD many rs ls)), some (.val (.list (done.map wD))), x2]) ?zEnd ?zStep _ _ ⟨ls, [], _, rfl, rfl, rfl⟩
  case zEnd =>
    rintro ρ ⟨ls', done, x2, h1, h2, rfl⟩
    cases ls' with
    | cons a b => cases h1
    | nil =>
      rw [List.flatten_nil, List.append_nil] at h2
      subst h2
      try simp only [↓ev_all]
  case zStep =>
    rintro x r ρ ⟨ls', done, x2, h1, h2, rfl⟩
    cases ls' with
    | nil => cases h1
    | cons ws ls' =>
      rw [List.map_cons] at h1
      injection h1 with e1 e2
      subst e1 e2
      unfold wsD
      try simp only [↓ev_all]
      have hl : done.length + ws.length ≤ 36 := by
        have := congrArg List.length h2
        simp only [List.length_append, List.flatten_cons] at this
        omega
      refine ⟨by simp only [List.length_map]; show _ ≤ 16777216; omega, ?_⟩
      exact ⟨ls', done ++ ws, _, rfl, by rw [List.append_assoc, ← h2, List.flatten_cons], by rw [List.map_append]⟩
end LW
namespace PF
open PySem PySem.Spec PyProof.Rows L2
theorem aget_in {α β : Type} [DecidableEq α] {m : List (α × β)} {a : α} : (aget m a).isSome = true ↔ a ∈ m.map (·.1) := by rw [aget_some]; exact decide_eq_true_iff
theorem aput_new {α β : Type} [DecidableEq α] {m : List (α × β)} {a : α} {v : β} (h : a ∉ m.map (·.1)) : aput m a v = m ++ [(a, v)] := by
  unfold aput
  rw [aget_some, decide_eq_false h, if_neg (by decide)]
theorem fold_new {γ α β : Type} [DecidableEq α] (fk : γ → α) (fv : γ → β) : ∀ (xs : List γ) (m : List (α × β)), (m.map (·.1) ++ xs.map fk).Nodup → xs.foldl (fun m x => aput m (fk x) (fv x)) m = m ++ xs.map fun x => (fk x, fv x)
  | [], m, _ => by simp
  | x :: xs, m, h => by
    have hx : fk x ∉ m.map (·.1) := fun z => by
      rw [List.nodup_append] at h
      exact h.2.2 _ z _ (by simp) rfl
    rw [List.foldl_cons, aput_new hx, fold_new fk fv xs (m ++ [(fk x, fv x)]) (by simpa using h)]
    simp
end PF
namespace LW
open PySem PySem.Spec PyProof.Rows L2 PF
abbrev Rw := (Nat × Nat) × (Nat × Nat)
def qD (q : Rw) : D := .tuple [.int (q.1.1 : Nat), .int (q.1.2 : Nat), .int (q.2.1 : Nat), .int (q.2.2 : Nat)]
def qsD (qs : List Rw) : D := .tuple (qs.map qD)
def netD (many : Nat) (qs : List Rw) : D := .tuple [.int (many : Nat), qsD qs]
structure NtOk (most many : Nat) (qs : List Rw) : Prop where
  lo : 2 ≤ many
  hi : many ≤ most
  rd : (qs.map (·.1)).Sublist (prs many)
  sz : ∀ q ∈ qs, 1 ≤ q.2.1 ∧ q.2.1 ≤ 99 ∧ 1 ≤ q.2.2 ∧ q.2.2 ≤ 99
theorem prs_lt (many : Nat) : (prs many).Pairwise fun a b => rlt a b = true := by
  unfold prs prsTo
  rw [List.pairwise_flatMap]
  refine ⟨fun a _ => ?_, ?_⟩
  · rw [List.pairwise_map]
    exact List.pairwise_lt_range.imp fun {x y} h => (rlt_iff (a, a + 1 + x) (a, a + 1 + y)).mpr (.inr ⟨rfl, by show a + 1 + x < a + 1 + y; omega⟩)
  · refine List.pairwise_lt_range.imp fun {a b} h x hx y hy => ?_
    obtain ⟨c, _, rfl⟩ := List.mem_map.mp hx
    obtain ⟨d, _, rfl⟩ := List.mem_map.mp hy
    exact (rlt_iff _ _).mpr (.inl h)
theorem prs_nd (many : Nat) : (prs many).Nodup := (prs_lt many).imp fun h e => by subst e; rw [ordR.irr] at h; cases h
theorem NtOk.nd {most many : Nat} {qs : List Rw} (g : NtOk most many qs) : (qs.map (·.1)).Nodup := g.rd.nodup (prs_nd many)
theorem W_ixN0 (many : Nat) (qs : List Rw) (Q : D → Prop) : W (aIx (netD many qs) (.int 0)) Q = Q (.int many) := W_at0 _ _ _
theorem W_ixN1 (many : Nat) (qs : List Rw) (Q : D → Prop) : W (aIx (netD many qs) (.int 1)) Q = Q (qsD qs) := W_at1 _ _ _ _
theorem W_itQs (qs : List Rw) (Q : List D → Prop) : W (itmK (qsD qs)) Q = Q (qs.map qD) := W_some _ _
theorem W_ixQ2 (q : Rw) (Q : D → Prop) : W (aIx (qD q) (.int 2)) Q = Q (.int (q.2.1 : Nat)) := W_at2 _ _ _ _ _
theorem W_ixQ3 (q : Rw) (Q : D → Prop) : W (aIx (qD q) (.int 3)) Q = Q (.int (q.2.2 : Nat)) := by
  show W (atI [_, _, _, _] 3) Q = _
  rw [show (3 : Int) = ((3 : Nat) : Int) from rfl, atI_nat rfl, W_some]
theorem W_cutQ (q : Rw) (Q : D → Prop) : W (aCut (qD q) none (some 2)) Q = Q (rD q.1) := by
  show W (some (PyData.tuple (PF.cutD [_, _, _, _] none (some 2)))) Q = _
  rw [W_some]
  have := cut_to [PyData.int (q.1.1 : Nat), .int (q.1.2 : Nat), .int (q.2.1 : Nat), .int (q.2.2 : Nat)] 2
  rw [show ((2 : Nat) : Int) = 2 from rfl] at this
  rw [this]
  rfl
def eN := And.intro @W_ixN0 <| And.intro @W_ixN1 <| And.intro @W_itQs <| And.intro @W_ixQ2 <| And.intro @W_ixQ3 <| @W_cutQ
theorem W_eqR (a b : Nat × Nat) (Q : D → Prop) : W (aCmp .Eq (rD a) (rD b)) Q = Q (.bool (decide (a = b))) := by
  rw [W_eqP 1 1 (by omega) (by omega) (rD_pl a 0) (rD_pl b 0)]
  congr 2
  exact decide_eq_decide.mpr ⟨rD_inj, fun e => by rw [e]⟩
theorem W_neR (a b : Nat × Nat) (Q : D → Prop) : W (aCmp .NotEq (rD a) (rD b)) Q = Q (.bool (decide (¬a = b))) := by
  rw [W_neP 1 1 (by omega) (by omega) (rD_pl a 0) (rD_pl b 0)]
  congr 2
  exact decide_eq_decide.mpr (not_congr ⟨rD_inj, fun e => by rw [e]⟩)
theorem kyR : Ky rD (fun r => tyK [(r.1 : Int), (r.2 : Int)]) := ⟨fun p => kyI.key [(p.1 : Int), (p.2 : Int)], fun a b h => by
  have := kyI.inj _ _ h
  simp only [List.cons.injEq, and_true] at this
  exact Prod.ext (by omega) (by omega)⟩
def szOf (qs : List Rw) (p : Nat × Nat) : Nat × Nat := (aget qs (nrm p)).getD (0, 0)
def worthN (qs : List Rw) (w : List Nat) : Nat × Nat := (((w.zip w.tail).map fun p => (szOf qs p).1).sum, ((w.zip w.tail).map fun p => (szOf qs p).2).foldl min 99)
theorem lnk_zip {rs : List (Nat × Nat)} {w : List Nat} (h : Lnk rs w) : ∀ p ∈ w.zip w.tail, nrm p ∈ rs := fun p hp => by
  obtain ⟨i, hi⟩ := List.getElem?_of_mem hp
  rw [List.getElem?_zip_eq_some] at hi
  have h2 : w[i + 1]? = some p.2 := by rw [← hi.2, List.getElem?_tail]
  exact h i p.1 p.2 hi.1 h2
theorem best_Is (x : Int) (xs : List Int) (m : Int) : bestOk (.int x) (xs.map PyData.int) (.int m) = true := by
  unfold bestOk
  have hm : ∀ d ∈ (PyData.int x :: xs.map PyData.int), ∃ i : Int, d = .int i := fun d hd => by
    rcases List.mem_cons.mp hd with rfl | hd
    · exact ⟨x, rfl⟩
    · obtain ⟨i, _, rfl⟩ := List.mem_map.mp hd; exact ⟨i, rfl⟩
  have h1 : SeqAt.shaped (.list (PyData.int x :: xs.map PyData.int)) = true := pl_shaped (n := 1) (pl_lst fun d hd => by obtain ⟨i, rfl⟩ := hm d hd; exact pl_int _ _) (by omega)
  have h2 : alikeB (PyData.int x :: xs.map PyData.int) = true := by
    unfold alikeB
    rw [List.all_eq_true]
    intro a ha
    rw [List.all_eq_true]
    intro b hb
    obtain ⟨i, rfl⟩ := hm a ha
    obtain ⟨j, rfl⟩ := hm b hb
    simp only [PySem.W.alike]
  have h3 : noN (PyData.int x :: xs.map PyData.int) = true := by
    unfold noN
    rw [List.all_eq_true]
    intro a ha
    obtain ⟨i, rfl⟩ := hm a ha
    rfl
  rw [h1, h2, h3]
  rfl
theorem W_minI (x : Int) (xs : List Int) (Q : D → Prop) : W (bMin [.list (.int x :: xs.map PyData.int)]) Q = Q (.int (xs.foldl min x)) := by
  show W (if bestOk (.int x) (xs.map PyData.int) (PySem.W.minD (.int x) (xs.map PyData.int)) = true then some (PySem.W.minD (.int x) (xs.map PyData.int)) else none) Q = _
  rw [W_if, PySem.W.minD_ints, best_Is]
  simp
theorem sum_cast : ∀ l : List Nat, (l.map fun n : Nat => (n : Int)).sum = ((l.sum : Nat) : Int)
  | [] => rfl
  | n :: l => by rw [List.map_cons, List.sum_cons, List.sum_cons, sum_cast l]; omega
theorem min_cast : ∀ (l : List Nat) (n : Nat), (l.map fun n : Nat => (n : Int)).foldl min (n : Int) = ((l.foldl min n : Nat) : Int)
  | [], n => rfl
  | m :: l, n => by
    rw [List.map_cons, List.foldl_cons, List.foldl_cons, ← min_cast l (min n m)]
    congr 1
    omega
theorem worth_ok {most many : Nat} {qs : List Rw} (g : NtOk most many qs) {w : List Nat} (hl : Lnk (qs.map (·.1)) w) (h2 : 2 ≤ w.length) : f_worth [netD many qs, wD w] = some (rD (worthN qs w)) := by
  refine W_eq (W_run ?_)
  simp only [den_worth, ex_all]
  simp only [↓ev_all, ↓eN, ↓ev5]
  have dc := dc_typed (tv := rD) kyR (b := bTup (bCons (bName 4) (bCons (bName 5) (bCons (bName 6) (bCons (bName 7) bNil))))) (kk := dTup [dVar 4, dVar 5]) (vv := dTup [dVar 6, dVar 7]) (ρ0 := wipeE [some (.val (netD many qs)), some (.val (wD w)), none, none, none, none, none, none] [4, 5, 6, 7]) qD (fun q => q.1) (fun q => q.2) qs [] fun q hq => by
    simp only [wipeE, List.set_cons_succ, List.set_cons_zero]
    unfold qD
    simp only [↓ev_all]
    exact ⟨rfl, rfl⟩
  rw [fold_new _ _ _ _ (by simpa using g.nd), List.nil_append] at dc
  have ei : (qs.map fun x : Rw => (x.1, x.2)) = qs := by simp
  rw [ei] at dc
  refine W.of dc ?_
  try simp only [↓ev_all, ↓W_zip, ↓eg]
  rw [wD_tail]
  have ez : ∀ Q : List D → Prop, W (zipA (wD w) (.tuple (nD w.tail))) Q = Q ((w.zip w.tail).map rD) := fun Q => by
    unfold wD
    rw [W_zipT, nD_zip]
  simp only [↓ez]
  have hget : ∀ p ∈ w.zip w.tail, aget qs (nrm p) = some (szOf qs p) := fun p hp => by
    have h1 := lnk_zip hl p hp
    have h3 : (aget qs (nrm p)).isSome = true := aget_in.mpr h1
    obtain ⟨v, hv⟩ := Option.isSome_iff_exists.mp h3
    unfold szOf
    rw [hv]
    rfl
  refine W.of (comp_typed (w.zip w.tail) rD (fun p => rD (szOf qs p)) fun p hp => ?_) ?_
  · simp only [wipeE, List.set_cons_succ, List.set_cons_zero]
    have e1 : rD p = .tuple [.int (p.1 : Nat), .int (p.2 : Nat)] := rfl
    rw [e1]
    simp only [↓ev_all, mm_rD]
    refine (congrArg (fun z => z) (W_ixK kyR (tv := rD) qs (nrm p) _)).mpr ?_
    rw [hget p hp, W_some]
  try simp only [↓ev_all]
  have hz : w.zip w.tail ≠ [] := by
    intro z
    have := congrArg List.length z
    simp at this
    omega
  have em : (w.zip w.tail).map (fun p => rD (szOf qs p)) = ((w.zip w.tail).map (szOf qs)).map rD := by rw [List.map_map]; rfl
  rw [em]
  refine W.of (comp_typed ((w.zip w.tail).map (szOf qs)) rD (fun v => .int (v.1 : Nat)) fun v hv => ?_) ?_
  · simp only [wipeE, List.set_cons_succ, List.set_cons_zero]
    unfold rD
    simp only [↓ev_all]
  have es : ((w.zip w.tail).map (szOf qs)).map (fun v => PyData.int (v.1 : Nat)) = (((w.zip w.tail).map fun p => (szOf qs p).1).map fun n : Nat => (n : Int)).map PyData.int := by
    rw [List.map_map, List.map_map, List.map_map]; rfl
  rw [es]
  simp only [↓ev_all, ↓W_sum]
  refine W.of (comp_typed ((w.zip w.tail).map (szOf qs)) rD (fun v => .int (v.2 : Nat)) fun v hv => ?_) ?_
  · simp only [wipeE, List.set_cons_succ, List.set_cons_zero]
    unfold rD
    simp only [↓ev_all]
  have es2 : ((w.zip w.tail).map (szOf qs)).map (fun v => PyData.int (v.2 : Nat)) = (((w.zip w.tail).map fun p => (szOf qs p).2).map fun n : Nat => (n : Int)).map PyData.int := by
    rw [List.map_map, List.map_map, List.map_map]; rfl
  rw [es2]
  have h99 : ∀ n ∈ (w.zip w.tail).map fun p => (szOf qs p).2, n ≤ 99 := fun n hn => by
    obtain ⟨p, hp, rfl⟩ := List.mem_map.mp hn
    have := aget_mem (hget p hp)
    exact (g.sz _ this).2.2.2
  unfold worthN
  cases e : (w.zip w.tail).map fun p => (szOf qs p).2 with
  | nil => rw [List.map_eq_nil_iff] at e; exact absurd e hz
  | cons n l =>
    rw [e] at h99
    have hn := h99 n (List.mem_cons_self ..)
    rw [List.map_cons, List.map_cons]
    simp only [↓W_minI]
    rw [min_cast, sum_cast, List.foldl_cons, show min 99 n = n by omega]
    rfl
theorem find_flt (qs : List Rw) (a v : Nat × Nat) (h : aget qs a = some v) : ∃ t, qs.filter (fun q => decide (q.1 = a)) = (a, v) :: t := by
  induction qs with
  | nil => cases h
  | cons q qs ih =>
    rw [aget_cons] at h
    by_cases e : q.1 = a
    · rw [if_pos e] at h
      rw [List.filter_cons_of_pos (by simpa using e)]
      exact ⟨_, by rw [← e, ← Option.some.inj h]⟩
    · rw [if_neg e] at h
      rw [List.filter_cons_of_neg (by simpa using e)]
      exact ih h
theorem lworth_ok {most many : Nat} {qs : List Rw} (g : NtOk most many qs) {w : List Nat} (hl : Lnk (qs.map (·.1)) w) : f_l_worth [netD many qs, wD w] = some (rD (worthN qs w)) := by
  have hget : ∀ p ∈ w.zip w.tail, aget qs (nrm p) = some (szOf qs p) := fun p hp => by
    have h1 := lnk_zip hl p hp
    have h3 : (aget qs (nrm p)).isSome = true := aget_in.mpr h1
    obtain ⟨v, hv⟩ := Option.isSome_iff_exists.mp h3
    unfold szOf
    rw [hv]
    rfl
  refine W_eq (W_run ?_)
  simp only [den_l_worth, ex_all]
  try simp only [↓ev_all, ↓W_zip, ↓eg]
  rw [wD_tail]
  have ez : ∀ Q : List D → Prop, W (zipA (wD w) (.tuple (nD w.tail))) Q = Q ((w.zip w.tail).map rD) := fun Q => by
    unfold wD
    rw [W_zipT, nD_zip]
  simp only [↓ez]
  refine W_forL (fun r ρ => ∃ (ps : List (Nat × Nat)) (a b : Nat) (x4 x5 x6 : Option SV), r = ps.map rD ∧ (∀ p ∈ ps, p ∈ w.zip w.tail) ∧ a + (ps.map fun p => (szOf qs p).1).sum = (worthN qs w).1 ∧ (ps.map fun p => (szOf qs p).2).foldl min b = (worthN qs w).2 ∧
    ρ = [some (.val (netD many qs)), some (.val (wD w)), some (.val (.int (a : Nat))), some (.val (.int (b : Nat))), x4, x5, x6]) ?zEnd ?zStep _ _ ⟨w.zip w.tail, 0, 99, _, _, _, rfl, fun _ h => h, by simp [worthN], rfl, rfl⟩
  case zEnd =>
    rintro ρ ⟨ps, a, b, x4, x5, x6, h1, h2, h3, h4, rfl⟩
    cases ps with
    | cons a b => cases h1
    | nil =>
      simp only [↓ev_all]
      simp only [List.map_nil, List.sum_nil, List.foldl_nil, Nat.add_zero] at h3 h4
      rw [h3, h4]
      rfl
  case zStep =>
    rintro x r ρ ⟨ps, a, b, x4, x5, x6, h1, h2, h3, h4, rfl⟩
    cases ps with
    | nil => cases h1
    | cons p ps =>
      rw [List.map_cons] at h1
      injection h1 with e1 e2
      subst e1 e2
      have hp := hget p (h2 p (List.mem_cons_self ..))
      obtain ⟨t, ht⟩ := find_flt qs (nrm p) (szOf qs p) hp
      have e1 : rD p = .tuple [.int (p.1 : Nat), .int (p.2 : Nat)] := rfl
      rw [e1]
      simp only [↓ev_all, ↓eN]
      refine W.of (comp_typed_if qs qD qD (fun q => decide (q.1 = nrm p)) fun q hq => ?_) ?_
      · simp only [wipeE, List.set_cons_succ, List.set_cons_zero]
        simp only [↓ev_all, ↓eN, mm_rD, ↓W_eqR]
        exact ⟨by first | rfl | trivial, fun _ => by first | rfl | trivial⟩
      rw [ht, List.map_cons]
      simp only [↓ev_all, ↓eN]
      simp only [List.map_cons, List.sum_cons, List.foldl_cons] at h3 h4
      have e3 : (a : Int) + ((szOf qs p).1 : Nat) = ((a + (szOf qs p).1 : Nat) : Int) := by omega
      have e4 : min (b : Int) ((szOf qs p).2 : Nat) = ((min b (szOf qs p).2 : Nat) : Int) := by omega
      exact ⟨ps, a + (szOf qs p).1, min b (szOf qs p).2, _, _, _, rfl, fun q hq => h2 q (List.mem_cons_of_mem _ hq), by omega, h4, by rw [← e3, ← e4]⟩
end LW
namespace LW
open PySem PySem.Spec PyProof.Rows L2 PF
theorem size_at {a b c e : Int} {Q : D → Prop} (he : 0 ≤ e) (ha : 1 ≤ a ∧ a ≤ 99) (hb : 1 ≤ b ∧ b ≤ 99) (hc : 1 ≤ c ∧ c ≤ 99) (h : ∀ n : Nat, 1 ≤ n → n ≤ 99 → Q (.int n)) : W (atI [.int a, .int b, .int c] (e / 99 % 5 % 3)) Q := by
  have b1 := mod_b (e / 99 % 5) 3 (by omega)
  have key : ∀ z : Int, 1 ≤ z ∧ z ≤ 99 → Q (.int z) := fun z hz => by
    obtain ⟨n, rfl⟩ := Int.eq_ofNat_of_zero_le (show 0 ≤ z by omega)
    exact h n (by omega) (by omega)
  exact W_at3 b1.1 b1.2 (fun _ => key a ha) (fun _ => key b hb) (fun _ => key c hc)
theorem net_ok (ns : List Int) (att most : Nat) (h1 : att < 900) (h2 : 2 ≤ most) (h3 : most ≤ 7) :
    W (f_l_net [scrD ns, .int att, .int most]) fun d => ∃ many qs, d = netD many qs ∧ NtOk most many qs := by
  refine W_run ?_
  simp only [den_l_net, ex_all]
  try simp only [↓ev_all]
  refine (draws_int ns (by omega) (by omega) (by omega) (by omega) (by omega) (by omega)).mono fun d ⟨xs, hd, hl, hx⟩ => ?_
  subst hd
  try simp only [↓ev_all]
  refine W_draw hx (by omega) (by omega) fun a ha => ?_
  try simp only [↓ev_all]
  refine ⟨by omega, W_draw hx (by omega) (by omega) fun b hb => ?_⟩
  try simp only [↓ev_all]
  have b1 := mod_b a (most - 1) (by omega)
  have b2 := mod_b b 2 (by omega)
  refine ⟨by omega, ?_⟩
  refine (W_at2' (Q := fun d => ∃ n : Nat, d = .int n ∧ 2 ≤ n ∧ n ≤ most) b2.1 b2.2 (fun _ => ?_) (fun _ => ⟨_, rfl, by omega, by omega⟩)).mono fun d ⟨many, hd, n0, n6⟩ => ?_
  · obtain ⟨m, hm⟩ := Int.eq_ofNat_of_zero_le b1.1
    exact ⟨2 + m, by rw [hm]; simp, by omega, by omega⟩
  subst hd
  try simp only [↓ev_all]
  refine ⟨rg_ok (by omega) (by omega) (by omega) (by omega), ?_⟩
  refine W_forR (fun i ρ => ∃ (x6 x13 : Option SV), ρ = [some (.val (scrD ns)), some (.val (.int att)), some (.val (.int most)), some (.val (.list (iD xs))), some (.val (.int many)), some (.val (.list ((prsTo many i).map rD))), x6, none, none, none, none, none, none, x13]) ⟨_, _, rfl⟩ ?aEnd ?aStep
  case aStep =>
    rintro i ρ hi ⟨x6, x13, rfl⟩
    try simp only [↓ev_all]
    refine ⟨rg_ok (by omega) (by omega) (by omega) (by omega), ?_⟩
    have e := comp_map (b := bName 13) (e := dTup [dVar 6, dVar 13]) (ρ0 := wipeE [some (.val (scrD ns)), some (.val (.int att)), some (.val (.int most)), some (.val (.list (iD xs))), some (.val (.int many)), some (.val (.list ((prsTo many i).map rD))), some (.val (.int (0 + i))), none, none, none, none, none, none, x13] [13]) (fun d => .tuple [.int (0 + (i : Nat)), d]) (rgD (0 + i + 1) many) fun x hx => by
      simp only [wipeE, List.set_cons_succ, List.set_cons_zero]
      try simp only [↓ev_all]
      rfl
    refine W.of e ?_
    have e2 : (rgD (0 + (i : Int) + 1) many).map (fun d => PyData.tuple [.int (0 + (i : Nat)), d]) = ((List.range (many - (i + 1))).map fun b => (i, i + 1 + b)).map rD := by
      unfold rgD rgI rD
      rw [List.map_map, List.map_map, List.map_map]
      have : ((many : Int) - (0 + (i : Int) + 1)).toNat = many - (i + 1) := by omega
      rw [this]
      refine List.map_congr_left fun b _ => ?_
      simp only [Function.comp]
      congr 3
      · congr 1; omega
      · congr 2; simp
    rw [e2]
    refine ⟨?_, some (.val (.int (0 + i))), x13, ?_⟩
    · have h1 := prs_len (many := many) (i := i) (by omega) (by omega)
      simp only [List.length_map, List.length_range]
      show _ ≤ 16777216
      omega
    · rw [← List.map_append]
      congr 6
      unfold prsTo
      rw [List.range_succ, List.flatMap_append]
      simp
  case aEnd =>
    rintro ρ ⟨x6, x13, rfl⟩
    have e0 : ((many : Int) - 0).toNat = many := by omega
    rw [e0]
    try simp only [↓ev_all]
    refine (draws_int ns (by omega) (by omega) (by omega) (by omega) (by omega) (by omega)).mono fun d ⟨ys, hd, hl2, hy⟩ => ?_
    subst hd
    try simp only [↓ev_all]
    have hpl := prs_len (many := many) (i := many) (by omega) (Nat.le_refl _)
    rw [enumD_eq, List.zipIdx_map, List.map_map]
    refine W_forL (fun r ρ => ∃ (L : List ((Nat × Nat) × Nat)) (done : List (Nat × Nat)) (qs : List Rw) (x9 x10 x11 x12 : Option SV), r = L.map (fun p => PyData.tuple [.int (p.2 : Nat), rD p.1]) ∧ (∀ p ∈ L, p.2 < 21) ∧ done ++ L.map (·.1) = prs many ∧ (qs.map (·.1)).Sublist done ∧ (∀ q ∈ qs, 1 ≤ q.2.1 ∧ q.2.1 ≤ 99 ∧ 1 ≤ q.2.2 ∧ q.2.2 ≤ 99) ∧
      ρ = [some (.val (scrD ns)), some (.val (.int att)), some (.val (.int most)), some (.val (.list (iD xs))), some (.val (.int many)), some (.val (.list ((prsTo many many).map rD))), x6, some (.val (.list (iD ys))), some (.own (qs.map qD)), x9, x10, x11, x12, x13]) ?zEnd ?zStep _ _ ⟨(prs many).zipIdx, [], [], _, _, _, _, ?zr, ?zl, ?zp, List.Sublist.slnil, fun q h => (by cases h), rfl⟩
    case zr => rfl
    case zl =>
      rintro ⟨p, j⟩ hp
      have := List.snd_lt_of_mem_zipIdx hp
      simp only [Nat.zero_add] at this
      have h3 : (prs many).length ≤ 21 := hpl
      show j < 21
      omega
    case zp =>
      rw [List.nil_append]
      exact List.zipIdx_map_fst 0 (prs many)
    case zEnd =>
      rintro ρ ⟨L, done, qs, x9, x10, x11, x12, k1, k2, k3, k4, k5, rfl⟩
      cases L with
      | cons a b => cases k1
      | nil =>
        rw [List.map_nil, List.append_nil] at k3
        subst k3
        try simp only [↓ev_all]
        exact ⟨many, qs, rfl, n0, n6, k4, k5⟩
    case zStep =>
      rintro x r ρ ⟨L, done, qs, x9, x10, x11, x12, k1, k2, k3, k4, k5, rfl⟩
      cases L with
      | nil => cases k1
      | cons p L =>
        rw [List.map_cons] at k1
        injection k1 with e1 e2
        subst e1 e2
        have hj := k2 p (List.mem_cons_self ..)
        have hqf : qs.length ≤ 21 := by
          have h1 := k4.length_le
          have h2 := congrArg List.length k3
          have h3 : (prs many).length ≤ 21 := hpl
          simp only [List.length_append, List.length_map] at h1 h2
          omega
        try simp only [↓ev_all]
        refine ⟨by omega, W_draw hy (by omega) (by omega) fun s hs => ?_⟩
        have m1 := mod_b s 99 (by omega)
        have m2 := mod_b s 4 (by omega)
        try simp only [↓ev_all]
        refine ⟨by omega, by omega, W_draw hy (by omega) (by omega) fun s2 hs2 => ?_⟩
        have m3 := mod_b s2 4 (by omega)
        try simp only [↓ev_all]
        refine ⟨by omega, by omega, W_draw hy (by omega) (by omega) fun s3 hs3 => ?_⟩
        try simp only [↓ev_all]
        refine ⟨⟨by omega, by omega⟩, by omega, by omega, ?_⟩
        refine size_at hs3 (by omega) (by omega) (by omega) fun n hn1 hn2 => ?_
        try simp only [↓ev_all]
        refine ⟨by omega, W_draw hy (by omega) (by omega) fun t ht => ?_⟩
        have m4 := mod_b t 99 (by omega)
        try simp only [↓ev_all]
        refine ⟨by omega, by omega, W_draw hy (by omega) (by omega) fun t2 ht2 => ?_⟩
        have m5 := mod_b t2 3 (by omega)
        try simp only [↓ev_all]
        refine ⟨by omega, by omega, W_draw hy (by omega) (by omega) fun t3 ht3 => ?_⟩
        try simp only [↓ev_all]
        refine ⟨⟨by omega, by omega⟩, by omega, by omega, ?_⟩
        refine size_at ht3 (by omega) (by omega) (by omega) fun m hm1 hm2 => ?_
        try simp only [↓ev_all]
        refine W_draw hx (by omega) (by omega) fun u hu => ?_
        try simp only [↓ev_all]
        refine W_draw hx (by omega) (by omega) fun u2 hu2 => ?_
        have m6 := mod_b u2 5 (by omega)
        have ixr : ∀ Q : D → Prop, W (aIx (rD p.1) (.int 0)) Q = Q (.int (p.1.1 : Nat)) := fun Q => W_at0 _ _ _
        have ixr1 : ∀ Q : D → Prop, W (aIx (rD p.1) (.int 1)) Q = Q (.int (p.1.2 : Nat)) := fun Q => W_at1 _ _ _ _
        have hlen : (qs.map qD).length < sizeLine := by rw [List.length_map]; show _ < 16777216; omega
        have yes : ∃ (L_1 : List ((Nat × Nat) × Nat)) (done : List (Nat × Nat)) (qs' : List Rw), (L.map fun p => PyData.tuple [.int (p.2 : Nat), rD p.1]) = L_1.map (fun p => PyData.tuple [.int (p.2 : Nat), rD p.1]) ∧ (∀ p ∈ L_1, p.2 < 21) ∧ done ++ L_1.map (·.1) = prs many ∧ (qs'.map (·.1)).Sublist done ∧ (∀ q ∈ qs', 1 ≤ q.2.1 ∧ q.2.1 ≤ 99 ∧ 1 ≤ q.2.2 ∧ q.2.2 ≤ 99) ∧ qs.map qD ++ [.tuple [.int (p.1.1 : Nat), .int (p.1.2 : Nat), .int (n : Nat), .int (m : Nat)]] = qs'.map qD := by
          refine ⟨L, done ++ [p.1], qs ++ [(p.1, (n, m))], rfl, fun q hq => k2 q (List.mem_cons_of_mem _ hq), by rw [← k3]; simp, ?_, ?_, by rw [List.map_append]; rfl⟩
          · rw [List.map_append]
            exact k4.append (List.Sublist.refl _)
          · intro q hq
            rw [List.mem_append, List.mem_singleton] at hq
            rcases hq with hq | rfl
            · exact k5 q hq
            · exact ⟨hn1, hn2, hm1, hm2⟩
        have no : ∃ (L_1 : List ((Nat × Nat) × Nat)) (done : List (Nat × Nat)), (L.map fun p => PyData.tuple [.int (p.2 : Nat), rD p.1]) = L_1.map (fun p => PyData.tuple [.int (p.2 : Nat), rD p.1]) ∧ (∀ p ∈ L_1, p.2 < 21) ∧ done ++ L_1.map (·.1) = prs many ∧ (qs.map (·.1)).Sublist done :=
          ⟨L, done ++ [p.1], rfl, fun q hq => k2 q (List.mem_cons_of_mem _ hq), by rw [← k3]; simp, k4.trans (List.sublist_append_left _ _)⟩
        obtain ⟨L1, d1, q1, y1, y2, y3, y4, y5, y6⟩ := yes
        obtain ⟨L2, d2, z1, z2, z3, z4⟩ := no
        try simp only [↓ev_all, ↓ixr, ↓ixr1]
        refine ⟨by omega, by omega, fun _ => ⟨hlen, L1, d1, q1, _, _, _, _, y1, y2, y3, y4, y5, by rw [← y6]⟩, fun _ => W_draw hx (by omega) (by omega) fun u3 hu3 => ?_⟩
        try simp only [↓ev_all, ↓ixr, ↓ixr1]
        exact ⟨by omega, fun _ => ⟨hlen, L1, d1, q1, _, _, _, _, y1, y2, y3, y4, y5, by rw [← y6]⟩, fun _ => ⟨L2, d2, qs, _, _, _, _, z1, z2, z3, z4, k5, rfl⟩⟩
end LW
/-! things of all kinds, bent ones: the law's own makers -/
namespace LW
open PySem PySem.Spec PyProof.Rows L2 PF
mutual
/-- no dict anywhere -/
def Kn : D → Bool
  | .dict _ => false
  | .list xs => KnA xs
  | .tuple xs => KnA xs
  | .none => true
  | .bool _ => true
  | .int _ => true
  | .str x => PyData.canLay0 (.str x)
def KnA : List D → Bool
  | [] => true
  | d :: r => Kn d && KnA r
end
mutual
def sz : D → Nat
  | .list xs => 1 + szA xs
  | .tuple xs => 1 + szA xs
  | .dict _ => 1
  | .none => 1
  | .bool _ => 1
  | .int _ => 1
  | .str _ => 1
def szA : List D → Nat
  | [] => 0
  | d :: r => sz d + szA r
end
mutual
def dp : D → Nat
  | .list xs => 1 + dpA xs
  | .tuple xs => 1 + dpA xs
  | .dict _ => 0
  | .none => 0
  | .bool _ => 0
  | .int _ => 0
  | .str _ => 0
def dpA : List D → Nat
  | [] => 0
  | d :: r => max (dp d) (dpA r)
end
theorem KnA_iff : ∀ xs : List D, KnA xs = true ↔ ∀ x ∈ xs, Kn x = true
  | [] => by simp [KnA]
  | d :: r => by rw [KnA, Bool.and_eq_true, KnA_iff r]; simp
theorem dpA_le {k : Nat} : ∀ xs : List D, dpA xs ≤ k ↔ ∀ x ∈ xs, dp x ≤ k
  | [] => by simp [dpA]
  | d :: r => by rw [dpA, Nat.max_le, dpA_le r]; simp
theorem szA_app : ∀ xs ys : List D, szA (xs ++ ys) = szA xs + szA ys
  | [], ys => by simp [szA]
  | d :: r, ys => by rw [List.cons_append, szA, szA, szA_app r ys]; omega
theorem sz_pos (d : D) : 1 ≤ sz d := by cases d <;> simp only [sz] <;> omega
theorem len_szA : ∀ xs : List D, xs.length ≤ szA xs
  | [] => Nat.le_refl _
  | d :: r => by have := sz_pos d; have := len_szA r; rw [List.length_cons, szA]; omega
theorem szA_mem {x : D} : ∀ {xs : List D}, x ∈ xs → sz x ≤ szA xs
  | d :: r, h => by
    rw [szA]
    rcases List.mem_cons.mp h with e | e
    · rw [e]; omega
    · have := szA_mem e; omega
theorem szA_rev (xs : List D) : szA xs.reverse = szA xs := by
  induction xs with
  | nil => rfl
  | cons d r ih => rw [List.reverse_cons, szA_app, ih, szA]; simp only [szA]; omega
theorem szA_cut (xs : List D) (k : Nat) : szA (xs.take k) + szA (xs.drop k) = szA xs := by rw [← szA_app, List.take_append_drop]
theorem szA_drop_le (xs : List D) (k : Nat) : szA (xs.drop k) ≤ szA xs := by have := szA_cut xs k; omega
theorem szA_set {e r : D} : ∀ {xs : List D} {i : Nat}, xs[i]? = some e → szA (xs.set i r) + sz e = szA xs + sz r
  | d :: xs, 0, h => by cases h; rw [List.set_cons_zero, szA, szA]; omega
  | d :: xs, i + 1, h => by rw [List.set_cons_succ, szA, szA]; have := szA_set (r := r) (xs := xs) (i := i) (by simpa using h); omega
theorem szA_le {k : Nat} : ∀ {xs : List D}, (∀ x ∈ xs, sz x ≤ k) → szA xs ≤ xs.length * k
  | [], _ => by simp [szA]
  | d :: r, h => by
    have h1 := h d (List.mem_cons_self ..)
    have h2 := szA_le (xs := r) fun x hx => h x (List.mem_cons_of_mem _ hx)
    rw [szA, List.length_cons, Nat.succ_mul]
    omega
def seqOf : D → Option (List D)
  | .list xs => some xs
  | .tuple xs => some xs
  | _ => none
theorem seq_eq {d : D} {ds : List D} (h : seqOf d = some ds) : d = .list ds ∨ d = .tuple ds := by
  cases d <;> simp only [seqOf] at h <;> cases h
  · exact .inl rfl
  · exact .inr rfl
theorem seq_kn {d : D} {ds : List D} (h : seqOf d = some ds) : Kn d = KnA ds := by rcases seq_eq h with e | e <;> rw [e, Kn]
theorem seq_sz {d : D} {ds : List D} (h : seqOf d = some ds) : sz d = 1 + szA ds := by rcases seq_eq h with e | e <;> rw [e, sz]
theorem seq_dp {d : D} {ds : List D} (h : seqOf d = some ds) : dp d = 1 + dpA ds := by rcases seq_eq h with e | e <;> rw [e, dp]
theorem isi_kn {d : D} (ks : List Kd) (h : Kn d = true) (Q : D → Prop) : W (aIsi ks d) Q = Q (.bool (ks.any (isK · d))) := by
  cases d <;> first | exact W_some _ _ | cases h
theorem isi_seq {d : D} : (([.list, .tuple] : List Kd).any (isK · d)) = (seqOf d).isSome := by cases d <;> rfl
theorem itm_seq {d : D} {ds : List D} (h : seqOf d = some ds) (Q : List D → Prop) : W (itm d) Q = Q ds := by rcases seq_eq h with e | e <;> rw [e] <;> exact W_some _ _
mutual
theorem dp_le_sz : ∀ d : D, dp d ≤ sz d
  | .list xs => by rw [dp, sz]; have := dpA_le_szA xs; omega
  | .tuple xs => by rw [dp, sz]; have := dpA_le_szA xs; omega
  | .dict _ => by rw [dp]; omega
  | .none => by rw [dp]; omega
  | .bool _ => by rw [dp]; omega
  | .int _ => by rw [dp]; omega
  | .str _ => by rw [dp]; omega
theorem dpA_le_szA : ∀ xs : List D, dpA xs ≤ szA xs
  | [] => Nat.le_refl _
  | d :: r => by rw [dpA, szA]; have := dp_le_sz d; have := dpA_le_szA r; omega
end
mutual
theorem kn_lay : ∀ d : D, Kn d = true → d.canLay0 = true ∧ d.depth = dp d
  | .none, _ => by simp [PyData.canLay0, PyData.depth, dp]
  | .bool _, _ => by simp [PyData.canLay0, PyData.depth, dp]
  | .int _, _ => by simp [PyData.canLay0, PyData.depth, dp]
  | .str x, h => by rw [Kn] at h; exact ⟨h, by simp [PyData.depth, dp]⟩
  | .list xs, h => by
    rw [Kn] at h
    obtain ⟨h1, h2⟩ := knA_lay xs h
    rw [PyData.canLay0, PyData.depth, dp, h2]
    exact ⟨h1, by omega⟩
  | .tuple xs, h => by
    rw [Kn] at h
    obtain ⟨h1, h2⟩ := knA_lay xs h
    rw [PyData.canLay0, PyData.depth, dp, h2]
    exact ⟨h1, by omega⟩
  | .dict _, h => by simp [Kn] at h
theorem knA_lay : ∀ xs : List D, KnA xs = true → PyData.canLayAll0 xs = true ∧ PyData.depthAll xs = dpA xs
  | [], _ => by simp [PyData.canLayAll0, PyData.depthAll, dpA]
  | x :: r, h => by
    rw [KnA, Bool.and_eq_true] at h
    obtain ⟨h1, h2⟩ := kn_lay x h.1
    obtain ⟨h3, h4⟩ := knA_lay r h.2
    rw [PyData.canLayAll0, PyData.depthAll, dpA, h1, h3, h2, h4]
    exact ⟨rfl, rfl⟩
end
theorem kn_shaped {d : D} (h : Kn d = true) (hd : dp d ≤ 64) : SeqAt.shaped d = true := by
  obtain ⟨h1, h2⟩ := kn_lay d h
  unfold SeqAt.shaped
  rw [h1, h2, decide_eq_true hd]
  rfl
/-- a tuple of whatever, against () -/
theorem ne_unit {xs : List D} (h : Kn (.tuple xs) = true) (hd : dp (.tuple xs) ≤ 64) (Q : D → Prop) : W (aCmp .NotEq (.tuple xs) (.tuple [])) Q = Q (.bool (!xs.isEmpty)) := by
  show W (aNe _ _) Q = _
  unfold aNe
  rw [W_if, and_iff_right ⟨kn_shaped h hd, rfl⟩]
  cases xs <;> simp [PyData.eqv, PyData.eqvAll]
theorem eq_unit {xs : List D} (h : Kn (.tuple xs) = true) (hd : dp (.tuple xs) ≤ 64) (Q : D → Prop) : W (aCmp .Eq (.tuple xs) (.tuple [])) Q = Q (.bool xs.isEmpty) := by
  show W (aEq _ _) Q = _
  unfold aEq
  rw [W_if, and_iff_right ⟨kn_shaped h hd, rfl⟩]
  cases xs <;> simp [PyData.eqv, PyData.eqvAll]
/-- a path into a thing -/
def Pth : D → List Nat → Prop
  | _, [] => True
  | d, i :: q => ∃ ds e, seqOf d = some ds ∧ ds[i]? = some e ∧ Pth e q
theorem pth_len : ∀ {p : List Nat} {d : D}, Pth d p → p.length ≤ dp d
  | [], _, _ => Nat.zero_le _
  | i :: q, d, ⟨ds, e, h1, h2, h3⟩ => by
    have := pth_len h3
    have h4 := (dpA_le ds).mp (Nat.le_refl _) e (List.mem_of_getElem? h2)
    rw [seq_dp h1, List.length_cons]
    omega
theorem W_eqW0 (p : List Nat) (Q : D → Prop) : W (aCmp .Eq (wD p) (.tuple [])) Q = Q (.bool (decide (p = []))) := W_eqW p [] Q
theorem places_ok : ∀ (m : Nat) (d : D), Kn d = true → dp d < m → sz d ≤ 100000 → W (recF 5 den_l_places m [d]) fun r => ∃ ps : List (List Nat), r = .list (ps.map wD) ∧ ps.length ≤ sz d ∧ ps ≠ [] ∧ ∀ p ∈ ps, Pth d p
  | 0, _, _, h, _ => absurd h (Nat.not_lt_zero _)
  | m + 1, d, hk, hm, hz => by
    refine W_run ?_
    simp only [den_l_places, ex_all]
    simp only [↓ev_all, ↓W_isi, ↓isi_kn _ hk, isi_seq]
    cases hs : seqOf d with
    | none =>
      simp only [Option.isSome_none, ↓ev_all]
      exact ⟨[[]], rfl, sz_pos d, by simp, fun p hp => by rw [List.mem_singleton.mp hp]; exact True.intro⟩
    | some ds =>
      simp only [Option.isSome_some, ↓ev_all, ↓itm_seq hs]
      have e1 := seq_sz hs
      have e2 := seq_dp hs
      rw [seq_kn hs] at hk
      refine W_forN (fun i ρ => ∃ (ps : List (List Nat)) (x2 x3 x4 : Option SV), ρ = [some (.val d), some (.val (.list (ps.map wD))), x2, x3, x4] ∧ ps.length ≤ 1 + szA (ds.take i) ∧ ps ≠ [] ∧ ∀ p ∈ ps, Pth d p)
        ⟨[[]], _, _, _, rfl, by simp, by simp, fun p hp => by rw [List.mem_singleton.mp hp]; exact True.intro⟩ ?zEnd ?zStep
      case zEnd =>
        rintro ρ ⟨ps, x2, x3, x4, rfl, h1, h2, h3⟩
        simp only [↓ev_all]
        rw [enumD_length, List.take_length] at h1
        exact ⟨ps, rfl, by omega, h2, h3⟩
      case zStep =>
        rintro i x ρ hx ⟨ps, x2, x3, x4, rfl, h1, h2, h3⟩
        obtain ⟨e, he, rfl⟩ := enumD_get ds 0 i hx
        have hi : i < ds.length := (List.getElem?_eq_some_iff.mp he).1
        have hmem := List.mem_of_getElem? he
        have ke := (KnA_iff ds).mp hk e hmem
        have de := (dpA_le ds).mp (Nat.le_refl _) e hmem
        have ze := szA_mem hmem
        have t1 : szA (ds.take (i + 1)) = szA (ds.take i) + sz e := by
          rw [List.take_add_one, he, szA_app]
          simp [szA]
        have t2 := szA_cut ds (i + 1)
        simp only [↓ev_all]
        refine (places_ok m e ke (by omega) (by omega)).mono fun r ⟨qs, hr, q1, q2, q3⟩ => ?_
        subst hr
        simp only [↓ev_all]
        refine W.of (comp_typed qs _ (fun q => wD (i :: q)) fun q hq => ?_) ?_
        · try simp only [wipeE, List.set_cons_succ, List.set_cons_zero]
          simp only [↓ev_all]
          have hl := pth_len (q3 q hq)
          have e4 : dp d < 100 + dp d := by omega
          unfold wD
          simp only [↓ev_all]
          refine ⟨?_, ?_⟩
          · have hz2 : dp e ≤ sz e := by
              exact (dp_le_sz e)
            rw [nD_len]
            show 1 + q.length ≤ 16777216
            omega
          · rw [Nat.zero_add]
            rfl
        · try simp only [↓ev_all]
          refine ⟨by rw [List.length_map, List.length_map]; show _ ≤ 16777216; omega, ?_⟩
          rw [show qs.map (fun q => wD (i :: q)) = (qs.map fun q => i :: q).map wD by rw [List.map_map]; rfl, ← List.map_append]
          refine ⟨_, _, _, _, rfl, by rw [List.length_append, List.length_map, t1]; omega, by simp [h2], fun p hp => ?_⟩
          rcases List.mem_append.mp hp with hp | hp
          · exact h3 p hp
          · obtain ⟨q, hq, rfl⟩ := List.mem_map.mp hp
            exact ⟨ds, e, hs, he, q3 q hq⟩
end LW
namespace LW
open PySem PySem.Spec PyProof.Rows L2 PF
/-- what a thing may be: no dict in it, so large, so deep -/
structure Th (n k : Nat) (d : D) : Prop where
  kn : Kn d = true
  sz : sz d ≤ n
  dp : dp d ≤ k
theorem Th.mono {n k n' k' : Nat} {d : D} (h : Th n k d) (h1 : n ≤ n') (h2 : k ≤ k') : Th n' k' d := ⟨h.kn, Nat.le_trans h.sz h1, Nat.le_trans h.dp h2⟩
theorem W_boolI (i : Int) (Q : D → Prop) : W (bBool [.int i]) Q = Q (.bool (i != 0)) := W_some _ _
theorem W_at_all {xs : List D} {v n : Int} {P : D → Prop} (hn : n = (xs.length : Nat)) (h0 : 0 < xs.length) (h : ∀ x ∈ xs, P x) : W (atI xs (v % n)) P := by
  have h1 := Int.emod_nonneg v (b := n) (by omega)
  have h2 := Int.emod_lt_of_pos v (b := n) (by omega)
  exact W_at h1 (by omega) fun x hx => h x (List.mem_of_getElem? hx)
theorem rev_kn {xs : List D} (h : KnA xs = true) : KnA xs.reverse = true := (KnA_iff _).mpr fun x hx => (KnA_iff _).mp h x (List.mem_reverse.mp hx)
theorem rev_dp (xs : List D) : dpA xs.reverse ≤ dpA xs := (dpA_le _).mpr fun x hx => (dpA_le _).mp (Nat.le_refl _) x (List.mem_reverse.mp hx)
theorem other_ok {d : D} {dr : List Int} (hk : Kn d = true) (hl : 5 ≤ dr.length) : W (f_l_other [d, .list (iD dr)]) (Th (sz d + 2) (dp d + 1)) := by
  have hz := sz_pos d
  have base : ∀ x ∈ ([.none, .bool true, .bool false, .int 7, .int (0 - 1), .int (10 ^ (39 : Int).toNat), .str "0", .str "", .tuple [], .list [], .tuple [d], .list [d], .tuple [.int 0], .tuple [.int 1, .int 0], .int 1, .int 0] : List D), Th (sz d + 2) (dp d + 1) x := by
    intro x hx
    simp only [List.mem_cons, List.not_mem_nil, or_false] at hx
    rcases hx with rfl | rfl | rfl | rfl | rfl | rfl | rfl | rfl | rfl | rfl | rfl | rfl | rfl | rfl | rfl | rfl <;> refine ⟨?_, ?_, ?_⟩ <;> simp only [Kn, KnA, sz, szA, dp, dpA, hk, Bool.and_self, Bool.and_true] <;> first | omega | decide +kernel
  refine W_run ?_
  simp only [den_l_other, ex_all]
  simp only [↓ev_all, ↓W_isi, ↓isi_kn _ hk]
  refine ⟨by decide, ?_⟩
  have fin : ∀ L : List D, (∀ x ∈ L, Th (sz d + 2) (dp d + 1) x) → 0 < L.length → W (atI (iD dr) 1) (fun v => W (aMod v (.int ((L.length : Nat) : Int))) fun i => W (aIx (.list L) i) (Th (sz d + 2) (dp d + 1))) := by
    intro L hp h0
    unfold iD
    refine W_ints (by omega) (by omega) fun v _ => ?_
    simp only [↓ev_all]
    exact ⟨by omega, W_at_all rfl h0 hp⟩
  generalize hB : ([.none, .bool true, .bool false, .int 7, .int (0 - 1), .int (10 ^ (39 : Int).toNat), .str "0", .str "", .tuple [], .list [], .tuple [d], .list [d], .tuple [.int 0], .tuple [.int 1, .int 0], .int 1, .int 0] : List D) = B at base ⊢
  have hBl : B.length = 16 := by rw [← hB]; rfl
  clear hB
  have seqc : ∀ ds, Th (sz d + 2) (dp d + 1) (.list ds) → Th (sz d + 2) (dp d + 1) (.tuple ds) → Th (sz d + 2) (dp d + 1) (.tuple ds.reverse) → ∀ x ∈ [PyData.list ds, .tuple ds, .tuple ds.reverse, .list ds] ++ B, Th (sz d + 2) (dp d + 1) x := by
    intro ds h1 h2 h3 x hx
    rcases List.mem_append.mp hx with h | h
    · simp only [List.mem_cons, List.not_mem_nil, or_false] at h
      rcases h with rfl | rfl | rfl | rfl <;> assumption
    · exact base x h
  cases d with
  | dict _ => cases hk
  | none =>
    simp only [List.any_cons, List.any_nil, isK, Bool.or_false, Bz_f]
    exact fin B base (by omega)
  | str _ =>
    simp only [List.any_cons, List.any_nil, isK, Bool.or_false, Bz_f]
    exact fin B base (by omega)
  | bool _ =>
    simp only [List.any_cons, List.any_nil, isK, Bool.or_false, Bz_f, Bz_t, Bool.not_true]
    exact fin B base (by omega)
  | int i =>
    simp only [List.any_cons, List.any_nil, isK, Bool.or_false, Bz_f, Bz_t, Bool.not_false, ↓ev_all, ↓W_boolI]
    refine ⟨by rw [hBl]; show 6 + 16 ≤ 16777216; omega, fin _ (fun x hx => ?_) (by simp)⟩
    rcases List.mem_append.mp hx with h | h
    · simp only [List.mem_cons, List.not_mem_nil, or_false] at h
      rcases h with rfl | rfl | rfl | rfl | rfl | rfl <;> refine ⟨?_, ?_, ?_⟩ <;> simp only [Kn, sz, dp] <;> omega
    · exact base x h
  | list ds =>
    rw [Kn] at hk
    simp only [List.any_cons, List.any_nil, isK, Bool.or_false, Bool.or_true, Bool.false_or, Bool.true_or, Bz_f, Bz_t, ↓ev_all, ↓W_revL]
    refine ⟨by rw [hBl]; show 4 + 16 ≤ 16777216; omega, fin _ (seqc ds ⟨by rw [Kn]; exact hk, by omega, by omega⟩ ⟨by rw [Kn]; exact hk, by rw [sz, sz]; omega, by rw [dp, dp]; omega⟩ ⟨by rw [Kn]; exact rev_kn hk, by rw [sz, sz, szA_rev]; omega, by rw [dp, dp]; have := rev_dp ds; omega⟩) (by simp)⟩
  | tuple ds =>
    rw [Kn] at hk
    simp only [List.any_cons, List.any_nil, isK, Bool.or_false, Bool.or_true, Bool.false_or, Bool.true_or, Bz_f, Bz_t, ↓ev_all, ↓W_revT]
    refine ⟨by rw [hBl]; show 4 + 16 ≤ 16777216; omega, fin _ (seqc ds ⟨by rw [Kn]; exact hk, by rw [sz, sz]; omega, by rw [dp, dp]; omega⟩ ⟨by rw [Kn]; exact hk, by omega, by omega⟩ ⟨by rw [Kn]; exact rev_kn hk, by rw [sz, sz, szA_rev]; omega, by rw [dp, dp]; have := rev_dp ds; omega⟩) (by simp)⟩
theorem iD_at {dr : List Int} {n : Nat} {i : Int} {Q : D → Prop} (hi : i = n) (h : n < dr.length) (q : ∀ v, Q (.int v)) : W (atI (iD dr) i) Q := by
  unfold iD
  exact W_ints (by omega) (by omega) fun v _ => q v
theorem emod_nat (v : Int) {n : Nat} (h : 0 < n) : ∃ o : Nat, v % (n : Int) = (o : Int) ∧ o < n := by
  have h1 := Int.emod_nonneg v (b := n) (by omega)
  have h2 := Int.emod_lt_of_pos v (b := n) (by omega)
  exact ⟨(v % n).toNat, by omega, by omega⟩
theorem shifted_ok {ds : List D} {at_ : Nat} {i : Int} {dr : List Int} (hi : i = at_) (ha : at_ < ds.length) (hl : 5 ≤ dr.length) (hz : szA ds ≤ 100000) : W (f_l_shifted [.list ds, .int i, .list (iD dr)]) fun r => ∃ es, r = .list es ∧ (∀ x ∈ es, x ∈ ds) ∧ szA es ≤ 2 * szA ds := by
  subst hi
  have hn := len_szA ds
  obtain ⟨x, hx⟩ : ∃ x, ds[at_]? = some x := ⟨_, List.getElem?_eq_getElem ha⟩
  have hm := List.mem_of_getElem? hx
  have hzx := szA_mem hm
  have hcut : cutD ds none (some (at_ : Int)) = ds.take at_ := cut_to ds at_
  have hcut2 : cutD ds (some ((at_ : Int) + 1)) none = ds.drop (at_ + 1) := cut_all ds (at_ + 1)
  have z1 := szA_cut ds at_
  have z2 : szA (ds.drop (at_ + 1)) ≤ szA (ds.drop at_) := by
    rw [← List.drop_drop]
    exact szA_drop_le _ _
  have hrest : ∀ y ∈ ds.take at_ ++ ds.drop (at_ + 1), y ∈ ds := fun y hy => by
    rcases List.mem_append.mp hy with h | h
    · exact List.mem_of_mem_take h
    · exact List.mem_of_mem_drop h
  have hrl : (ds.take at_).length + (ds.drop (at_ + 1)).length ≤ sizeLine := by
    rw [List.length_take, List.length_drop]; show _ ≤ 16777216; omega
  have gen : ∀ (L : List D) (o : Nat), (∀ y ∈ L, y ∈ ds) → szA L ≤ szA ds → (cutD L none (some (o : Int))).length + [x].length ≤ sizeLine ∧ (cutD L none (some (o : Int)) ++ [x]).length + (cutD L (some (o : Int)) none).length ≤ sizeLine ∧ ∃ es, PyData.list (cutD L none (some (o : Int)) ++ [x] ++ cutD L (some (o : Int)) none) = .list es ∧ (∀ y ∈ es, y ∈ ds) ∧ szA es ≤ 2 * szA ds := by
    intro L o h1 h2
    have h3 := len_szA L
    have h4 := szA_cut L o
    rw [cut_to, cut_all]
    refine ⟨by rw [List.length_take]; show _ + 1 ≤ 16777216; omega, by rw [List.length_append, List.length_take, List.length_drop]; show _ + 1 + _ ≤ 16777216; omega, _, rfl, fun y hy => ?_, ?_⟩
    · rcases List.mem_append.mp hy with hy | hy
      · rcases List.mem_append.mp hy with hy | hy
        · exact h1 y (List.mem_of_mem_take hy)
        · rw [List.mem_singleton.mp hy]; exact hm
      · exact h1 y (List.mem_of_mem_drop hy)
    · rw [szA_app, szA_app]
      simp only [szA]
      omega
  refine W_runO ?_
  simp only [den_l_shifted, ex_all]
  try simp only [↓ev_all]
  refine iD_at (n := 2) rfl (by omega) fun v => ?_
  try simp only [↓ev_all]
  refine ⟨by omega, ?_⟩
  obtain ⟨o, ho, ho2⟩ := emod_nat v (n := ds.length) (by omega)
  rw [ho]
  try simp only [↓ev_all]
  refine iD_at (n := 0) rfl (by omega) fun v0 => ?_
  try simp only [↓ev_all]
  refine ⟨by omega, ?_, ?_⟩
  · intro _
    rw [hcut, hcut2]
    refine ⟨hrl, _, rfl, hrest, ?_⟩
    rw [szA_app]
    omega
  · intro _
    refine iD_at (n := 0) rfl (by omega) fun v1 => ?_
    try simp only [↓ev_all]
    refine ⟨by omega, ?_, ?_⟩
    · intro _
      refine W.of (at_nat rfl hx) ?_
      obtain ⟨g1, g2, g3⟩ := gen ds o (fun y hy => hy) (Nat.le_refl _)
      try simp only [↓ev_all]
      exact ⟨g1, g2, g3⟩
    · intro _
      rw [hcut, hcut2]
      refine ⟨hrl, ?_⟩
      try simp only [↓ev_all]
      refine W.of (at_nat rfl hx) ?_
      obtain ⟨g1, g2, g3⟩ := gen (ds.take at_ ++ ds.drop (at_ + 1)) o hrest (by rw [szA_app]; omega)
      try simp only [↓ev_all]
      exact ⟨g1, g2, g3⟩
end LW
namespace LW
open PySem PySem.Spec PyProof.Rows L2 PF
theorem lst_seq {d : D} {ds : List D} (h : seqOf d = some ds) (Q : D → Prop) : W (bList [d]) Q = Q (.list ds) := by rcases seq_eq h with e | e <;> rw [e] <;> exact W_some _ _
/-- back to a list or a tuple -/
theorem back_seq {d : D} {ds es : List D} (h : seqOf d = some ds) {P : D → Prop} (h1 : P (.list es)) (h2 : P (.tuple es)) : Bz (.bool (([.list] : List Kd).any (isK · d))) (P (.list es)) (P (.tuple es)) := by
  rcases seq_eq h with e | e <;> subst e
  · show Bz (.bool true) _ _
    rw [Bz_t]; exact h1
  · show Bz (.bool false) _ _
    rw [Bz_f]; exact h2
theorem put_ok {dr : List Int} (hl : 5 ≤ dr.length) : ∀ (m : Nat) (d : D) (p : List Nat), p.length < m → Pth d p → Kn d = true → sz d ≤ 30000 → W (recF 4 den_l_put m [d, wD p, .list (iD dr)]) (Th (2 * sz d + 5) (dp d + 1))
  | 0, _, _, h, _, _, _ => absurd h (Nat.not_lt_zero _)
  | m + 1, d, [], _, _, hk, hz => by
    refine W_run ?_
    simp only [den_l_put, ex_all]
    simp only [↓ev_all, ↓W_eqW0, decide_true, Bz_t]
    refine ⟨fun _ => ?_, fun z => absurd True.intro z⟩
    refine (other_ok hk hl).mono fun r h => ?_
    exact Th.mono (n' := 2 * sz d + 5) (k' := dp d + 1) h (by omega) (by omega)
  | m + 1, d, i :: q, hm, ⟨ds, e, hs, he, hq⟩, hk, hz => by
    have e1 := seq_sz hs
    have e2 := seq_dp hs
    have hk' : KnA ds = true := by rw [← seq_kn hs]; exact hk
    have hi : i < ds.length := (List.getElem?_eq_some_iff.mp he).1
    have hmem := List.mem_of_getElem? he
    have ke := (KnA_iff ds).mp hk' e hmem
    have de := (dpA_le ds).mp (Nat.le_refl _) e hmem
    have ze := szA_mem hmem
    have ep : (nD (i :: q))[0]? = some (.int (i : Nat)) := rfl
    rw [List.length_cons] at hm
    refine W_run ?_
    simp only [den_l_put, ex_all]
    simp only [↓ev_all, ↓W_eqW0, ↓lst_seq hs, ↓eg]
    have shift : W (f_l_shifted [.list ds, .int (i : Nat), .list (iD dr)]) (fun r => ∃ es, r = .list es ∧ Th (2 * sz d + 5) (dp d + 1) (.list es) ∧ Th (2 * sz d + 5) (dp d + 1) (.tuple es)) := (shifted_ok rfl hi hl (by omega)).mono fun r ⟨es, h1, h2, h3⟩ => by
      have k1 : KnA es = true := (KnA_iff _).mpr fun x hx => (KnA_iff _).mp hk' x (h2 x hx)
      have k2 : dpA es ≤ dpA ds := (dpA_le _).mpr fun x hx => (dpA_le _).mp (Nat.le_refl _) x (h2 x hx)
      exact ⟨es, h1, ⟨by rw [Kn]; exact k1, by rw [sz]; omega, by rw [dp]; omega⟩, ⟨by rw [Kn]; exact k1, by rw [sz]; omega, by rw [dp]; omega⟩⟩
    have inner : W (recF 4 den_l_put m [e, wD q, .list (iD dr)]) (fun r => Th (2 * sz d + 5) (dp d + 1) (.list (ds.set i r)) ∧ Th (2 * sz d + 5) (dp d + 1) (.tuple (ds.set i r))) := (put_ok hl m e q (by omega) hq ke (by omega)).mono fun r h => by
      have z1 := szA_set (r := r) he
      have z2 := h.sz
      have z3 := h.dp
      have k1 : KnA (ds.set i r) = true := (KnA_iff _).mpr fun x hx => by
        rcases List.mem_or_eq_of_mem_set hx with h' | h'
        · exact (KnA_iff _).mp hk' x h'
        · rw [h']; exact h.kn
      have k2 : dpA (ds.set i r) ≤ dpA ds + 1 := (dpA_le _).mpr fun x hx => by
        rcases List.mem_or_eq_of_mem_set hx with h' | h'
        · have := (dpA_le _).mp (Nat.le_refl _) x h'; omega
        · rw [h']; omega
      exact ⟨⟨by rw [Kn]; exact k1, by rw [sz]; omega, by rw [dp]; omega⟩, ⟨by rw [Kn]; exact k1, by rw [sz]; omega, by rw [dp]; omega⟩⟩
    have hcut : PF.cutD (nD (i :: q)) (some 1) none = nD q := wD_drop (i :: q) 1
    refine ⟨fun z => (by cases z), fun _ => ⟨fun _ => ?_, fun _ => ?_⟩⟩
    · refine iD_at (n := 3) rfl (by omega) fun v => ?_
      simp only [↓ev_all]
      refine ⟨by omega, fun _ => ?_, fun _ => ?_⟩
      · try simp only [ex_all]
        try simp only [↓ev_all, ↓eg]
        refine W.of (at_nat (j := 0) rfl ep) ?_
        try simp only [↓ev_all]
        refine shift.mono fun r ⟨es, hr, t1, t2⟩ => ?_
        subst hr
        try simp only [↓ev_all]
        try simp only [ex_all]
        try simp only [↓ev_all, ↓W_isi, ↓isi_kn _ hk]
        exact back_seq hs t1 t2
      · skip
        refine W.of (at_nat (j := 0) rfl ep) ?_
        try simp only [↓ev_all]
        refine W.of (at_nat (j := i) rfl he) ?_
        rw [hcut]
        refine inner.mono fun r ⟨t1, t2⟩ => ?_
        refine W.of (at_nat (j := 0) rfl ep) ?_
        try simp only [↓ev_all]
        refine W.of (ixN_nat (by omega) (by omega)) ?_
        rw [Int.toNat_natCast]
        try simp only [ex_all]
        try simp only [↓ev_all, ↓W_isi, ↓isi_kn _ hk]
        exact back_seq hs t1 t2
    · skip
      refine W.of (at_nat (j := 0) rfl ep) ?_
      try simp only [↓ev_all]
      refine W.of (at_nat (j := i) rfl he) ?_
      rw [hcut]
      refine inner.mono fun r ⟨t1, t2⟩ => ?_
      refine W.of (at_nat (j := 0) rfl ep) ?_
      try simp only [↓ev_all]
      refine W.of (ixN_nat (by omega) (by omega)) ?_
      rw [Int.toNat_natCast]
      try simp only [ex_all]
      try simp only [↓ev_all, ↓W_isi, ↓isi_kn _ hk]
      exact back_seq hs t1 t2
theorem bent_ok {dr : List Int} (hl : 5 ≤ dr.length) {d : D} {n k : Nat} (h : Th n k d) (hn : n ≤ 30000) (hk : k ≤ 10) : W (f_l_bent [d, .list (iD dr)]) (Th (2 * n + 5) (k + 1)) := by
  have h1 := h.sz
  have h2 := h.dp
  refine W_run ?_
  simp only [den_l_bent, ex_all]
  simp only [↓ev_all]
  refine (places_ok 12 d h.kn (by omega) (by omega)).mono fun r ⟨ps, hr, q1, q2, q3⟩ => ?_
  subst hr
  try simp only [↓ev_all]
  refine iD_at (n := 4) rfl (by omega) fun v => ?_
  have hp : 0 < ps.length := List.length_pos_iff.mpr q2
  try simp only [↓ev_all]
  refine ⟨by rw [List.length_map]; omega, ?_⟩
  refine (W_at_all (P := fun x => ∃ p, x = wD p ∧ Pth d p) rfl (by rw [List.length_map]; exact hp) fun x hx => ?_).mono fun x ⟨p, hx, hp⟩ => ?_
  · obtain ⟨p, hp, rfl⟩ := List.mem_map.mp hx
    exact ⟨p, rfl, q3 p hp⟩
  · subst hx
    have := pth_len hp
    exact (put_ok hl 12 d p (by omega) hp h.kn (by omega)).mono fun r (h' : Th (2 * LW.sz d + 5) (LW.dp d + 1) r) => h'.mono (by omega) (by omega)
theorem thing_ok : ∀ (m deep : Nat), deep ≤ 4 → 5 ≤ m + deep → ∀ (dr : List Int) (i : Int), i = deep → 9 ≤ dr.length → dr.length ≤ 1000 → W (recF 6 den_l_thing m [.list (iD dr), .int i]) (Th (4 ^ (4 - deep)) (4 - deep))
  | 0, deep, h1, h2, _, _, _, _, _ => absurd h2 (by omega)
  | m + 1, deep, h1, h2, dr, i, hi, h9, hb => by
    subst hi
    have hp : 1 ≤ 4 ^ (4 - deep) := Nat.pos_of_ne_zero (by simp)
    have atom : ∀ x : D, Kn x = true → sz x = 1 → dp x = 0 → Th (4 ^ (4 - deep)) (4 - deep) x := fun x k1 k2 k3 => ⟨k1, by omega, by omega⟩
    refine W_run ?_
    simp only [den_l_thing, ex_all]
    simp only [↓ev_all]
    refine iD_at (n := deep) rfl (by omega) fun v => ?_
    simp only [↓ev_all]
    refine ⟨by omega, ?_⟩
    refine iD_at (n := deep + 1) (by push_cast; rfl) (by omega) fun v1 => ?_
    simp only [↓ev_all]
    refine ⟨by omega, ?_⟩
    refine ⟨by decide, ?_⟩
    try simp only [↓ev_all]
    refine ⟨by decide, ?_⟩
    try simp only [↓ev_all]
    refine iD_at (n := deep + 2) (by push_cast; rfl) (by omega) fun v2 => ?_
    simp only [↓ev_all]
    refine ⟨by omega, ?_⟩
    refine (W_at_all (P := fun x => ∃ n : Int, x = .int n) rfl (by simp) fun x hx => ?_).mono fun x ⟨far, hf⟩ => ?_
    · simp only [List.mem_cons, List.not_mem_nil, or_false] at hx
      rcases hx with rfl | rfl | rfl <;> exact ⟨_, rfl⟩
    subst hf
    have kind0 := Int.emod_nonneg v (b := 12) (by omega)
    have kind1 := Int.emod_lt_of_pos v (b := 12) (by omega)
    generalize v % 12 = kind at *
    try simp only [↓ev_all]
    refine ⟨fun _ => atom _ rfl rfl rfl, fun k1 => ⟨fun _ => atom _ rfl rfl rfl, fun k2 => ?_⟩⟩
    refine ⟨fun k3 => ?_, fun k3 => ⟨fun k4 => ?_, fun k4 => ?_⟩⟩
    · refine W_at (by omega) (by simp; omega) fun x hx => ?_
      have hx := List.mem_of_getElem? hx
      simp only [List.mem_cons, List.not_mem_nil, or_false] at hx
      rcases hx with rfl | rfl | rfl <;> exact atom _ rfl rfl rfl
    · refine iD_at (n := deep + 3) (by push_cast; rfl) (by omega) fun v3 => ?_
      simp only [↓ev_all]
      refine ⟨by omega, W_at_all rfl (by simp) fun x hx => ?_⟩
      simp only [List.mem_cons, List.not_mem_nil, or_false] at hx
      rcases hx with rfl | rfl | rfl | rfl | rfl | rfl | rfl | rfl <;> exact atom _ (by decide +kernel) rfl rfl
    · refine iD_at (n := deep + 4) (by push_cast; rfl) (by omega) fun v4 => ?_
      obtain ⟨c, hc, hc2⟩ := emod_nat v4 (n := 4) (by omega)
      have hc' : v4 % 4 = (c : Int) := hc
      simp only [↓ev_all, hc']
      refine ⟨by omega, rg_ok (by omega) (by omega) (by omega) (by omega), ?_⟩
      refine W_comp_all (α := D) (to := id) (R := fun _ x => Th (4 ^ (4 - (deep + 1))) (4 - (deep + 1)) x) _ (fun x hx => ?_) (fun as hl has => ?_)
      · obtain ⟨n, rfl, hn⟩ := rg_mem hx
        have hdl : (iD dr).length = dr.length := List.length_map ..
        have ec : cutD (iD dr) (some ((0 : Int) + n)) none ++ cutD (iD dr) none (some ((0 : Int) + n)) = iD (dr.drop n ++ dr.take n) := by
          rw [Int.zero_add, cut_all, cut_to]; unfold iD; rw [List.map_append, List.map_drop, List.map_take]
        try simp only [wipeE, List.set_cons_succ, List.set_cons_zero]
        simp only [↓ev_all]
        refine ⟨by rw [Int.zero_add, cut_all, cut_to, List.length_drop, List.length_take, hdl]; show _ ≤ 16777216; omega, ?_⟩
        rw [ec]
        exact (thing_ok m (deep + 1) (by omega) (by omega) (dr.drop n ++ dr.take n) _ (by push_cast; rfl) (by rw [List.length_append, List.length_drop, List.length_take]; omega) (by rw [List.length_append, List.length_drop, List.length_take]; omega)).mono fun r h => ⟨r, rfl, h⟩
      · rw [List.map_id]
        rw [rg_len] at hl
        have hal : as.length ≤ 3 := by omega
        have hx : ∀ x ∈ as, Th (4 ^ (4 - (deep + 1))) (4 - (deep + 1)) x := fun x hx => by
          obtain ⟨j, hj⟩ := List.getElem?_of_mem hx
          have hjl := (List.getElem?_eq_some_iff.mp hj).1
          exact has j _ x (List.getElem?_eq_getElem (by rw [rg_len]; omega)) hj
        have z1 := szA_le fun x h => (hx x h).sz
        have z2 : as.length * 4 ^ (4 - (deep + 1)) ≤ 3 * 4 ^ (4 - (deep + 1)) := Nat.mul_le_mul_right _ hal
        have z3 : 1 ≤ 4 ^ (4 - (deep + 1)) := Nat.pos_of_ne_zero (by simp)
        have z4 : 4 ^ (4 - deep) = 4 ^ (4 - (deep + 1)) * 4 := by rw [← Nat.pow_succ]; congr 1; omega
        have k1 : KnA as = true := (KnA_iff _).mpr fun x h => (hx x h).kn
        have k2 : dpA as ≤ 4 - (deep + 1) := (dpA_le _).mpr fun x h => (hx x h).dp
        exact ⟨fun _ => ⟨by rw [Kn]; exact k1, by rw [sz]; omega, by rw [dp]; omega⟩, fun _ => ⟨by rw [Kn]; exact k1, by rw [sz]; omega, by rw [dp]; omega⟩⟩
end LW
namespace PF
open PySem PySem.Spec PyProof.Rows L2
theorem comp_ix {b : D → Env → Option Env} {e : Den} {ρ0 : Env} : ∀ (xs : List D) (g : Nat → D) (h : ∀ i x, xs[i]? = some x → W (b x ρ0) fun ρ1 => W (e ρ1) fun d => d = g i), compL b (fun _ => some true) e ρ0 xs = some ((List.range xs.length).map g)
  | [], _, _ => rfl
  | x :: r, g, h => by
    obtain ⟨ρ1, e1, d, e2, e3⟩ := h 0 x rfl
    have ih := comp_ix r (fun i => g (i + 1)) fun i x hx => h (i + 1) x (by simpa using hx)
    unfold compL
    rw [e1, Option.bind_some, Option.bind_some, if_pos rfl, e2, ih, List.length_cons, List.range_succ_eq_map, List.map_cons, List.map_map, e3]
    rfl
theorem comp_data {b : D → Env → Option Env} {e : Den} {ρ0 : Env} (xs : List D) (g : D → D) (h : ∀ x ∈ xs, W (b x ρ0) fun ρ1 => W (e ρ1) fun d => d = g x) : compL b (fun _ => some true) e ρ0 xs = some (xs.map g) :=
  comp_map g xs fun x hx => (h x hx).mono fun ρ1 ⟨d, e1, e2⟩ => by rw [e1, e2]
end PF
namespace LW
open PySem PySem.Spec PyProof.Rows L2 PF
theorem W_allC {α : Type} (xs : List α) (p : α → Bool) (Q : D → Prop) : W (bAll [.list (xs.map fun x => PyData.bool (p x))]) Q = Q (.bool (xs.all p)) := by
  rw [show xs.map (fun x => PyData.bool (p x)) = (xs.map p).map PyData.bool by rw [List.map_map]; rfl, W_all, List.all_map]
  rfl
def OkAt (ls : List (List (List Nat))) (i : Nat) (x : D) : Prop := ∃ w : List Nat, x = wD w ∧ (i = 0 → w = [0]) ∧ (0 < i → w = [] ∨ ∃ ws, ls[i - 1]? = some ws ∧ w ∈ ws)
def IsSt (many : Nat) (ls : List (List (List Nat))) (d : D) : Prop := ∃ ds, d = .tuple ds ∧ ds.length = many ∧ ∀ i x, ds[i]? = some x → OkAt ls i x
theorem isst_of {many : Nat} {ls : List (List (List Nat))} {st : List (List Nat)} (h : StOk many ls st) : IsSt many ls (sD st) := by
  refine ⟨st.map wD, rfl, by rw [List.length_map]; exact h.len, fun i x hx => ?_⟩
  rw [List.getElem?_map] at hx
  obtain ⟨w, hw, rfl⟩ := Option.map_eq_some_iff.mp hx
  refine ⟨w, rfl, fun e => ?_, fun hi => ?_⟩
  · subst e
    rw [h.hall] at hw
    exact (Option.some.inj hw).symm
  · obtain ⟨j, rfl⟩ : ∃ j, i = j + 1 := ⟨i - 1, by omega⟩
    exact h.own j w hw
/-- a tuple of whole numbers -/
def zD (z : List Int) : D := .tuple (z.map PyData.int)
theorem zD_pl (z : List Int) (n : Nat) : pl (zD z) (n + 1) = true := pl_tup fun d h => by
  obtain ⟨i, _, rfl⟩ := List.mem_map.mp h
  exact pl_int _ _
theorem zD_inj {a b : List Int} (h : zD a = zD b) : a = b := by
  injection h with h
  exact (List.map_inj_right fun x y e => by injection e).mp h
theorem W_eqZ (a b : List Int) (Q : D → Prop) : W (aCmp .Eq (zD a) (zD b)) Q = Q (.bool (decide (a = b))) := by
  rw [W_eqP 1 1 (by omega) (by omega) (zD_pl _ 0) (zD_pl _ 0)]
  congr 2
  exact decide_eq_decide.mpr ⟨zD_inj, fun e => e ▸ rfl⟩
theorem W_eqZ0 (a : List Int) (Q : D → Prop) : W (aCmp .Eq (zD a) (.tuple [.int 0])) Q = Q (.bool (decide (a = [0]))) := W_eqZ a [0] Q
theorem W_eqZn (a : List Int) (Q : D → Prop) : W (aCmp .Eq (zD a) (.tuple [])) Q = Q (.bool (decide (a = []))) := W_eqZ a [] Q
theorem wD_z (w : List Nat) : wD w = zD (w.map fun n => ((n : Nat) : Int)) := by unfold wD zD nD; rw [List.map_map]; rfl
def isI (s : D) : Bool := isK .int s && !isK .bool s
theorem isI_eq {s : D} (h : isI s = true) : ∃ i, s = .int i := by cases s <;> simp [isI, isK] at h ⊢
theorem ints_of : ∀ {xs : List D}, xs.all isI = true → ∃ z : List Int, xs = z.map PyData.int
  | [], _ => ⟨[], rfl⟩
  | x :: r, h => by
    rw [List.all_cons, Bool.and_eq_true] at h
    obtain ⟨i, rfl⟩ := isI_eq h.1
    obtain ⟨z, rfl⟩ := ints_of h.2
    exact ⟨i :: z, rfl⟩
theorem tups_of : ∀ {xs : List D}, (xs.all fun x => isK .tuple x) = true → ∃ ws : List (List D), xs = ws.map PyData.tuple
  | [], _ => ⟨[], rfl⟩
  | x :: r, h => by
    rw [List.all_cons, Bool.and_eq_true] at h
    obtain ⟨ws, rfl⟩ := tups_of h.2
    cases x <;> simp [isK] at h
    rename_i y
    exact ⟨y :: ws, rfl⟩
theorem zs_of : ∀ {ws : List (List D)}, (ws.all fun w => w.all isI) = true → ∃ zs : List (List Int), ws.map PyData.tuple = zs.map zD
  | [], _ => ⟨[], rfl⟩
  | w :: r, h => by
    rw [List.all_cons, Bool.and_eq_true] at h
    obtain ⟨z, rfl⟩ := ints_of h.1
    obtain ⟨zs, e⟩ := zs_of h.2
    exact ⟨z :: zs, by rw [List.map_cons, e]; rfl⟩
theorem isI_num (w : List Nat) : (nD w).all isI = true := by
  unfold nD
  rw [List.all_map, List.all_eq_true]
  intro x _
  rfl
variable {most many : Nat} {rs : List (Nat × Nat)} {ls : List (List (List Nat))}
open Classical in
theorem isst_ok (g : GOk most many rs ls) (h7 : most ≤ 7) {d : D} (hk : Kn d = true) (hz : sz d ≤ 100000) : W (f_is_stand [gD many rs ls, d]) fun r => ∃ b, r = .bool b ∧ (b = true ↔ IsSt many ls d) := by
  refine W_run ?_
  simp only [den_is_stand, ex_all]
  simp only [↓ev_all, ↓eg, ↓W_isi, ↓isi_kn _ hk]
  have no : ∀ {d : D}, (∀ ds, d ≠ .tuple ds) → ∃ b, PyData.bool false = .bool b ∧ (b = true ↔ IsSt many ls d) := fun h => ⟨false, rfl, fun z => (by cases z), fun ⟨ds, e, _⟩ => absurd e (h ds)⟩
  cases d with
  | dict _ => cases hk
  | none => simp only [List.any_cons, List.any_nil, isK, Bool.or_false, Bool.not_false, Bz_t]; exact no fun _ z => nomatch z
  | bool _ => simp only [List.any_cons, List.any_nil, isK, Bool.or_false, Bool.not_false, Bz_t]; exact no fun _ z => nomatch z
  | int _ => simp only [List.any_cons, List.any_nil, isK, Bool.or_false, Bool.not_false, Bz_t]; exact no fun _ z => nomatch z
  | str _ => simp only [List.any_cons, List.any_nil, isK, Bool.or_false, Bool.not_false, Bz_t]; exact no fun _ z => nomatch z
  | list _ => simp only [List.any_cons, List.any_nil, isK, Bool.or_false, Bool.not_false, Bz_t]; exact no fun _ z => nomatch z
  | tuple ds =>
    rw [Kn] at hk
    rw [sz] at hz
    have kn := (KnA_iff ds).mp hk
    simp only [List.any_cons, List.any_nil, isK, Bool.or_false, Bool.not_true, Bz_f, ↓ev_all, ↓eg]
    have nope : ¬IsSt many ls (.tuple ds) → ∃ b, PyData.bool false = .bool b ∧ (b = true ↔ IsSt many ls (.tuple ds)) := fun h => ⟨false, rfl, fun z => (by cases z), fun z => absurd z h⟩
    refine ⟨fun h => nope fun ⟨ds', e, hl, _⟩ => h (by cases e; rw [hl]), fun h => ?_⟩
    have hlen : ds.length = many := by omega
    refine W.of (comp_data ds (fun x => .bool (isK .tuple x)) fun x hx => ?_) ?_
    · try simp only [wipeE, List.set_cons_succ, List.set_cons_zero]
      simp only [↓ev_all, ↓W_isi, ↓isi_kn _ (kn x hx), List.any_cons, List.any_nil, Bool.or_false]
    simp only [↓W_allC, Bv_b, Bz_b]
    refine ⟨fun h => nope fun ⟨ds', e, _, ho⟩ => ?_, fun h => ?_⟩
    · cases e
      have : (ds.all fun x => isK .tuple x) = true := List.all_eq_true.mpr fun x hx => by
        obtain ⟨i, hi⟩ := List.getElem?_of_mem hx
        obtain ⟨w, rfl, _⟩ := ho i x hi
        rfl
      rw [this] at h
      cases h
    have hall : (ds.all fun x => isK .tuple x) = true := by simpa using h
    clear h
    obtain ⟨ws, rfl⟩ := tups_of hall
    have knw : ∀ w ∈ ws, ∀ s ∈ w, Kn s = true := fun w hw s hs => by
      have := kn (.tuple w) (List.mem_map_of_mem hw)
      rw [Kn] at this
      exact (KnA_iff w).mp this s hs
    simp only [↓W_comp2, ↓ev_all]
    refine W.of (comp2_typed ws PyData.tuple (fun w => w.map fun s => .bool (isI s)) fun w hw => ?_) ?_
    · simp only [wipeE, List.set_cons_succ, List.set_cons_zero]
      try simp only [↓ev_all, noOwn, List.map_cons, List.map_nil, if_true]
      try simp only [unOwn, List.set_cons_succ, List.set_cons_zero]
      try simp only [↓ev_all]
      refine comp_data w (fun s => .bool (isI s)) fun s hs => ?_
      simp only [↓ev_all, ↓W_isi, ↓isi_kn _ (knw w hw s hs), List.any_cons, List.any_nil, Bool.or_false, Bz_b]
      unfold isI
      refine ⟨fun h => by rw [h]; rfl, fun h => by rw [h]; rfl⟩
    have hf : ws.flatMap (fun w => w.map fun s => PyData.bool (isI s)) = (ws.flatten).map fun s => .bool (isI s) := by
      rw [List.map_flatten, List.flatMap_def]
    rw [hf]
    refine ⟨?_, ?_⟩
    · have : ∀ ws : List (List D), ws.flatten.length ≤ szA (ws.map PyData.tuple) := fun ws => by
        induction ws with
        | nil => simp
        | cons w r ih =>
          rw [List.flatten_cons, List.length_append, List.map_cons, szA, sz]
          have := len_szA w
          omega
      have := this ws
      rw [List.length_map]
      show _ ≤ 16777216
      omega
    simp only [↓W_allC, Bv_b, Bz_b]
    have hfl : (ws.flatten.all isI) = (ws.all fun w => w.all isI) := by
      induction ws with
      | nil => rfl
      | cons w r ih => simp
    rw [hfl]
    refine ⟨fun h => nope fun ⟨ds', e, _, ho⟩ => ?_, fun h => ?_⟩
    · cases e
      have : (ws.all fun w => w.all isI) = true := List.all_eq_true.mpr fun w hw => by
        obtain ⟨i, hi⟩ := List.getElem?_of_mem hw
        obtain ⟨v, hv, _⟩ := ho i (.tuple w) (by rw [List.getElem?_map, hi]; rfl)
        injection hv with hv
        rw [hv]
        exact isI_num v
      rw [this] at h
      cases h
    have hint : (ws.all fun w => w.all isI) = true := by simpa using h
    clear h
    obtain ⟨zs, ez⟩ := zs_of hint
    have hzl : zs.length = many := by
      have := congrArg List.length ez
      rw [List.length_map, List.length_map] at this
      rw [List.length_map] at hlen
      omega
    rw [ez] at nope ⊢
    clear ez hlen hfl hf knw kn hall hint hz hk
    cases zs with
    | nil => have := g.lo; rw [List.length_nil] at hzl; omega
    | cons z zr =>
      rw [List.length_cons] at hzl
      refine ⟨by simp, ?_⟩
      simp only [List.map_cons, List.take_succ_cons, List.take_zero, List.drop_succ_cons, List.drop_zero, List.cons_append, List.nil_append]
      simp only [↓ev_all, ↓W_eqZ0]
      refine ⟨fun e0 => ?_, fun h => nope fun ⟨ds', e, _, ho⟩ => h ?_⟩
      · subst e0
        refine W.of (comp_ix (enumD 0 (zr.map zD)) (fun i => .bool (decide (OkAt ls (i + 1) (zD (zr.getD i []))))) fun i x hx => ?_) ?_
        · obtain ⟨e, he, rfl⟩ := enumD_get _ 0 i hx
          rw [List.getElem?_map] at he
          obtain ⟨z', hz', rfl⟩ := Option.map_eq_some_iff.mp he
          have hi := (List.getElem?_eq_some_iff.mp hz').1
          have eg1 : zr.getD i [] = z' := by rw [List.getD_eq_getElem?_getD, hz']; rfl
          rw [eg1]
          try simp only [wipeE, List.set_cons_succ, List.set_cons_zero]
          simp only [↓ev_all, ↓W_eqZn, ↓eg]
          refine ⟨fun h => ?_, fun h => ?_⟩
          · rw [decide_eq_true (show OkAt ls (i + 1) (zD z') from ⟨[], by rw [h]; rfl, fun z => (by cases z), fun _ => .inl rfl⟩)]
          · obtain ⟨ws, q1, q2⟩ := ls_get (h := i + 1) g (by omega) (by omega)
            rw [Nat.add_sub_cancel] at q1
            refine W.of (at_nat (j := i) (v := wsD ws) (by rw [Nat.zero_add]) (by rw [List.getElem?_map, q1]; rfl)) ?_
            unfold wsD
            rw [W_inTP 1 1 (by omega) (by omega) (zD_pl z' 0) fun x hx => by obtain ⟨w, _, rfl⟩ := List.mem_map.mp hx; exact wD_pl w 0]
            congr 1
            refine decide_eq_decide.mpr ⟨fun hm => ?_, fun ⟨w, e, _, hw⟩ => ?_⟩
            · obtain ⟨w, hw, e⟩ := List.mem_map.mp hm
              exact ⟨w, e.symm, fun z => (by cases z), fun _ => .inr ⟨ws, q1, hw⟩⟩
            · rcases hw (by omega) with h' | ⟨ws', h1, h2⟩
              · subst h'
                exact absurd (zD_inj (show zD z' = zD [] from e)) h
              · rw [Nat.add_sub_cancel, q1] at h1
                cases h1
                rw [e]
                exact List.mem_map_of_mem h2
        · simp only [↓W_allC]
          refine ⟨_, rfl, ?_⟩
          rw [List.all_eq_true, enumD_length, List.length_map]
          constructor
          · intro h
            refine ⟨_, rfl, by simp [hzl], fun i x hx => ?_⟩
            cases i with
            | zero =>
              cases hx
              exact ⟨[0], rfl, fun _ => rfl, fun z => absurd z (by omega)⟩
            | succ i =>
              rw [List.getElem?_cons_succ, List.getElem?_map] at hx
              obtain ⟨z', hz', rfl⟩ := Option.map_eq_some_iff.mp hx
              have hi := (List.getElem?_eq_some_iff.mp hz').1
              have := of_decide_eq_true (h i (List.mem_range.mpr hi))
              rw [List.getD_eq_getElem?_getD, hz'] at this
              exact this
          · rintro ⟨ds', e, _, ho⟩ i hi
            cases e
            have hi := List.mem_range.mp hi
            refine decide_eq_true (ho (i + 1) _ ?_)
            rw [List.getElem?_cons_succ, List.getElem?_map, List.getElem?_eq_getElem hi, List.getD_eq_getElem?_getD, List.getElem?_eq_getElem hi]
            rfl
      · cases e
        obtain ⟨w, hw, h0, _⟩ := ho 0 (zD z) rfl
        rw [h0 rfl] at hw
        exact zD_inj (show zD z = zD [0] from hw)
def numB (lo hi : Int) (s : D) : Bool := match s with
  | .int i => decide (lo ≤ i) && decide (i ≤ hi)
  | _ => false
theorem number_ok {s : D} (lo hi : Int) (hk : Kn s = true) : f_l_number [s, .int lo, .int hi] = some (.bool (numB lo hi s)) := by
  refine W_eq (W_run ?_)
  simp only [den_l_number, ex_all]
  simp only [↓ev_all, ↓W_isi, ↓isi_kn _ hk, List.any_cons, List.any_nil, Bool.or_false]
  cases s <;> simp only [isK, Bz_t, Bz_f, Bool.not_true, Bool.not_false, numB, ↓ev_all]
  refine ⟨fun h => ?_, fun h => ?_⟩
  · rw [decide_eq_true h, Bool.true_and]
  · rw [decide_eq_false h, Bool.false_and]
theorem nums_of {hi : Nat} : ∀ {xs : List D}, (xs.all (numB 0 hi)) = true → ∃ w : List Nat, xs = nD w ∧ ∀ x ∈ w, x ≤ hi
  | [], _ => ⟨[], rfl, fun _ h => nomatch h⟩
  | x :: r, h => by
    rw [List.all_cons, Bool.and_eq_true] at h
    obtain ⟨w, rfl, hw⟩ := nums_of h.2
    have h1 := h.1
    cases x <;> simp only [numB] at h1 <;> first | cases h1 | skip
    rename_i i
    rw [Bool.and_eq_true, decide_eq_true_eq, decide_eq_true_eq] at h1
    obtain ⟨n, rfl⟩ := Int.eq_ofNat_of_zero_le h1.1
    exact ⟨n :: w, rfl, fun x hx => by
      rcases List.mem_cons.mp hx with e | e
      · omega
      · exact hw x e⟩
theorem nums_nD {hi : Nat} {w : List Nat} (h : ∀ x ∈ w, x ≤ hi) : ((nD w).all (numB 0 hi)) = true := by
  unfold nD
  rw [List.all_map, List.all_eq_true]
  intro x hx
  have := h x hx
  simp only [Function.comp, numB, Bool.and_eq_true, decide_eq_true_eq]
  omega
theorem W_neW0 (w : List Nat) (Q : D → Prop) : W (aCmp .NotEq (.tuple (nD w)) (.tuple [.int 0])) Q = Q (.bool (decide (¬w = [0]))) := W_neW w [0] Q
theorem W_neWn (w : List Nat) (Q : D → Prop) : W (aCmp .NotEq (.tuple (nD w)) (.tuple [])) Q = Q (.bool (decide (¬w = []))) := W_neW w [] Q
theorem okAt_small (g : GOk most many rs ls) (h7 : most ≤ 7) {i : Nat} {w : List Nat} (h : OkAt ls i (wD w)) : ∀ x ∈ w, x ≤ 6 := by
  have hhi := g.hi
  obtain ⟨w', e, h0, h1⟩ := h
  have e := wD_inj e
  subst e
  intro x hx
  rcases Nat.eq_zero_or_pos i with hi | hi
  · rw [h0 hi] at hx
    rw [List.mem_singleton.mp hx]
    omega
  · rcases h1 hi with h | ⟨ws, q1, q2⟩
    · rw [h] at hx; cases hx
    · have := ((g.ok _ ws q1).ok w q2).lt x hx
      omega
theorem lisst_ok (g : GOk most many rs ls) (h7 : most ≤ 7) {d : D} (hk : Kn d = true) : W (f_l_is_stand [gD many rs ls, d]) fun r => ∃ b, r = .bool b ∧ (b = true ↔ IsSt many ls d) := by
  refine W_run ?_
  simp only [den_l_is_stand, ex_all]
  simp only [↓ev_all, ↓eg, ↓W_isi, ↓isi_kn _ hk]
  have no : ∀ {d : D}, (∀ ds, d ≠ .tuple ds) → ∃ b, PyData.bool false = .bool b ∧ (b = true ↔ IsSt many ls d) := fun h => ⟨false, rfl, fun z => (by cases z), fun ⟨ds, e, _⟩ => absurd e (h ds)⟩
  cases d with
  | dict _ => cases hk
  | none => simp only [List.any_cons, List.any_nil, isK, Bool.or_false, Bool.not_false, Bz_t]; exact no fun _ z => nomatch z
  | bool _ => simp only [List.any_cons, List.any_nil, isK, Bool.or_false, Bool.not_false, Bz_t]; exact no fun _ z => nomatch z
  | int _ => simp only [List.any_cons, List.any_nil, isK, Bool.or_false, Bool.not_false, Bz_t]; exact no fun _ z => nomatch z
  | str _ => simp only [List.any_cons, List.any_nil, isK, Bool.or_false, Bool.not_false, Bz_t]; exact no fun _ z => nomatch z
  | list _ => simp only [List.any_cons, List.any_nil, isK, Bool.or_false, Bool.not_false, Bz_t]; exact no fun _ z => nomatch z
  | tuple ds =>
    rw [Kn] at hk
    have kn := (KnA_iff ds).mp hk
    simp only [List.any_cons, List.any_nil, isK, Bool.or_false, Bool.not_true, Bz_f, ↓ev_all, ↓eg]
    have nope : ¬IsSt many ls (.tuple ds) → ∃ b, PyData.bool false = .bool b ∧ (b = true ↔ IsSt many ls (.tuple ds)) := fun h => ⟨false, rfl, fun z => (by cases z), fun z => absurd z h⟩
    refine ⟨fun h => nope fun ⟨ds', e, hl, _⟩ => h (by cases e; rw [hl]), fun h => ?_⟩
    have hlen : ds.length = many := by omega
    refine W_forN (fun i ρ => (∀ j x, j < i → ds[j]? = some x → OkAt ls j x) ∧ ∃ x2 x3 x4 : Option SV, ρ = [some (.val (gD many rs ls)), some (.val (.tuple ds)), x2, x3, x4]) ⟨fun j x hj => absurd hj (by omega), _, _, _, rfl⟩ ?zEnd ?zStep
    case zEnd =>
      rintro ρ ⟨ho, x2, x3, x4, rfl⟩
      rw [enumD_length] at ho
      simp only [↓ev_all]
      exact ⟨true, rfl, fun _ => ⟨ds, rfl, hlen, fun i x hx => ho i x (List.getElem?_eq_some_iff.mp hx).1 hx⟩, fun _ => rfl⟩
    case zStep =>
      rintro i x ρ hx ⟨ho, x2, x3, x4, rfl⟩
      obtain ⟨e, he, rfl⟩ := enumD_get _ 0 i hx
      have hi := (List.getElem?_eq_some_iff.mp he).1
      have ke := kn e (List.mem_of_getElem? he)
      have bad : ¬OkAt ls i e → ∃ b, PyData.bool false = .bool b ∧ (b = true ↔ IsSt many ls (.tuple ds)) := fun h => nope fun ⟨ds', e', _, ho'⟩ => by cases e'; exact h (ho' i e he)
      have good : OkAt ls i e → ∀ j x, j < i + 1 → ds[j]? = some x → OkAt ls j x := fun h j x hj hx' => by
        rcases Nat.lt_or_eq_of_le (Nat.lt_succ_iff.mp hj) with h' | h'
        · exact ho j x h' hx'
        · rw [h', he] at hx'
          cases hx'
          rw [h']
          exact h
      simp only [↓ev_all, ↓W_isi, ↓isi_kn _ ke, List.any_cons, List.any_nil, Bool.or_false]
      by_cases ht : isK .tuple e = true
      · obtain ⟨xs, rfl⟩ : ∃ xs, e = .tuple xs := by cases e <;> simp [isK] at ht ⊢
        simp only [isK, Bool.not_true, Bz_f, ↓ev_all]
        rw [Kn] at ke
        have kx := (KnA_iff xs).mp ke
        refine W.of (comp_data xs (fun s => .bool (numB 0 6 s)) fun s hs => ?_) ?_
        · try simp only [wipeE, List.set_cons_succ, List.set_cons_zero]
          simp only [↓ev_all]
          exact W.of (number_ok 0 6 (kx s hs)) rfl
        simp only [↓W_allC, Bv_b, Bz_b]
        refine ⟨fun h => bad fun hok => ?_, fun h => ?_⟩
        · obtain ⟨w, e, h1⟩ := id hok
          injection e with e
          rw [e, show numB 0 6 = numB 0 ((6 : Nat) : Int) from rfl, nums_nD (okAt_small g h7 (by rw [show PyData.tuple xs = wD w by rw [e]; rfl] at hok; exact hok))] at h
          cases h
        · have hall : (xs.all (numB 0 ((6 : Nat) : Int))) = true := by simpa using h
          obtain ⟨w, rfl, hw⟩ := nums_of hall
          have next : OkAt ls i (.tuple (nD w)) → Lp (fun ρ => (∀ j x, j < i + 1 → ds[j]? = some x → OkAt ls j x) ∧ ∃ x2 x3 x4 : Option SV, ρ = [some (.val (gD many rs ls)), some (.val (.tuple ds)), x2, x3, x4]) (PF.Kn (dRet (dC (.bool true))) (Rt fun r => ∃ b, r = .bool b ∧ (b = true ↔ IsSt many ls (.tuple ds)))) (.next [some (.val (gD many rs ls)), some (.val (.tuple ds)), some (.val (.int ((0 + i : Nat) : Int))), some (.val (.tuple (nD w))), x4]) := fun h => ⟨good h, _, _, _, rfl⟩
          simp only [↓ev_all, ↓W_neW0, ↓W_neWn, ↓eg]
          have ok0 : i = 0 → w = [0] → OkAt ls i (.tuple (nD w)) := fun h0 h1 => ⟨w, rfl, fun _ => h1, fun z => absurd z (by omega)⟩
          have ok1 : 0 < i → (w = [] ∨ ∃ ws, ls[i - 1]? = some ws ∧ w ∈ ws) → OkAt ls i (.tuple (nD w)) := fun h0 h1 => ⟨w, rfl, fun z => absurd z (by omega), fun _ => h1⟩
          refine ⟨fun h0 => ⟨fun h1 => bad fun ⟨w', e, q, _⟩ => h1 ?_, fun h1 => ⟨fun h2 => absurd h2 (by omega), fun _ => next (ok0 (by omega) (Classical.not_not.mp h1))⟩⟩, fun h0 => ⟨fun h2 => ⟨fun h3 => ?_, fun h3 => next (ok1 (by omega) (.inl (Classical.not_not.mp h3)))⟩, fun h2 => absurd (by omega) h2⟩⟩
          · rw [wD_inj (show wD w = wD w' from e)]
            exact q (by omega)
          · obtain ⟨ws, q1, q2⟩ := ls_get (h := i) g (by omega) (by omega)
            refine W.of (at_nat (j := i - 1) (v := wsD ws) (by omega) (by rw [List.getElem?_map, q1]; rfl)) ?_
            show W (aCmp .NotIn (wD w) (.tuple (ws.map wD))) _
            rw [W_niTP 1 1 (by omega) (by omega) (wD_pl w 0) fun x hx => by obtain ⟨w, _, rfl⟩ := List.mem_map.mp hx; exact wD_pl w 0]
            simp only [Bz_d]
            refine ⟨fun hn => bad fun ⟨w', e, _, q⟩ => ?_, fun hn => next (ok1 (by omega) (.inr ⟨ws, q1, ?_⟩))⟩
            · have e := wD_inj (show wD w = wD w' from e)
              subst e
              rcases q (by omega) with h | ⟨ws', h1, h2⟩
              · exact h3 h
              · rw [q1] at h1
                cases h1
                exact hn (List.mem_map_of_mem h2)
            · obtain ⟨w', hw', e⟩ := List.mem_map.mp (Classical.not_not.mp hn)
              rw [← wD_inj (show wD w' = wD w from e)]
              exact hw'
      · have hf : isK .tuple e = false := by simpa using ht
        rw [hf]
        simp only [Bool.not_false, Bz_t]
        exact bad fun ⟨w, e', _⟩ => by rw [e'] at hf; cases hf
theorem W_notB (a b : Bool) (Q : D → Prop) : W (aCmp .IsNot (.bool a) (.bool b)) Q = Q (.bool (!decide (a = b))) := W_some _ _
theorem short_nd : ∀ (l m : List Nat), l.Nodup → (∀ x ∈ l, x ∈ m) → l.length ≤ m.length
  | [], m, _, _ => Nat.zero_le _
  | a :: l, m, nd, h => by
    obtain ⟨n1, n2⟩ := List.nodup_cons.mp nd
    have ha := h a (List.mem_cons_self ..)
    have := short_nd l (m.erase a) n2 fun x hx => (List.mem_erase_of_ne (fun e : x = a => n1 (e ▸ hx))).mpr (h x (List.mem_cons_of_mem _ hx))
    rw [List.length_erase_of_mem ha] at this
    have := List.length_pos_of_mem ha
    rw [List.length_cons]
    omega
theorem way_few {many : Nat} {rs : List (Nat × Nat)} {h : Nat} {w : List Nat} (ok : WayOk many rs h w) : w.length ≤ many := by
  have := short_nd w (List.range many) ok.nd fun x hx => List.mem_range.mpr (ok.lt x hx)
  rwa [List.length_range] at this
theorem nD_th (w : List Nat) : KnA (nD w) = true ∧ szA (nD w) = w.length ∧ dpA (nD w) = 0 := by
  induction w with
  | nil => exact ⟨rfl, rfl, rfl⟩
  | cons n w ih =>
    obtain ⟨h1, h2, h3⟩ := ih
    refine ⟨by show (true && KnA (nD w)) = true; rw [h1]; rfl, by show 1 + szA (nD w) = _; rw [h2, List.length_cons]; omega, by show max 0 (dpA (nD w)) = 0; rw [h3]; rfl⟩
theorem wD_th (w : List Nat) : Th (1 + w.length) 1 (wD w) := by
  obtain ⟨h1, h2, h3⟩ := nD_th w
  exact ⟨by unfold wD; rw [Kn]; exact h1, by unfold wD; rw [sz, h2]; omega, by unfold wD; rw [dp, h3]; omega⟩
theorem st_small {most many : Nat} {rs : List (Nat × Nat)} {ls : List (List (List Nat))} {st : List (List Nat)} (g : GOk most many rs ls) (h7 : most ≤ 7) (hs : StOk many ls st) : ∀ w ∈ st, w.length ≤ 7 := by
  intro w hw
  obtain ⟨i, hi⟩ := List.getElem?_of_mem hw
  have hhi := g.hi
  cases i with
  | zero => rw [hs.hall] at hi; cases hi; simp
  | succ j =>
    rcases hs.own j w hi with h | ⟨ws, q1, q2⟩
    · rw [h]; simp
    · have := way_few ((g.ok j ws q1).ok w q2)
      omega
theorem sts_th {st : List (List Nat)} (hl : st.length ≤ 7) (h : ∀ w ∈ st, w.length ≤ 7) : KnA (st.map wD) = true ∧ szA (st.map wD) ≤ 56 ∧ dpA (st.map wD) ≤ 1 := by
  refine ⟨(KnA_iff _).mpr fun x hx => ?_, ?_, (dpA_le _).mpr fun x hx => ?_⟩
  · obtain ⟨w, _, rfl⟩ := List.mem_map.mp hx
    exact (wD_th w).kn
  · have := szA_le (k := 8) (xs := st.map wD) fun x hx => by
      obtain ⟨w, hw, rfl⟩ := List.mem_map.mp hx
      have := (wD_th w).sz
      have := h w hw
      omega
    rw [List.length_map] at this
    omega
  · obtain ⟨w, _, rfl⟩ := List.mem_map.mp hx
    exact (wD_th w).dp
theorem iD_mid (xs : List Int) (a b : Nat) : PF.cutD (iD xs) (some (a : Int)) (some (b : Int)) = iD ((xs.take b).drop a) := by
  rw [cut_mid]; unfold iD; rw [← List.map_take, ← List.map_drop]
theorem iD_plus (xs ys : List Int) : iD xs ++ iD ys = iD (xs ++ ys) := by unfold iD; rw [List.map_append]
theorem iD_to (xs : List Int) (a : Nat) : PF.cutD (iD xs) none (some (a : Int)) = iD (xs.take a) := by
  rw [cut_to]; unfold iD; rw [← List.map_take]
theorem iD_rev (xs : List Int) : (iD xs).reverse = iD xs.reverse := by unfold iD; rw [List.map_reverse]
theorem W_cutS (st : List (List Nat)) (l h : Option Int) (Q : D → Prop) : W (aCut (sD st) l h) Q = Q (.tuple (PF.cutD (st.map wD) l h)) := W_some _ _
theorem W_addS (st : List (List Nat)) (ys : List D) (Q : D → Prop) : W (aAdd (sD st) (.tuple ys)) Q = ((st.map wD).length + ys.length ≤ sizeLine ∧ Q (.tuple (st.map wD ++ ys))) := W_if _ _ _
theorem W_lstS (st : List (List Nat)) (Q : D → Prop) : W (bList [sD st]) Q = Q (.list (st.map wD)) := W_some _ _
theorem th_tup {n k : Nat} {xs : List D} (h1 : KnA xs = true) (h2 : szA xs + 1 ≤ n) (h3 : dpA xs + 1 ≤ k) : Th n k (.tuple xs) := ⟨by rw [Kn]; exact h1, by rw [sz]; omega, by rw [dp]; omega⟩
theorem th_lst {n k : Nat} {xs : List D} (h1 : KnA xs = true) (h2 : szA xs + 1 ≤ n) (h3 : dpA xs + 1 ≤ k) : Th n k (.list xs) := ⟨by rw [Kn]; exact h1, by rw [sz]; omega, by rw [dp]; omega⟩
theorem knA_app {xs ys : List D} (h1 : KnA xs = true) (h2 : KnA ys = true) : KnA (xs ++ ys) = true := (KnA_iff _).mpr fun x hx => (List.mem_append.mp hx).elim ((KnA_iff _).mp h1 x) ((KnA_iff _).mp h2 x)
theorem dpA_app {xs ys : List D} {k : Nat} (h1 : dpA xs ≤ k) (h2 : dpA ys ≤ k) : dpA (xs ++ ys) ≤ k := (dpA_le _).mpr fun x hx => (List.mem_append.mp hx).elim ((dpA_le _).mp h1 x) ((dpA_le _).mp h2 x)
end LW
/-! how many things stand in one list or tuple of a bent thing -/
namespace LW
open PySem PySem.Spec PyProof.Rows L2 PF
mutual
def wdB (m : Nat) : D → Bool
  | .list xs => decide (xs.length ≤ m) && wdA m xs
  | .tuple xs => decide (xs.length ≤ m) && wdA m xs
  | .dict _ => true
  | .none => true
  | .bool _ => true
  | .int _ => true
  | .str _ => true
def wdA (m : Nat) : List D → Bool
  | [] => true
  | d :: r => wdB m d && wdA m r
end
theorem wdA_iff {m : Nat} : ∀ xs : List D, wdA m xs = true ↔ ∀ x ∈ xs, wdB m x = true
  | [] => by simp [wdA]
  | d :: r => by rw [wdA, Bool.and_eq_true, wdA_iff r]; simp
theorem wd_lst {m : Nat} {xs : List D} : wdB m (.list xs) = true ↔ xs.length ≤ m ∧ ∀ x ∈ xs, wdB m x = true := by rw [wdB, Bool.and_eq_true, decide_eq_true_iff, wdA_iff]
theorem wd_tup {m : Nat} {xs : List D} : wdB m (.tuple xs) = true ↔ xs.length ≤ m ∧ ∀ x ∈ xs, wdB m x = true := by rw [wdB, Bool.and_eq_true, decide_eq_true_iff, wdA_iff]
theorem wd_seq {m : Nat} {d : D} {ds : List D} (h : seqOf d = some ds) : wdB m d = true ↔ ds.length ≤ m ∧ ∀ x ∈ ds, wdB m x = true := by
  rcases seq_eq h with e | e <;> rw [e]
  · exact wd_lst
  · exact wd_tup
mutual
theorem wd_mono {m n : Nat} (h : m ≤ n) : ∀ d : D, wdB m d = true → wdB n d = true
  | .list xs, q => by
    rw [wdB, Bool.and_eq_true, decide_eq_true_iff] at q ⊢
    exact ⟨Nat.le_trans q.1 h, wdA_mono h xs q.2⟩
  | .tuple xs, q => by
    rw [wdB, Bool.and_eq_true, decide_eq_true_iff] at q ⊢
    exact ⟨Nat.le_trans q.1 h, wdA_mono h xs q.2⟩
  | .dict _, _ => by rw [wdB]
  | .none, _ => by rw [wdB]
  | .bool _, _ => by rw [wdB]
  | .int _, _ => by rw [wdB]
  | .str _, _ => by rw [wdB]
theorem wdA_mono {m n : Nat} (h : m ≤ n) : ∀ xs : List D, wdA m xs = true → wdA n xs = true
  | [], _ => by rw [wdA]
  | d :: r, q => by
    rw [wdA, Bool.and_eq_true] at q ⊢
    exact ⟨wd_mono h d q.1, wdA_mono h r q.2⟩
end
theorem W_both {α : Type} {o : Option α} {P Q : α → Prop} (h1 : W o P) (h2 : W o Q) : W o fun a => P a ∧ Q a := by
  obtain ⟨a, e, p⟩ := h1
  obtain ⟨b, e', q⟩ := h2
  rw [e] at e'
  cases e'
  exact ⟨a, e, p, q⟩
theorem other_wd {m : Nat} (hm : 2 ≤ m) {d : D} {dr : List Int} (hk : Kn d = true) (hw : wdB m d = true) (hl : 5 ≤ dr.length) : W (f_l_other [d, .list (iD dr)]) fun r => wdB m r = true := by
  have base : ∀ x ∈ ([.none, .bool true, .bool false, .int 7, .int (0 - 1), .int (10 ^ (39 : Int).toNat), .str "0", .str "", .tuple [], .list [], .tuple [d], .list [d], .tuple [.int 0], .tuple [.int 1, .int 0], .int 1, .int 0] : List D), wdB m x = true := by
    intro x hx
    simp only [List.mem_cons, List.not_mem_nil, or_false] at hx
    rcases hx with rfl | rfl | rfl | rfl | rfl | rfl | rfl | rfl | rfl | rfl | rfl | rfl | rfl | rfl | rfl | rfl <;> simp [wdB, wdA, hw] <;> omega
  refine W_run ?_
  simp only [den_l_other, ex_all]
  simp only [↓ev_all, ↓W_isi, ↓isi_kn _ hk]
  refine ⟨by decide, ?_⟩
  have fin : ∀ L : List D, (∀ x ∈ L, wdB m x = true) → 0 < L.length → W (atI (iD dr) 1) (fun v => W (aMod v (.int ((L.length : Nat) : Int))) fun i => W (aIx (.list L) i) fun r => wdB m r = true) := by
    intro L hp h0
    unfold iD
    refine W_ints (by omega) (by omega) fun v _ => ?_
    simp only [↓ev_all]
    exact ⟨by omega, W_at_all rfl h0 hp⟩
  generalize hB : ([.none, .bool true, .bool false, .int 7, .int (0 - 1), .int (10 ^ (39 : Int).toNat), .str "0", .str "", .tuple [], .list [], .tuple [d], .list [d], .tuple [.int 0], .tuple [.int 1, .int 0], .int 1, .int 0] : List D) = B at base ⊢
  have hBl : B.length = 16 := by rw [← hB]; rfl
  clear hB
  have app : ∀ A : List D, (∀ x ∈ A, wdB m x = true) → ∀ x ∈ A ++ B, wdB m x = true := fun A hA x hx => (List.mem_append.mp hx).elim (hA x) (base x)
  have seqc : ∀ ds, (ds.length ≤ m ∧ ∀ x ∈ ds, wdB m x = true) → ∀ x ∈ [PyData.list ds, .tuple ds, .tuple ds.reverse, .list ds], wdB m x = true := by
    intro ds h x h'
    simp only [List.mem_cons, List.not_mem_nil, or_false] at h'
    rcases h' with rfl | rfl | rfl | rfl
    · exact wd_lst.mpr h
    · exact wd_tup.mpr h
    · exact wd_tup.mpr ⟨by rw [List.length_reverse]; exact h.1, fun x hx => h.2 x (List.mem_reverse.mp hx)⟩
    · exact wd_lst.mpr h
  cases d with
  | dict _ => cases hk
  | none =>
    simp only [List.any_cons, List.any_nil, isK, Bool.or_false, Bz_f]
    exact fin B base (by omega)
  | str _ =>
    simp only [List.any_cons, List.any_nil, isK, Bool.or_false, Bz_f]
    exact fin B base (by omega)
  | bool _ =>
    simp only [List.any_cons, List.any_nil, isK, Bool.or_false, Bz_f, Bz_t, Bool.not_true]
    exact fin B base (by omega)
  | int i =>
    simp only [List.any_cons, List.any_nil, isK, Bool.or_false, Bz_f, Bz_t, Bool.not_false, ↓ev_all, ↓W_boolI]
    refine ⟨by rw [hBl]; show 6 + 16 ≤ 16777216; omega, fin _ (app _ fun x h => ?_) (by simp)⟩
    simp only [List.mem_cons, List.not_mem_nil, or_false] at h
    rcases h with rfl | rfl | rfl | rfl | rfl | rfl <;> rw [wdB]
  | list ds =>
    have hd := wd_lst.mp hw
    simp only [List.any_cons, List.any_nil, isK, Bool.or_false, Bool.or_true, Bool.false_or, Bool.true_or, Bz_f, Bz_t, ↓ev_all, ↓W_revL]
    exact ⟨by rw [hBl]; show 4 + 16 ≤ 16777216; omega, fin _ (app _ (seqc ds hd)) (by simp)⟩
  | tuple ds =>
    have hd := wd_tup.mp hw
    simp only [List.any_cons, List.any_nil, isK, Bool.or_false, Bool.or_true, Bool.false_or, Bool.true_or, Bz_f, Bz_t, ↓ev_all, ↓W_revT]
    exact ⟨by rw [hBl]; show 4 + 16 ≤ 16777216; omega, fin _ (app _ (seqc ds hd)) (by simp)⟩
theorem shifted_len {ds : List D} {at_ : Nat} {i : Int} {dr : List Int} (hi : i = at_) (ha : at_ < ds.length) (hl : 5 ≤ dr.length) (hz : ds.length ≤ 100000) : W (f_l_shifted [.list ds, .int i, .list (iD dr)]) fun r => ∃ es, r = .list es ∧ (∀ x ∈ es, x ∈ ds) ∧ es.length ≤ ds.length + 1 := by
  subst hi
  obtain ⟨x, hx⟩ : ∃ x, ds[at_]? = some x := ⟨_, List.getElem?_eq_getElem ha⟩
  have hm := List.mem_of_getElem? hx
  have hcut : cutD ds none (some (at_ : Int)) = ds.take at_ := cut_to ds at_
  have hcut2 : cutD ds (some ((at_ : Int) + 1)) none = ds.drop (at_ + 1) := cut_all ds (at_ + 1)
  have hrest : ∀ y ∈ ds.take at_ ++ ds.drop (at_ + 1), y ∈ ds := fun y hy => (List.mem_append.mp hy).elim List.mem_of_mem_take List.mem_of_mem_drop
  have hrl : (ds.take at_).length + (ds.drop (at_ + 1)).length ≤ ds.length := by rw [List.length_take, List.length_drop]; omega
  have gen : ∀ (L : List D) (o : Nat), (∀ y ∈ L, y ∈ ds) → L.length ≤ ds.length → (cutD L none (some (o : Int))).length + [x].length ≤ sizeLine ∧ (cutD L none (some (o : Int)) ++ [x]).length + (cutD L (some (o : Int)) none).length ≤ sizeLine ∧ ∃ es, PyData.list (cutD L none (some (o : Int)) ++ [x] ++ cutD L (some (o : Int)) none) = .list es ∧ (∀ y ∈ es, y ∈ ds) ∧ es.length ≤ ds.length + 1 := by
    intro L o h1 h2
    rw [cut_to, cut_all]
    refine ⟨by rw [List.length_take]; show _ + 1 ≤ 16777216; omega, by rw [List.length_append, List.length_take, List.length_drop]; show _ + 1 + _ ≤ 16777216; omega, _, rfl, fun y hy => ?_, ?_⟩
    · rcases List.mem_append.mp hy with hy | hy
      · rcases List.mem_append.mp hy with hy | hy
        · exact h1 y (List.mem_of_mem_take hy)
        · rw [List.mem_singleton.mp hy]; exact hm
      · exact h1 y (List.mem_of_mem_drop hy)
    · rw [List.length_append, List.length_append, List.length_take, List.length_drop]; show _ + 1 + _ ≤ _; omega
  refine W_runO ?_
  simp only [den_l_shifted, ex_all]
  simp only [↓ev_all]
  refine iD_at (n := 2) rfl (by omega) fun v => ?_
  try simp only [↓ev_all]
  refine ⟨by omega, ?_⟩
  obtain ⟨o, ho, ho2⟩ := emod_nat v (n := ds.length) (by omega)
  rw [ho]
  try simp only [↓ev_all]
  refine iD_at (n := 0) rfl (by omega) fun v0 => ?_
  try simp only [↓ev_all]
  refine ⟨by omega, fun _ => ?_, fun _ => ?_⟩
  · rw [hcut, hcut2]
    exact ⟨Nat.le_trans hrl (by show _ ≤ 16777216; omega), _, rfl, hrest, by rw [List.length_append]; omega⟩
  · refine iD_at (n := 0) rfl (by omega) fun v1 => ?_
    try simp only [↓ev_all]
    refine ⟨by omega, fun _ => ?_, fun _ => ?_⟩
    · refine W.of (at_nat rfl hx) ?_
      obtain ⟨g1, g2, g3⟩ := gen ds o (fun y hy => hy) (Nat.le_refl _)
      try simp only [↓ev_all]
      exact ⟨g1, g2, g3⟩
    · rw [hcut, hcut2]
      refine ⟨Nat.le_trans hrl (by show _ ≤ 16777216; omega), ?_⟩
      try simp only [↓ev_all]
      refine W.of (at_nat rfl hx) ?_
      obtain ⟨g1, g2, g3⟩ := gen (ds.take at_ ++ ds.drop (at_ + 1)) o hrest (by rw [List.length_append]; exact hrl)
      try simp only [↓ev_all]
      exact ⟨g1, g2, g3⟩
theorem put_wd {w : Nat} (hw2 : 2 ≤ w) (hw3 : w ≤ 1000) {dr : List Int} (hl : 5 ≤ dr.length) : ∀ (m : Nat) (d : D) (p : List Nat), p.length < m → Pth d p → Kn d = true → wdB w d = true → W (recF 4 den_l_put m [d, wD p, .list (iD dr)]) fun r => wdB (w + 1) r = true
  | 0, _, _, h, _, _, _ => absurd h (Nat.not_lt_zero _)
  | m + 1, d, [], _, _, hk, hz => by
    refine W_run ?_
    simp only [den_l_put, ex_all]
    simp only [↓ev_all, ↓W_eqW0, decide_true, Bz_t]
    refine ⟨fun _ => ?_, fun z => absurd True.intro z⟩
    exact (other_wd hw2 hk hz hl).mono fun r h => wd_mono (Nat.le_succ _) r h
  | m + 1, d, i :: q, hm, ⟨ds, e, hs, he, hq⟩, hk, hz => by
    have hk' : KnA ds = true := by rw [← seq_kn hs]; exact hk
    obtain ⟨w1, w2⟩ := (wd_seq hs).mp hz
    have hi : i < ds.length := (List.getElem?_eq_some_iff.mp he).1
    have hmem := List.mem_of_getElem? he
    have ke := (KnA_iff ds).mp hk' e hmem
    have ep : (nD (i :: q))[0]? = some (.int (i : Nat)) := rfl
    rw [List.length_cons] at hm
    refine W_run ?_
    simp only [den_l_put, ex_all]
    simp only [↓ev_all, ↓W_eqW0, ↓lst_seq hs, ↓eg]
    have two : ∀ es : List D, es.length ≤ w + 1 → (∀ x ∈ es, wdB (w + 1) x = true) → wdB (w + 1) (.list es) = true ∧ wdB (w + 1) (.tuple es) = true := fun es h1 h2 => ⟨wd_lst.mpr ⟨h1, h2⟩, wd_tup.mpr ⟨h1, h2⟩⟩
    have shift : W (f_l_shifted [.list ds, .int (i : Nat), .list (iD dr)]) (fun r => ∃ es, r = .list es ∧ wdB (w + 1) (.list es) = true ∧ wdB (w + 1) (.tuple es) = true) := (shifted_len rfl hi hl (by omega)).mono fun r ⟨es, h1, h2, h3⟩ =>
      ⟨es, h1, two es (by omega) fun x hx => wd_mono (Nat.le_succ _) x (w2 x (h2 x hx))⟩
    have inner : W (recF 4 den_l_put m [e, wD q, .list (iD dr)]) (fun r => wdB (w + 1) (.list (ds.set i r)) = true ∧ wdB (w + 1) (.tuple (ds.set i r)) = true) := (put_wd hw2 hw3 hl m e q (by omega) hq ke (w2 e hmem)).mono fun r h =>
      two _ (by rw [List.length_set]; omega) fun x hx => by
        rcases List.mem_or_eq_of_mem_set hx with h' | h'
        · exact wd_mono (Nat.le_succ _) x (w2 x h')
        · rw [h']; exact h
    have hcut : PF.cutD (nD (i :: q)) (some 1) none = nD q := wD_drop (i :: q) 1
    have els : ∀ r, wdB (w + 1) (.list (ds.set i r)) = true ∧ wdB (w + 1) (.tuple (ds.set i r)) = true → W (dIsi [Kd.list] (dVarB 0) (fz1 [some (SV.val d), some (SV.val (wD (i :: q))), some (SV.val (PyData.list (iD dr))), some (SV.own (ds.set i r))] 3)) fun d_3 =>
        Bz d_3 (W (dVar 3 (fz1 [some (SV.val d), some (SV.val (wD (i :: q))), some (SV.val (PyData.list (iD dr))), some (SV.own (ds.set i r))] 3)) fun d_4 => wdB (w + 1) d_4 = true)
          (W (dVarB 3 (fz1 [some (SV.val d), some (SV.val (wD (i :: q))), some (SV.val (PyData.list (iD dr))), some (SV.own (ds.set i r))] 3)) fun x => W (bTuple [x]) fun d_4 => wdB (w + 1) d_4 = true) := fun r ⟨t1, t2⟩ => by
      try simp only [ex_all]
      try simp only [↓ev_all, ↓W_isi, ↓isi_kn _ hk]
      exact back_seq (P := fun x => wdB (w + 1) x = true) hs t1 t2
    refine ⟨fun z => (by cases z), fun _ => ⟨fun _ => ?_, fun _ => ?_⟩⟩
    · refine iD_at (n := 3) rfl (by omega) fun v => ?_
      simp only [↓ev_all]
      refine ⟨by omega, fun _ => ?_, fun _ => ?_⟩
      · try simp only [ex_all]
        try simp only [↓ev_all, ↓eg]
        refine W.of (at_nat (j := 0) rfl ep) ?_
        try simp only [↓ev_all]
        refine shift.mono fun r ⟨es, hr, t1, t2⟩ => ?_
        subst hr
        try simp only [↓ev_all]
        try simp only [ex_all]
        try simp only [↓ev_all, ↓W_isi, ↓isi_kn _ hk]
        exact back_seq (P := fun x => wdB (w + 1) x = true) hs t1 t2
      · refine W.of (at_nat (j := 0) rfl ep) ?_
        try simp only [↓ev_all]
        refine W.of (at_nat (j := i) rfl he) ?_
        rw [hcut]
        refine inner.mono fun r ht => ?_
        refine W.of (at_nat (j := 0) rfl ep) ?_
        try simp only [↓ev_all]
        refine W.of (ixN_nat (by omega) (by omega)) ?_
        rw [Int.toNat_natCast]
        exact els r ht
    · refine W.of (at_nat (j := 0) rfl ep) ?_
      try simp only [↓ev_all]
      refine W.of (at_nat (j := i) rfl he) ?_
      rw [hcut]
      refine inner.mono fun r ht => ?_
      refine W.of (at_nat (j := 0) rfl ep) ?_
      try simp only [↓ev_all]
      refine W.of (ixN_nat (by omega) (by omega)) ?_
      rw [Int.toNat_natCast]
      exact els r ht
theorem bent_wd {dr : List Int} (hl : 5 ≤ dr.length) {d : D} {n k w : Nat} (h : Th n k d) (hn : n ≤ 30000) (hk : k ≤ 10) (hw2 : 2 ≤ w) (hw3 : w ≤ 1000) (hw : wdB w d = true) : W (f_l_bent [d, .list (iD dr)]) fun r => wdB (w + 1) r = true := by
  have h1 := h.sz
  have h2 := h.dp
  refine W_run ?_
  simp only [den_l_bent, ex_all]
  simp only [↓ev_all]
  refine (places_ok 12 d h.kn (by omega) (by omega)).mono fun r ⟨ps, hr, q1, q2, q3⟩ => ?_
  subst hr
  try simp only [↓ev_all]
  refine iD_at (n := 4) rfl (by omega) fun v => ?_
  have hp : 0 < ps.length := List.length_pos_iff.mpr q2
  try simp only [↓ev_all]
  refine ⟨by rw [List.length_map]; omega, ?_⟩
  refine (W_at_all (P := fun x => ∃ p, x = wD p ∧ Pth d p) rfl (by rw [List.length_map]; exact hp) fun x hx => ?_).mono fun x ⟨p, hx, hp⟩ => ?_
  · obtain ⟨p, hp, rfl⟩ := List.mem_map.mp hx
    exact ⟨p, rfl, q3 p hp⟩
  · subst hx
    have := pth_len hp
    exact put_wd hw2 hw3 hl 12 d p (by omega) hp h.kn hw
end LW
/-! what is a net -/
namespace LW
open PySem PySem.Spec PyProof.Rows L2 PF
def ltI (a b : Int) : Bool := decide (a < b)
theorem encI : Enc (fun n : Int => PyData.int n) ltI := ⟨fun a b => by simp only [PySem.W.alike], fun a b => by rw [eqv_int], fun a b => by rw [PySem.W.dataLt_int]; rfl⟩
theorem encT : Enc zD (lxLt ltI) := encI.tup
theorem prD_z (p : Pr) : PF.prD p = zD (prK p) := rfl
theorem prD_pl (p : Pr) (n : Nat) : pl (PF.prD p) (n + 1) = true := zD_pl (prK p) n
theorem prD_inj {p q : Pr} (h : PF.prD p = PF.prD q) : p = q := prK_inj (zD_inj h)
theorem W_ltP (p q : Pr) (Q : D → Prop) : W (aCmp .Lt (PF.prD p) (PF.prD q)) Q = Q (.bool (decide (p.1 < q.1 ∨ (p.1 = q.1 ∧ p.2 < q.2)))) := by
  show W (if SeqAt.shaped (PF.prD p) = true ∧ SeqAt.shaped (PF.prD q) = true ∧ PySem.W.alike (PF.prD p) (PF.prD q) = true ∧ isN (PF.prD p) = false then some (.bool (PySem.W.dataLt (PF.prD p) (PF.prD q))) else none) Q = _
  rw [W_if, and_iff_right ⟨pl_shaped (prD_pl p 0) (by omega), pl_shaped (prD_pl q 0) (by omega), encT.alike (prK p) (prK q), rfl⟩]
  congr 2
  rw [prD_z, prD_z, encT.lt_eq]
  unfold prK
  simp only [lxLt, ltI]
  by_cases h1 : p.1 < q.1
  · simp [h1]; try omega
  · by_cases h2 : p.1 = q.1
    · simp [h2]; omega
    · simp [h1, h2]
/-! ### rising -/
def rise : List Pr → Bool
  | p :: q :: r => decide (p.1 < q.1 ∨ (p.1 = q.1 ∧ p.2 < q.2)) && rise (q :: r)
  | _ => true
theorem rise_zip : ∀ ps : List Pr, (ps.zip (ps.drop 1)).all (fun q => decide (q.1.1 < q.2.1 ∨ (q.1.1 = q.2.1 ∧ q.1.2 < q.2.2))) = rise ps
  | [] => rfl
  | [p] => rfl
  | p :: q :: r => by
    have ih := rise_zip (q :: r)
    simp only [List.drop_succ_cons, List.drop_zero, List.zip_cons_cons, List.all_cons] at ih ⊢
    rw [rise, ← ih]
theorem rise_pw : ∀ {ps : List Pr}, (∀ p ∈ ps, prB p = true) → rise ps = true → ps.Pairwise fun a b => prC a < prC b
  | [], _, _ => .nil
  | [p], _, _ => List.pairwise_singleton _ _
  | p :: q :: r, hb, h => by
    rw [rise, Bool.and_eq_true, decide_eq_true_iff] at h
    have ih := rise_pw (fun x hx => hb x (List.mem_cons_of_mem _ hx)) h.2
    have b1 := prB_eq (hb p (by simp))
    have b2 := prB_eq (hb q (by simp))
    have hpq : prC p < prC q := by unfold prC; omega
    refine List.pairwise_cons.mpr ⟨fun x hx => ?_, ih⟩
    rcases List.mem_cons.mp hx with e | e
    · rw [e]; exact hpq
    · have := (List.pairwise_cons.mp ih).1 x e
      omega
theorem pw_rise : ∀ {ps : List Pr}, (∀ p ∈ ps, prB p = true) → (ps.Pairwise fun a b => prC a < prC b) → rise ps = true
  | [], _, _ => rfl
  | [p], _, _ => rfl
  | p :: q :: r, hb, h => by
    obtain ⟨h1, h2⟩ := List.pairwise_cons.mp h
    have b1 := prB_eq (hb p (by simp))
    have b2 := prB_eq (hb q (by simp))
    have hpq := h1 q (by simp)
    unfold prC at hpq
    rw [rise, Bool.and_eq_true, decide_eq_true_iff]
    exact ⟨by omega, pw_rise (fun x hx => hb x (List.mem_cons_of_mem _ hx)) h2⟩
theorem rise_iff {ps : List Pr} (hb : ∀ p ∈ ps, prB p = true) : srtP ps = ps ↔ rise ps = true := by
  constructor
  · intro h
    have nd : ps.Nodup := by
      rw [← h]
      unfold srtP
      exact (List.mergeSort_perm _ _).nodup_iff.mpr (ddp_nd ps)
    have hs : ps.Pairwise fun a b => prC a ≤ prC b := by
      rw [← h]
      have := List.pairwise_mergeSort (le := fun a b : Pr => decide (prC a ≤ prC b)) (fun a b c h1 h2 => by simp only [decide_eq_true_eq] at *; omega) (fun a b => by simp only [Bool.or_eq_true, decide_eq_true_eq]; omega) (ddp ps)
      exact this.imp fun h => of_decide_eq_true h
    refine pw_rise hb (List.Pairwise.imp_of_mem (fun {a b} ha hb' hx => ?_) (hs.and nd))
    have hne : prC a ≠ prC b := fun e => hx.2 (prC_inj (hb a ha) (hb b hb') e)
    have := hx.1
    omega
  · intro h
    have pw := rise_pw hb h
    exact srtP_one hb (pw.imp fun {a b} h e => by rw [e] at h; omega) (fun p => Iff.rfl) (pw.imp fun h => by omega)
/-! ### rows -/
def ltB (a b : D) : Bool := match a, b with
  | .int i, .int j => decide (i < j)
  | _, _ => false
def rowB (n : Int) (x : D) : Bool := match x with
  | .tuple [a, b, c, e] => numB 0 (n - 1) a && numB 0 (n - 1) b && ltB a b && numB 1 99 c && numB 1 99 e
  | _ => false
theorem rowB4 (n : Int) (a b c e : D) : rowB n (.tuple [a, b, c, e]) = (numB 0 (n - 1) a && numB 0 (n - 1) b && ltB a b && numB 1 99 c && numB 1 99 e) := rfl
theorem numB_at {lo hi : Int} {s : D} (h : numB lo hi s = true) : ∃ i, s = .int i ∧ lo ≤ i ∧ i ≤ hi := by
  cases s <;> simp only [numB] at h <;> first | cases h | skip
  rename_i i
  rw [Bool.and_eq_true, decide_eq_true_eq, decide_eq_true_eq] at h
  exact ⟨i, rfl, h⟩
def q4D (q : Pr × Pr) : D := .tuple [.int q.1.1, .int q.1.2, .int q.2.1, .int q.2.2]
structure Row4 (n : Int) (q : Pr × Pr) : Prop where
  a : 0 ≤ q.1.1
  b : q.1.2 ≤ n - 1
  lt : q.1.1 < q.1.2
theorem rowB_at {n : Int} {x : D} (h : rowB n x = true) : ∃ q, x = q4D q ∧ Row4 n q := by
  unfold rowB at h
  split at h
  · simp only [Bool.and_eq_true] at h
    obtain ⟨⟨⟨⟨h1, h2⟩, h3⟩, h4⟩, h5⟩ := h
    obtain ⟨i, rfl, i1, _⟩ := numB_at h1
    obtain ⟨j, rfl, _, j2⟩ := numB_at h2
    obtain ⟨k, rfl, _⟩ := numB_at h4
    obtain ⟨l, rfl, _⟩ := numB_at h5
    exact ⟨((i, j), (k, l)), rfl, i1, j2, of_decide_eq_true h3⟩
  · cases h
theorem rows_at {n : Int} : ∀ {xs : List D}, xs.all (rowB n) = true → ∃ qs : List (Pr × Pr), xs = qs.map q4D ∧ ∀ q ∈ qs, Row4 n q
  | [], _ => ⟨[], rfl, fun _ h => nomatch h⟩
  | x :: r, h => by
    rw [List.all_cons, Bool.and_eq_true] at h
    obtain ⟨q, rfl, hq⟩ := rowB_at h.1
    obtain ⟨qs, rfl, hqs⟩ := rows_at h.2
    exact ⟨q :: qs, rfl, fun z hz => (List.mem_cons.mp hz).elim (fun e => e ▸ hq) (hqs z)⟩
theorem pnum_ok {s : D} (lo hi : Int) (hk : Kn s = true) : f_is_number [s, .int lo, .int hi] = some (.bool (numB lo hi s)) := number_ok lo hi hk
theorem pair_ok {a b : D} {n : Int} (ha : Kn a = true) (hb : Kn b = true) : f_is_pair [.tuple [a, b], .int n] = some (.bool (numB 0 (n - 1) a && numB 0 (n - 1) b)) := by
  refine W_eq (W_run ?_)
  simp only [den_is_pair, ex_all]
  simp only [↓ev_all, ↓W_isi, ↓W_isiT]
  simp only [List.any_cons, List.any_nil, isK, Bool.or_false, Bool.not_true, Bz_f, ↓ev_all]
  refine ⟨fun z => absurd rfl z, fun _ => ?_⟩
  refine W.of (pnum_ok 0 (n - 1) ha) ?_
  simp only [Bz_b]
  refine ⟨fun h => ?_, fun h => ?_⟩
  · refine W.of (pnum_ok 0 (n - 1) hb) ?_
    rw [h]; rfl
  · rw [h]; rfl
theorem four {xs : List D} (h : xs.length = 4) : ∃ a b c e, xs = [a, b, c, e] := by
  match xs, h with
  | [a, b, c, e], _ => exact ⟨a, b, c, e, rfl⟩
theorem row_no {n : Int} {xs : List D} (h : xs.length ≠ 4) : rowB n (.tuple xs) = false := by
  unfold rowB
  split
  · rename_i heq
    injection heq with heq
    subst heq
    exact absurd rfl h
  · rfl
theorem netrow_ok {x : D} {n : Int} (hk : Kn x = true) : f_is_net_row [x, .int n] = some (.bool (rowB n x)) := by
  refine W_eq (W_run ?_)
  simp only [den_is_net_row, ex_all]
  simp only [↓ev_all, ↓W_isi, ↓isi_kn _ hk]
  cases x with
  | dict _ => cases hk
  | none => simp only [List.any_cons, List.any_nil, isK, Bool.or_false, Bool.not_false, Bz_t]; rfl
  | bool _ => simp only [List.any_cons, List.any_nil, isK, Bool.or_false, Bool.not_false, Bz_t]; rfl
  | int _ => simp only [List.any_cons, List.any_nil, isK, Bool.or_false, Bool.not_false, Bz_t]; rfl
  | str _ => simp only [List.any_cons, List.any_nil, isK, Bool.or_false, Bool.not_false, Bz_t]; rfl
  | list _ => simp only [List.any_cons, List.any_nil, isK, Bool.or_false, Bool.not_false, Bz_t]; rfl
  | tuple xs =>
    rw [Kn] at hk
    simp only [List.any_cons, List.any_nil, isK, Bool.or_false, Bool.not_true, Bz_f, ↓ev_all]
    refine ⟨fun h => by rw [row_no (fun z => h (by rw [z]; rfl))], fun h => ?_⟩
    obtain ⟨a, b, c, e, rfl⟩ := four (xs := xs) (by omega)
    have kn := (KnA_iff _).mp hk
    have ka := kn a (by simp)
    have kb := kn b (by simp)
    have kc := kn c (by simp)
    have ke := kn e (by simp)
    refine ⟨by simp, ?_⟩
    simp only [List.take_succ_cons, List.take_zero, List.drop_succ_cons, List.drop_zero, List.cons_append, List.nil_append]
    simp only [↓ev_all]
    refine W.of (pair_ok ka kb) ?_
    simp only [Bz_b]
    refine ⟨fun hp => ?_, fun hp => by rw [rowB4, hp]; rfl⟩
    rw [Bool.and_eq_true] at hp
    obtain ⟨i, rfl, i1, i2⟩ := numB_at hp.1
    obtain ⟨j, rfl, j1, j2⟩ := numB_at hp.2
    simp only [↓ev_all]
    have e1 : rowB n (.tuple [.int i, .int j, c, e]) = (decide (i < j) && (numB 1 99 c && numB 1 99 e)) := by
      show (numB 0 (n - 1) (.int i) && numB 0 (n - 1) (.int j) && decide (i < j) && numB 1 99 c && numB 1 99 e) = _
      rw [hp.1, hp.2]
      simp [Bool.and_assoc]
    rw [e1]
    refine ⟨fun hl => ?_, fun hl => by rw [decide_eq_false hl]; rfl⟩
    refine W.of (comp_data [c, e] (fun s => .bool (numB 1 99 s)) fun s hs => ?_) ?_
    · simp only [wipeE, List.set_cons_succ, List.set_cons_zero]
      simp only [↓ev_all]
      exact W.of (pnum_ok 1 99 (by simp only [List.mem_cons, List.not_mem_nil, or_false] at hs; rcases hs with rfl | rfl <;> assumption)) rfl
    rw [W_allC, decide_eq_true hl]
    simp
theorem lrow_ok {x : D} {n : Int} (hk : Kn x = true) : f_l_is_row [x, .int n] = some (.bool (rowB n x)) := by
  refine W_eq (W_run ?_)
  simp only [den_l_is_row, ex_all]
  simp only [↓ev_all, ↓W_isi, ↓isi_kn _ hk]
  cases x with
  | dict _ => cases hk
  | none => simp only [List.any_cons, List.any_nil, isK, Bool.or_false, Bool.not_false, Bz_t]; rfl
  | bool _ => simp only [List.any_cons, List.any_nil, isK, Bool.or_false, Bool.not_false, Bz_t]; rfl
  | int _ => simp only [List.any_cons, List.any_nil, isK, Bool.or_false, Bool.not_false, Bz_t]; rfl
  | str _ => simp only [List.any_cons, List.any_nil, isK, Bool.or_false, Bool.not_false, Bz_t]; rfl
  | list _ => simp only [List.any_cons, List.any_nil, isK, Bool.or_false, Bool.not_false, Bz_t]; rfl
  | tuple xs =>
    rw [Kn] at hk
    simp only [List.any_cons, List.any_nil, isK, Bool.or_false, Bool.not_true, Bz_f, ↓ev_all]
    refine ⟨fun h => by rw [row_no (fun z => h (by rw [z]; rfl))], fun h => ?_⟩
    obtain ⟨a, b, c, e, rfl⟩ := four (xs := xs) (by omega)
    have kn := (KnA_iff _).mp hk
    have ka := kn a (by simp)
    have kb := kn b (by simp)
    have kc := kn c (by simp)
    have ke := kn e (by simp)
    have at3 : ∀ Q : D → Prop, W (atI [a, b, c, e] 3) Q = Q e := fun Q => by rw [show (3 : Int) = ((3 : Nat) : Int) from rfl, atI_nat (v := e) rfl, W_some]
    simp only [↓ev_all, ↓at3]
    refine W.of (number_ok 0 (n - 1) ka) ?_
    simp only [Bv_b, Bz_b]
    refine ⟨fun hp => ?_, fun hp => ?_⟩
    · have : numB 0 (n - 1) a = false := by simpa using hp
      rw [rowB4, this]; rfl
    have ha : numB 0 (n - 1) a = true := by simpa using hp
    refine W.of (number_ok 0 (n - 1) kb) ?_
    simp only [Bv_b, Bz_b]
    refine ⟨fun hp => ?_, fun hp => ?_⟩
    · have : numB 0 (n - 1) b = false := by simpa using hp
      rw [rowB4, ha, this]; rfl
    have hb : numB 0 (n - 1) b = true := by simpa using hp
    obtain ⟨i, rfl, i1, i2⟩ := numB_at ha
    obtain ⟨j, rfl, j1, j2⟩ := numB_at hb
    simp only [↓ev_all]
    have e1 : rowB n (.tuple [.int i, .int j, c, e]) = (decide (i < j) && (numB 1 99 c && numB 1 99 e)) := by
      show (numB 0 (n - 1) (.int i) && numB 0 (n - 1) (.int j) && decide (i < j) && numB 1 99 c && numB 1 99 e) = _
      rw [ha, hb]
      simp [Bool.and_assoc]
    rw [e1]
    refine ⟨fun hl => by rw [decide_eq_false (by omega)]; rfl, fun hl => ?_⟩
    rw [decide_eq_true (by omega : i < j), Bool.true_and]
    refine W.of (number_ok 1 99 kc) ?_
    simp only [Bz_b]
    refine ⟨fun h => ?_, fun h => by rw [h]; rfl⟩
    refine W.of (number_ok 1 99 ke) ?_
    rw [h]; rfl
/-! ### nets -/
def IsNet (d : D) : Prop := ∃ (n : Int) (qs : List (Pr × Pr)), d = .tuple [.int n, .tuple (qs.map q4D)] ∧ 2 ≤ n ∧ n ≤ 7 ∧ (qs.map q4D).all (rowB n) = true ∧ rise (qs.map (·.1)) = true
theorem rows_pr {n : Int} (hn : n ≤ 7) {qs : List (Pr × Pr)} (h : ∀ q ∈ qs, Row4 n q) : ∀ p ∈ qs.map (·.1), prB p = true := fun p hp => by
  obtain ⟨q, hq, rfl⟩ := List.mem_map.mp hp
  have := h q hq
  have h1 := this.a
  have h2 := this.b
  have h3 := this.lt
  unfold prB
  simp only [Bool.and_eq_true, decide_eq_true_eq]
  omega
theorem cut2 (q : Pr × Pr) : PF.cutD [.int q.1.1, .int q.1.2, .int q.2.1, .int q.2.2] none (some 2) = [PyData.int q.1.1, .int q.1.2] := by
  have := cut_to [PyData.int q.1.1, .int q.1.2, .int q.2.1, .int q.2.2] 2
  exact this
theorem q4D_inj {p q : Pr × Pr} (h : q4D p = q4D q) : p = q := by
  unfold q4D at h
  simp only [PyData.tuple.injEq, List.cons.injEq, PyData.int.injEq, and_true] at h
  obtain ⟨h1, h2, h3, h4⟩ := h
  exact Prod.ext (Prod.ext h1 h2) (Prod.ext h3 h4)
theorem net_inj {n m : Int} {qs rs : List (Pr × Pr)} (h : PyData.tuple [.int n, .tuple (qs.map q4D)] = .tuple [.int m, .tuple (rs.map q4D)]) : n = m ∧ qs = rs := by
  simp only [PyData.tuple.injEq, List.cons.injEq, PyData.int.injEq, and_true] at h
  exact ⟨h.1, (List.map_inj_right fun a b e => q4D_inj e).mp h.2⟩
theorem rising_ok (ps : List Pr) : f_is_rising [.list (ps.map PF.prD)] = some (.bool (rise ps)) := by
  refine W_eq (W_run ?_)
  simp only [den_is_rising, ex_all]
  simp only [↓ev_all, ↓W_zip]
  have e1 : PF.cutD (ps.map PF.prD) (some 1) none = (ps.drop 1).map PF.prD := by
    have := cut_all (ps.map PF.prD) 1
    rw [show ((1 : Nat) : Int) = 1 from rfl] at this
    rw [this, List.map_drop]
  have ez : ∀ xs ys : List Pr, zipD (xs.map PF.prD) (ys.map PF.prD) = (xs.zip ys).map fun q => PyData.tuple [PF.prD q.1, PF.prD q.2] := fun xs => by
    induction xs with
    | nil => intro ys; rfl
    | cons x xs ih =>
      intro ys
      cases ys with
      | nil => rfl
      | cons y ys => rw [List.map_cons, List.map_cons, zipD, ih]; rfl
  rw [e1, W_zipL, ez]
  refine W.of (comp_typed (ps.zip (ps.drop 1)) _ (fun q => .bool (decide (q.1.1 < q.2.1 ∨ (q.1.1 = q.2.1 ∧ q.1.2 < q.2.2)))) fun q hq => ?_) ?_
  · try simp only [wipeE, List.set_cons_succ, List.set_cons_zero]
    simp only [↓ev_all, ↓W_ltP]
  rw [W_allC, rise_zip]
theorem two_of {xs : List D} (h : xs.length = 2) : ∃ a b, xs = [a, b] := by
  match xs, h with
  | [a, b], _ => exact ⟨a, b, rfl⟩
theorem isnet_ok {d : D} (hk : Kn d = true) : W (f_is_net [d]) fun r => ∃ b, r = .bool b ∧ (b = true ↔ IsNet d) := by
  refine W_run ?_
  simp only [den_is_net, ex_all]
  simp only [↓ev_all, ↓W_isi, ↓isi_kn _ hk]
  have nope : ¬IsNet d → ∃ b, PyData.bool false = .bool b ∧ (b = true ↔ IsNet d) := fun h => ⟨false, rfl, fun z => (by cases z), fun z => absurd z h⟩
  have no : (∀ ds, d ≠ .tuple ds) → ∃ b, PyData.bool false = .bool b ∧ (b = true ↔ IsNet d) := fun h => nope fun ⟨n, qs, e, _⟩ => h _ e
  cases d with
  | dict _ => cases hk
  | none => simp only [List.any_cons, List.any_nil, isK, Bool.or_false, Bool.not_false, Bz_t]; exact no fun _ z => nomatch z
  | bool _ => simp only [List.any_cons, List.any_nil, isK, Bool.or_false, Bool.not_false, Bz_t]; exact no fun _ z => nomatch z
  | int _ => simp only [List.any_cons, List.any_nil, isK, Bool.or_false, Bool.not_false, Bz_t]; exact no fun _ z => nomatch z
  | str _ => simp only [List.any_cons, List.any_nil, isK, Bool.or_false, Bool.not_false, Bz_t]; exact no fun _ z => nomatch z
  | list _ => simp only [List.any_cons, List.any_nil, isK, Bool.or_false, Bool.not_false, Bz_t]; exact no fun _ z => nomatch z
  | tuple xs =>
    rw [Kn] at hk
    simp only [List.any_cons, List.any_nil, isK, Bool.or_false, Bool.not_true, Bz_f, ↓ev_all]
    refine ⟨fun h => nope fun ⟨n, qs, e, _⟩ => h (by injection e with e; rw [e]; rfl), fun h => ?_⟩
    obtain ⟨a, b, rfl⟩ := two_of (xs := xs) (by omega)
    have kn := (KnA_iff _).mp hk
    have ka := kn a (by simp)
    have kb := kn b (by simp)
    simp only [↓ev_all]
    refine W.of (pnum_ok 2 7 ka) ?_
    simp only [Bv_b, Bz_b]
    refine ⟨fun hp => nope fun ⟨n, qs, e, h2, h7, _⟩ => ?_, fun hp => ?_⟩
    · simp only [PyData.tuple.injEq, List.cons.injEq, and_true] at e
      have : numB 2 7 a = true := by rw [e.1]; simp only [numB, Bool.and_eq_true, decide_eq_true_eq]; exact ⟨h2, h7⟩
      rw [this] at hp
      cases hp
    have ha : numB 2 7 a = true := by simpa using hp
    obtain ⟨n, rfl, n2, n7⟩ := numB_at ha
    simp only [↓ev_all, ↓W_isi, ↓isi_kn _ kb]
    cases b with
    | dict _ => cases kb
    | none => simp only [List.any_cons, List.any_nil, isK, Bool.or_false, Bool.not_false, Bz_t]; exact ⟨fun _ => nope fun ⟨n, qs, e, _⟩ => by simp at e, fun z => (by cases z)⟩
    | bool _ => simp only [List.any_cons, List.any_nil, isK, Bool.or_false, Bool.not_false, Bz_t]; exact ⟨fun _ => nope fun ⟨n, qs, e, _⟩ => by simp at e, fun z => (by cases z)⟩
    | int _ => simp only [List.any_cons, List.any_nil, isK, Bool.or_false, Bool.not_false, Bz_t]; exact ⟨fun _ => nope fun ⟨n, qs, e, _⟩ => by simp at e, fun z => (by cases z)⟩
    | str _ => simp only [List.any_cons, List.any_nil, isK, Bool.or_false, Bool.not_false, Bz_t]; exact ⟨fun _ => nope fun ⟨n, qs, e, _⟩ => by simp at e, fun z => (by cases z)⟩
    | list _ => simp only [List.any_cons, List.any_nil, isK, Bool.or_false, Bool.not_false, Bz_t]; exact ⟨fun _ => nope fun ⟨n, qs, e, _⟩ => by simp at e, fun z => (by cases z)⟩
    | tuple rows =>
      rw [Kn] at kb
      have kr := (KnA_iff _).mp kb
      simp only [List.any_cons, List.any_nil, isK, Bool.or_false, Bool.not_true, Bz_f, ↓ev_all]
      refine ⟨fun z => (by cases z), fun _ => ?_⟩
      refine W.of (comp_data rows (fun x => .bool (rowB n x)) fun x hx => ?_) ?_
      · simp only [wipeE, List.set_cons_succ, List.set_cons_zero]
        simp only [↓ev_all]
        exact W.of (netrow_ok (kr x hx)) rfl
      rw [W_allC]
      simp only [Bz_b]
      refine ⟨fun hall => ?_, fun hall => nope fun ⟨m, qs, e, _, _, hq, _⟩ => ?_⟩
      · obtain ⟨qs, rfl, hq⟩ := rows_at hall
        refine W.of (comp_typed qs q4D (fun q => PF.prD q.1) fun q hq' => ?_) ?_
        · simp only [wipeE, List.set_cons_succ, List.set_cons_zero]
          unfold q4D
          simp only [↓ev_all, cut2]
          rfl
        rw [show qs.map (fun q => PF.prD q.1) = (qs.map (·.1)).map PF.prD by rw [List.map_map]; rfl]
        refine W.of (rising_ok _) ?_
        refine ⟨_, rfl, fun hr => ⟨n, qs, rfl, n2, n7, hall, hr⟩, fun ⟨m, rs, e, _, _, _, hr⟩ => ?_⟩
        obtain ⟨_, e2⟩ := net_inj e
        rw [e2]
        exact hr
      · simp only [PyData.tuple.injEq, List.cons.injEq, PyData.int.injEq, and_true] at e
        rw [← e.1, ← e.2] at hq
        rw [hq] at hall
        cases hall
theorem prsOf_map : ∀ {ps : List Pr}, (∀ p ∈ ps, prB p = true) → prsOf (ps.map PF.prD) = some ps
  | [], _ => rfl
  | p :: ps, h => by
    rw [List.map_cons, prsOf, prsOf_map fun q hq => h q (List.mem_cons_of_mem _ hq)]
    have : prOf (PF.prD p) = some p := by
      show (if prB (p.1, p.2) = true then some (p.1, p.2) else none) = _
      rw [if_pos (h p (List.mem_cons_self ..))]
    rw [this]
    rfl
theorem W_srtSet {ps : List Pr} (hb : ∀ p ∈ ps, prB p = true) (hl : ps.length < 64) (Q : D → Prop) : W (aSrtSet (.list (ps.map PF.prD))) Q = Q (.list ((srtP ps).map PF.prD)) := by
  unfold aSrtSet
  simp only [List.length_map]
  rw [if_pos hl, prsOf_map hb]
  exact W_some _ _
theorem prs_eq (xs ys : List Pr) (Q : D → Prop) : W (aCmp .Eq (.list (xs.map PF.prD)) (.list (ys.map PF.prD))) Q = Q (.bool (decide (xs = ys))) := by
  rw [W_eqP 2 2 (by omega) (by omega) (pl_lst fun d hd => by obtain ⟨p, _, rfl⟩ := List.mem_map.mp hd; exact prD_pl p 0) (pl_lst fun d hd => by obtain ⟨p, _, rfl⟩ := List.mem_map.mp hd; exact prD_pl p 0)]
  congr 2
  refine decide_eq_decide.mpr ⟨fun h => ?_, fun h => by rw [h]⟩
  injection h with h
  exact (List.map_inj_right fun a b e => prD_inj e).mp h
theorem szA_rows : ∀ qs : List (Pr × Pr), szA (qs.map q4D) = 5 * qs.length
  | [] => rfl
  | q :: qs => by
    rw [List.map_cons, szA, szA_rows qs, List.length_cons]
    have : sz (q4D q) = 5 := rfl
    omega
theorem lisnet_ok {d : D} (hk : Kn d = true) (hw : wdB 63 d = true ∨ sz d ≤ 300) : W (f_l_is_net [d]) fun r => ∃ b, r = .bool b ∧ (b = true ↔ IsNet d) := by
  refine W_run ?_
  simp only [den_l_is_net, ex_all]
  simp only [↓ev_all, ↓W_isi, ↓isi_kn _ hk]
  have nope : ¬IsNet d → ∃ b, PyData.bool false = .bool b ∧ (b = true ↔ IsNet d) := fun h => ⟨false, rfl, fun z => (by cases z), fun z => absurd z h⟩
  have no : (∀ ds, d ≠ .tuple ds) → ∃ b, PyData.bool false = .bool b ∧ (b = true ↔ IsNet d) := fun h => nope fun ⟨n, qs, e, _⟩ => h _ e
  cases d with
  | dict _ => cases hk
  | none => simp only [List.any_cons, List.any_nil, isK, Bool.or_false, Bool.not_false, Bz_t]; exact no fun _ z => nomatch z
  | bool _ => simp only [List.any_cons, List.any_nil, isK, Bool.or_false, Bool.not_false, Bz_t]; exact no fun _ z => nomatch z
  | int _ => simp only [List.any_cons, List.any_nil, isK, Bool.or_false, Bool.not_false, Bz_t]; exact no fun _ z => nomatch z
  | str _ => simp only [List.any_cons, List.any_nil, isK, Bool.or_false, Bool.not_false, Bz_t]; exact no fun _ z => nomatch z
  | list _ => simp only [List.any_cons, List.any_nil, isK, Bool.or_false, Bool.not_false, Bz_t]; exact no fun _ z => nomatch z
  | tuple xs =>
    rw [Kn] at hk
    simp only [List.any_cons, List.any_nil, isK, Bool.or_false, Bool.not_true, Bz_f, ↓ev_all]
    refine ⟨fun h => nope fun ⟨n, qs, e, _⟩ => h (by injection e with e; rw [e]; rfl), fun h => ?_⟩
    obtain ⟨a, b, rfl⟩ := two_of (xs := xs) (by omega)
    have kn := (KnA_iff _).mp hk
    have ka := kn a (by simp)
    have kb := kn b (by simp)
    simp only [↓ev_all]
    refine W.of (number_ok 2 7 ka) ?_
    simp only [Bv_b, Bz_b]
    refine ⟨fun hp => nope fun ⟨n, qs, e, h2, h7, _⟩ => ?_, fun hp => ?_⟩
    · simp only [PyData.tuple.injEq, List.cons.injEq, and_true] at e
      have : numB 2 7 a = true := by rw [e.1]; simp only [numB, Bool.and_eq_true, decide_eq_true_eq]; exact ⟨h2, h7⟩
      rw [this] at hp
      cases hp
    have ha : numB 2 7 a = true := by simpa using hp
    obtain ⟨n, rfl, n2, n7⟩ := numB_at ha
    simp only [↓ev_all, ↓W_isi, ↓isi_kn _ kb]
    cases b with
    | dict _ => cases kb
    | none => simp only [List.any_cons, List.any_nil, isK, Bool.or_false, Bool.not_false, Bz_t]; exact ⟨fun _ => nope fun ⟨n, qs, e, _⟩ => by simp at e, fun z => (by cases z)⟩
    | bool _ => simp only [List.any_cons, List.any_nil, isK, Bool.or_false, Bool.not_false, Bz_t]; exact ⟨fun _ => nope fun ⟨n, qs, e, _⟩ => by simp at e, fun z => (by cases z)⟩
    | int _ => simp only [List.any_cons, List.any_nil, isK, Bool.or_false, Bool.not_false, Bz_t]; exact ⟨fun _ => nope fun ⟨n, qs, e, _⟩ => by simp at e, fun z => (by cases z)⟩
    | str _ => simp only [List.any_cons, List.any_nil, isK, Bool.or_false, Bool.not_false, Bz_t]; exact ⟨fun _ => nope fun ⟨n, qs, e, _⟩ => by simp at e, fun z => (by cases z)⟩
    | list _ => simp only [List.any_cons, List.any_nil, isK, Bool.or_false, Bool.not_false, Bz_t]; exact ⟨fun _ => nope fun ⟨n, qs, e, _⟩ => by simp at e, fun z => (by cases z)⟩
    | tuple rows =>
      rw [Kn] at kb
      have kr := (KnA_iff _).mp kb
      simp only [List.any_cons, List.any_nil, isK, Bool.or_false, Bool.not_true, Bz_f, ↓ev_all]
      refine ⟨fun z => (by cases z), fun _ => ?_⟩
      refine W.of (comp_data rows (fun x => .bool (rowB n x)) fun x hx => ?_) ?_
      · simp only [wipeE, List.set_cons_succ, List.set_cons_zero]
        simp only [↓ev_all]
        exact W.of (lrow_ok (kr x hx)) rfl
      rw [W_allC]
      simp only [Bv_b, Bz_b]
      refine ⟨fun hall => nope fun ⟨m, qs, e, _, _, hq, _⟩ => ?_, fun hall => ?_⟩
      · simp only [PyData.tuple.injEq, List.cons.injEq, PyData.int.injEq, and_true] at e
        rw [← e.1, ← e.2] at hq
        rw [hq] at hall
        cases hall
      · have hall : rows.all (rowB n) = true := by simpa using hall
        obtain ⟨qs, rfl, hq⟩ := rows_at hall
        have hlen : qs.length < 64 := by
          rcases hw with h | h
          · have := (wd_tup.mp ((wd_tup.mp h).2 (.tuple (qs.map q4D)) (by simp))).1
            rw [List.length_map] at this
            omega
          · rw [sz, szA, szA, szA, sz, sz, szA_rows] at h
            omega
        have hb := rows_pr n7 hq
        try simp only [↓ev_all]
        refine W.of (comp_typed qs q4D (fun q => PF.prD q.1) fun q hq' => ?_) ?_
        · simp only [wipeE, List.set_cons_succ, List.set_cons_zero]
          unfold q4D
          simp only [↓ev_all, cut2]
          rfl
        rw [show qs.map (fun q => PF.prD q.1) = (qs.map (·.1)).map PF.prD by rw [List.map_map]; rfl]
        try simp only [↓ev_all]
        rw [W_srtSet hb (by rw [List.length_map]; exact hlen), prs_eq]
        refine ⟨_, rfl, fun hr => ⟨n, qs, rfl, n2, n7, hall, (rise_iff hb).mp (of_decide_eq_true hr)⟩, fun ⟨m, rs, e, _, _, _, hr⟩ => ?_⟩
        obtain ⟨_, e2⟩ := net_inj e
        rw [← e2] at hr
        exact decide_eq_true ((rise_iff hb).mpr hr)
end LW
namespace K35
open PySem PySem.Spec PyProof.Rows L2 PF LW
def topS (i : Nat) : Stmt := PySem.Challenge.pw_likedways_k35_what_is_a_net.main.body.getD i (.Pass ⟨0, 0, 0, 0⟩)
def N_is_number : List Str := ["thing", "least", "most"]
def ctx_is_number : PF.Ctx := { N := N_is_number, sc := defScope (topS 2), blk := none, fns := [], gls := [], own := [], wf := wFuel, fks := [], ro := false }
theorem chk_is_number : cBody ctx_is_number (defBody (topS 2)) = some den_is_number := by kernel_rfl
theorem sc_is_number : FnScope N_is_number ["thing", "least", "most"] (defScope (topS 2)) := ⟨rfl, rfl, rfl, by decide +kernel, rfl, by decide +kernel, by decide +kernel⟩
def N_is_pair : List Str := ["thing", "many"]
def ctx_is_pair : PF.Ctx := { N := N_is_pair, sc := defScope (topS 3), blk := none, fns := [("is_number", 3, f_is_number)], gls := [], own := [], wf := wFuel, fks := [], ro := false }
theorem chk_is_pair : cBody ctx_is_pair (defBody (topS 3)) = some den_is_pair := by kernel_rfl
theorem sc_is_pair : FnScope N_is_pair ["thing", "many"] (defScope (topS 3)) := ⟨rfl, rfl, rfl, by decide +kernel, rfl, by decide +kernel, by decide +kernel⟩
def N_is_rising : List Str := ["row", "one", "other"]
def ctx_is_rising : PF.Ctx := { N := N_is_rising, sc := defScope (topS 4), blk := none, fns := [], gls := [], own := [], wf := wFuel, fks := [], ro := false }
theorem chk_is_rising : cBody ctx_is_rising (defBody (topS 4)) = some den_is_rising := by kernel_rfl
theorem sc_is_rising : FnScope N_is_rising ["row"] (defScope (topS 4)) := ⟨rfl, rfl, rfl, by decide +kernel, rfl, by decide +kernel, by decide +kernel⟩
def N_is_net_row : List Str := ["thing", "many", "one", "other", "sizes", "size"]
def ctx_is_net_row : PF.Ctx := { N := N_is_net_row, sc := defScope (topS 6), blk := none, fns := [("is_pair", 2, f_is_pair), ("is_number", 3, f_is_number)], gls := [], own := [], wf := wFuel, fks := [], ro := false }
theorem chk_is_net_row : cBody ctx_is_net_row (defBody (topS 6)) = some den_is_net_row := by kernel_rfl
theorem sc_is_net_row : FnScope N_is_net_row ["thing", "many"] (defScope (topS 6)) := ⟨rfl, rfl, rfl, by decide +kernel, rfl, by decide +kernel, by decide +kernel⟩
def N_is_net : List Str := ["thing", "many", "rows", "row"]
def ctx_is_net : PF.Ctx := { N := N_is_net, sc := defScope (topS 7), blk := none, fns := [("is_number", 3, f_is_number), ("is_net_row", 2, f_is_net_row), ("is_rising", 1, f_is_rising)], gls := [("HOUSES", (.int 7))], own := [], wf := wFuel, fks := [], ro := false }
theorem chk_is_net : cBody ctx_is_net (defBody (topS 7)) = some den_is_net := by kernel_rfl
theorem sc_is_net : FnScope N_is_net ["thing"] (defScope (topS 7)) := ⟨rfl, rfl, rfl, by decide +kernel, rfl, by decide +kernel, by decide +kernel⟩
def N_l_cell : List Str := ["script", "k"]
def ctx_l_cell : PF.Ctx := { N := N_l_cell, sc := defScope (topS 9), blk := none, fns := [], gls := [], own := [], wf := wFuel, fks := [], ro := false }
theorem chk_l_cell : cBody ctx_l_cell (defBody (topS 9)) = some den_l_cell := by kernel_rfl
theorem sc_l_cell : FnScope N_l_cell ["script", "k"] (defScope (topS 9)) := ⟨rfl, rfl, rfl, by decide +kernel, rfl, by decide +kernel, by decide +kernel⟩
def N_l_draws : List Str := ["script", "k", "many", "base", "primes", "cell", "rest", "row", "j", "mash"]
def ctx_l_draws : PF.Ctx := { N := N_l_draws, sc := defScope (topS 10), blk := none, fns := [("_law_cell", 2, f_l_cell)], gls := [], own := [7], wf := wFuel, fks := [], ro := false }
theorem chk_l_draws : cBody ctx_l_draws (defBody (topS 10)) = some den_l_draws := by kernel_rfl
theorem sc_l_draws : FnScope N_l_draws ["script", "k", "many", "base"] (defScope (topS 10)) := ⟨rfl, rfl, rfl, by decide +kernel, rfl, by decide +kernel, by decide +kernel⟩
def N_l_number : List Str := ["thing", "least", "most"]
def ctx_l_number : PF.Ctx := { N := N_l_number, sc := defScope (topS 11), blk := none, fns := [], gls := [], own := [], wf := wFuel, fks := [], ro := false }
theorem chk_l_number : cBody ctx_l_number (defBody (topS 11)) = some den_l_number := by kernel_rfl
theorem sc_l_number : FnScope N_l_number ["thing", "least", "most"] (defScope (topS 11)) := ⟨rfl, rfl, rfl, by decide +kernel, rfl, by decide +kernel, by decide +kernel⟩
def N_l_net : List Str := ["script", "at", "most", "draws", "many", "found", "one", "sizes", "rows", "k", "pair", "length", "width", "other"]
def ctx_l_net : PF.Ctx := { N := N_l_net, sc := defScope (topS 12), blk := none, fns := [("_law_draws", 4, f_l_draws)], gls := [], own := [8], wf := wFuel, fks := [], ro := false }
theorem chk_l_net : cBody ctx_l_net (defBody (topS 12)) = some den_l_net := by kernel_rfl
theorem sc_l_net : FnScope N_l_net ["script", "at", "most"] (defScope (topS 12)) := ⟨rfl, rfl, rfl, by decide +kernel, rfl, by decide +kernel, by decide +kernel⟩
def N_l_places : List Str := ["thing", "found", "at", "part", "path"]
def ctx_l_places (f_self : List D → Option D) : PF.Ctx := { N := N_l_places, sc := defScope (topS 13), blk := none, fns := [("_law_places", 1, f_self)], gls := [], own := [], wf := wFuel, fks := [], ro := false }
theorem chk_l_places : ∀ f_self, cBody (ctx_l_places f_self) (defBody (topS 13)) = some (den_l_places f_self) := fun f_self => by kernel_rfl
theorem sc_l_places : FnScope N_l_places ["thing"] (defScope (topS 13)) := ⟨rfl, rfl, rfl, by decide +kernel, rfl, by decide +kernel, by decide +kernel⟩
def N_l_other : List Str := ["thing", "draws", "some"]
def ctx_l_other : PF.Ctx := { N := N_l_other, sc := defScope (topS 14), blk := none, fns := [], gls := [], own := [], wf := wFuel, fks := [], ro := false }
theorem chk_l_other : cBody ctx_l_other (defBody (topS 14)) = some den_l_other := by kernel_rfl
theorem sc_l_other : FnScope N_l_other ["thing", "draws"] (defScope (topS 14)) := ⟨rfl, rfl, rfl, by decide +kernel, rfl, by decide +kernel, by decide +kernel⟩
def N_l_shifted : List Str := ["rows", "at", "draws", "other", "rest"]
def ctx_l_shifted : PF.Ctx := { N := N_l_shifted, sc := defScope (topS 15), blk := none, fns := [], gls := [], own := [], wf := wFuel, fks := [], ro := true }
theorem chk_l_shifted : cBody ctx_l_shifted (defBody (topS 15)) = some den_l_shifted := by kernel_rfl
theorem sc_l_shifted : FnScope N_l_shifted ["rows", "at", "draws"] (defScope (topS 15)) := ⟨rfl, rfl, rfl, by decide +kernel, rfl, by decide +kernel, by decide +kernel⟩
def N_l_put : List Str := ["thing", "path", "draws", "rows"]
def ctx_l_put (f_self : List D → Option D) : PF.Ctx := { N := N_l_put, sc := defScope (topS 16), blk := none, fns := [("_law_other", 2, f_l_other), ("_law_put", 3, f_self)], gls := [], own := [3], wf := wFuel, fks := [("_law_shifted", [], 3, true, k_l_shifted__)], ro := false }
theorem chk_l_put : ∀ f_self, cBody (ctx_l_put f_self) (defBody (topS 16)) = some (den_l_put f_self) := fun f_self => by kernel_rfl
theorem sc_l_put : FnScope N_l_put ["thing", "path", "draws"] (defScope (topS 16)) := ⟨rfl, rfl, rfl, by decide +kernel, rfl, by decide +kernel, by decide +kernel⟩
def N_l_bent : List Str := ["thing", "draws", "places"]
def ctx_l_bent : PF.Ctx := { N := N_l_bent, sc := defScope (topS 17), blk := none, fns := [("_law_places", 1, f_l_places), ("_law_put", 3, f_l_put)], gls := [], own := [], wf := wFuel, fks := [], ro := false }
theorem chk_l_bent : cBody ctx_l_bent (defBody (topS 17)) = some den_l_bent := by kernel_rfl
theorem sc_l_bent : FnScope N_l_bent ["thing", "draws"] (defScope (topS 17)) := ⟨rfl, rfl, rfl, by decide +kernel, rfl, by decide +kernel, by decide +kernel⟩
def N_l_thing : List Str := ["draws", "deep", "kind", "far", "some", "k"]
def ctx_l_thing (f_self : List D → Option D) : PF.Ctx := { N := N_l_thing, sc := defScope (topS 18), blk := none, fns := [("_law_thing", 2, f_self)], gls := [], own := [], wf := wFuel, fks := [], ro := false }
theorem chk_l_thing : ∀ f_self, cBody (ctx_l_thing f_self) (defBody (topS 18)) = some (den_l_thing f_self) := fun f_self => by kernel_rfl
theorem sc_l_thing : FnScope N_l_thing ["draws", "deep"] (defScope (topS 18)) := ⟨rfl, rfl, rfl, by decide +kernel, rfl, by decide +kernel, by decide +kernel⟩
def N_l_is_row : List Str := ["thing", "many"]
def ctx_l_is_row : PF.Ctx := { N := N_l_is_row, sc := defScope (topS 19), blk := none, fns := [("_law_number", 3, f_l_number)], gls := [], own := [], wf := wFuel, fks := [], ro := false }
theorem chk_l_is_row : cBody ctx_l_is_row (defBody (topS 19)) = some den_l_is_row := by kernel_rfl
theorem sc_l_is_row : FnScope N_l_is_row ["thing", "many"] (defScope (topS 19)) := ⟨rfl, rfl, rfl, by decide +kernel, rfl, by decide +kernel, by decide +kernel⟩
def N_l_is_net : List Str := ["thing", "pairs", "row"]
def ctx_l_is_net : PF.Ctx := { N := N_l_is_net, sc := defScope (topS 20), blk := none, fns := [("_law_number", 3, f_l_number), ("_law_is_row", 2, f_l_is_row)], gls := [], own := [], wf := wFuel, fks := [], ro := false }
theorem chk_l_is_net : cBody ctx_l_is_net (defBody (topS 20)) = some den_l_is_net := by kernel_rfl
theorem sc_l_is_net : FnScope N_l_is_net ["thing"] (defScope (topS 20)) := ⟨rfl, rfl, rfl, by decide +kernel, rfl, by decide +kernel, by decide +kernel⟩
def N_l_truly : List Str := ["found", "due"]
def ctx_l_truly : PF.Ctx := { N := N_l_truly, sc := defScope (topS 21), blk := none, fns := [], gls := [], own := [], wf := wFuel, fks := [], ro := false }
theorem chk_l_truly : cBody ctx_l_truly (defBody (topS 21)) = some den_l_truly := by kernel_rfl
theorem sc_l_truly : FnScope N_l_truly ["found", "due"] (defScope (topS 21)) := ⟨rfl, rfl, rfl, by decide +kernel, rfl, by decide +kernel, by decide +kernel⟩
def N_law : List Str := ["script", "some", "at", "net", "draws", "k", "one", "thing"]
def den_law : DenS :=
  (dSeq (dOwn 1 (dLst [(dTup [(dC (.int 2)), (dTup [])]), (dTup [(dC (.int 8)), (dTup [])]), (dTup [(dC (.int 1)), (dTup [])]), (dTup [(dC (.int 2)), (dTup [(dTup [(dC (.int 0)), (dC (.int 1)), (dC (.int 99)), (dC (.int 1))])])]), (dTup [(dC (.int 2)), (dTup [(dTup [(dC (.int 0)), (dC (.int 1)), (dC (.int 100)), (dC (.int 1))])])]), (dTup [(dC (.int 2)), (dTup [(dTup [(dC (.int 0)), (dC (.int 1)), (dC (.int 1)), (dC (.int 0))])])])]))
    (dSeq (dOwn 1 (d2 aAdd (dVarB 1) (dLst [(dTup [(dC (.int 3)), (dTup [(dTup [(dC (.int 0)), (dC (.int 1)), (dC (.int 2)), (dC (.int 3))]), (dTup [(dC (.int 0)), (dC (.int 1)), (dC (.int 5)), (dC (.int 1))])])]), (dTup [(dC (.int 3)), (dTup [(dTup [(dC (.int 0)), (dC (.int 1)), (dC (.int 2)), (dC (.int 3))]), (dTup [(dC (.int 0)), (dC (.int 2)), (dC (.int 5)), (dC (.int 99))])])])])))
    (dSeq (dAppend 1 (dTup [(dC (.int 3)), (dTup [(dTup [(dC (.int 0)), (dC (.int 2)), (dC (.int 2)), (dC (.int 3))]), (dTup [(dC (.int 0)), (dC (.int 1)), (dC (.int 5)), (dC (.int 1))])])]))
    (dSeq (dFor (dItems (dTup [(dC (.int 0)), (dC (.int 4))])) (bName 2) (dSeq (dSet 3 (dCall f_l_net [(dVar 0), (dVar 2), (dC (.int 7))]))
    (dSeq (dAppend 1 (dVar 3))
    (dSeq (dSet 4 (dCall f_l_draws [(dVar 0), (d2 aAdd (dVarB 2) (dC (.int 2))), (dC (.int 60)), (dC (.int 27720))]))
    (dFor (dRg (dC (.int 0)) (dC (.int 12))) (bName 5) (dSeq (dSet 6 (dCall f_l_bent [(dVar 3), (dCut (dVarB 4) (some (d2 aMul (dC (.int 5)) (dVarB 5))) (some (d2 aAdd (d2 aMul (dC (.int 5)) (dVarB 5)) (dC (.int 5)))))]))
    (dOwn 1 (d2 aAdd (dVarB 1) (dLst [(dVar 6), (dCall f_l_bent [(dVar 6), (d1 aRev (dCut (dVarB 4) (some (d2 aMul (dC (.int 5)) (dVarB 5))) (some (d2 aAdd (d2 aMul (dC (.int 5)) (dVarB 5)) (dC (.int 5))))))]), (dCall f_l_thing [(d2 aAdd (dCut (dVarB 4) (some (dVarB 5)) none) (dCut (dVarB 4) none (some (dVarB 5)))), (dC (.int 0))])])))))))))
    (dRet (dCall bAll [(dComp (dItems (dVarB 1)) [7] (bName 7) (fun _ => some true) (dCall f_l_truly [(dCall f_is_net [(dVar 7)]), (dCall f_l_is_net [(dVar 7)])]))]))))))
def f_law : List D → Option D := runF 8 den_law
def ctx_law : PF.Ctx := { N := N_law, sc := defScope (topS 22), blk := none, fns := [("_law_net", 3, f_l_net), ("_law_draws", 4, f_l_draws), ("_law_bent", 2, f_l_bent), ("_law_thing", 2, f_l_thing), ("_law_truly", 2, f_l_truly), ("is_net", 1, f_is_net), ("_law_is_net", 1, f_l_is_net)], gls := [], own := [1], wf := wFuel, fks := [], ro := false }
theorem chk_law : cBody ctx_law (defBody (topS 22)) = some den_law := by kernel_rfl
theorem sc_law : FnScope N_law ["script"] (defScope (topS 22)) := ⟨rfl, rfl, rfl, by decide +kernel, rfl, by decide +kernel, by decide +kernel⟩
end K35
namespace K35
open PySem PySem.Spec PyProof.Rows L2 PF LW
def dd_is_number : He.DefD := ⟨("is_number", none), "is_number", "is_number", defArgs (topS 2), defBody (topS 2), defScope (topS 2), [], []⟩
def dd_is_pair : He.DefD := ⟨("is_pair", none), "is_pair", "is_pair", defArgs (topS 3), defBody (topS 3), defScope (topS 3), [], []⟩
def dd_is_rising : He.DefD := ⟨("is_rising", none), "is_rising", "is_rising", defArgs (topS 4), defBody (topS 4), defScope (topS 4), [], []⟩
def dd_is_net_row : He.DefD := ⟨("is_net_row", none), "is_net_row", "is_net_row", defArgs (topS 6), defBody (topS 6), defScope (topS 6), [], []⟩
def dd_is_net : He.DefD := ⟨("is_net", none), "is_net", "is_net", defArgs (topS 7), defBody (topS 7), defScope (topS 7), [], []⟩
def dd_l_cell : He.DefD := ⟨("_law_cell", none), "_law_cell", "_law_cell", defArgs (topS 9), defBody (topS 9), defScope (topS 9), [], []⟩
def dd_l_draws : He.DefD := ⟨("_law_draws", none), "_law_draws", "_law_draws", defArgs (topS 10), defBody (topS 10), defScope (topS 10), [], []⟩
def dd_l_number : He.DefD := ⟨("_law_number", none), "_law_number", "_law_number", defArgs (topS 11), defBody (topS 11), defScope (topS 11), [], []⟩
def dd_l_net : He.DefD := ⟨("_law_net", none), "_law_net", "_law_net", defArgs (topS 12), defBody (topS 12), defScope (topS 12), [], []⟩
def dd_l_places : He.DefD := ⟨("_law_places", none), "_law_places", "_law_places", defArgs (topS 13), defBody (topS 13), defScope (topS 13), [], []⟩
def dd_l_other : He.DefD := ⟨("_law_other", none), "_law_other", "_law_other", defArgs (topS 14), defBody (topS 14), defScope (topS 14), [], []⟩
def dd_l_shifted : He.DefD := ⟨("_law_shifted", none), "_law_shifted", "_law_shifted", defArgs (topS 15), defBody (topS 15), defScope (topS 15), [], []⟩
def dd_l_put : He.DefD := ⟨("_law_put", none), "_law_put", "_law_put", defArgs (topS 16), defBody (topS 16), defScope (topS 16), [], []⟩
def dd_l_bent : He.DefD := ⟨("_law_bent", none), "_law_bent", "_law_bent", defArgs (topS 17), defBody (topS 17), defScope (topS 17), [], []⟩
def dd_l_thing : He.DefD := ⟨("_law_thing", none), "_law_thing", "_law_thing", defArgs (topS 18), defBody (topS 18), defScope (topS 18), [], []⟩
def dd_l_is_row : He.DefD := ⟨("_law_is_row", none), "_law_is_row", "_law_is_row", defArgs (topS 19), defBody (topS 19), defScope (topS 19), [], []⟩
def dd_l_is_net : He.DefD := ⟨("_law_is_net", none), "_law_is_net", "_law_is_net", defArgs (topS 20), defBody (topS 20), defScope (topS 20), [], []⟩
def dd_l_truly : He.DefD := ⟨("_law_truly", none), "_law_truly", "_law_truly", defArgs (topS 21), defBody (topS 21), defScope (topS 21), [], []⟩
def dd_law : He.DefD := ⟨("law", none), "law", "law", defArgs (topS 22), defBody (topS 22), defScope (topS 22), [], []⟩
def hFn : List He.DefD := [dd_is_number, dd_is_pair, dd_is_rising, dd_is_net_row, dd_is_net, dd_l_cell, dd_l_draws, dd_l_number, dd_l_net, dd_l_places, dd_l_other, dd_l_shifted, dd_l_put, dd_l_bent, dd_l_thing, dd_l_is_row, dd_l_is_net, dd_l_truly, dd_law]
def hFa : List He.Fa := [He.Fa.glo "is_number", He.Fa.glo "is_pair", He.Fa.glo "is_rising", He.Fa.glo "is_net_row", He.Fa.glo "is_net", He.Fa.glo "_law_cell", He.Fa.glo "_law_draws", He.Fa.glo "_law_number", He.Fa.glo "_law_net", He.Fa.glo "_law_places", He.Fa.glo "_law_other", He.Fa.glo "_law_shifted", He.Fa.glo "_law_put", He.Fa.glo "_law_bent", He.Fa.glo "_law_thing", He.Fa.glo "_law_is_row", He.Fa.glo "_law_is_net", He.Fa.glo "_law_truly", He.Fa.glo "law"] ++ ([He.Fa.int "HOUSES" (7)] : List He.Fa) ++ bltNames.map He.Fa.free
abbrev R : PySem.W.OpenRow := PySem.W.OpenLaw.row PySem.Challenge.rw_likedways_k35_what_is_a_net
abbrev hk : PySem.W.Hook := He.hookD 4 hFa hFn
def ob (s : PySem.W.SharedT) : He.AlD := He.obsDG 4 hFa hFn (HandSHeadRun.getT s)
theorem ob_eq (s : PySem.W.SharedT) : ob s = hk.obs s.abs := He.obsDG_eq (HandSHeadRun.getT_eq s)
def others : List Str := (["is_number", "is_pair", "is_rising", "is_net_row", "is_net", "_law_cell", "_law_draws", "_law_number", "_law_net", "_law_places", "_law_other", "_law_shifted", "_law_put", "_law_bent", "_law_thing", "_law_is_row", "_law_is_net", "_law_truly", "HOUSES"] : List Str)
set_option maxHeartbeats 0 in
theorem run (w : World) : HandSHeadRun.RunEq R (PySem.W.view R.prog [22]) hk ob 20000 others w := by
  intro os
  kernel_rfl
theorem facts {P : Program} {w : World} {K : PySem.W.Frag} {h : Heap} {mg : Str → Option Value} {f : Addr} (X : K.In h) (G : h.Ns mainGlobals mg) (hfa : mg ("law" : Str) = some (.ref f)) (c : He.SaysD hFa hFn K) :
    ∃ fd : FuncData, (∀ (s : Shared) (v : Value), BindsTo s fd ⟨[v], []⟩ [("script", v)]) ∧ ∀ base : Heap, K.In base → base.Ns mainGlobals mg → FnOk P w K mg base CX0 16 f fd ["script"] (spF K 1 f_law) := by
  obtain ⟨fd_is_number, F_is_number⟩ := c.def_ 0 (d := dd_is_number) rfl
  have g_is_number := He.glo_ok X G (c.fact 0 (f := .glo "is_number") rfl)
  have b_is_number : Binds K fd_is_number ["thing", "least", "most"] [] := F_is_number.bindsN fun _ _ _ _ _ _ us hl => match us, hl with | [_, _, _], _ => rfl
  obtain ⟨fd_is_pair, F_is_pair⟩ := c.def_ 1 (d := dd_is_pair) rfl
  have g_is_pair := He.glo_ok X G (c.fact 1 (f := .glo "is_pair") rfl)
  have b_is_pair : Binds K fd_is_pair ["thing", "many"] [] := F_is_pair.bindsN fun _ _ _ _ _ _ us hl => match us, hl with | [_, _], _ => rfl
  obtain ⟨fd_is_rising, F_is_rising⟩ := c.def_ 2 (d := dd_is_rising) rfl
  have g_is_rising := He.glo_ok X G (c.fact 2 (f := .glo "is_rising") rfl)
  have b_is_rising : Binds K fd_is_rising ["row"] [] := F_is_rising.bindsN fun _ _ _ _ _ _ us hl => match us, hl with | [_], _ => rfl
  obtain ⟨fd_is_net_row, F_is_net_row⟩ := c.def_ 3 (d := dd_is_net_row) rfl
  have g_is_net_row := He.glo_ok X G (c.fact 3 (f := .glo "is_net_row") rfl)
  have b_is_net_row : Binds K fd_is_net_row ["thing", "many"] [] := F_is_net_row.bindsN fun _ _ _ _ _ _ us hl => match us, hl with | [_, _], _ => rfl
  obtain ⟨fd_is_net, F_is_net⟩ := c.def_ 4 (d := dd_is_net) rfl
  have g_is_net := He.glo_ok X G (c.fact 4 (f := .glo "is_net") rfl)
  have b_is_net : Binds K fd_is_net ["thing"] [] := F_is_net.bindsN fun _ _ _ _ _ _ us hl => match us, hl with | [_], _ => rfl
  obtain ⟨fd_l_cell, F_l_cell⟩ := c.def_ 5 (d := dd_l_cell) rfl
  have g_l_cell := He.glo_ok X G (c.fact 5 (f := .glo "_law_cell") rfl)
  have b_l_cell : Binds K fd_l_cell ["script", "k"] [] := F_l_cell.bindsN fun _ _ _ _ _ _ us hl => match us, hl with | [_, _], _ => rfl
  obtain ⟨fd_l_draws, F_l_draws⟩ := c.def_ 6 (d := dd_l_draws) rfl
  have g_l_draws := He.glo_ok X G (c.fact 6 (f := .glo "_law_draws") rfl)
  have b_l_draws : Binds K fd_l_draws ["script", "k", "many", "base"] [] := F_l_draws.bindsN fun _ _ _ _ _ _ us hl => match us, hl with | [_, _, _, _], _ => rfl
  obtain ⟨fd_l_number, F_l_number⟩ := c.def_ 7 (d := dd_l_number) rfl
  have g_l_number := He.glo_ok X G (c.fact 7 (f := .glo "_law_number") rfl)
  have b_l_number : Binds K fd_l_number ["thing", "least", "most"] [] := F_l_number.bindsN fun _ _ _ _ _ _ us hl => match us, hl with | [_, _, _], _ => rfl
  obtain ⟨fd_l_net, F_l_net⟩ := c.def_ 8 (d := dd_l_net) rfl
  have g_l_net := He.glo_ok X G (c.fact 8 (f := .glo "_law_net") rfl)
  have b_l_net : Binds K fd_l_net ["script", "at", "most"] [] := F_l_net.bindsN fun _ _ _ _ _ _ us hl => match us, hl with | [_, _, _], _ => rfl
  obtain ⟨fd_l_places, F_l_places⟩ := c.def_ 9 (d := dd_l_places) rfl
  have g_l_places := He.glo_ok X G (c.fact 9 (f := .glo "_law_places") rfl)
  have b_l_places : Binds K fd_l_places ["thing"] [] := F_l_places.bindsN fun _ _ _ _ _ _ us hl => match us, hl with | [_], _ => rfl
  obtain ⟨fd_l_other, F_l_other⟩ := c.def_ 10 (d := dd_l_other) rfl
  have g_l_other := He.glo_ok X G (c.fact 10 (f := .glo "_law_other") rfl)
  have b_l_other : Binds K fd_l_other ["thing", "draws"] [] := F_l_other.bindsN fun _ _ _ _ _ _ us hl => match us, hl with | [_, _], _ => rfl
  obtain ⟨fd_l_shifted, F_l_shifted⟩ := c.def_ 11 (d := dd_l_shifted) rfl
  have g_l_shifted := He.glo_ok X G (c.fact 11 (f := .glo "_law_shifted") rfl)
  have b_l_shifted : Binds K fd_l_shifted ["rows", "at", "draws"] [] := F_l_shifted.bindsN fun _ _ _ _ _ _ us hl => match us, hl with | [_, _, _], _ => rfl
  obtain ⟨fd_l_put, F_l_put⟩ := c.def_ 12 (d := dd_l_put) rfl
  have g_l_put := He.glo_ok X G (c.fact 12 (f := .glo "_law_put") rfl)
  have b_l_put : Binds K fd_l_put ["thing", "path", "draws"] [] := F_l_put.bindsN fun _ _ _ _ _ _ us hl => match us, hl with | [_, _, _], _ => rfl
  obtain ⟨fd_l_bent, F_l_bent⟩ := c.def_ 13 (d := dd_l_bent) rfl
  have g_l_bent := He.glo_ok X G (c.fact 13 (f := .glo "_law_bent") rfl)
  have b_l_bent : Binds K fd_l_bent ["thing", "draws"] [] := F_l_bent.bindsN fun _ _ _ _ _ _ us hl => match us, hl with | [_, _], _ => rfl
  obtain ⟨fd_l_thing, F_l_thing⟩ := c.def_ 14 (d := dd_l_thing) rfl
  have g_l_thing := He.glo_ok X G (c.fact 14 (f := .glo "_law_thing") rfl)
  have b_l_thing : Binds K fd_l_thing ["draws", "deep"] [] := F_l_thing.bindsN fun _ _ _ _ _ _ us hl => match us, hl with | [_, _], _ => rfl
  obtain ⟨fd_l_is_row, F_l_is_row⟩ := c.def_ 15 (d := dd_l_is_row) rfl
  have g_l_is_row := He.glo_ok X G (c.fact 15 (f := .glo "_law_is_row") rfl)
  have b_l_is_row : Binds K fd_l_is_row ["thing", "many"] [] := F_l_is_row.bindsN fun _ _ _ _ _ _ us hl => match us, hl with | [_, _], _ => rfl
  obtain ⟨fd_l_is_net, F_l_is_net⟩ := c.def_ 16 (d := dd_l_is_net) rfl
  have g_l_is_net := He.glo_ok X G (c.fact 16 (f := .glo "_law_is_net") rfl)
  have b_l_is_net : Binds K fd_l_is_net ["thing"] [] := F_l_is_net.bindsN fun _ _ _ _ _ _ us hl => match us, hl with | [_], _ => rfl
  obtain ⟨fd_l_truly, F_l_truly⟩ := c.def_ 17 (d := dd_l_truly) rfl
  have g_l_truly := He.glo_ok X G (c.fact 17 (f := .glo "_law_truly") rfl)
  have b_l_truly : Binds K fd_l_truly ["found", "due"] [] := F_l_truly.bindsN fun _ _ _ _ _ _ us hl => match us, hl with | [_, _], _ => rfl
  obtain ⟨fd_law, F_law⟩ := c.def_ 18 (d := dd_law) rfl
  have g_law := He.glo_ok X G (c.fact 18 (f := .glo "law") rfl)
  have b_law : Binds K fd_law ["script"] [] := F_law.bindsN fun _ _ _ _ _ _ us hl => match us, hl with | [_], _ => rfl
  have hbl : ∀ x ∈ bltNames, mg x = none := fun x hx => He.free_ok X G (c.facts (List.mem_append_right _ (List.mem_map_of_mem hx)))
  obtain ⟨t_HOUSES, m_HOUSES⟩ := He.int_ok X G (c.fact 19 (f := He.Fa.int "HOUSES" (7)) rfl)
  have e := hfa.symm.trans g_law
  cases e
  have bA := FunD.bindsA (ps := ["script"]) F_law fun _ _ _ _ _ _ us hl => match us, hl with | [_], _ => rfl
  refine ⟨fd_law, fun s v => bA s [v] rfl, fun base _ _ => ?_⟩
  have gl_is_number : Glob mg ctx_is_number.gls K := ⟨hbl, fun x d h => by
    cases h⟩
  have hf_is_number : ∀ y n g, ctx_is_number.fns.lookup y = some (n, g) → Av P w K mg base 0 y n g := fun y n g h => by
    cases h
  have hk_is_number : ∀ y ks n o g, (y, ks, n, o, g) ∈ ctx_is_number.fks → AvK P w K mg base 0 y ks n o g := fun y ks n o g h => by
    cases h
  have av_is_number : Av P w K mg base 1 "is_number" 3 f_is_number := av_def F_is_number sc_is_number rfl rfl rfl chk_is_number hf_is_number hk_is_number gl_is_number g_is_number b_is_number
  have gl_is_pair : Glob mg ctx_is_pair.gls K := ⟨hbl, fun x d h => by
    cases h⟩
  have hf_is_pair : ∀ y n g, ctx_is_pair.fns.lookup y = some (n, g) → Av P w K mg base 1 y n g := fun y n g h => by
    refine lookup1 h (fun e1 e2 e3 => ?_) (fun h => ?_)
    · subst e1 e2 e3; exact av_is_number.mono (by decide)
    cases h
  have hk_is_pair : ∀ y ks n o g, (y, ks, n, o, g) ∈ ctx_is_pair.fks → AvK P w K mg base 1 y ks n o g := fun y ks n o g h => by
    cases h
  have av_is_pair : Av P w K mg base 2 "is_pair" 2 f_is_pair := av_def F_is_pair sc_is_pair rfl rfl rfl chk_is_pair hf_is_pair hk_is_pair gl_is_pair g_is_pair b_is_pair
  have gl_is_rising : Glob mg ctx_is_rising.gls K := ⟨hbl, fun x d h => by
    cases h⟩
  have hf_is_rising : ∀ y n g, ctx_is_rising.fns.lookup y = some (n, g) → Av P w K mg base 0 y n g := fun y n g h => by
    cases h
  have hk_is_rising : ∀ y ks n o g, (y, ks, n, o, g) ∈ ctx_is_rising.fks → AvK P w K mg base 0 y ks n o g := fun y ks n o g h => by
    cases h
  have av_is_rising : Av P w K mg base 1 "is_rising" 1 f_is_rising := av_def F_is_rising sc_is_rising rfl rfl rfl chk_is_rising hf_is_rising hk_is_rising gl_is_rising g_is_rising b_is_rising
  have gl_is_net_row : Glob mg ctx_is_net_row.gls K := ⟨hbl, fun x d h => by
    cases h⟩
  have hf_is_net_row : ∀ y n g, ctx_is_net_row.fns.lookup y = some (n, g) → Av P w K mg base 2 y n g := fun y n g h => by
    refine lookup1 h (fun e1 e2 e3 => ?_) (fun h => ?_)
    · subst e1 e2 e3; exact av_is_pair.mono (by decide)
    refine lookup1 h (fun e1 e2 e3 => ?_) (fun h => ?_)
    · subst e1 e2 e3; exact av_is_number.mono (by decide)
    cases h
  have hk_is_net_row : ∀ y ks n o g, (y, ks, n, o, g) ∈ ctx_is_net_row.fks → AvK P w K mg base 2 y ks n o g := fun y ks n o g h => by
    cases h
  have av_is_net_row : Av P w K mg base 3 "is_net_row" 2 f_is_net_row := av_def F_is_net_row sc_is_net_row rfl rfl rfl chk_is_net_row hf_is_net_row hk_is_net_row gl_is_net_row g_is_net_row b_is_net_row
  have gl_is_net : Glob mg ctx_is_net.gls K := ⟨hbl, fun x d h => by
    refine glook h (fun e1 e2 => ?_) (fun h => ?_)
    · subst e1 e2; exact ⟨(L2.V.int 7), _, m_HOUSES, ⟨_, rfl⟩, fun _ => .int _, fun _ z => nomatch z⟩
    cases h⟩
  have hf_is_net : ∀ y n g, ctx_is_net.fns.lookup y = some (n, g) → Av P w K mg base 3 y n g := fun y n g h => by
    refine lookup1 h (fun e1 e2 e3 => ?_) (fun h => ?_)
    · subst e1 e2 e3; exact av_is_number.mono (by decide)
    refine lookup1 h (fun e1 e2 e3 => ?_) (fun h => ?_)
    · subst e1 e2 e3; exact av_is_net_row.mono (by decide)
    refine lookup1 h (fun e1 e2 e3 => ?_) (fun h => ?_)
    · subst e1 e2 e3; exact av_is_rising.mono (by decide)
    cases h
  have hk_is_net : ∀ y ks n o g, (y, ks, n, o, g) ∈ ctx_is_net.fks → AvK P w K mg base 3 y ks n o g := fun y ks n o g h => by
    cases h
  have av_is_net : Av P w K mg base 4 "is_net" 1 f_is_net := av_def F_is_net sc_is_net rfl rfl rfl chk_is_net hf_is_net hk_is_net gl_is_net g_is_net b_is_net
  have gl_l_cell : Glob mg ctx_l_cell.gls K := ⟨hbl, fun x d h => by
    cases h⟩
  have hf_l_cell : ∀ y n g, ctx_l_cell.fns.lookup y = some (n, g) → Av P w K mg base 0 y n g := fun y n g h => by
    cases h
  have hk_l_cell : ∀ y ks n o g, (y, ks, n, o, g) ∈ ctx_l_cell.fks → AvK P w K mg base 0 y ks n o g := fun y ks n o g h => by
    cases h
  have av_l_cell : Av P w K mg base 1 "_law_cell" 2 f_l_cell := av_def F_l_cell sc_l_cell rfl rfl rfl chk_l_cell hf_l_cell hk_l_cell gl_l_cell g_l_cell b_l_cell
  have gl_l_draws : Glob mg ctx_l_draws.gls K := ⟨hbl, fun x d h => by
    cases h⟩
  have hf_l_draws : ∀ y n g, ctx_l_draws.fns.lookup y = some (n, g) → Av P w K mg base 1 y n g := fun y n g h => by
    refine lookup1 h (fun e1 e2 e3 => ?_) (fun h => ?_)
    · subst e1 e2 e3; exact av_l_cell.mono (by decide)
    cases h
  have hk_l_draws : ∀ y ks n o g, (y, ks, n, o, g) ∈ ctx_l_draws.fks → AvK P w K mg base 1 y ks n o g := fun y ks n o g h => by
    cases h
  have av_l_draws : Av P w K mg base 2 "_law_draws" 4 f_l_draws := av_def F_l_draws sc_l_draws rfl rfl rfl chk_l_draws hf_l_draws hk_l_draws gl_l_draws g_l_draws b_l_draws
  have gl_l_number : Glob mg ctx_l_number.gls K := ⟨hbl, fun x d h => by
    cases h⟩
  have hf_l_number : ∀ y n g, ctx_l_number.fns.lookup y = some (n, g) → Av P w K mg base 0 y n g := fun y n g h => by
    cases h
  have hk_l_number : ∀ y ks n o g, (y, ks, n, o, g) ∈ ctx_l_number.fks → AvK P w K mg base 0 y ks n o g := fun y ks n o g h => by
    cases h
  have av_l_number : Av P w K mg base 1 "_law_number" 3 f_l_number := av_def F_l_number sc_l_number rfl rfl rfl chk_l_number hf_l_number hk_l_number gl_l_number g_l_number b_l_number
  have gl_l_net : Glob mg ctx_l_net.gls K := ⟨hbl, fun x d h => by
    cases h⟩
  have hf_l_net : ∀ y n g, ctx_l_net.fns.lookup y = some (n, g) → Av P w K mg base 2 y n g := fun y n g h => by
    refine lookup1 h (fun e1 e2 e3 => ?_) (fun h => ?_)
    · subst e1 e2 e3; exact av_l_draws.mono (by decide)
    cases h
  have hk_l_net : ∀ y ks n o g, (y, ks, n, o, g) ∈ ctx_l_net.fks → AvK P w K mg base 2 y ks n o g := fun y ks n o g h => by
    cases h
  have av_l_net : Av P w K mg base 3 "_law_net" 3 f_l_net := av_def F_l_net sc_l_net rfl rfl rfl chk_l_net hf_l_net hk_l_net gl_l_net g_l_net b_l_net
  have gl_l_places : ∀ f_self, Glob mg (ctx_l_places f_self).gls K := fun _ => ⟨hbl, fun x d h => by
    cases h⟩
  have hf_l_places : ∀ m, Av P w K mg base (0 + 1 + m) "_law_places" 1 (recF 5 den_l_places m) → ∀ y n g, (ctx_l_places (recF 5 den_l_places m)).fns.lookup y = some (n, g) → Av P w K mg base (0 + 1 + m) y n g := fun m av_l_places y n g h => by
    refine lookup1 h (fun e1 e2 e3 => ?_) (fun h => ?_)
    · subst e1 e2 e3; exact av_l_places.mono (by omega)
    cases h
  have hk_l_places : ∀ f_self, ∀ y ks n o g, (y, ks, n, o, g) ∈ (ctx_l_places f_self).fks → AvK P w K mg base 0 y ks n o g := fun _ => fun y ks n o g h => by
    cases h
  have av_l_places : Av P w K mg base 13 "_law_places" 1 f_l_places := av_rec F_l_places sc_l_places (fun _ => rfl) (fun _ => rfl) (fun _ => rfl) chk_l_places hf_l_places hk_l_places gl_l_places g_l_places b_l_places 12
  have gl_l_other : Glob mg ctx_l_other.gls K := ⟨hbl, fun x d h => by
    cases h⟩
  have hf_l_other : ∀ y n g, ctx_l_other.fns.lookup y = some (n, g) → Av P w K mg base 0 y n g := fun y n g h => by
    cases h
  have hk_l_other : ∀ y ks n o g, (y, ks, n, o, g) ∈ ctx_l_other.fks → AvK P w K mg base 0 y ks n o g := fun y ks n o g h => by
    cases h
  have av_l_other : Av P w K mg base 1 "_law_other" 2 f_l_other := av_def F_l_other sc_l_other rfl rfl rfl chk_l_other hf_l_other hk_l_other gl_l_other g_l_other b_l_other
  have gl_l_shifted : Glob mg ctx_l_shifted.gls K := ⟨hbl, fun x d h => by
    cases h⟩
  have hf_l_shifted : ∀ y n g, ctx_l_shifted.fns.lookup y = some (n, g) → Av P w K mg base 0 y n g := fun y n g h => by
    cases h
  have hk_l_shifted : ∀ y ks n o g, (y, ks, n, o, g) ∈ ctx_l_shifted.fks → AvK P w K mg base 0 y ks n o g := fun y ks n o g h => by
    cases h
  have fo_l_shifted : FnOk P w K mg base CX0 1 _ fd_l_shifted _ (spG K 3 f_l_shifted true) := fn_defO F_l_shifted sc_l_shifted rfl rfl rfl chk_l_shifted hf_l_shifted hk_l_shifted gl_l_shifted
  have avl_l_shifted : AvK P w K mg base 1 "_law_shifted" [] 3 true (fun ds _ => f_l_shifted ds) := avK_all g_l_shifted F_l_shifted.kp b_l_shifted rfl fo_l_shifted
  have gl_l_put : ∀ f_self, Glob mg (ctx_l_put f_self).gls K := fun _ => ⟨hbl, fun x d h => by
    cases h⟩
  have hf_l_put : ∀ m, Av P w K mg base (1 + 1 + m) "_law_put" 3 (recF 4 den_l_put m) → ∀ y n g, (ctx_l_put (recF 4 den_l_put m)).fns.lookup y = some (n, g) → Av P w K mg base (1 + 1 + m) y n g := fun m av_l_put y n g h => by
    refine lookup1 h (fun e1 e2 e3 => ?_) (fun h => ?_)
    · subst e1 e2 e3; exact av_l_other.mono (by omega)
    refine lookup1 h (fun e1 e2 e3 => ?_) (fun h => ?_)
    · subst e1 e2 e3; exact av_l_put.mono (by omega)
    cases h
  have hk_l_put : ∀ f_self, ∀ y ks n o g, (y, ks, n, o, g) ∈ (ctx_l_put f_self).fks → AvK P w K mg base 1 y ks n o g := fun _ => fun y ks n o g h => by
    refine lookK h (fun e1 e2 e3 e4 e5 => ?_) (fun h => ?_)
    · subst e1 e2 e3 e4 e5; exact avl_l_shifted.mono (by decide)
    cases h
  have av_l_put : Av P w K mg base 14 "_law_put" 3 f_l_put := av_rec F_l_put sc_l_put (fun _ => rfl) (fun _ => rfl) (fun _ => rfl) chk_l_put hf_l_put hk_l_put gl_l_put g_l_put b_l_put 12
  have gl_l_bent : Glob mg ctx_l_bent.gls K := ⟨hbl, fun x d h => by
    cases h⟩
  have hf_l_bent : ∀ y n g, ctx_l_bent.fns.lookup y = some (n, g) → Av P w K mg base 14 y n g := fun y n g h => by
    refine lookup1 h (fun e1 e2 e3 => ?_) (fun h => ?_)
    · subst e1 e2 e3; exact av_l_places.mono (by decide)
    refine lookup1 h (fun e1 e2 e3 => ?_) (fun h => ?_)
    · subst e1 e2 e3; exact av_l_put.mono (by decide)
    cases h
  have hk_l_bent : ∀ y ks n o g, (y, ks, n, o, g) ∈ ctx_l_bent.fks → AvK P w K mg base 14 y ks n o g := fun y ks n o g h => by
    cases h
  have av_l_bent : Av P w K mg base 15 "_law_bent" 2 f_l_bent := av_def F_l_bent sc_l_bent rfl rfl rfl chk_l_bent hf_l_bent hk_l_bent gl_l_bent g_l_bent b_l_bent
  have gl_l_thing : ∀ f_self, Glob mg (ctx_l_thing f_self).gls K := fun _ => ⟨hbl, fun x d h => by
    cases h⟩
  have hf_l_thing : ∀ m, Av P w K mg base (0 + 1 + m) "_law_thing" 2 (recF 6 den_l_thing m) → ∀ y n g, (ctx_l_thing (recF 6 den_l_thing m)).fns.lookup y = some (n, g) → Av P w K mg base (0 + 1 + m) y n g := fun m av_l_thing y n g h => by
    refine lookup1 h (fun e1 e2 e3 => ?_) (fun h => ?_)
    · subst e1 e2 e3; exact av_l_thing.mono (by omega)
    cases h
  have hk_l_thing : ∀ f_self, ∀ y ks n o g, (y, ks, n, o, g) ∈ (ctx_l_thing f_self).fks → AvK P w K mg base 0 y ks n o g := fun _ => fun y ks n o g h => by
    cases h
  have av_l_thing : Av P w K mg base 13 "_law_thing" 2 f_l_thing := av_rec F_l_thing sc_l_thing (fun _ => rfl) (fun _ => rfl) (fun _ => rfl) chk_l_thing hf_l_thing hk_l_thing gl_l_thing g_l_thing b_l_thing 12
  have gl_l_is_row : Glob mg ctx_l_is_row.gls K := ⟨hbl, fun x d h => by
    cases h⟩
  have hf_l_is_row : ∀ y n g, ctx_l_is_row.fns.lookup y = some (n, g) → Av P w K mg base 1 y n g := fun y n g h => by
    refine lookup1 h (fun e1 e2 e3 => ?_) (fun h => ?_)
    · subst e1 e2 e3; exact av_l_number.mono (by decide)
    cases h
  have hk_l_is_row : ∀ y ks n o g, (y, ks, n, o, g) ∈ ctx_l_is_row.fks → AvK P w K mg base 1 y ks n o g := fun y ks n o g h => by
    cases h
  have av_l_is_row : Av P w K mg base 2 "_law_is_row" 2 f_l_is_row := av_def F_l_is_row sc_l_is_row rfl rfl rfl chk_l_is_row hf_l_is_row hk_l_is_row gl_l_is_row g_l_is_row b_l_is_row
  have gl_l_is_net : Glob mg ctx_l_is_net.gls K := ⟨hbl, fun x d h => by
    cases h⟩
  have hf_l_is_net : ∀ y n g, ctx_l_is_net.fns.lookup y = some (n, g) → Av P w K mg base 2 y n g := fun y n g h => by
    refine lookup1 h (fun e1 e2 e3 => ?_) (fun h => ?_)
    · subst e1 e2 e3; exact av_l_number.mono (by decide)
    refine lookup1 h (fun e1 e2 e3 => ?_) (fun h => ?_)
    · subst e1 e2 e3; exact av_l_is_row.mono (by decide)
    cases h
  have hk_l_is_net : ∀ y ks n o g, (y, ks, n, o, g) ∈ ctx_l_is_net.fks → AvK P w K mg base 2 y ks n o g := fun y ks n o g h => by
    cases h
  have av_l_is_net : Av P w K mg base 3 "_law_is_net" 1 f_l_is_net := av_def F_l_is_net sc_l_is_net rfl rfl rfl chk_l_is_net hf_l_is_net hk_l_is_net gl_l_is_net g_l_is_net b_l_is_net
  have gl_l_truly : Glob mg ctx_l_truly.gls K := ⟨hbl, fun x d h => by
    cases h⟩
  have hf_l_truly : ∀ y n g, ctx_l_truly.fns.lookup y = some (n, g) → Av P w K mg base 0 y n g := fun y n g h => by
    cases h
  have hk_l_truly : ∀ y ks n o g, (y, ks, n, o, g) ∈ ctx_l_truly.fks → AvK P w K mg base 0 y ks n o g := fun y ks n o g h => by
    cases h
  have av_l_truly : Av P w K mg base 1 "_law_truly" 2 f_l_truly := av_def F_l_truly sc_l_truly rfl rfl rfl chk_l_truly hf_l_truly hk_l_truly gl_l_truly g_l_truly b_l_truly
  have gl_law : Glob mg ctx_law.gls K := ⟨hbl, fun x d h => by
    cases h⟩
  have hf_law : ∀ y n g, ctx_law.fns.lookup y = some (n, g) → Av P w K mg base 15 y n g := fun y n g h => by
    refine lookup1 h (fun e1 e2 e3 => ?_) (fun h => ?_)
    · subst e1 e2 e3; exact av_l_net.mono (by decide)
    refine lookup1 h (fun e1 e2 e3 => ?_) (fun h => ?_)
    · subst e1 e2 e3; exact av_l_draws.mono (by decide)
    refine lookup1 h (fun e1 e2 e3 => ?_) (fun h => ?_)
    · subst e1 e2 e3; exact av_l_bent.mono (by decide)
    refine lookup1 h (fun e1 e2 e3 => ?_) (fun h => ?_)
    · subst e1 e2 e3; exact av_l_thing.mono (by decide)
    refine lookup1 h (fun e1 e2 e3 => ?_) (fun h => ?_)
    · subst e1 e2 e3; exact av_l_truly.mono (by decide)
    refine lookup1 h (fun e1 e2 e3 => ?_) (fun h => ?_)
    · subst e1 e2 e3; exact av_is_net.mono (by decide)
    refine lookup1 h (fun e1 e2 e3 => ?_) (fun h => ?_)
    · subst e1 e2 e3; exact av_l_is_net.mono (by decide)
    cases h
  have hk_law : ∀ y ks n o g, (y, ks, n, o, g) ∈ ctx_law.fks → AvK P w K mg base 15 y ks n o g := fun y ks n o g h => by
    cases h
  exact fn_def F_law sc_law rfl rfl rfl chk_law hf_law hk_law gl_law
end K35
namespace LW
open PySem PySem.Spec PyProof.Rows L2 PF
def El (x : D) : Prop := Kn x = true ∧ (wdB 63 x = true ∨ sz x ≤ 300)
theorem net_th {most many : Nat} {qs : List Rw} (g : NtOk most many qs) (h7 : most ≤ 7) : Th 200 3 (netD many qs) ∧ wdB 21 (netD many qs) = true := by
  have hl : qs.length ≤ 21 := by
    have h1 := g.rd.length_le
    rw [List.length_map] at h1
    have h2 : (prs many).length ≤ 21 := prs_len (many := many) (i := many) (by have := g.hi; omega) (Nat.le_refl _)
    omega
  have k1 : KnA (qs.map qD) = true := (KnA_iff _).mpr fun x hx => by obtain ⟨q, _, rfl⟩ := List.mem_map.mp hx; rfl
  have k2 : szA (qs.map qD) ≤ (qs.map qD).length * 5 := szA_le fun x hx => by obtain ⟨q, _, rfl⟩ := List.mem_map.mp hx; exact Nat.le_refl 5
  have k3 : dpA (qs.map qD) ≤ 1 := (dpA_le _).mpr fun x hx => by obtain ⟨q, _, rfl⟩ := List.mem_map.mp hx; exact Nat.le_refl 1
  rw [List.length_map] at k2
  refine ⟨th_tup ?_ ?_ ?_, ?_⟩
  · show (true && (Kn (.tuple (qs.map qD)) && true)) = true
    rw [Kn, k1]; rfl
  · show 1 + (sz (.tuple (qs.map qD)) + 0) + 1 ≤ 200
    rw [sz]; omega
  · show max 0 (max (dp (.tuple (qs.map qD))) 0) + 1 ≤ 3
    rw [dp]; omega
  · refine wd_tup.mpr ⟨by simp, fun x hx => ?_⟩
    simp only [List.mem_cons, List.not_mem_nil, or_false] at hx
    rcases hx with rfl | rfl
    · rw [wdB]
    · refine wd_tup.mpr ⟨by rw [List.length_map]; exact hl, fun x hx => ?_⟩
      obtain ⟨q, _, rfl⟩ := List.mem_map.mp hx
      refine wd_tup.mpr ⟨by simp, fun y hy => ?_⟩
      simp only [List.mem_cons, List.not_mem_nil, or_false] at hy
      rcases hy with rfl | rfl | rfl | rfl <;> rw [wdB]
end LW
namespace K35
open PySem PySem.Spec PyProof.Rows L2 PF LW
theorem main (ns : List Int) (_ : ns.length ≤ 63) : f_law [scrD ns] = some (.bool true) := by
  refine W_eq (W_run ?_)
  simp only [den_law, ex_all]
  simp only [↓ev_all, ↓eg]
  refine ⟨by decide, ?_⟩
  try simp only [↓ev_all, ↓eg]
  refine ⟨by decide, ?_⟩
  try simp only [↓ev_all, ↓eg]
  refine W_forL (fun r ρ => (∀ d ∈ r, ∃ n : Nat, d = .int n ∧ n ≤ 10) ∧ ∃ (L : List D) (x2 x3 x4 x5 x6 x7 : Option SV), L.length + 40 * r.length ≤ 100 ∧ (∀ x ∈ L, El x) ∧ ρ = [some (.val (scrD ns)), some (.own L), x2, x3, x4, x5, x6, x7]) ?zEnd ?zStep _ _ ⟨?zIn, _, _, _, _, _, _, _, ?zL, ?zE, rfl⟩
  case zL => decide
  case zE =>
    intro x hx
    have : ∀ x ∈ ([.tuple [.int 2, .tuple []], .tuple [.int 8, .tuple []], .tuple [.int 1, .tuple []], .tuple [.int 2, .tuple [.tuple [.int 0, .int 1, .int 99, .int 1]]], .tuple [.int 2, .tuple [.tuple [.int 0, .int 1, .int 100, .int 1]]], .tuple [.int 2, .tuple [.tuple [.int 0, .int 1, .int 1, .int 0]]], .tuple [.int 3, .tuple [.tuple [.int 0, .int 1, .int 2, .int 3], .tuple [.int 0, .int 1, .int 5, .int 1]]], .tuple [.int 3, .tuple [.tuple [.int 0, .int 1, .int 2, .int 3], .tuple [.int 0, .int 2, .int 5, .int 99]]], .tuple [.int 3, .tuple [.tuple [.int 0, .int 2, .int 2, .int 3], .tuple [.int 0, .int 1, .int 5, .int 1]]]] : List D), El x := by
      intro x hx
      simp only [List.mem_cons, List.not_mem_nil, or_false] at hx
      rcases hx with rfl | rfl | rfl | rfl | rfl | rfl | rfl | rfl | rfl <;> exact ⟨by decide +kernel, .inr (by decide +kernel)⟩
    exact this x hx
  case zIn =>
    intro d hd
    simp only [List.mem_cons, List.not_mem_nil, or_false] at hd
    rcases hd with rfl | rfl
    · exact ⟨0, rfl, by omega⟩
    · exact ⟨4, rfl, by omega⟩
  case zEnd =>
    rintro ρ ⟨-, L, x2, x3, x4, x5, x6, x7, hL, hT, rfl⟩
    simp only [↓ev_all, ↓eg]
    refine W.of (comp_data L (fun _ => .bool true) fun x hx => ?_) ?_
    · obtain ⟨k1, k2⟩ := hT x hx
      try simp only [wipeE, List.set_cons_succ, List.set_cons_zero]
      simp only [↓ev_all]
      refine (isnet_ok k1).mono fun d ⟨b1, hd, hb1⟩ => ?_
      subst hd
      refine (lisnet_ok k1 k2).mono fun d ⟨b2, hd, hb2⟩ => ?_
      subst hd
      refine W.of (truly_ok b1 b2) ?_
      rw [decide_eq_true (Bool.eq_iff_iff.mpr (hb1.trans hb2.symm))]
    · rw [W_allC L (fun _ => true), show (L.all fun _ => true) = true by simp]
      try rfl
  case zStep =>
    rintro x r ρ ⟨hr, L, x2, x3, x4, x5, x6, x7, hL, hT, rfl⟩
    obtain ⟨att, rfl, ha⟩ := hr x (List.mem_cons_self ..)
    have hr' : ∀ d ∈ r, ∃ n : Nat, d = .int n ∧ n ≤ 10 := fun d hd => hr d (List.mem_cons_of_mem _ hd)
    rw [List.length_cons] at hL
    try simp only [↓ev_all, ↓eg]
    refine (net_ok ns att 7 (by omega) (by omega) (by omega)).mono fun d ⟨many, qs, hd, g⟩ => ?_
    subst hd
    obtain ⟨tn, wn⟩ := net_th g (by omega)
    generalize netD many qs = net at tn wn ⊢
    try simp only [↓ev_all, ↓eg]
    refine ⟨by show _ < 16777216; omega, ?_⟩
    refine (draws_int ns (by omega) (by omega) (by omega) (by omega) (by omega) (by omega)).mono fun d ⟨ys, hd, hyl, hy⟩ => ?_
    subst hd
    try simp only [↓ev_all, ↓eg]
    refine ⟨by decide, ?_⟩
    refine W_forR (fun i ρ => ∃ (M : List D) (x5 x6 x7 : Option SV), M.length ≤ L.length + 1 + 3 * i ∧ (∀ x ∈ M, El x) ∧ ρ = [some (.val (scrD ns)), some (.own M), some (.val (.int att)), some (.val net), some (.val (.list (iD ys))), x5, x6, x7]) ⟨L ++ [net], _, _, _, by rw [List.length_append]; exact Nat.le_refl _, ?yT, rfl⟩ ?yEnd ?yStep
    case yT =>
      intro x hx
      rcases List.mem_append.mp hx with h | h
      · exact hT x h
      · rw [List.mem_singleton.mp h]
        exact ⟨tn.kn, .inl (wd_mono (by omega) _ wn)⟩
    case yEnd =>
      rintro ρ ⟨M, x5, x6, x7, hM, hMT, rfl⟩
      have hM' : M.length ≤ L.length + 1 + 3 * 12 := hM
      exact ⟨hr', M, _, _, _, _, _, _, by omega, hMT, rfl⟩
    case yStep =>
      rintro i ρ hi ⟨M, x5, x6, x7, hM, hMT, rfl⟩
      have e5 : (5 : Int) * (0 + (i : Int)) = ((5 * i : Nat) : Int) := by push_cast; omega
      have e6 : ((5 * i : Nat) : Int) + 5 = ((5 * i + 5 : Nat) : Int) := by push_cast; omega
      have e7 : (0 : Int) + (i : Int) = ((i : Nat) : Int) := by omega
      have hdl : ((ys.take (5 * i + 5)).drop (5 * i)).length = 5 := by rw [List.length_drop, List.length_take]; omega
      simp only [↓ev_all, ↓eg]
      refine ⟨.inl ⟨by decide, by decide⟩, .inl ⟨by decide, by decide⟩, ?_⟩
      rw [e5, e6, iD_mid]
      generalize (ys.take (5 * i + 5)).drop (5 * i) = dr at hdl ⊢
      refine (W_both (bent_ok (by omega) tn (by omega) (by omega)) (bent_wd (by omega) tn (by omega) (by omega) (by omega) (by omega) wn)).mono fun one ⟨hone, wone⟩ => ?_
      try simp only [↓ev_all, ↓eg, ↓W_revL]
      try (refine ⟨.inl ⟨by decide, by decide⟩, .inl ⟨by decide, by decide⟩, ?_⟩)
      rw [iD_rev]
      refine (W_both (bent_ok (by rw [List.length_reverse]; omega) hone (by omega) (by omega)) (bent_wd (by rw [List.length_reverse]; omega) hone (by omega) (by omega) (by omega) (by omega) wone)).mono fun two ⟨htwo, wtwo⟩ => ?_
      try simp only [↓ev_all, ↓eg]
      rw [e7, iD_drop, iD_to]
      refine ⟨by unfold iD; rw [List.length_map, List.length_map, List.length_drop, List.length_take]; show _ ≤ 16777216; omega, ?_⟩
      rw [iD_plus]
      refine (thing_ok 12 0 (by omega) (by omega) _ 0 rfl (by rw [List.length_append, List.length_drop, List.length_take]; omega) (by rw [List.length_append, List.length_drop, List.length_take]; omega)).mono fun th hth => ?_
      try simp only [↓ev_all, ↓eg]
      refine ⟨by show M.length + 3 ≤ 16777216; omega, M ++ [one, two, th], _, _, _, by rw [List.length_append]; show M.length + 3 ≤ _; omega, fun x hx => ?_, rfl⟩
      rcases List.mem_append.mp hx with h | h
      · exact hMT x h
      · simp only [List.mem_cons, List.not_mem_nil, or_false] at h
        rcases h with rfl | rfl | rfl
        · exact ⟨hone.kn, .inl (wd_mono (by omega) _ wone)⟩
        · exact ⟨htwo.kn, .inl (wd_mono (by omega) _ wtwo)⟩
        · exact ⟨hth.kn, .inr (Nat.le_trans hth.sz (by decide))⟩
end K35
open PySem PySem.W PySem.Calls PyProof.Rows
set_option maxRecDepth 100000 in
set_option maxHeartbeats 0 in
theorem PySem.Challenge.cw_likedways_k35_what_is_a_net_holds : PySem.Challenge.rw_likedways_k35_what_is_a_net.Holds := by
  w_on; o_law
  refine HandSHeadRun.head_any (r := OpenLaw.row PySem.Challenge.rw_likedways_k35_what_is_a_net) (q := view (OpenLaw.row PySem.Challenge.rw_likedways_k35_what_is_a_net).prog [22]) (H := K35.hk) (ob := K35.ob) (M := 20000) (loose := K35.others) (d := HandSHeadRun.topDef (OpenLaw.row PySem.Challenge.rw_likedways_k35_what_is_a_net).prog 22) (kwd := []) K35.ob_eq
    (by kernel_rfl) (fun s => by kernel_rfl) K35.run (by kernel_rfl) (by kernel_rfl) (by kernel_rfl) (by rfl) (by first | assumption | decide +kernel) (by decide +kernel) ⟨rfl, rfl, rfl, rfl, rfl, by decide +kernel⟩ ?hw ?hc
  case hw => w_witness2
  case hc =>
    refine L2.walk_ofE (l := PySem.Challenge.rw_likedways_k35_what_is_a_net) (n := 63) (k := 16) (x := "script") (CX := L2.CX0) rfl (by decide) (by kernel_rfl) ⟨rfl, by decide, by decide⟩ ?F (fun _ _ _ _ z => z)
    intro w mg fa h Y G hmg0
    obtain ⟨K, KX, c⟩ := Y
    have hmg : mg ("law" : PySem.Str) = some (.ref fa) := by
      have e : (HandSHeadRun.topDef (OpenLaw.row PySem.Challenge.rw_likedways_k35_what_is_a_net).prog 22).name = ("law" : PySem.Str) := by kernel_rfl
      rw [← e]
      exact hmg0
    obtain ⟨fd, hb, hF⟩ := K35.facts (P := (PySem.Challenge.rw_likedways_k35_what_is_a_net).prog) (w := w) KX G hmg c
    exact ⟨K, fd, PF.spF K 1 K35.f_law, KX, hb, fun H a ns hl _ hS => PF.law_sp hS (K35.main ns hl), hF⟩
